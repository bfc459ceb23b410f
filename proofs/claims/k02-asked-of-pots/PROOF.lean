import PyProof.Rows.All
import Wide.All
import OpenK.AllK
import Wide.FinOn
import HandS.ForMost
import HandS.Exc
import HandS.Wide
import HandS.Flow
import PyProof.ReprRoads
import KE.KTupSum
import HandS.TupAny
import HandS.IsInst
import HandS.Deep
import HandS.Comp
import KE.GoesComp
import KE.GoesRaise
import KE.KAsSuite
import HandS.Words
import HandS.WordsExc
import HandS.List
import HandS.Defaults
import KE.KStateDown
import HandS.Ends
import HandS.Head0
import HandS.Head1
import HandS.Head2
import HandS.HeadEnd
import HandS.HeadHook1
import HandS.HeadHook2
import KE.GoesZip
import KE.GoesEnum
import KE.GoesMore
import HandS.Iter
import HandS.Strs
import HandS.Conv
import HandS.Style
import PySem.Challenge.RW_dropsums_k02_asked_of_pots
set_option Elab.async false
set_option linter.all false
set_option maxRecDepth 100000
set_option maxHeartbeats 4000000
/-! Dv0: deep data over the hand layer: what a value stands for, the frozen part of the heap, the store of things that change. -/
namespace DV
open PySem PySem.Spec PyProof.Rows L2
abbrev D := PyData
/-- what a name holds: data, a thing of the store, a def -/
inductive SV where
  | d (x : D)
  | loc (k : Nat)
  | fn (n : Str)
/-- a thing that changes -/
inductive MO where
  | lst (xs : List D)
  | dic (kvs : List (D × D))
  | ins (C : Str) (fs : List (Str × SV))
  | frz (x : D)
abbrev Store := List MO
abbrev DEnv := List (Option SV)
/-- an exception: its class, its fields -/
structure Exn where
  cls : Str
  fs : List (Str × D)

/-! ### heaps -/
def Sub (I H : Hp) : Prop := ∀ a o, I a = some o → H a = some o
theorem Sub.refl {H : Hp} : Sub H H := fun _ _ h => h
theorem Sub.trans {A B C : Hp} (h : Sub A B) (k : Sub B C) : Sub A C := fun a o e => k a o (h a o e)
theorem Sub.no {A B : Hp} (h : Sub A B) {a : Addr} (e : B a = none) : A a = none := by
  cases q : A a with
  | none => rfl
  | some o => rw [h a o q] at e; cases e
theorem Sub.new {H : Hp} {p : Addr} {o : HO} (h : H p = none) : Sub H (upd H p o) := fun b x e => by
  rw [upd_ne (ne_of_none e h)]; exact e
theorem Sub.rd {I H : Hp} (h : Sub I H) {a : Addr} {u : HO} (r : Rd I a u) : Rd H a u := by
  rcases r with r | ⟨o, r⟩
  · exact .inl (h _ _ r)
  · exact .inr ⟨o, h _ _ r⟩
theorem Sub.sqL {I H : Hp} {K : PySem.W.Frag} (h : Sub I H) {a : Addr} {xs : List V} (r : SqL K I a xs) : SqL K H a xs := by
  rcases r with r | r
  · exact .inl (h.rd r)
  · exact .inr r
theorem Sub.sqT {I H : Hp} {K : PySem.W.Frag} (h : Sub I H) {a : Addr} {xs : List V} (r : SqT K I a xs) : SqT K H a xs := by
  rcases r with r | r
  · exact .inl (h.rd r)
  · exact .inr r
/-- the frozen part and the heap grow -/
structure Ex (I H I' H' : Hp) : Prop where
  hh : Sub H H'
  ii : Sub I I'
  ih : Sub I' H'
  fr : ∀ a o, I' a = some o → I a = some o ∨ H a = none
theorem Ex.refl {I H : Hp} (h : Sub I H) : Ex I H I H := ⟨.refl, .refl, h, fun _ _ e => .inl e⟩
theorem Ex.trans {I H I1 H1 I2 H2 : Hp} (a : Ex I H I1 H1) (b : Ex I1 H1 I2 H2) : Ex I H I2 H2 :=
  ⟨a.hh.trans b.hh, a.ii.trans b.ii, b.ih, fun x o e => by
    rcases b.fr x o e with h | h
    · exact a.fr x o h
    · exact .inr (a.hh.no h)⟩
theorem Ex.new {I H : Hp} (h : Sub I H) {p : Addr} {o : HO} (n : H p = none) : Ex I H (upd I p o) (upd H p o) :=
  ⟨.new n, .new (h.no n), fun a u e => by
    by_cases q : a = p
    · subst q; rw [upd_same] at e ⊢; exact e
    · rw [upd_ne q] at e ⊢; exact h a u e, fun a u e => by
    by_cases q : a = p
    · subst q; exact .inr n
    · rw [upd_ne q] at e; exact .inl e⟩

/-! ### data -/
def kD : Key → D
  | .inl i => .int i
  | .inr x => .str x
/-- the object at a has no dict of its own -/
def DN (K : PySem.W.Frag) (H : Hp) (a : Addr) : Prop := (∃ o u, H a = some (.frz o u) ∧ o.dict = none) ∨ ∃ o, K.lookup a = some o ∧ o.dict = none
theorem Sub.dn {I H : Hp} {K : PySem.W.Frag} (h : Sub I H) {a : Addr} (r : DN K I a) : DN K H a := by
  rcases r with ⟨o, u, e, d⟩ | r
  · exact .inl ⟨o, u, h _ _ e, d⟩
  · exact .inr r
/-- a tuple as it is laid -/
def tupO (its : List Value) : Obj := { cls := .type "tuple", data := .seq its.toArray }
mutual
/-- v stands for d in H -/
inductive Rp (K : PySem.W.Frag) (H : Hp) : V → D → Prop
  | non : Rp K H .non .none
  | bl (b : Bool) : Rp K H (.bl b) (.bool b)
  | int (i : Int) : Rp K H (.int i) (.int i)
  | str (x : Str) : Rp K H (.str x) (.str x)
  | lst {a : Addr} {xs : List V} {ds : List D} : SqL K H a xs → RpAll K H xs ds → Rp K H (.ref a) (.list ds)
  | tup {a : Addr} {xs : List V} {ds : List D} : SqT K H a xs → DN K H a → RpAll K H xs ds → Rp K H (.ref a) (.tuple ds)
  | dic {a : Addr} {kvs : List (Key × V)} {ds : List (D × D)} : Rd H a (.dK kvs) → ds.map (·.1) = kvs.map (fun p => kD p.1) → RpAll K H (kvs.map (·.2)) (ds.map (·.2)) → Rp K H (.ref a) (.dict ds)
inductive RpAll (K : PySem.W.Frag) (H : Hp) : List V → List D → Prop
  | nil : RpAll K H [] []
  | cons {v : V} {vs : List V} {d : D} {ds : List D} : Rp K H v d → RpAll K H vs ds → RpAll K H (v :: vs) (d :: ds)
end
section
variable {K : PySem.W.Frag} {I H : Hp}
mutual
theorem Rp.mono (s : Sub I H) : ∀ {v : V} {d : D}, Rp K I v d → Rp K H v d
  | _, _, .non => .non
  | _, _, .bl b => .bl b
  | _, _, .int i => .int i
  | _, _, .str x => .str x
  | _, _, .lst a b => .lst (s.sqL a) (RpAll.mono s b)
  | _, _, .tup a n b => .tup (s.sqT a) (s.dn n) (RpAll.mono s b)
  | _, _, .dic a b c => .dic (s.rd a) b (RpAll.mono s c)
theorem RpAll.mono (s : Sub I H) : ∀ {vs : List V} {ds : List D}, RpAll K I vs ds → RpAll K H vs ds
  | _, _, .nil => .nil
  | _, _, .cons a b => .cons (Rp.mono s a) (RpAll.mono s b)
end
theorem RpAll.length : ∀ {vs : List V} {ds : List D}, RpAll K H vs ds → vs.length = ds.length
  | _, _, .nil => rfl
  | _, _, .cons _ b => by rw [List.length_cons, List.length_cons, b.length]
theorem RpAll.get : ∀ {vs : List V} {ds : List D} {i : Nat} {d : D}, RpAll K H vs ds → ds[i]? = some d → ∃ v, vs[i]? = some v ∧ Rp K H v d
  | _, _, _, _, .nil, e => by simp at e
  | _, _, 0, _, .cons a b, e => by simp at e; subst e; exact ⟨_, rfl, a⟩
  | _, _, i + 1, _, .cons a b, e => by
    obtain ⟨v, h1, h2⟩ := b.get (i := i) (by simpa using e)
    exact ⟨v, by simpa using h1, h2⟩
theorem RpAll.getV : ∀ {vs : List V} {ds : List D} {i : Nat} {v : V}, RpAll K H vs ds → vs[i]? = some v → ∃ d, ds[i]? = some d ∧ Rp K H v d
  | _, _, _, _, .nil, e => by simp at e
  | _, _, 0, _, .cons a b, e => by simp at e; subst e; exact ⟨_, rfl, a⟩
  | _, _, i + 1, _, .cons a b, e => by
    obtain ⟨v, h1, h2⟩ := b.getV (i := i) (by simpa using e)
    exact ⟨v, by simpa using h1, h2⟩
theorem RpAll.append : ∀ {vs us : List V} {ds es : List D}, RpAll K H vs ds → RpAll K H us es → RpAll K H (vs ++ us) (ds ++ es)
  | _, _, _, _, .nil, b => b
  | _, _, _, _, .cons a r, b => .cons a (r.append b)
theorem RpAll.take : ∀ {vs : List V} {ds : List D} (n : Nat), RpAll K H vs ds → RpAll K H (vs.take n) (ds.take n)
  | _, _, 0, _ => .nil
  | _, _, _ + 1, .nil => .nil
  | _, _, n + 1, .cons a r => .cons a (r.take n)
theorem RpAll.drop : ∀ {vs : List V} {ds : List D} (n : Nat), RpAll K H vs ds → RpAll K H (vs.drop n) (ds.drop n)
  | _, _, 0, r => r
  | _, _, _ + 1, .nil => .nil
  | _, _, n + 1, .cons a r => r.drop n
theorem RpAll.reverse : ∀ {vs : List V} {ds : List D}, RpAll K H vs ds → RpAll K H vs.reverse ds.reverse
  | _, _, .nil => .nil
  | _, _, .cons a r => by
    rw [List.reverse_cons, List.reverse_cons]
    exact r.reverse.append (.cons a .nil)
theorem RpAll.set : ∀ {vs : List V} {ds : List D} {v : V} {d : D} (n : Nat), Rp K H v d → RpAll K H vs ds → RpAll K H (vs.set n v) (ds.set n d)
  | _, _, _, _, _, _, .nil => .nil
  | _, _, _, _, 0, q, .cons a r => .cons q r
  | _, _, _, _, n + 1, q, .cons a r => .cons a (r.set n q)
theorem RpAll.ints {ns : List Int} : RpAll K H (ns.map V.int) (ns.map PyData.int) := by
  induction ns with
  | nil => exact .nil
  | cons n r ih => exact .cons (.int n) ih
theorem RpAll.strs {ns : List Str} : RpAll K H (ns.map V.str) (ns.map PyData.str) := by
  induction ns with
  | nil => exact .nil
  | cons n r ih => exact .cons (.str n) ih
/-- a list of whole numbers is one -/
theorem RpAll.ints_of : ∀ {vs : List V} {ns : List Int}, RpAll K H vs (ns.map PyData.int) → vs = ns.map V.int
  | _, [], r => by cases r; rfl
  | _, n :: ns, r => by
    cases r with
    | cons a b =>
      cases a
      rw [List.map_cons, b.ints_of]
theorem RpAll.strs_of : ∀ {vs : List V} {ns : List Str}, RpAll K H vs (ns.map PyData.str) → vs = ns.map V.str
  | _, [], r => by cases r; rfl
  | _, n :: ns, r => by
    cases r with
    | cons a b =>
      cases a
      rw [List.map_cons, b.strs_of]
theorem RpAll.bools_of : ∀ {vs : List V} {ns : List Bool}, RpAll K H vs (ns.map PyData.bool) → vs = ns.map V.bl
  | _, [], r => by cases r; rfl
  | _, n :: ns, r => by
    cases r with
    | cons a b =>
      cases a
      rw [List.map_cons, b.bools_of]
end

/-! ### what is looked at: frozen data, or a thing of the store as it is now -/
inductive Vw (K : PySem.W.Frag) (I H : Hp) : V → D → Prop
  | im {v : V} {d : D} : Rp K I v d → Vw K I H v d
  | ml {a : Addr} {vs : List V} {ds : List D} : H a = some (.lst vs) → RpAll K I vs ds → Vw K I H (.ref a) (.list ds)
  | md {a : Addr} {kvs : List (Key × V)} {ds : List (D × D)} : H a = some (.dK kvs) → ds.map (·.1) = kvs.map (fun p => kD p.1) → RpAll K I (kvs.map (·.2)) (ds.map (·.2)) → Vw K I H (.ref a) (.dict ds)
inductive VwAll (K : PySem.W.Frag) (I H : Hp) : List V → List D → Prop
  | nil : VwAll K I H [] []
  | cons {v : V} {vs : List V} {d : D} {ds : List D} : Vw K I H v d → VwAll K I H vs ds → VwAll K I H (v :: vs) (d :: ds)
section
variable {K : PySem.W.Frag} {I H : Hp}
theorem Vw.rp (s : Sub I H) {v : V} {d : D} (h : Vw K I H v d) : Rp K H v d := by
  cases h with
  | im r => exact r.mono s
  | ml e r => exact .lst (SqL.of e) (r.mono s)
  | md e q r => exact .dic (.inl e) q (r.mono s)
theorem Vw.list {v : V} {ds : List D} (s : Sub I H) (h : Vw K I H v (.list ds)) : ∃ a vs, v = .ref a ∧ SqL K H a vs ∧ RpAll K I vs ds := by
  cases h with
  | im r => cases r with | lst a b => exact ⟨_, _, rfl, s.sqL a, b⟩
  | ml e r => exact ⟨_, _, rfl, SqL.of e, r⟩
theorem Vw.tuple {v : V} {ds : List D} (h : Vw K I H v (.tuple ds)) : ∃ a vs, v = .ref a ∧ SqT K I a vs ∧ RpAll K I vs ds := by
  cases h with
  | im r => cases r with | tup a n b => exact ⟨_, _, rfl, a, b⟩
theorem Vw.tupRp {v : V} {ds : List D} (h : Vw K I H v (.tuple ds)) : Rp K I v (.tuple ds) := by
  cases h with
  | im r => exact r
theorem Vw.int {v : V} {i : Int} (h : Vw K I H v (.int i)) : v = .int i := by
  cases h with
  | im r => cases r; rfl
theorem Vw.str {v : V} {i : Str} (h : Vw K I H v (.str i)) : v = .str i := by
  cases h with
  | im r => cases r; rfl
theorem Vw.bool {v : V} {i : Bool} (h : Vw K I H v (.bool i)) : v = .bl i := by
  cases h with
  | im r => cases r; rfl
theorem Vw.none {v : V} (h : Vw K I H v .none) : v = .non := by
  cases h with
  | im r => cases r; rfl
end

/-! ### reading it off the machine's heap -/
section
variable {X : Cx} {pins : List (Addr × Obj)} {σ : L2.St} {H : Hp} {s : Shared}
mutual
theorem Rp.reads (I : Inv X pins σ H s) : ∀ {d : D} {v : V} {u : Value}, Rp X.K H v d → d.hasDict = false → RelV v u → ∃ as, Reads s.heap u d as
  | _, _, _, .non, _, r => by cases r; exact ⟨_, .none⟩
  | _, _, _, .bl b, _, r => by cases r; exact ⟨_, .bool b⟩
  | _, _, _, .int i, _, r => by obtain ⟨t, rfl⟩ := r; exact ⟨_, .int i t⟩
  | _, _, _, .str x, _, r => by obtain ⟨t, rfl⟩ := r; exact ⟨_, .str x t⟩
  | .list ds, _, _, .lst hl ha, hd, r => by
    obtain rfl := r
    obtain ⟨its, rv, ⟨o, n, e, c, _, dt⟩, _⟩ := I.list hl
    obtain ⟨as, hr⟩ := RpAll.reads I ha (by simpa [PyData.hasDict] using hd) rv
    exact ⟨_, .list e c dt (by simpa using hr)⟩
  | .tuple ds, _, _, .tup hl _ ha, hd, r => by
    obtain rfl := r
    obtain ⟨its, rv, ⟨o, e, c, n, dt⟩, _⟩ := I.tuple hl
    obtain ⟨as, hr⟩ := RpAll.reads I ha (by simpa [PyData.hasDict] using hd) rv
    exact ⟨_, .tuple e c dt (by simpa using hr)⟩
  | .dict ds, _, _, .dic _ _ _, hd, _ => by simp [PyData.hasDict] at hd
theorem RpAll.reads (I : Inv X pins σ H s) : ∀ {ds : List D} {vs : List V} {us : List Value}, RpAll X.K H vs ds → PyData.hasDictAll ds = false → Vals vs us → ∃ as, ReadsAll s.heap us ds as
  | [], _, _, .nil, _, r => by cases r; exact ⟨_, .nil⟩
  | d :: ds, _, _, .cons a b, hd, r => by
    cases r with
    | cons r1 r2 =>
      have hd' : (d.hasDict || PyData.hasDictAll ds) = false := by simpa [PyData.hasDictAll] using hd
      rw [Bool.or_eq_false_iff] at hd'
      obtain ⟨as, q1⟩ := Rp.reads I a hd'.1 r1
      obtain ⟨bs, q2⟩ := RpAll.reads I b hd'.2 r2
      exact ⟨_, .cons q1 q2⟩
end
end
end DV
set_option Elab.async false
set_option linter.all false
set_option maxRecDepth 100000
set_option maxHeartbeats 4000000
/-! Dv1: the operations on data, and that the machine does them. -/
namespace DV
open PySem PySem.Spec PyProof.Rows L2

inductive Ty | int | str | bool | tup | lst | dic
def Ty.n : Ty → String
  | .int => "int" | .str => "str" | .bool => "bool" | .tup => "tuple" | .lst => "list" | .dic => "dict"
def tyD : D → String
  | .none => "NoneType" | .bool _ => "bool" | .int _ => "int" | .str _ => "str" | .list _ => "list" | .tuple _ => "tuple" | .dict _ => "dict"
def isTy : Ty → D → Bool
  | .int, .int _ => true
  | .int, .bool _ => true
  | .bool, .bool _ => true
  | .str, .str _ => true
  | .tup, .tuple _ => true
  | .lst, .list _ => true
  | .dic, .dict _ => true
  | _, _ => false
/-- the items of a list or tuple -/
def itemsOf : D → Option (List D)
  | .list xs => some xs
  | .tuple xs => some xs
  | _ => none
abbrev OS := (Bool → D → Prop) → Prop
def sAdd : D → D → OS
  | .int i, .int j, P => P false (.int (i + j))
  | .str x, .str y, P => x.length + y.length ≤ sizeLine ∧ P false (.str (x ++ y))
  | .tuple x, .tuple y, P => x.length + y.length ≤ sizeLine ∧ P false (.tuple (x ++ y))
  | .list x, .list y, P => x.length + y.length ≤ sizeLine ∧ P true (.list (x ++ y))
  | _, _, _ => False
def sSub : D → D → OS
  | .int i, .int j, P => P false (.int (i - j))
  | _, _, _ => False
def sMul : D → D → OS
  | .int i, .int j, P => IntMulOk i j ∧ P false (.int (i * j))
  | _, _, _ => False
def sFdiv : D → D → OS
  | .int i, .int j, P => (j ≠ 0 ∧ (j.natAbs < 1073741824 ∨ Builtin.divisionGoesByPylong i j = false)) ∧ P false (.int (i.fdiv j))
  | _, _, _ => False
def sMod : D → D → OS
  | .int i, .int j, P => j ≠ 0 ∧ P false (.int (i.fmod j))
  | _, _, _ => False
def sPow : D → D → OS
  | .int i, .int j, P => CPow i j ∧ P false (.int (i ^ j.toNat))
  | _, _, _ => False
def sNeg : D → OS
  | .int i, P => P false (.int (-i))
  | _, _ => False
def twoStr : D → D → Bool
  | .str _, .str _ => true
  | _, _ => false
def sEq (neg : Bool) (x y : D) : OS := fun P => (twoStr x y = true ∨ SeqAt.shaped x = true ∧ SeqAt.shaped y = true) ∧ P false (.bool (neg ^^ PyData.eqv x y))
def sLt : D → D → OS
  | .int i, .int j, P => P false (.bool (decide (i < j)))
  | .tuple x, .tuple y, P => ∃ ns ms : List Int, x = ns.map PyData.int ∧ y = ms.map PyData.int ∧ P false (.bool (HT.lexLt ns ms))
  | _, _, _ => False
def sLe : D → D → OS
  | .int i, .int j, P => P false (.bool (decide (i ≤ j)))
  | _, _, _ => False
def sGt : D → D → OS
  | .int i, .int j, P => P false (.bool (decide (j < i)))
  | _, _, _ => False
def sGe : D → D → OS
  | .int i, .int j, P => P false (.bool (decide (j ≤ i)))
  | _, _, _ => False
def isNone : D → Bool
  | .none => true
  | _ => false
def sIsN (neg : Bool) : D → D → OS
  | x, .none, P => P false (.bool (neg ^^ isNone x))
  | _, _, _ => False
def strIn (x y : Str) : Bool := !(Builtin.Str.occurrences y x 0 y.length 1).isEmpty
def sIn (neg : Bool) : D → D → OS
  | .str x, .str y, P => P false (.bool (neg ^^ strIn x y))
  | x, .list ys, P => SeqAt.shaped x = true ∧ SeqAt.shaped (.list ys) = true ∧ P false (.bool (neg ^^ ys.any fun y => PyData.eqv y x))
  | x, .tuple ys, P => SeqAt.shaped x = true ∧ SeqAt.shaped (.tuple ys) = true ∧ P false (.bool (neg ^^ ys.any fun y => PyData.eqv y x))
  | _, _, _ => False
def sLen : D → OS
  | .list xs, P => P false (.int xs.length)
  | .tuple xs, P => P false (.int xs.length)
  | .str x, P => x.length ≤ sizeLine ∧ P false (.int x.length)
  | _, _ => False
def sSum (x : D) : OS := fun P => ∃ ns : List Int, itemsOf x = some (ns.map PyData.int) ∧ P false (.int ns.sum)
def sMax1 (x : D) : OS := fun P => ∃ ns : List Int, itemsOf x = some (ns.map PyData.int) ∧ 0 < ns.length ∧ ∀ m, m ∈ ns → (∀ y, y ∈ ns → y ≤ m) → P false (.int m)
def sMin1 (x : D) : OS := fun P => ∃ ns : List Int, itemsOf x = some (ns.map PyData.int) ∧ 0 < ns.length ∧ ∀ m, m ∈ ns → (∀ y, y ∈ ns → m ≤ y) → P false (.int m)
def sMax2 : D → D → OS
  | .int i, .int j, P => P false (.int (if j > i then j else i))
  | _, _, _ => False
def sMin2 : D → D → OS
  | .int i, .int j, P => P false (.int (if j < i then j else i))
  | _, _, _ => False
def sAbs : D → OS
  | .int i, P => P false (.int (if i < 0 then -i else i))
  | _, _ => False
def sAll (x : D) : OS := fun P => ∃ bs : List Bool, x = .list (bs.map PyData.bool) ∧ P false (.bool (bs.all id))
def sAny (x : D) : OS := fun P => ∃ bs : List Bool, x = .list (bs.map PyData.bool) ∧ P false (.bool (bs.any id))
def sTup : D → OS
  | .list xs, P => P false (.tuple xs)
  | .tuple xs, P => P false (.tuple xs)
  | _, _ => False
def sLst : D → OS
  | .list xs, P => P true (.list xs)
  | .tuple xs, P => P true (.list xs)
  | _, _ => False
def sStr : D → OS
  | .int i, P => i.natAbs.log2 < 1920 ∧ P false (.str (toString i))
  | _, _ => False
def sRepr (x : D) : OS := fun P => x.showable = true ∧ x.hasDict = false ∧ x.depth ≤ 64 ∧ x.shown.length ≤ sizeLine ∧ P false (.str x.shown)
def sInt : D → OS
  | .int i, P => P false (.int i)
  | .bool k, P => P false (.int (if k then 1 else 0))
  | .str z, P => ∃ n, PySem.intText? z = some n ∧ z.length ≤ 640 ∧ P false (.int n)
  | _, _ => False
def sIx : D → D → OS
  | .list xs, .int i, P => ∃ x, atI xs i = some x ∧ P false x
  | .tuple xs, .int i, P => ∃ x, atI xs i = some x ∧ P false x
  | .str z, .int i, P => z.length ≤ sizeLine ∧ ∃ c, atI z.cps.toList i = some c ∧ P false (.str ⟨#[c]⟩)
  | _, _, _ => False
def cutD (xs : List D) (lo hi : Option Int) : List D := (xs.drop (HT.sIx xs.length 0 lo)).take (HT.sIx xs.length xs.length hi - HT.sIx xs.length 0 lo)
def sSl : D → Option Int → Option Int → OS
  | .list xs, lo, hi, P => P true (.list (cutD xs lo hi))
  | .tuple xs, lo, hi, P => P false (.tuple (cutD xs lo hi))
  | .str z, lo, hi, P => z.length ≤ sizeLine ∧ P false (.str (cutS z lo hi))
  | _, _, _, _ => False
def sJoin (x y : D) : OS := fun P => ∃ (a : Str) (ys : List Str), x = .str a ∧ itemsOf y = some (ys.map PyData.str) ∧ (ys.map (·.length)).sum + ys.length * a.length ≤ 16777216 ∧ P false (.str (Txt.join a ys))
def sSplit (x y : D) : OS := fun P => ∃ a b : Str, x = .str a ∧ y = .str b ∧ (b.length == 0) = false ∧ a.length + 2 ≤ sizeLine ∧ P true (.list ((Txt.split a b).map PyData.str))

/-! ### what a result is -/
def Res (K : PySem.W.Frag) (I' H H' : Hp) (fresh : Bool) (r : D) (v : V) : Prop :=
  if fresh = true then ∃ p vs ds, v = .ref p ∧ r = .list ds ∧ H p = none ∧ I' p = none ∧ H' p = some (.lst vs) ∧ RpAll K I' vs ds else Rp K I' v r
/-- what the machine is asked for: some data stand for the values, and whatever result is wanted -/
def rO (K : PySem.W.Frag) (f : List D → OS) : List V → Hp → VK → Prop := fun xs H Q => ∃ I ds P, Sub I H ∧ VwAll K I H xs ds ∧ f ds P ∧
  ∀ fresh r v I' H', Ex I H I' H' → Res K I' H H' fresh r v → P fresh r → Q v H'
def f1 (g : D → OS) : List D → OS
  | [x] => g x
  | _ => fun _ => False
def f2 (g : D → D → OS) : List D → OS
  | [x, y] => g x y
  | _ => fun _ => False
section
variable {X : Cx}
/-- a new tuple stands in the machine's heap -/
theorem inv_ltup {pins : List (Addr × Obj)} {σ : L2.St} {H : Hp} {s : Shared} {vs : List V} {its : List Value} {h' : Heap} {a : Addr} (I : Inv X pins σ H s) (k : ∀ b o, s.heap.get? b = some o → h'.get? b = some o) (hl : s.heap.objs.size ≤ a) (e : h'.get? a = some (tupO its)) (hz : vs.length ≤ sizeLine) (rv : Vals vs its) :
    Inv X pins σ (upd H a (.frz (tupO its) (.tup vs))) { s with heap := h' } :=
  I.laid (t' := s.toks) (o := .frz (tupO its) (.tup vs)) k hl (show h'.get? a = some (tupO its) ∧ _ from ⟨e, hz, its, rv, ⟨_, e, rfl, _, rfl⟩⟩)
theorem vw1 {K : PySem.W.Frag} {I H : Hp} {x : V} {ds : List D} (h : VwAll K I H [x] ds) : ∃ d, ds = [d] ∧ Vw K I H x d := by
  cases h with
  | cons a b => cases b; exact ⟨_, rfl, a⟩
theorem vw2 {K : PySem.W.Frag} {I H : Hp} {x y : V} {ds : List D} (h : VwAll K I H [x, y] ds) : ∃ d e, ds = [d, e] ∧ Vw K I H x d ∧ Vw K I H y e := by
  cases h with
  | cons a b =>
    obtain ⟨e, rfl, q⟩ := vw1 b
    exact ⟨_, _, rfl, a, q⟩
/-- a result that lays nothing -/
theorem keep {K : PySem.W.Frag} {I H : Hp} {P : Bool → D → Prop} {Q : VK} {r : D} {v : V} (s : Sub I H) (k : ∀ fresh r v I' H', Ex I H I' H' → Res K I' H H' fresh r v → P fresh r → Q v H') (a : Rp K I v r) (p : P false r) : Q v H :=
  k false r v I H (Ex.refl s) (by unfold Res; rw [if_neg Bool.false_ne_true]; exact a) p
/-- a new list -/
theorem newL {K : PySem.W.Frag} {I H : Hp} {P : Bool → D → Prop} {Q : VK} {ds : List D} {vs : List V} {p : Addr} (s : Sub I H) (k : ∀ fresh r v I' H', Ex I H I' H' → Res K I' H H' fresh r v → P fresh r → Q v H') (a : RpAll K I vs ds) (n : H p = none) (q : P true (.list ds)) : Q (.ref p) (upd H p (.lst vs)) :=
  k true (.list ds) (.ref p) I (upd H p (.lst vs)) ⟨.new n, .refl, s.trans (.new n), fun _ _ e => .inl e⟩ (by
    unfold Res; rw [if_pos rfl]
    exact ⟨p, vs, ds, rfl, rfl, n, s.no n, upd_same, a⟩) q
/-- a new tuple -/
theorem newT {K : PySem.W.Frag} {I H : Hp} {P : Bool → D → Prop} {Q : VK} {ds : List D} {vs : List V} {p : Addr} {its : List Value} (s : Sub I H) (k : ∀ fresh r v I' H', Ex I H I' H' → Res K I' H H' fresh r v → P fresh r → Q v H') (a : RpAll K I vs ds) (n : H p = none) (q : P false (.tuple ds)) : Q (.ref p) (upd H p (.frz (tupO its) (.tup vs))) :=
  k false (.tuple ds) (.ref p) (upd I p (.frz (tupO its) (.tup vs))) (upd H p (.frz (tupO its) (.tup vs))) (Ex.new s n) (by
    unfold Res; rw [if_neg Bool.false_ne_true]
    exact .tup (.inl (.inr ⟨_, upd_same⟩)) (.inl ⟨_, _, upd_same, rfl⟩) (a.mono (.new (s.no n)))) q
/-- two-place rules from rules on ints -/
theorem o2_of {f : Value → Value → Sem Value} {g : D → D → OS} {r : R2} (h : OpR X f r)
    (k : ∀ (I H : Hp) (x y : V) (d e : D) (P : Bool → D → Prop) (Q : VK), Sub I H → Vw X.K I H x d → Vw X.K I H y e → g d e P → (∀ fresh r v I' H', Ex I H I' H' → Res X.K I' H H' fresh r v → P fresh r → Q v H') → r x y H Q) :
    OpR X f (fun x y H Q => rO X.K (f2 g) [x, y] H Q) := by
  intro pins s σ H x y v u Q I rx ry hq
  obtain ⟨F, ds, P, sb, vw, sem, kk⟩ := hq
  obtain ⟨d, e, rfl, v1, v2⟩ := vw2 vw
  exact h pins s σ H x y v u Q I rx ry (k F H x y d e P Q sb v1 v2 sem kk)
theorem OpR.or' {f : Value → Value → Sem Value} {r r' : R2} (h : OpR X f r) (h' : OpR X f r') : OpR X f (fun x y H Q => r x y H Q ∨ r' x y H Q) := by
  intro pins s σ H x y v u Q I rx ry hq
  rcases hq with hq | hq
  · exact h pins s σ H x y v u Q I rx ry hq
  · exact h' pins s σ H x y v u Q I rx ry hq

theorem o_add_list : OpR X (binaryOp .Add) (fun x y H Q => ∃ l b xs zs, x = .ref l ∧ y = .ref b ∧ SqL X.K H l xs ∧ SqL X.K H b zs ∧ xs.length + zs.length ≤ sizeLine ∧ ∀ p, H p = none → Q (.ref p) (upd H p (.lst (xs ++ zs)))) := by
  intro pins s σ H x y v u Q I rx ry h
  obtain ⟨l, b, xs, zs, rfl, rfl, hH, hB, hz, q⟩ := h
  cases rx
  cases ry
  obtain ⟨its, r, ⟨⟨cls, dd, data, sl⟩, n, ho, hc, hdn, hd⟩, _⟩ := I.list hH
  obtain ⟨its2, r2, ⟨⟨cls2, dd2, data2, sl2⟩, n2, ho2, hc2, hdn2, hd2⟩, _⟩ := I.list hB
  simp only at hc hd hc2 hd2
  subst hc hd hc2 hd2
  have e1 := r.length
  have e2 := r2.length
  refine concat_meets ⟨_, ho, rfl⟩ ⟨_, ho2, rfl⟩ noFill_list_add seq_list_add PySem.F.slot_list_add PySem.F.entry_list_add (PySem.F.args_list_add_2 _ _) (list_addW l b its.toArray its2.toArray n n2 dd dd2 sl sl2 (by simp; omega)) ⟨ho, ho2, ?_⟩
  have e : its.toArray ++ its2.toArray = (its ++ its2).toArray := by simp
  rw [e]
  exact ⟨.ref _, _, I.lnew (t' := s.toks) (r.append r2) (by rw [List.length_append]; omega), rfl, q _ I.fresh⟩
def rCatD (K : PySem.W.Frag) : R2 := fun x y H Q => ∃ a b xs ys, x = .ref a ∧ y = .ref b ∧ SqT K H a xs ∧ SqT K H b ys ∧ xs.length + ys.length ≤ sizeLine ∧
  (xs = [] → Q (.ref b) H) ∧ (xs ≠ [] → ys = [] → Q (.ref a) H) ∧ (xs ≠ [] → ys ≠ [] → ∀ p its, H p = none → Q (.ref p) (upd H p (.frz (tupO its) (.tup (xs ++ ys)))))
theorem op_catD : OpR X (binaryOp .Add) (rCatD X.K) := by
  intro pins s σ H x y v u Q I rx ry h
  obtain ⟨a, b, xs, ys, rfl, rfl, ha, hb, hz, q0, q1, q2⟩ := h
  by_cases hx : xs = []
  · subst hx
    cases rx
    cases ry
    obtain ⟨its, r1, p1, _⟩ := I.tuple ha
    obtain ⟨its2, r2, p2, _⟩ := I.tuple hb
    cases r1
    exact cat_tup0 p1 p2 ⟨.ref b, H, I, rfl, q0 rfl⟩
  · cases rx
    cases ry
    obtain ⟨its, r1, p1, _⟩ := I.tuple ha
    obtain ⟨its2, r2, p2, _⟩ := I.tuple hb
    refine HT.cat_tup p1 p2 (fun z => hx (r1.nil_iff.mp z)) (fun z => ⟨.ref a, H, I, rfl, q1 hx (r2.nil_iff.mp z)⟩) (fun z => ?_) (by rw [← r1.length, ← r2.length]; exact hz)
    exact ⟨.ref s.heap.objs.size, _, inv_ltup I (its := its ++ its2) (fun b ob q => Heap.get?_push_of_some _ q) (Nat.le_refl _) (Heap.get?_push_size _ rfl) (by rw [List.length_append]; exact hz) (r1.append r2), rfl, q2 hx (fun w => z (r2.nil_iff.mpr w)) _ _ (I.hok.fresh (Nat.le_refl _))⟩
theorem o_add : OpR X (binaryOp .Add) (fun x y H Q => rO X.K (f2 sAdd) [x, y] H Q) := by
  refine o2_of ((OpR.or' op_add (OpR.or' op_add_str (OpR.or' op_catD o_add_list)))) fun I H x y d e P Q sb v1 v2 sem k => ?_
  cases d with
  | int i =>
    cases e with
    | int j =>
      obtain rfl := v1.int
      obtain rfl := v2.int
      exact .inl ⟨i, j, rfl, rfl, keep sb k (.int _) sem⟩
    | _ => exact sem.elim
  | str i =>
    cases e with
    | str j =>
      obtain rfl := v1.str
      obtain rfl := v2.str
      exact .inr (.inl ⟨i, j, rfl, rfl, sem.1, keep sb k (.str _) sem.2⟩)
    | _ => exact sem.elim
  | tuple xs =>
    cases e with
    | tuple ys =>
      obtain ⟨a, vs, rfl, t1, r1⟩ := v1.tuple
      obtain ⟨b, ws, rfl, t2, r2⟩ := v2.tuple
      have l1 := r1.length
      have l2 := r2.length
      refine .inr (.inr (.inl ⟨a, b, vs, ws, rfl, rfl, sb.sqT t1, sb.sqT t2, by rw [l1, l2]; exact sem.1, fun z => ?_, fun z1 z2 => ?_, fun z1 z2 p its n => newT sb k (r1.append r2) n sem.2⟩))
      · subst z
        cases r1
        exact keep sb k v2.tupRp (by simpa using sem.2)
      · subst z2
        cases r2
        exact keep sb k v1.tupRp (by simpa using sem.2)
    | _ => exact sem.elim
  | list xs =>
    cases e with
    | list ys =>
      obtain ⟨a, vs, rfl, t1, r1⟩ := v1.list sb
      obtain ⟨b, ws, rfl, t2, r2⟩ := v2.list sb
      have l1 := r1.length
      have l2 := r2.length
      exact .inr (.inr (.inr ⟨a, b, vs, ws, rfl, rfl, t1, t2, by rw [l1, l2]; exact sem.1, fun p n => newL sb k (r1.append r2) n sem.2⟩))
    | _ => exact sem.elim
  | _ => exact sem.elim
theorem o_int2 {f : Value → Value → Sem Value} {g : D → D → OS} {C : Int → Int → Prop} {w : Int → Int → D} {wv : Int → Int → V} (hw : ∀ K I i j, Rp K I (wv i j) (w i j)) (h : OpR X f (rI C wv))
    (k : ∀ d e P, g d e P → ∃ i j, d = .int i ∧ e = .int j ∧ C i j ∧ P false (w i j)) : OpR X f (fun x y H Q => rO X.K (f2 g) [x, y] H Q) := by
  refine o2_of h fun I H x y d e P Q sb v1 v2 sem kk => ?_
  obtain ⟨i, j, rfl, rfl, hc, p⟩ := k d e P sem
  obtain rfl := v1.int
  obtain rfl := v2.int
  exact ⟨i, j, rfl, rfl, hc, keep sb kk (hw _ _ _ _) p⟩
theorem opI0C {f : Value → Value → Sem Value} {w : Int → Int → V} (h : OpR X f (rI0 w)) : OpR X f (rI (fun _ _ => True) w) := by
  intro pins s σ H x y v u Q I rx ry ⟨i, j, a, b, _, q⟩
  exact h pins s σ H x y v u Q I rx ry ⟨i, j, a, b, q⟩
theorem int2_of {g : D → D → OS} {C : Int → Int → Prop} {w : Int → Int → D} (hi : ∀ i j P, g (.int i) (.int j) P → C i j ∧ P false (w i j)) (hn : ∀ d e P, g d e P → ∃ i j, d = .int i ∧ e = .int j) :
    ∀ d e P, g d e P → ∃ i j, d = .int i ∧ e = .int j ∧ C i j ∧ P false (w i j) := fun d e P h => by
  obtain ⟨i, j, rfl, rfl⟩ := hn d e P h
  exact ⟨i, j, rfl, rfl, hi i j P h⟩
theorem o_sub : OpR X (binaryOp .Sub) (fun x y H Q => rO X.K (f2 sSub) [x, y] H Q) :=
  o_int2 (fun _ _ _ _ => .int _) (opI0C op_sub) (int2_of (fun _ _ _ h => ⟨trivial, h⟩) fun d e P h => by cases d <;> cases e <;> first | exact ⟨_, _, rfl, rfl⟩ | exact h.elim)
theorem op_mulK : OpR X (binaryOp .Mult) (rI IntMulOk fun i j => .int (i * j)) := opI fun _ _ _ _ _ _ _ hc q => mul_int q hc
theorem o_mul : OpR X (binaryOp .Mult) (fun x y H Q => rO X.K (f2 sMul) [x, y] H Q) :=
  o_int2 (fun _ _ _ _ => .int _) op_mulK (int2_of (fun _ _ _ h => h) fun d e P h => by cases d <;> cases e <;> first | exact ⟨_, _, rfl, rfl⟩ | exact h.elim)
theorem op_fdivK : OpR X (binaryOp .FloorDiv) (rI (fun i j => j ≠ 0 ∧ (j.natAbs < 1073741824 ∨ Builtin.divisionGoesByPylong i j = false)) fun i j => .int (i.fdiv j)) := opI fun i j _ _ _ _ _ hc q =>
  floordiv_int hc.1 q (.inl (hc.2.elim (fun z => PyProof.noPylong_small z) id))
theorem o_fdiv : OpR X (binaryOp .FloorDiv) (fun x y H Q => rO X.K (f2 sFdiv) [x, y] H Q) :=
  o_int2 (fun _ _ _ _ => .int _) op_fdivK (int2_of (fun _ _ _ h => h) fun d e P h => by cases d <;> cases e <;> first | exact ⟨_, _, rfl, rfl⟩ | exact h.elim)
theorem o_mod : OpR X (binaryOp .Mod) (fun x y H Q => rO X.K (f2 sMod) [x, y] H Q) :=
  o_int2 (fun _ _ _ _ => .int _) op_modN (int2_of (fun _ _ _ h => h) fun d e P h => by cases d <;> cases e <;> first | exact ⟨_, _, rfl, rfl⟩ | exact h.elim)
theorem o_pow : OpR X (binaryOp .Pow) (fun x y H Q => rO X.K (f2 sPow) [x, y] H Q) :=
  o_int2 (fun _ _ _ _ => .int _) op_pow (int2_of (fun _ _ _ h => h) fun d e P h => by cases d <;> cases e <;> first | exact ⟨_, _, rfl, rfl⟩ | exact h.elim)
theorem o_le : OpR X (compareOp .LtE) (fun x y H Q => rO X.K (f2 sLe) [x, y] H Q) :=
  o_int2 (fun _ _ _ _ => .bl _) (opI0C op_le) (int2_of (fun _ _ _ h => ⟨trivial, h⟩) fun d e P h => by cases d <;> cases e <;> first | exact ⟨_, _, rfl, rfl⟩ | exact h.elim)
theorem o_gt : OpR X (compareOp .Gt) (fun x y H Q => rO X.K (f2 sGt) [x, y] H Q) :=
  o_int2 (fun _ _ _ _ => .bl _) (opI0C op_gt) (int2_of (fun _ _ _ h => ⟨trivial, h⟩) fun d e P h => by cases d <;> cases e <;> first | exact ⟨_, _, rfl, rfl⟩ | exact h.elim)
theorem o_ge : OpR X (compareOp .GtE) (fun x y H Q => rO X.K (f2 sGe) [x, y] H Q) :=
  o_int2 (fun _ _ _ _ => .bl _) (opI0C op_ge) (int2_of (fun _ _ _ h => ⟨trivial, h⟩) fun d e P h => by cases d <;> cases e <;> first | exact ⟨_, _, rfl, rfl⟩ | exact h.elim)
theorem o_lt (hu : X.A.units < cLine) : OpR X (compareOp .Lt) (fun x y H Q => rO X.K (f2 sLt) [x, y] H Q) := by
  refine o2_of (OpR.or' op_lt (op_ltT hu)) fun I H x y d e P Q sb v1 v2 sem k => ?_
  cases d with
  | int i =>
    cases e with
    | int j =>
      obtain rfl := v1.int
      obtain rfl := v2.int
      exact .inl ⟨i, j, rfl, rfl, keep sb k (.bl _) sem⟩
    | _ => exact sem.elim
  | tuple xs =>
    cases e with
    | tuple ys =>
      obtain ⟨ns, ms, rfl, rfl, p⟩ := sem
      obtain ⟨a, vs, rfl, t1, r1⟩ := v1.tuple
      obtain ⟨b, ws, rfl, t2, r2⟩ := v2.tuple
      obtain rfl := r1.ints_of
      obtain rfl := r2.ints_of
      exact .inr ⟨a, b, ns, ms, rfl, rfl, sb.sqT t1, sb.sqT t2, keep sb k (.bl _) p⟩
    | _ => exact sem.elim
  | _ => exact sem.elim
theorem noDict {d : D} (h : SeqAt.shaped d = true) : d.hasDict = false := PyData.hasDict_of_canLay d (SeqAt.canLay_of_shaped h)
theorem o_eq (hu : X.A.units + 64 < cLine) : OpR X (compareOp .Eq) (fun x y H Q => rO X.K (f2 (sEq false)) [x, y] H Q) := by
  intro pins s σ H x y v u Q I rx ry hq
  obtain ⟨F, ds, P, sb, vw, sem, kk⟩ := hq
  obtain ⟨d, e, rfl, v1, v2⟩ := vw2 vw
  obtain ⟨ss, p⟩ := sem
  rcases ss with ss | ⟨s1, s2⟩
  · cases d <;> cases e <;> first | (cases ss; done) | skip
    obtain rfl := v1.str
    obtain rfl := v2.str
    obtain ⟨t, rfl⟩ := rx
    obtain ⟨t', rfl⟩ := ry
    exact PyProof.Rows.eq_str ⟨.bl _, H, I, rfl, keep sb kk (.bl _) (by simpa [PyData.eqv, bne] using p)⟩
  obtain ⟨as, r1⟩ := Rp.reads I (v1.rp sb) (noDict s1) rx
  obtain ⟨bs, r2⟩ := Rp.reads I (v2.rp sb) (noDict s2) ry
  exact SeqAt.compareEq_shaped r1 r2 s1 s2 hu ⟨.bl _, H, I, rfl, keep sb kk (.bl _) (by simpa using p)⟩
theorem o_ne (hu : X.A.units + 64 < cLine) : OpR X (compareOp .NotEq) (fun x y H Q => rO X.K (f2 (sEq true)) [x, y] H Q) := by
  intro pins s σ H x y v u Q I rx ry hq
  obtain ⟨F, ds, P, sb, vw, sem, kk⟩ := hq
  obtain ⟨d, e, rfl, v1, v2⟩ := vw2 vw
  obtain ⟨ss, p⟩ := sem
  rcases ss with ss | ⟨s1, s2⟩
  · cases d <;> cases e <;> first | (cases ss; done) | skip
    obtain rfl := v1.str
    obtain rfl := v2.str
    obtain ⟨t, rfl⟩ := rx
    obtain ⟨t', rfl⟩ := ry
    exact PyProof.Rows.ne_str ⟨.bl _, H, I, rfl, keep sb kk (.bl _) (by simpa [PyData.eqv, bne] using p)⟩
  obtain ⟨as, r1⟩ := Rp.reads I (v1.rp sb) (noDict s1) rx
  obtain ⟨bs, r2⟩ := Rp.reads I (v2.rp sb) (noDict s2) ry
  exact SeqAt.compareNe_shaped r1 r2 s1 s2 hu ⟨.bl _, H, I, rfl, keep sb kk (.bl _) (by simpa using p)⟩
theorem Vw.isNone {K : PySem.W.Frag} {I H : Hp} {v : V} {d : D} (h : Vw K I H v d) : decide (v = .non) = DV.isNone d := by
  cases h with
  | im r => cases r <;> first | rfl | exact decide_eq_false (fun z => nomatch z)
  | ml _ _ => exact decide_eq_false (fun z => nomatch z)
  | md _ _ _ => exact decide_eq_false (fun z => nomatch z)
theorem o_isN : OpR X (compareOp .Is) (fun x y H Q => rO X.K (f2 (sIsN false)) [x, y] H Q) := by
  refine o2_of op_isN fun I H x y d e P Q sb v1 v2 sem k => ?_
  cases e with
  | none =>
    obtain rfl := v2.none
    refine ⟨rfl, keep sb k (.bl _) ?_⟩
    rw [v1.isNone]
    have q : P false (.bool (false ^^ DV.isNone d)) := by cases d <;> exact sem
    simpa using q
  | _ => cases d <;> exact sem.elim
theorem o_notN : OpR X (compareOp .IsNot) (fun x y H Q => rO X.K (f2 (sIsN true)) [x, y] H Q) := by
  refine o2_of op_notN fun I H x y d e P Q sb v1 v2 sem k => ?_
  cases e with
  | none =>
    obtain rfl := v2.none
    refine ⟨rfl, keep sb k (.bl _) ?_⟩
    rw [v1.isNone]
    have q : P false (.bool (true ^^ DV.isNone d)) := by cases d <;> exact sem
    simpa using q
  | _ => cases d <;> exact sem.elim
theorem sIn_seq {neg : Bool} {d : D} {ys : List D} {P : Bool → D → Prop} {e : D} (he : e = .list ys ∨ e = .tuple ys) (h : sIn neg d e P) : SeqAt.shaped d = true ∧ SeqAt.shaped e = true ∧ P false (.bool (neg ^^ ys.any fun y => PyData.eqv y d)) := by
  rcases he with rfl | rfl <;> cases d <;> exact h
theorem o_in (hu : X.A.units + 65 < cLine) : OpR X (compareOp .In) (fun x y H Q => rO X.K (f2 (sIn false)) [x, y] H Q) := by
  intro pins s σ H x y v u Q I rx ry hq
  obtain ⟨F, ds, P, sb, vw, sem, kk⟩ := hq
  obtain ⟨d, e, rfl, v1, v2⟩ := vw2 vw
  cases e with
  | str b =>
    cases d with
    | str a =>
      obtain rfl := v1.str
      obtain rfl := v2.str
      exact op_in_str pins s σ H _ _ v u Q I rx ry ⟨a, b, rfl, rfl, keep sb kk (.bl _) (by have q : P false (.bool (false ^^ strIn a b)) := sem; rw [Bool.false_xor] at q; exact q)⟩
    | _ => exact sem.elim
  | list ys =>
    obtain ⟨s1, s2, p⟩ := sIn_seq (.inl rfl) sem
    obtain ⟨as, r1⟩ := Rp.reads I (v1.rp sb) (noDict s1) rx
    obtain ⟨bs, r2⟩ := Rp.reads I (v2.rp sb) (noDict s2) ry
    exact SeqAt.in_list_reads r2 r1 (SeqAt.canLay_of_shaped s2) (SeqAt.canLay_of_shaped s1) (room_in_shaped s1 hu) ⟨.bl _, H, I, rfl, keep sb kk (.bl _) (by simpa using p)⟩
  | tuple ys =>
    obtain ⟨s1, s2, p⟩ := sIn_seq (.inr rfl) sem
    obtain ⟨as, r1⟩ := Rp.reads I (v1.rp sb) (noDict s1) rx
    obtain ⟨bs, r2⟩ := Rp.reads I (v2.rp sb) (noDict s2) ry
    exact SeqAt.in_tuple_reads r2 r1 (SeqAt.canLay_of_shaped s2) (SeqAt.canLay_of_shaped s1) (room_in_shaped s1 hu) ⟨.bl _, H, I, rfl, keep sb kk (.bl _) (by simpa using p)⟩
  | _ => cases d <;> exact sem.elim
theorem o_notin (hu : X.A.units + 65 < cLine) : OpR X (compareOp .NotIn) (fun x y H Q => rO X.K (f2 (sIn true)) [x, y] H Q) := by
  intro pins s σ H x y v u Q I rx ry hq
  obtain ⟨F, ds, P, sb, vw, sem, kk⟩ := hq
  obtain ⟨d, e, rfl, v1, v2⟩ := vw2 vw
  cases e with
  | str b =>
    cases d with
    | str a =>
      obtain rfl := v1.str
      obtain rfl := v2.str
      exact op_notin_str pins s σ H _ _ v u Q I rx ry ⟨a, b, rfl, rfl, keep sb kk (.bl _) (by have q : P false (.bool (true ^^ strIn a b)) := sem; rw [Bool.true_xor] at q; exact q)⟩
    | _ => exact sem.elim
  | list ys =>
    obtain ⟨s1, s2, p⟩ := sIn_seq (.inl rfl) sem
    obtain ⟨as, r1⟩ := Rp.reads I (v1.rp sb) (noDict s1) rx
    obtain ⟨bs, r2⟩ := Rp.reads I (v2.rp sb) (noDict s2) ry
    exact SeqAt.notIn_list_reads r2 r1 (SeqAt.canLay_of_shaped s2) (SeqAt.canLay_of_shaped s1) (room_in_shaped s1 hu) ⟨.bl _, H, I, rfl, keep sb kk (.bl _) (by simpa using p)⟩
  | tuple ys =>
    obtain ⟨s1, s2, p⟩ := sIn_seq (.inr rfl) sem
    obtain ⟨as, r1⟩ := Rp.reads I (v1.rp sb) (noDict s1) rx
    obtain ⟨bs, r2⟩ := Rp.reads I (v2.rp sb) (noDict s2) ry
    exact SeqAt.notIn_tuple_reads r2 r1 (SeqAt.canLay_of_shaped s2) (SeqAt.canLay_of_shaped s1) (room_in_shaped s1 hu) ⟨.bl _, H, I, rfl, keep sb kk (.bl _) (by simpa using p)⟩
  | _ => cases d <;> exact sem.elim
theorem o_neg : UnR X (unaryOp .USub) (fun x H Q => rO X.K (f1 sNeg) [x] H Q) := by
  intro pins s σ H x v Q I rx hq
  obtain ⟨F, ds, P, sb, vw, sem, kk⟩ := hq
  obtain ⟨d, rfl, v1⟩ := vw1 vw
  cases d with
  | int i =>
    obtain rfl := v1.int
    exact un_neg pins s σ H _ v Q I rx ⟨i, rfl, keep sb kk (.int _) sem⟩
  | _ => exact sem.elim
end
end DV
set_option Elab.async false
set_option linter.all false
set_option maxRecDepth 100000
set_option maxHeartbeats 4000000
/-! Dv2: operations that are called: built-ins, methods of texts, subscripts, slices. -/
namespace DV
open PySem PySem.Spec PyProof.Rows L2
section
variable {X : Cx}
theorem itemsOf_some {x : D} {xs : List D} (h : itemsOf x = some xs) : x = .list xs ∨ x = .tuple xs := by
  cases x <;> first | (cases h; first | exact .inl rfl | exact .inr rfl) | cases h
/-- the items, either way -/
theorem Vw.items {K : PySem.W.Frag} {I H : Hp} {v : V} {x : D} {xs : List D} (s : Sub I H) (h : Vw K I H v x) (e : itemsOf x = some xs) : ∃ a vs, v = .ref a ∧ (SqL K H a vs ∨ SqT K H a vs) ∧ RpAll K I vs xs := by
  rcases itemsOf_some e with rfl | rfl
  · obtain ⟨a, vs, q, t, r⟩ := h.list s
    exact ⟨a, vs, q, .inl t, r⟩
  · obtain ⟨a, vs, q, t, r⟩ := h.tuple
    exact ⟨a, vs, q, .inr (s.sqT t), r⟩
theorem c1_of {f : Value} {g : D → OS} {r : List V → Hp → VK → Prop} (h : CallR X f r)
    (k : ∀ (I H : Hp) (x : V) (d : D) (P : Bool → D → Prop) (Q : VK), Sub I H → Vw X.K I H x d → g d P → (∀ fresh r v I' H', Ex I H I' H' → Res X.K I' H H' fresh r v → P fresh r → Q v H') → r [x] H Q) :
    CallR X f (fun xs H Q => (∃ x, xs = [x]) ∧ rO X.K (f1 g) xs H Q) := by
  intro pins s σ H xs us Q I rx hq
  obtain ⟨⟨x, rfl⟩, F, ds, P, sb, vw, sem, kk⟩ := hq
  obtain ⟨d, rfl, v1⟩ := vw1 vw
  exact h pins s σ H _ us Q I rx (k F H x d P Q sb v1 sem kk)
/-- the form wanted: the count of arguments is told by the sense -/
theorem c1_go {f : Value} {g : D → OS} (h : CallR X f (fun xs H Q => (∃ x, xs = [x]) ∧ rO X.K (f1 g) xs H Q)) : CallR X f (rO X.K (f1 g)) := by
  intro pins s σ H xs us Q I rx hq
  refine h pins s σ H xs us Q I rx ⟨?_, hq⟩
  obtain ⟨F, ds, P, sb, vw, sem, kk⟩ := hq
  cases vw with
  | nil => exact sem.elim
  | cons a b =>
    cases b with
    | nil => exact ⟨_, rfl⟩
    | cons c e => exact sem.elim
theorem CallR.or' {f : Value} {r r' : List V → Hp → VK → Prop} (h : CallR X f r) (h' : CallR X f r') : CallR X f (fun xs H Q => r xs H Q ∨ r' xs H Q) := by
  intro pins s σ H xs us Q I rx hq
  rcases hq with hq | hq
  · exact h pins s σ H xs us Q I rx hq
  · exact h' pins s σ H xs us Q I rx hq
theorem c2_go {f : Value} {g : D → D → OS} (h : CallR X f (fun xs H Q => ∃ x y, xs = [x, y] ∧ rO X.K (f2 g) xs H Q)) : CallR X f (rO X.K (f2 g)) := by
  intro pins s σ H xs us Q I rx hq
  refine h pins s σ H xs us Q I rx ?_
  have hq' := hq
  obtain ⟨F, ds, P, sb, vw, sem, kk⟩ := hq
  cases vw with
  | nil => exact sem.elim
  | cons a b =>
    cases b with
    | nil => exact sem.elim
    | cons c e =>
      cases e with
      | nil => exact ⟨_, _, rfl, hq'⟩
      | cons _ _ => exact sem.elim

theorem c_len : CallR X (.builtin "len") (rO X.K (f1 sLen)) := by
  refine c1_go (c1_of (CallR.or' call_len_seq call_len_str) fun I H x d P Q sb v sem k => ?_)
  cases d with
  | list xs =>
    obtain ⟨a, vs, rfl, t, r⟩ := v.list sb
    exact .inl ⟨a, vs, rfl, .inl t, keep sb k (.int _) (by rw [r.length]; exact sem)⟩
  | tuple xs =>
    obtain ⟨a, vs, rfl, t, r⟩ := v.tuple
    exact .inl ⟨a, vs, rfl, .inr (sb.sqT t), keep sb k (.int _) (by rw [r.length]; exact sem)⟩
  | str z =>
    obtain rfl := v.str
    exact .inr ⟨z, rfl, sem.1, keep sb k (.int _) sem.2⟩
  | _ => exact sem.elim
theorem call_sum_tup (hc : X.calm = true) : CallR X (.builtin "sum") (fun vs H Q => ∃ (a : Addr) (ns : List Int), vs = [V.ref a] ∧ SqT X.K H a (ns.map V.int) ∧ Q (.int ns.sum) H) := by
  intro pins s σ H vs us Q I r h
  obtain ⟨a, ns, rfl, hs, q⟩ := h
  obtain ⟨its, rv, ht, _⟩ := I.tuple hs
  rw [Vals.ref1 r]
  have hi := rv.ints
  obtain ⟨xs, e⟩ := hi.allInts.items
  have hn : numsOf (intItems xs).toList = ns := by rw [← e]; exact hi.numsOf
  rw [nums_intItems] at hn
  rw [e] at ht
  refine PySem.W.ktm_sumG (I.ok.hd hc) ht fun h' tk t' hk => ⟨.int _, H, I.kept hk, ⟨_, rfl⟩, ?_⟩
  rw [preSum_eq, List.take_of_length_le (by simp), hn]; exact q
theorem c_sum (hc : X.calm = true) : CallR X (.builtin "sum") (rO X.K (f1 sSum)) := by
  refine c1_go (c1_of (CallR.or' (cr_sum hc) (call_sum_tup hc)) fun I H x d P Q sb v sem k => ?_)
  obtain ⟨ns, e, p⟩ := sem
  rcases itemsOf_some e with rfl | rfl
  · obtain ⟨a, vs, rfl, t, r⟩ := v.list sb
    obtain rfl := r.ints_of
    exact .inl ⟨a, ns, rfl, t, keep sb k (.int _) p⟩
  · obtain ⟨a, vs, rfl, t, r⟩ := v.tuple
    obtain rfl := r.ints_of
    exact .inr ⟨a, ns, rfl, sb.sqT t, keep sb k (.int _) p⟩
theorem iter_intTuple {prog : Program} {w : World} {A : Around} {E : Value → Shared → Prop} {s : Shared} {t : Addr} {vs : Array Value} {Q : Value → Shared → Prop} (ht : s.heap.IsTuple t vs)
    (h : t ≠ s.heap.objs.size → ∀ s₂ : Shared, s₂ = { s with heap := s.heap.push { cls := .type "tuple_iterator", data := .fields #[.ref t, rawInt 0] } } → s₂.heap.IsTupleIter s.heap.objs.size t 0 ∧ s₂.heap.IsTuple t vs → Q (.ref s.heap.objs.size) s₂) :
    wpAny (model prog w) A (pyIter (.ref t)) Q E s := by
  obtain ⟨o, ho, hc, n, hd⟩ := id ht
  have hne : t ≠ s.heap.objs.size := Nat.ne_of_lt (Heap.lt_size ho)
  exact wpAny_pyIter_tuple ht (h hne _ rfl ⟨⟨_, Heap.get?_push_size _ rfl, rfl, rfl⟩, ht.at fun o e => Heap.get?_push_of_some _ e⟩)
theorem ext_tup {prog : Program} {w : World} {A : Around} {E : Value → Shared → Prop} {s : Shared} {l : Addr} {its : List Value} {ns : List Int} {Q : Value → Shared → Prop} (hh : A.handled = none) (hl : s.heap.IsTuple l its.toArray) (hi : IntsAre its ns) (hne : 0 < ns.length) :
    ((∀ h' tk M t', (∀ b o, s.heap.get? b = some o → h'.get? b = some o) → M ∈ ns → (∀ a, a ∈ ns → a ≤ M) → Q (.int M t') { s with heap := h', toks := tk }) → wpAny (model prog w) A (call (.builtin "max") [.ref l]) Q E s) ∧
    ((∀ h' tk M t', (∀ b o, s.heap.get? b = some o → h'.get? b = some o) → M ∈ ns → (∀ a, a ∈ ns → M ≤ a) → Q (.int M t') { s with heap := h', toks := tk }) → wpAny (model prog w) A (call (.builtin "min") [.ref l]) Q E s) := by
  obtain ⟨xs, e⟩ := hi.allInts.items
  have hn : numsOf (intItems xs).toList = ns := by rw [← e]; exact hi.numsOf
  rw [nums_intItems] at hn
  subst hn
  rw [e] at hl
  have hsz : 0 < xs.size := by simpa using hne
  have fp : ∀ {s₂ : Shared}, s₂.heap.IsTupleIter s.heap.objs.size l 0 ∧ s₂.heap.IsTuple l (intItems xs) → ∀ b ∈ [s.heap.objs.size, l], b < s₂.heap.objs.size := fun {s₂} st b hb => by
    rcases List.mem_cons.mp hb with rfl | hb
    · obtain ⟨o, ho, _⟩ := st.1
      exact Heap.lt_size ho
    · obtain rfl := List.mem_singleton.mp hb
      obtain ⟨o, ho, _⟩ := st.2
      exact Heap.lt_size ho
  have old : ∀ {o0 : Obj} {h' : Heap}, (∀ b o, b ∉ [s.heap.objs.size] → (s.heap.push o0).get? b = some o → h'.get? b = some o) → ∀ b o, s.heap.get? b = some o → h'.get? b = some o := fun {o0 h'} hk b o eo => hk b o (fun hm => absurd (Heap.lt_size eo) ((List.mem_singleton.mp hm) ▸ Nat.lt_irrefl _)) (Heap.get?_push_of_some _ eo)
  constructor
  · intro h
    refine call_max_walk (iter_intTuple hl fun hlI s₂ e st => ?_)
    subst e
    refine ⟨_, _, _, _, _, _, _, rfl, Walks.tuple (A := A.in1) hh _ l hlI (intItems xs), st, fp st, by simpa [intItems] using hsz, CmpOf.ints_gt (numAt xs) (fun _ _ => intItems_at), fun v h' tk hP hk => ?_⟩
    have hv : (intItems xs)[argBest (fun i j => decide (numAt xs i > numAt xs j)) (xs.size - 1)]? = some v := by simpa [intItems] using hP
    obtain ⟨t, rfl⟩ := intItems_at hv
    obtain ⟨h1, h2⟩ := argBest_gt (numAt xs) (xs.size - 1)
    refine h h' tk _ t (old hk) ?_ fun a ha => ?_
    · rw [numAt_eq]; exact PySem.getD_mem (by rw [List.length_map, Array.length_toList]; omega)
    · obtain ⟨j, hj, rfl⟩ := mem_getD ha
      rw [List.length_map, Array.length_toList] at hj
      rw [← numAt_eq]; exact h2 j (by omega)
  · intro h
    refine call_min_walk (iter_intTuple hl fun hlI s₂ e st => ?_)
    subst e
    refine ⟨_, _, _, _, _, _, _, rfl, Walks.tuple (A := A.in1) hh _ l hlI (intItems xs), st, fp st, by simpa [intItems] using hsz, CmpOf.ints_lt (numAt xs) (fun _ _ => intItems_at), fun v h' tk hP hk => ?_⟩
    have hv : (intItems xs)[argBest (fun i j => decide (numAt xs i < numAt xs j)) (xs.size - 1)]? = some v := by simpa [intItems] using hP
    obtain ⟨t, rfl⟩ := intItems_at hv
    obtain ⟨h1, h2⟩ := argBest_lt (numAt xs) (xs.size - 1)
    refine h h' tk _ t (old hk) ?_ fun a ha => ?_
    · rw [numAt_eq]; exact PySem.getD_mem (by rw [List.length_map, Array.length_toList]; omega)
    · obtain ⟨j, hj, rfl⟩ := mem_getD ha
      rw [List.length_map, Array.length_toList] at hj
      rw [← numAt_eq]; exact h2 j (by omega)
theorem cr_max_tup (hc : X.calm = true) : CallR X (.builtin "max") (fun vs H Q => ∃ (a : Addr) (ns : List Int), vs = [V.ref a] ∧ SqT X.K H a (ns.map V.int) ∧ 0 < ns.length ∧ ∀ m, m ∈ ns → (∀ y, y ∈ ns → y ≤ m) → Q (.int m) H) := by
  intro pins s σ H vs us Q I r h
  obtain ⟨a, ns, rfl, hs, hne, q⟩ := h
  obtain ⟨its, rv, ht, _⟩ := I.tuple hs
  rw [Vals.ref1 r]
  exact (ext_tup (I.ok.hd hc) ht rv.ints hne).1 fun h' tk m t' hk h1 h2 => ⟨.int _, H, I.kept hk, ⟨_, rfl⟩, q m h1 h2⟩
theorem cr_min_tup (hc : X.calm = true) : CallR X (.builtin "min") (fun vs H Q => ∃ (a : Addr) (ns : List Int), vs = [V.ref a] ∧ SqT X.K H a (ns.map V.int) ∧ 0 < ns.length ∧ ∀ m, m ∈ ns → (∀ y, y ∈ ns → m ≤ y) → Q (.int m) H) := by
  intro pins s σ H vs us Q I r h
  obtain ⟨a, ns, rfl, hs, hne, q⟩ := h
  obtain ⟨its, rv, ht, _⟩ := I.tuple hs
  rw [Vals.ref1 r]
  exact (ext_tup (I.ok.hd hc) ht rv.ints hne).2 fun h' tk m t' hk h1 h2 => ⟨.int _, H, I.kept hk, ⟨_, rfl⟩, q m h1 h2⟩
theorem c_max1 (hc : X.calm = true) : CallR X (.builtin "max") (rO X.K (f1 sMax1)) := by
  refine c1_go (c1_of (CallR.or' (cr_max hc) (cr_max_tup hc)) fun I H x d P Q sb v sem k => ?_)
  obtain ⟨ns, e, hne, p⟩ := sem
  rcases itemsOf_some e with rfl | rfl
  · obtain ⟨a, vs, rfl, t, r⟩ := v.list sb
    obtain rfl := r.ints_of
    exact .inl ⟨a, ns, rfl, t, hne, fun m h1 h2 => keep sb k (.int _) (p m h1 h2)⟩
  · obtain ⟨a, vs, rfl, t, r⟩ := v.tuple
    obtain rfl := r.ints_of
    exact .inr ⟨a, ns, rfl, sb.sqT t, hne, fun m h1 h2 => keep sb k (.int _) (p m h1 h2)⟩
theorem c_min1 (hc : X.calm = true) : CallR X (.builtin "min") (rO X.K (f1 sMin1)) := by
  refine c1_go (c1_of (CallR.or' (cr_min hc) (cr_min_tup hc)) fun I H x d P Q sb v sem k => ?_)
  obtain ⟨ns, e, hne, p⟩ := sem
  rcases itemsOf_some e with rfl | rfl
  · obtain ⟨a, vs, rfl, t, r⟩ := v.list sb
    obtain rfl := r.ints_of
    exact .inl ⟨a, ns, rfl, t, hne, fun m h1 h2 => keep sb k (.int _) (p m h1 h2)⟩
  · obtain ⟨a, vs, rfl, t, r⟩ := v.tuple
    obtain rfl := r.ints_of
    exact .inr ⟨a, ns, rfl, sb.sqT t, hne, fun m h1 h2 => keep sb k (.int _) (p m h1 h2)⟩
theorem c2_of {f : Value} {g : D → D → OS} {r : List V → Hp → VK → Prop} (h : CallR X f r)
    (k : ∀ (I H : Hp) (x y : V) (d e : D) (P : Bool → D → Prop) (Q : VK), Sub I H → Vw X.K I H x d → Vw X.K I H y e → g d e P → (∀ fresh r v I' H', Ex I H I' H' → Res X.K I' H H' fresh r v → P fresh r → Q v H') → r [x, y] H Q) :
    CallR X f (rO X.K (f2 g)) := by
  refine c2_go ?_
  intro pins s σ H xs us Q I rx hq
  obtain ⟨x, y, rfl, F, ds, P, sb, vw, sem, kk⟩ := hq
  obtain ⟨d, e, rfl, v1, v2⟩ := vw2 vw
  exact h pins s σ H _ us Q I rx (k F H x y d e P Q sb v1 v2 sem kk)
theorem c_max2 (hc : X.calm = true) : CallR X (.builtin "max") (rO X.K (f2 sMax2)) := by
  refine c2_of (call_max2 hc) fun I H x y d e P Q sb v1 v2 sem k => ?_
  cases d <;> cases e <;> first | exact sem.elim | skip
  obtain rfl := v1.int
  obtain rfl := v2.int
  exact ⟨_, _, rfl, keep sb k (.int _) sem⟩
theorem c_min2 (hc : X.calm = true) : CallR X (.builtin "min") (rO X.K (f2 sMin2)) := by
  refine c2_of (call_min2 hc) fun I H x y d e P Q sb v1 v2 sem k => ?_
  cases d <;> cases e <;> first | exact sem.elim | skip
  obtain rfl := v1.int
  obtain rfl := v2.int
  exact ⟨_, _, rfl, keep sb k (.int _) sem⟩
theorem c_abs : CallR X (.builtin "abs") (rO X.K (f1 sAbs)) := by
  refine c1_go (c1_of call_abs fun I H x d P Q sb v sem k => ?_)
  cases d <;> first | exact sem.elim | skip
  obtain rfl := v.int
  exact ⟨_, rfl, keep sb k (.int _) sem⟩
theorem c_all (hc : X.calm = true) : CallR X (.builtin "all") (rO X.K (f1 sAll)) := by
  refine c1_go (c1_of (cr_all hc) fun I H x d P Q sb v sem k => ?_)
  obtain ⟨bs, rfl, p⟩ := sem
  obtain ⟨a, vs, rfl, t, r⟩ := v.list sb
  obtain rfl := r.bools_of
  exact ⟨a, bs, rfl, t, keep sb k (.bl _) p⟩
theorem c_any (hc : X.calm = true) : CallR X (.builtin "any") (rO X.K (f1 sAny)) := by
  refine c1_go (c1_of (cr_any hc) fun I H x d P Q sb v sem k => ?_)
  obtain ⟨bs, rfl, p⟩ := sem
  obtain ⟨a, vs, rfl, t, r⟩ := v.list sb
  obtain rfl := r.bools_of
  exact ⟨a, bs, rfl, t, keep sb k (.bl _) p⟩
theorem call_tupD : CallR X (.type "tuple") (fun xs H Q => ∃ p ys, xs = [.ref p] ∧ ((SqL X.K H p ys ∧ ∀ l its, H l = none → Q (.ref l) (upd H l (.frz (tupO its) (.tup ys)))) ∨ (SqT X.K H p ys ∧ Q (.ref p) H))) := by
  intro pins s σ H xs us Q I r h
  obtain ⟨p, ys, rfl, h⟩ := h
  obtain ⟨u, rfl, rx⟩ := vals1 r
  cases rx
  rcases h with ⟨hq, q⟩ | ⟨hq, q⟩
  · obtain ⟨its, rv, pl, hz⟩ := I.list hq
    refine call_tuple_list pl.isList (fun h' kp => ?_) (by rw [List.size_toArray, ← rv.length]; exact hz)
    have I1 : Inv X pins σ H { s with heap := h' } := I.kept (t' := s.toks) kp
    have I2 := inv_ltup I1 (its := its) (h' := h'.push { cls := .type "tuple", data := .seq its.toArray }) (a := h'.objs.size) (fun b o e => Heap.get?_push_of_some _ e) (Nat.le_refl _) (Heap.get?_push_size _ rfl) hz rv
    exact ⟨.ref h'.objs.size, _, I2, rfl, q _ _ (I1.hok.fresh (Nat.le_refl _))⟩
  · obtain ⟨its, rv, pl, hz⟩ := I.tuple hq
    exact call_tuple_same pl ⟨.ref p, H, I, rfl, q⟩
theorem c_tup : CallR X (.type "tuple") (rO X.K (f1 sTup)) := by
  refine c1_go (c1_of call_tupD fun I H x d P Q sb v sem k => ?_)
  cases d with
  | list xs =>
    obtain ⟨a, vs, rfl, t, r⟩ := v.list sb
    exact ⟨a, vs, rfl, .inl ⟨t, fun l its n => newT sb k r n sem⟩⟩
  | tuple xs =>
    obtain ⟨a, vs, rfl, t, r⟩ := v.tuple
    exact ⟨a, vs, rfl, .inr ⟨sb.sqT t, keep sb k v.tupRp sem⟩⟩
  | _ => exact sem.elim
theorem c_lst : CallR X (.type "list") (rO X.K (f1 sLst)) := by
  refine c1_go (c1_of call_list_of fun I H x d P Q sb v sem k => ?_)
  cases d with
  | list xs =>
    obtain ⟨a, vs, rfl, t, r⟩ := v.list sb
    exact ⟨a, vs, rfl, .inl t, fun l n => newL sb k r n sem⟩
  | tuple xs =>
    obtain ⟨a, vs, rfl, t, r⟩ := v.tuple
    exact ⟨a, vs, rfl, .inr (sb.sqT t), fun l n => newL sb k r n sem⟩
  | _ => exact sem.elim
theorem c_str : CallR X (.type "str") (rO X.K (f1 sStr)) := by
  refine c1_go (c1_of call_str_int fun I H x d P Q sb v sem k => ?_)
  cases d <;> first | exact sem.elim | skip
  obtain rfl := v.int
  exact ⟨_, rfl, sem.1, keep sb k (.str _) sem.2⟩
theorem c_int : CallR X (.type "int") (rO X.K (f1 sInt)) := by
  refine c1_go (c1_of (CallR.or' call_int1 call_int_str) fun I H x d P Q sb v sem k => ?_)
  cases d with
  | int i =>
    obtain rfl := v.int
    exact .inl (.inl ⟨i, rfl, keep sb k (.int _) sem⟩)
  | bool b =>
    obtain rfl := v.bool
    exact .inl (.inr ⟨b, rfl, keep sb k (.int _) sem⟩)
  | str z =>
    obtain rfl := v.str
    obtain ⟨n, h1, h2, h3⟩ := sem
    exact .inr ⟨z, n, rfl, h1, h2, keep sb k (.int _) h3⟩
  | _ => exact sem.elim
theorem c_repr (hg : X.A.guards = some []) (hu : X.A.units + 70 < cLine) : CallR X (.builtin "repr") (rO X.K (f1 sRepr)) := by
  refine c1_go ?_
  intro pins s σ H xs us Q I rx hq
  obtain ⟨⟨x, rfl⟩, F, ds, P, sb, vw, sem, kk⟩ := hq
  obtain ⟨d, rfl, v1⟩ := vw1 vw
  obtain ⟨h1, h2, h3, h4, p⟩ := sem
  obtain ⟨u, rfl, ru⟩ := vals1 rx
  obtain ⟨as, r⟩ := Rp.reads I (v1.rp sb) h2 ru
  have fin : ∀ {s' : Shared} {tk : Tok}, Inv X pins σ H s' → EP X pins σ Q (.str d.shown tk) s' := fun {s' tk} J => ⟨.str _, H, J, ⟨_, rfl⟩, keep sb kk (.str _) p⟩
  cases d with
  | list ds =>
    cases r with
    | list a1 a2 a3 a4 => exact repr_of_reads' (.list a1 a2 a3 a4) h1 (fun z => by rw [h2] at z; cases z) hg (by omega) (fun b o e => e) (fun h' u tk k => fin (I.kept k)) h4
  | tuple ds =>
    cases r with
    | tuple a1 a2 a3 a4 => exact repr_of_reads' (.tuple a1 a2 a3 a4) h1 (fun z => by rw [h2] at z; cases z) hg (by omega) (fun b o e => e) (fun h' u tk k => fin (I.kept k)) h4
  | dict ds => exact absurd h2 (by simp [PyData.hasDict])
  | none => cases r; exact PySem.P.repr_of_none (fin (I.tok _))
  | bool b => cases r; exact PySem.P.repr_of_bool (fin (I.tok _))
  | int i => cases r; exact PySem.P.repr_of_int (of_decide_eq_true h1) (fin (I.tok _))
  | str z => cases r; exact PySem.P.repr_of_str (fin (I.tok _)) h4
end
end DV
set_option Elab.async false
set_option linter.all false
set_option maxRecDepth 100000
set_option maxHeartbeats 4000000
/-! DvC: list comprehensions whose turns may raise: the block's wish is what the machine owes of an exception that leaves it. -/
namespace DV
open PySem PySem.Spec PyProof.Rows L2
abbrev blkw (X : Cx) (ce : Env) : Value → Shared → Prop := fun e s' => notedBy (model X.prog X.w) X.A ce (CompFails (model X.prog X.w) X.A X.xe ce) e s'
abbrev blkx (X : Cx) (s : Shared) (H : Hp) (scope : Scope) (ce : Env) (fp : List Addr) : Cx := (X.blk s H scope ce fp).wish (blkw X ce)
/-! ### exceptions in the air, the def's frame at L -/
def XEL (X : Cx) (L : Addr) (W : WX) (u : Value) (s' : Shared) : Prop :=
  ∃ (a : Addr) (B : Heap) (sI : Shared) (pins : List (Addr × Obj)) (σ : L2.St) (H : Hp) (cls : Value) (d : Option Addr),
    u = .ref a ∧ Inv X pins σ H sI ∧ (∀ b o, sI.heap.get? b = some o → b ∉ frs X.stack → B.get? b = some o) ∧ sI.heap.UpToSlots s'.heap ∧
      Sky B X.stack a (Zc cls d) L s'.heap ∧ H a = none ∧ s'.os = sI.os ∧ AllBare s'.gens ∧ W cls d σ H
def TakesL (X : Cx) (L : Addr) (W : WX) : Prop := ∀ u s', XEL X L W u s' → X.xe u s'
theorem XE.toL {X : Cx} {W : WX} {u : Value} {s' : Shared} (h : XE X W u s') (L : Addr) (hn : X.env.locals ≠ L → ∀ B a Z, ¬ HandSPX.HeldZ B X.stack a Z X.env.locals s'.heap) : XEL X L W u s' := by
  obtain ⟨a, B, sI, pins, σ, H, cls, d, e, I, nb, up, sky, r⟩ := h
  refine ⟨a, B, sI, pins, σ, H, cls, d, e, I, nb, up, ?_, r⟩
  by_cases q : X.env.locals = L
  · rw [← q]; exact sky
  · rcases sky with z | z | z
    · exact .inl z
    · exact .inr (.inl z)
    · exact absurd z (hn q _ _ _)
/-- a call's exception -/
theorem XEL.of_call {X : Cx} {L : Addr} {W : WX} {E : XK} {pins : List (Addr × Obj)} {σ : L2.St} {H : Hp} {s s' : Shared} {u : Value} (I : Inv X pins σ H s) (hW : ∀ cls d H', E cls d H' → W cls d σ H') (c : CX X.prog X.w X.stack H s E u s') : XEL X L W u s' := by
  obtain ⟨a, B, H', cls, d, rfl, fl, hok, ub, na, os, ag, hE⟩ := c
  obtain ⟨G, g1, g2⟩ := restrict s'.heap fun b => (B.get? b).isSome || decide (b ∈ frs X.stack)
  have st : B.StaysIn s'.heap := fl.1
  have gB : ∀ b o, B.get? b = some o → G.get? b = some o := fun b o e => by
    rw [g1 b (by simp [e])]
    exact st b o e
  have gF : ∀ b, b ∈ frs X.stack → G.get? b = s'.heap.get? b := fun b hb => g1 b (by simp [hb])
  have og : ∀ b o, G.get? b = some o → s'.heap.get? b = some o ∧ ((B.get? b).isSome = true ∨ b ∈ frs X.stack) := fun b o e => by
    cases q : ((B.get? b).isSome || decide (b ∈ frs X.stack)) with
    | false => rw [g2 b q] at e; cases e
    | true =>
      rw [g1 b q] at e
      exact ⟨e, by simpa [Bool.or_eq_true] using q⟩
  refine ⟨a, B, { s with heap := G, gens := s'.gens, drawn := s'.drawn, toks := s'.toks }, pins, σ, H', cls, d, rfl, ?_, fun b o e hb => ?_, Heap.UpToSlots.of_keeps fun b o e => (og b o e).1, .inr (.inl fl), na, os, ag, hW _ _ _ hE⟩
  · refine I.call (ch := []) ⟨fun b o e n hb _ => gB b o (ub.keep b o e n hb), fun b o e n hb _ => ?_, fun b o e n _ => ub.free b o e n, fun b o e _ => ?_, ub.tups, ub.frzs, ub.tbls⟩ (hok.kept gB) ag (fun _ z => nomatch z)
    · obtain ⟨sl, q⟩ := ub.slot b o e hb
      exact ⟨sl, by rw [gF b hb]; exact q⟩
    · by_cases hb : b ∈ frs X.stack
      · obtain ⟨sl, q⟩ := ub.slot b o e hb
        exact ⟨_, by rw [gF b hb]; exact q⟩
      · obtain ⟨o', q⟩ := ub.there b o e hb
        exact ⟨o', gB b o' q⟩
  · obtain ⟨e', h⟩ := og b o e
    rcases h with h | h
    · obtain ⟨o', q⟩ := Option.isSome_iff_exists.mp h
      have z := st b o' q
      rw [e'] at z; cases z
      exact q
    · exact absurd h hb
/-! ### the ground without one object -/
theorem hide1 (h : Heap) (c : Addr) : ∃ G : Heap, (∀ b, b ≠ c → G.get? b = h.get? b) ∧ G.get? c = none := by
  obtain ⟨G, g1, g2⟩ := restrict h fun b => decide (b ≠ c)
  exact ⟨G, fun b hb => g1 b (decide_eq_true hb), g2 c (by simp)⟩
theorem funFrames_sub {base B h : Heap} (k : ∀ b, base.get? b = none → B.get? b = none) : ∀ {l : List Env}, h.FunFrames base l → h.FunFrames B l
  | [], _ => trivial
  | _ :: _, ⟨hk, ⟨L, o, hf, hb, ho, hd⟩, hr⟩ => ⟨hk, ⟨L, o, hf, k L hb, ho, hd⟩, funFrames_sub k hr⟩
theorem tracedZ_sub {base B h : Heap} {e : Addr} {Z : Obj → Prop} {fl : Value} (k : ∀ b, base.get? b = none → B.get? b = none) (x : HandSPX.TracedZ h base e Z fl) : HandSPX.TracedZ h B e Z fl := by
  obtain ⟨oe, vs, T, oT, ts, he, hz, hd, h1, hnT, r⟩ := x
  exact ⟨oe, vs, T, oT, ts, he, hz, hd, h1, k T hnT, r⟩
theorem tracedZ_but {base h h' : Heap} {e L : Addr} {Z : Obj → Prop} {fl : Value} {m : Str → Option Value} (hn : h.Ns L m) (hs : Heap.SameBut L h h') (x : HandSPX.TracedZ h base e Z fl) : HandSPX.TracedZ h' base e Z fl := by
  obtain ⟨oe, vs, T, oT, ts, he, hz, hd, h1, hnT, hTe, hT, hdT, h3⟩ := x
  obtain ⟨oL, es, ep, hoL, hdL, _⟩ := hn
  have n1 : e ≠ L := fun q => by rw [q, hoL] at he; cases he; rw [hdL] at hd; cases hd
  have n2 : T ≠ L := fun q => by rw [q, hoL] at hT; cases hT; rw [hdL] at hdT; cases hdT
  exact ⟨oe, vs, T, oT, ts, (hs.2 e n1).trans he, hz, hd, h1, hnT, hTe, (hs.2 T n2).trans hT, hdT, h3⟩
/-- an exception leaves a comprehension's block -/
theorem blk_takes {X : Cx} {L : Addr} {W Wi : WX} {pins : List (Addr × Obj)} {σ : L2.St} {H3 : Hp} {s3 : Shared} {scope : Scope} {cl : List (Str × Addr)} {E0 : Env} {outer : List Env} {fp : List Addr} (I3 : Inv X pins σ H3 s3) (tk : TakesL X L W) (hw : ∀ c d σ1 H1, Wi c d σ1 H1 → W c d σ H1)
    (hs : X.stack = E0 :: outer) (h0 : E0.frame = some L) (hcf : X.env.frame = some L) (f3 : ∀ b ∈ fp, FpOk X pins H3 b ∧ b < s3.heap.objs.size) :
    TakesL (blkx X s3 H3 scope (compEnvC scope cl s3.heap.objs.size X.env) fp) L Wi := by
  rintro u s' ⟨a, B, sI, pins1, σ1, H1, cls, d, rfl, J, nb, up, sky, na, os, ag, w⟩
  have cL : (compEnvC scope cl s3.heap.objs.size X.env).locals = s3.heap.objs.size := rfl
  have cF : (compEnvC scope cl s3.heap.objs.size X.env).frame = some L := hcf
  generalize hce : compEnvC scope cl s3.heap.objs.size X.env = ce at J nb up sky cL cF ⊢
  have hfr : X.A.frames = some (E0 :: outer) := by rw [← hs]; exact I3.ok.frames
  have sky : Sky B (E0 :: outer) a (Zc cls d) L s'.heap := by rw [← hs]; exact sky
  have eN : noteFrame (.ref a) ce = noteFrame (.ref a) E0 := noteFrame_env _ (cF.trans h0.symm)
  have nstk : ce.locals ∉ frs X.stack := fun hm => by
    obtain ⟨_, o, ho, _⟩ := I3.stack.mem hm
    have := Heap.lt_size ho
    rw [cL] at this
    exact absurd this (Nat.lt_irrefl _)
  obtain ⟨mC, hnC, _⟩ := id J.loc
  have hnC : sI.heap.Ns ce.locals mC := hnC
  -- what is owed of the held one
  have fin : ∀ h1 : Heap, HandSPX.HeldZ B (E0 :: outer) a (Zc cls d) L h1 → s'.heap.UpToSlots h1 → CompFails (model X.prog X.w) X.A X.xe ce (.ref a) { s' with heap := h1 } := by
    rintro h1 ⟨b1, b0, f1, t1⟩ up1
    have hn1 : h1.Ns ce.locals mC := by
      obtain ⟨o, es, ep, ho, r⟩ := hnC
      exact ⟨o, es, ep, b1 _ _ (nb _ _ ho nstk), r⟩
    refine ⟨mC, hn1, fun h2 m2 hn2 sb2 => ?_⟩
    obtain ⟨B', g1, g2⟩ := hide1 B ce.locals
    have kB : ∀ b, B.get? b = none → B'.get? b = none := fun b e => by
      by_cases q : b = ce.locals
      · rw [q]; exact g2
      · rw [g1 b q]; exact e
    have b2 : B'.StaysIn h2 := fun b o e => by
      have q : b ≠ ce.locals := fun z => by rw [z, g2] at e; cases e
      rw [g1 b q] at e
      exact (sb2.2 b q).trans (b1 b o e)
    have f2 : h2.FunFrames B' (E0 :: outer) := Heap.FunFrames.sameBut sb2 hn2 (funFrames_sub kB f1)
    have t2 := tracedZ_but hn1 sb2 (tracedZ_sub kB t1)
    obtain ⟨oe, vs, T, oT, ts, he, hz, hd, h1', r⟩ := id t2
    unfold PySem.passOn
    refine wpAny_bind (wpAny_field he hd h1' ?_)
    rw [if_neg (show ¬ ((Value.ref T == Value.none) = true) from by simp)]
    rw [cF]
    have go : wpAny (model X.prog X.w) X.A (setFlight (.ref a) (some L)) (fun _ s4 => wpAny (model X.prog X.w) X.A (throw (.ref a) : Sem Value) (fun _ _ => False) X.xe s4) X.xe { s' with heap := h2 } := by
      refine HandSPX.setFlight_onZ ⟨b2, kB a b0, f2, t2⟩ fun h3 hh3 up3 => wpAny_throw (tk _ _ ?_)
      -- the state without the exception, without the block's names
      obtain ⟨G, k1, k2⟩ := hide1 sI.heap ce.locals
      have old : ∀ b o, s3.heap.get? b = some o → b ≠ ce.locals := fun b o e z => by
        have := Heap.lt_size e
        rw [z, cL] at this
        exact absurd this (Nat.lt_irrefl _)
      have hC : H1 ce.locals = none := J.free
      have I5 : Inv X pins σ H1 { sI with heap := G } := by
        have JU : Un (frs X.stack) fp H3 H1 s3.heap sI.heap := J.base
        refine I3.call' (ch := fp) J.os ⟨fun b o e n hb hx => (k1 b (old b o e)).trans (JU.keep b o e n hb hx), fun b o e n hb hx => ?_, JU.free, fun b o e hx => ?_, JU.tups, JU.frzs, JU.tbls⟩ (fun b o e => ?_) J.bare
          fun b hb => ⟨(f3 b hb).1.2.2.2.1, (f3 b hb).1.2.1, (f3 b hb).1.2.2.2.2.1, (f3 b hb).1.2.2.2.2.2⟩
        · obtain ⟨sl, q⟩ := JU.slot b o e n hb hx
          exact ⟨sl, (k1 b (old b o e)).trans q⟩
        · obtain ⟨o', q⟩ := JU.there b o e hx
          exact ⟨o', (k1 b (old b o e)).trans q⟩
        · refine (J.hok b o e).stay (fun c v hc q => (k1 c ?_).trans q) (fun _ q => q) fun _ _ q => q
          rintro rfl
          rcases hc with z | z
          · rw [← z, hC] at e; cases e
          · rw [hC] at z; cases z
      refine ⟨a, B', { sI with heap := G }, pins, σ, H1, cls, d, rfl, I5, fun b o e hb => ?_, fun b o e hnf => ?_, .inr (.inr (by rw [hs]; exact hh3)), na, os, ag, hw _ _ _ _ w⟩
      · have q : b ≠ ce.locals := fun z => by rw [z] at e; have e' : G.get? ce.locals = some o := e; rw [k2] at e'; cases e'
        have e' : sI.heap.get? b = some o := (k1 b q).symm.trans e
        rw [g1 b q]
        exact nb b o e' hb
      · have q : b ≠ ce.locals := fun z => by rw [z] at e; have e' : G.get? ce.locals = some o := e; rw [k2] at e'; cases e'
        have e' : sI.heap.get? b = some o := (k1 b q).symm.trans e
        obtain ⟨s1, q1⟩ := up b o e' hnf
        obtain ⟨s2, q2⟩ := up1 b _ q1 hnf
        obtain ⟨s3, q3⟩ := up3 b _ ((sb2.2 b q).trans q2) hnf
        exact ⟨s3, q3⟩
    first
      | exact wpAny_bind (wpAny_pure (wpAny_bind go))
      | exact wpAny_bind go
  show wpAny (model X.prog X.w) X.A (noteFrame (.ref a) ce) _ _ s'
  rw [eN]
  rcases sky with ⟨hB, hn, hl, oe, vs, he, hz, hd, h1⟩ | fl | hh
  · exact HandSPX.look_newZ Zc.steady hfr hl h0 he hB hn hd h1 hz fin
  · exact HandSPX.looks_onZ Zc.steady hfr h0 fl fin
  · exact HandSPX.againZ h0 hh.2.2.2 (fin s'.heap hh (Heap.UpToSlots.refl _))
section
variable {X : Cx}
theorem lc_coreX {pins : List (Addr × Obj)} {s : Shared} {σ : L2.St} {H : Hp} {Q : VK} {elt tg iter : Expr} {ifs : List Expr} {scope : Scope} {own : List (Str × Nat)} {pos pos' : Pos} {wi : TI} {g : TG} {ι : Type} {Wi : ι → WX} {tt : ι → TT} {te : ι → TE} {L : Addr} {W : WX} {E0 : Env} {outer : List Env} {use : Option (Value → Sem Unit)} {Qf : Value → Shared → Prop}
    (tk : TakesL X L W) (hst : X.stack = E0 :: outer) (h0 : E0.frame = some L) (hcf : X.env.frame = some L) (hc : X.calm = true) (hN : X.N.Nodup) (I : Inv X pins σ H s) (hi : PI X tg iter wi) (ok : BlkOk X.N X.env.scope scope own)
    (hg : ∀ (s : Shared) (H : Hp) (C : Addr) (cl : List (Str × Addr)) (fp : List Addr), PG (blkx X s H scope (compEnvC scope cl C X.env) fp) tg g) (ht : ∀ (i : ι) (s : Shared) (H : Hp) (C : Addr) (cl : List (Str × Addr)) (fp : List Addr), TakesL (blkx X s H scope (compEnvC scope cl C X.env) fp) L (Wi i) → PTs (blkx X s H scope (compEnvC scope cl C X.env) fp) ifs (tt i))
    (he : ∀ (i : ι) (s : Shared) (H : Hp) (C : Addr) (cl : List (Str × Addr)) (fp : List Addr), TakesL (blkx X s H scope (compEnvC scope cl C X.env) fp) L (Wi i) → PE (blkx X s H scope (compEnvC scope cl C X.env) fp) elt (te i)) (hs : ∀ x, foldedSetIterable iter X.env x = pure x)
    (h : ∃ i, (∀ c d σ1 H1, Wi i c d σ1 H1 → W c d σ H1) ∧ tLc wi g (tt i) (te i) (own.map (·.2)) σ H Q)
    (hRR : ∀ D (ce : Env) s' m H', Inv X pins σ H' s' → Q (.ref D) H' → s'.heap.Ns ce.locals m → FpOk X pins H' ce.locals → compEnds (model X.prog X.w) X.A X.xe use Qf (.ref D) ce (.ok .next) s') :
    wpAny (model X.prog X.w) X.A (comprehension (.ListComp elt [⟨tg, iter, ifs, 0⟩] scope pos) scope X.env pos' (newList []) false (eval iter X.env) use) Qf X.xe s := by
  obtain ⟨ι0, hW, h⟩ := h
  have hfree : ∀ y ∈ scope.names, y.2 = .free → ∃ c, X.env.cells.lookup y.1 = some c := fun y hy e => by
    rcases ok.free y hy e with k | k
    · exact I.ok.has _ (.inl k)
    · exact I.ok.has _ (.inr k)
  refine comprehension_at (use := use) rfl hs (closure_ok hfree) ok.kind (fun y hy e => by rw [ok.uniq y hy, e])
    (thn (hi.run pins s σ H _ I h) fun xv s1 hx => thn hx fun itv s2 h2 => ?_)
  obtain ⟨it, fp, tn, J, H2, e, I2, T, st2, f2, q⟩ := h2
  subst e
  refine wpAny_newObj_type (newEnv_comp ?_) (by show 0 ≤ sizeLine; decide)
  generalize hD : s2.heap.objs.size = D
  have hDn : H2 D = none := I2.hok.fresh (Nat.le_of_eq hD)
  obtain ⟨W, ⟨m0, w0⟩, turn⟩ := q D hDn
  generalize hs3 : ({ s2 with heap := s2.heap.push { cls := .type "list", data := .seq ([] : List Value).toArray } } : Shared) = s3
  have I3 : Inv X pins σ (upd H2 D (.lst [])) s3 := by
    rw [← hs3]
    refine I2.laid (t' := s2.toks) (fun b o e => Heap.get?_push_of_some _ e) (Nat.le_of_eq hD) ⟨Nat.zero_le _, [], 0, .nil, ?_⟩
    rw [← hD]
    exact Heap.get?_push_size _ rfl
  have h3 : s3.heap = s2.heap.push { cls := .type "list", data := .seq ([] : List Value).toArray } := by rw [← hs3]
  have sz : ∀ b ∈ fp, b < s2.heap.objs.size := fun b hb => by
    obtain ⟨o, e, _⟩ := T.obj _ _ st2 b hb
    exact Heap.lt_size e
  have f3 : ∀ b ∈ fp, FpOk X pins (upd H2 D (.lst [])) b ∧ b < s3.heap.objs.size := fun b hb => by
    have hlt := sz b hb
    refine ⟨⟨?_, (f2 b hb).2⟩, by rw [h3, Heap.size_push]; exact Nat.lt_succ_of_lt hlt⟩
    rw [upd_ne (by rw [← hD]; exact Nat.ne_of_lt hlt)]
    exact (f2 b hb).1
  have st3 : tn 0 s3.heap := T.keep _ _ _ st2 fun b _ o e => by rw [h3]; exact Heap.get?_push_of_some _ e
  have pg := hg s3 (upd H2 D (.lst [])) s3.heap.objs.size (cellsFrom (s3.heap.objs.size + 1) scope.names (cloFrom X.env.cells scope.names [])) fp
  have tkb := blk_takes (scope := scope) (cl := cellsFrom (s3.heap.objs.size + 1) scope.names (cloFrom X.env.cells scope.names [])) I3 tk hW hst h0 hcf f3
  have pt := ht ι0 s3 (upd H2 D (.lst [])) s3.heap.objs.size (cellsFrom (s3.heap.objs.size + 1) scope.names (cloFrom X.env.cells scope.names [])) fp tkb
  have pe := he ι0 s3 (upd H2 D (.lst [])) s3.heap.objs.size (cellsFrom (s3.heap.objs.size + 1) scope.names (cloFrom X.env.cells scope.names [])) fp tkb
  have I4 := (block_start I3 ok hN f3).wish (blkw X (compEnvC scope (cellsFrom (s3.heap.objs.size + 1) scope.names (cloFrom X.env.cells scope.names [])) s3.heap.objs.size X.env))
  show codeAny _ _ (.compStart (.ListComp elt [⟨tg, iter, ifs, 0⟩] scope pos) 0 (.ref it) (.ref D) (compEnvC scope (cellsFrom (s3.heap.objs.size + 1) scope.names (cloFrom X.env.cells scope.names [])) s3.heap.objs.size X.env)) (compEnds (model X.prog X.w) X.A X.xe use Qf (.ref D) (compEnvC scope (cellsFrom (s3.heap.objs.size + 1) scope.names (cloFrom X.env.cells scope.names [])) s3.heap.objs.size X.env)) { s3 with heap := pushCells (s3.heap.push { cls := .type "dict", data := .dict #[] }) scope.names }
  have nfp : ∀ b ∈ fp, (upd H2 D (.lst [])) b = none := fun b hb => (f3 b hb).1.1
  clear tkb
  generalize hce : compEnvC scope (cellsFrom (s3.heap.objs.size + 1) scope.names (cloFrom X.env.cells scope.names [])) s3.heap.objs.size X.env = ce at I4 pg pt pe ⊢
  have cL : ce.locals = s3.heap.objs.size := by subst hce; rfl
  generalize hH3 : upd H2 D (.lst []) = H3 at I3 I4 pg pt pe w0 nfp f3
  generalize hs4 : ({ s3 with heap := pushCells (s3.heap.push { cls := .type "dict", data := .dict #[] }) scope.names } : Shared) = s4 at I4 ⊢
  have st4 : tn 0 s4.heap := T.keep _ _ _ st3 fun b _ o e => by rw [← hs4]; exact pushCells_keeps _ _ _ _ (Heap.get?_push_of_some _ e)
  have stat : ∀ {σ' : L2.St} {H' : Hp} {s' : Shared}, Inv (blkx X s3 H3 scope ce fp) [] σ' H' s' → (∀ b ∈ fp, H' b = none) → ∀ b ∈ fp, FpOk (blkx X s3 H3 scope ce fp) [] H' b := fun {σ' H' s'} I' hn b hb =>
    ⟨hn b hb, (I'.ok.exf b hb).1, I'.ok.exfs b hb, .inl hb, fun x c e => (I'.ok.exf b hb).2 x c e, fun p hp => absurd (show p ∈ ([] : List (Addr × Obj)) ++ [] from hp) (by simp)⟩
  have loop : codeAny (model X.prog X.w) X.A (.compLoop (.ListComp elt [⟨tg, iter, ifs, 0⟩] scope pos) 0 (.ref it) (.ref D) ce) (compEnds (model X.prog X.w) X.A X.xe use Qf (.ref D) ce) s4 := by
    refine compLoop_any (fun n s' => ∃ i H', Inv (blkx X s3 H3 scope ce fp) [] (wipe σ (own.map (·.2))) H' s' ∧ tn i s'.heap ∧ (∀ b ∈ fp, H' b = none) ∧ W i n H') ?_ m0 ⟨0, H3, I4, st4, nfp, w0⟩
    rintro n s5 ⟨i, H5, I5, st5, n5, w5⟩
    have xw : ∀ (e : Value) (s' : Shared), blkw X ce e s' → notedBy (model X.prog X.w) X.A ce (fun e s' => compEnds (model X.prog X.w) X.A X.xe use Qf (.ref D) ce (.error e) s') e s' := fun e s' hh => by
      cases use <;> exact hh
    rcases turn i n H5 w5 with ⟨stop, qq⟩ | ⟨go, Nx, hNx, step⟩
    · have td := T.done (blkx X s3 H3 scope ce fp) rfl rfl rfl hc i [] s5 _ H5 (blkw X ce) I5 (stat I5 n5) st5 stop
      refine wpAny_mono td (fun r s6 ⟨hr, I6⟩ => ?_) xw
      subst hr
      have I7 : Inv X pins σ H5 s6 := I3.call' (ch := fp) I6.os I6.base I6.hok I6.bare fun b hb => ⟨(f3 b hb).1.2.2.2.1, (f3 b hb).1.2.1, (f3 b hb).1.2.2.2.2.1, (f3 b hb).1.2.2.2.2.2⟩
      have nC : H5 s3.heap.objs.size = none := by
        have z : H5 ce.locals = none := I6.free
        rw [cL] at z
        exact z
      obtain ⟨m, hn, _⟩ := I6.loc
      have hn : s6.heap.Ns ce.locals m := hn
      exact hRR D ce s6 m H5 I7 qq hn (by rw [cL]; exact I3.fpOk (Nat.le_refl _) nC)
    · have ti := T.item (blkx X s3 H3 scope ce fp) rfl rfl rfl hc i [] s5 _ H5 (blkw X ce) I5 (stat I5 n5) st5 go
      refine wpAny_mono ti (fun r s6 ⟨u, hr, h6⟩ => ?_) xw
      subst hr
      refine wpAny_mono h6 (fun _ s7 ⟨x, H7, I7, r7, y7, st7, n7⟩ => ?_) xw
      have I7' := I7.pinned (stat I7 n7) (T.obj _ _ st7)
      refine wpAny_mono (pg.run _ s7 _ H7 x u _ I7' r7 (step x H7 y7)) (fun _ s8 ⟨σ8, H8, I8, hw8, q8⟩ => ?_) xw
      refine wpAny_mono (pt.run _ s8 σ8 H8 _ I8 q8) (fun b s9 ⟨H9, I9, q9⟩ => ?_) xw
      have fin : ∀ {s' : Shared} {H' : Hp}, Inv (blkx X s3 H3 scope ce fp) ([] ++ pinsAt fp s7.heap) σ8 H' s' → Nx H' → ∃ m, m < n ∧ ∃ i H', Inv (blkx X s3 H3 scope ce fp) [] (wipe σ (own.map (·.2))) H' s' ∧ tn i s'.heap ∧ (∀ b ∈ fp, H' b = none) ∧ W i m H' := fun {s' H'} I' nx => by
        obtain ⟨m', hm, w'⟩ := hNx H' nx
        have pin' : ∀ b ∈ fp, ∀ o, s7.heap.get? b = some o → s'.heap.get? b = some o ∧ H' b = none := fun b hb o e =>
          let z := I'.pin (b, o) (List.mem_append_right _ (List.mem_append_right _ (mem_pinsAt hb e)))
          ⟨z.1, z.2.1⟩
        have hl : (wipe σ (own.map (·.2))).length = σ8.length := by rw [← hw8, wipe_length]
        refine ⟨m', hm, i + 1, H', (I'.unpinned (pins := [])).weak hl (fun j v e => ?_), T.keep _ _ _ st7 fun b hb o e => (pin' b hb o e).1, fun b hb => ?_, w'⟩
        · rw [← hw8] at e
          exact (wipe_some e).1
        · obtain ⟨o, e, _⟩ := T.obj _ _ st7 b hb
          exact (pin' b hb o e).2
      cases b with
      | false =>
        simp only [Bool.false_eq_true, if_false] at q9 ⊢
        exact fin I9 q9
      | true =>
        simp only [if_true] at q9 ⊢
        refine wpAny_mono (pe.run _ s9 σ8 H9 _ I9 q9) (fun z s10 ⟨yv, H10, I10, r10, acc, hD10, hz10, nx⟩ => ?_) xw
        exact wpAny_mono (app_ok (X := blkx X s3 H3 scope ce fp) I10 hD10 hz10 r10 fun s11 I11 => fin I11 nx) (fun _ _ z => z) xw
  exact codeAny_compStart_list loop (T.self X.A 0 _ _ _ st4 loop)
/-- as a value -/
theorem pe_lcX {elt tg iter : Expr} {ifs : List Expr} {scope : Scope} {own : List (Str × Nat)} {pos : Pos} {wi : TI} {g : TG} {ι : Type} {Wi : ι → WX} {tt : ι → TT} {te : ι → TE} {L : Addr} {W : WX} {E0 : Env} {outer : List Env}
    (tk : TakesL X L W) (hst : X.stack = E0 :: outer) (h0 : E0.frame = some L) (hcf : X.env.frame = some L) (hc : X.calm = true) (hN : X.N.Nodup) (hi : PI X tg iter wi) (ok : BlkOk X.N X.env.scope scope own)
    (hg : ∀ (s : Shared) (H : Hp) (C : Addr) (cl : List (Str × Addr)) (fp : List Addr), PG (blkx X s H scope (compEnvC scope cl C X.env) fp) tg g) (ht : ∀ (i : ι) (s : Shared) (H : Hp) (C : Addr) (cl : List (Str × Addr)) (fp : List Addr), TakesL (blkx X s H scope (compEnvC scope cl C X.env) fp) L (Wi i) → PTs (blkx X s H scope (compEnvC scope cl C X.env) fp) ifs (tt i))
    (he : ∀ (i : ι) (s : Shared) (H : Hp) (C : Addr) (cl : List (Str × Addr)) (fp : List Addr), TakesL (blkx X s H scope (compEnvC scope cl C X.env) fp) L (Wi i) → PE (blkx X s H scope (compEnvC scope cl C X.env) fp) elt (te i)) (hs : ∀ x, foldedSetIterable iter X.env x = pure x) :
    PE X (.ListComp elt [⟨tg, iter, ifs, 0⟩] scope pos) (fun σ H Q => ∃ i, (∀ c d σ1 H1, Wi i c d σ1 H1 → W c d σ H1) ∧ tLc wi g (tt i) (te i) (own.map (·.2)) σ H Q) := by
  refine ⟨fun pins s σ H Q I h => ?_⟩
  rw [eval_ListComp]
  refine lc_coreX tk hst h0 hcf hc hN I hi ok hg ht he hs h fun D C s' m H' I' q hn f => ⟨m, hn, fun h'' sb => ?_⟩
  obtain ⟨f0, f1, f2, f3, f4, f5⟩ := f
  exact ⟨.ref D, H', I'.turned (t' := s'.toks) (fun b o hb e => (sb.2 b hb).trans e) f0 f1 f3 f4 f5, rfl, q⟩
/-- name = [..] on one line, the name a local -/
theorem ps_setLcX {i : Nat} {y : Str} {py : Pos} {elt tg iter : Expr} {ifs : List Expr} {scope : Scope} {own : List (Str × Nat)} {pos spos : Pos} {wi : TI} {g : TG} {ι : Type} {Wi : ι → WX} {tt : ι → TT} {te : ι → TE} {L : Addr} {W : WX} {E0 : Env} {outer : List Env}
    (tk : TakesL X L W) (hst : X.stack = E0 :: outer) (h0 : E0.frame = some L) (hcf : X.env.frame = some L) (hc : X.calm = true) (hN : X.N.Nodup) (hy : X.N[i]? = some y) (hyl : X.env.scope.names.lookup y = some .local)
    (hsw : swapsWith (.ListComp elt [⟨tg, iter, ifs, 0⟩] scope pos) (some (.Name y py)) spos.line X.env = pure true) (hi : PI X tg iter wi) (ok : BlkOk X.N X.env.scope scope own)
    (hg : ∀ (s : Shared) (H : Hp) (C : Addr) (cl : List (Str × Addr)) (fp : List Addr), PG (blkx X s H scope (compEnvC scope cl C X.env) fp) tg g) (ht : ∀ (i : ι) (s : Shared) (H : Hp) (C : Addr) (cl : List (Str × Addr)) (fp : List Addr), TakesL (blkx X s H scope (compEnvC scope cl C X.env) fp) L (Wi i) → PTs (blkx X s H scope (compEnvC scope cl C X.env) fp) ifs (tt i))
    (he : ∀ (i : ι) (s : Shared) (H : Hp) (C : Addr) (cl : List (Str × Addr)) (fp : List Addr), TakesL (blkx X s H scope (compEnvC scope cl C X.env) fp) L (Wi i) → PE (blkx X s H scope (compEnvC scope cl C X.env) fp) elt (te i)) (hs : ∀ x, foldedSetIterable iter X.env x = pure x) :
    PS X (.Assign [.Name y py] (.ListComp elt [⟨tg, iter, ifs, 0⟩] scope pos) spos) (tAsg (fun σ H Q => ∃ j, (∀ c d σ1 H1, Wi j c d σ1 H1 → W c d σ H1) ∧ tLc wi g (tt j) (te j) (own.map (·.2)) σ H Q) (gName i)) := by
  refine ⟨fun pins s σ H D I h => ?_⟩
  rw [exec_Assign_Name_used _ _ _ _ hsw]
  refine wpAny_bind (wpAny_standAt (wpAny_bind ?_))
  show wpAny _ X.A (do let _ ← comprehension (.ListComp elt [⟨tg, iter, ifs, 0⟩] scope pos) scope X.env (firstIterPos [⟨tg, iter, ifs, 0⟩] pos) (newList []) false (eval iter X.env) (some (assign (.Name y py) X.env))) _ _ s
  have h : ∃ j, (∀ c d σ1 H1, Wi j c d σ1 H1 → W c d σ H1) ∧ tLc wi g (tt j) (te j) (own.map (·.2)) σ H (fun x H1 => gName i x σ H1 D.nx) := h
  refine wpAny_bind (thn (lc_coreX (Qf := fun _ s' => SP X pins D .next s') tk hst h0 hcf hc hN I hi ok hg ht he hs h fun L ce s' m H' I' q hn f => ?_) fun _ s' hq => wpAny_pure (wpAny_pure hq))
  show wpAny _ _ (assign (.Name y py) X.env (.ref L)) _ _ _
  refine wpAny_assign_Name (store_ok2 (v := V.ref L) I' hN hy (.inl hyl) rfl (fun s2 I2 ⟨a, sb, ha⟩ => ?_) (.inr hyl))
  obtain ⟨f0, f1, f2, f3, f4, f5⟩ := f
  have haC : ce.locals ≠ a := by
    rcases ha with z | z
    · rw [z]; exact f1
    · exact fun e => f4 y a z e.symm
  refine ⟨m, hn.sameBut sb haC, fun h3 sb3 => ?_⟩
  exact ⟨_, H', I2.turned (t' := s2.toks) (fun b o hb e => (sb3.2 b hb).trans e) f0 f1 f3 f4 f5, q⟩
end
end DV
set_option Elab.async false
set_option linter.all false
set_option maxRecDepth 100000
set_option maxHeartbeats 4000000
/-! Dv3: the store laid over the heap; what a def promises over data. -/
namespace DV
open PySem PySem.Spec PyProof.Rows L2
/-- the program's constants -/
structure GC where
  prog : Program
  w : World
  K : PySem.W.Frag
  mg : Str → Option Value
  base : Heap
abbrev gcOf (X : Cx) : GC := ⟨X.prog, X.w, X.K, X.mg, X.base⟩
/-- a world: the frozen part, where the store's things lie, the heap -/
structure Wl where
  I : Hp
  α : List Addr
  H : Hp
section
variable (G : GC)
inductive RpS (w : Wl) : SV → V → Prop
  | d {x : D} {v : V} : Rp G.K w.I v x → RpS w (.d x) v
  | loc {k : Nat} {a : Addr} : w.α[k]? = some a → RpS w (.loc k) (.ref a)
  | fn {n : Str} {f : Addr} : G.mg n = some (.ref f) → RpS w (.fn n) (.ref f)
inductive RpSs (w : Wl) : List SV → List V → Prop
  | nil : RpSs w [] []
  | cons {x : SV} {v : V} {xs : List SV} {vs : List V} : RpS G w x v → RpSs w xs vs → RpSs w (x :: xs) (v :: vs)
def RpM (w : Wl) : MO → Addr → Prop
  | .frz x, a => (∃ u, w.I a = some u) ∧ Rp G.K w.I (.ref a) x
  | .lst ds, a => w.I a = none ∧ ∃ vs, w.H a = some (.lst vs) ∧ RpAll G.K w.I vs ds
  | .dic ds, a => w.I a = none ∧ ∃ kvs, w.H a = some (.dK kvs) ∧ ds.map (·.1) = kvs.map (fun p => kD p.1) ∧ RpAll G.K w.I (kvs.map (·.2)) (ds.map (·.2))
  | .ins C fs, a => w.I a = none ∧ ∃ Ca dx vs, G.mg C = some (.ref Ca) ∧ w.H a = some (.ins Ca dx vs) ∧ vs.map (·.1) = fs.map (·.1) ∧ RpSs G w (fs.map (·.2)) (vs.map (·.2))
structure RpH (w : Wl) (μ : Store) : Prop where
  sub : Sub w.I w.H
  len : w.α.length = μ.length
  nd : w.α.Nodup
  obj : ∀ (k : Nat) (o : MO), μ[k]? = some o → ∃ a, w.α[k]? = some a ∧ RpM G w o a
def RpE (w : Wl) (σ : L2.St) (env : DEnv) : Prop := env.length = σ.length ∧ ∀ (i : Nat) (x : SV), env[i]? = some (some x) → ∃ v, σ[i]? = some (some v) ∧ RpS G w x v
/-- a caught or flying exception -/
def RpX (w : Wl) (x : Exn) (cls : Value) (d : Option Addr) : Prop := ∃ Ca, G.mg x.cls = some (.ref Ca) ∧ cls = .ref Ca ∧
  ((x.fs = [] ∧ d = none) ∨ ∃ dd fv, d = some dd ∧ w.H dd = some (.xd fv) ∧ fv.map (·.1) = x.fs.map (·.1) ∧ RpAll G.K w.I (fv.map (·.2)) (x.fs.map (·.2)))
end
/-- growth: what is frozen stays, the store's things keep their places, whatever else is tracked stands as it stood -/
structure Gr (w w' : Wl) : Prop where
  sub : Sub w.I w'.I
  pre : ∃ more, w'.α = w.α ++ more
  nw : ∀ a ∈ w'.α, a ∈ w.α ∨ w.H a = none
  ni : ∀ a u, w'.I a = some u → w.I a = some u ∨ w.H a = none ∨ a ∈ w.α
  fr : ∀ a u, w.H a = some u → a ∉ w.α → w'.H a = some u
theorem Gr.refl {w : Wl} : Gr w w := ⟨.refl, ⟨[], by simp⟩, fun _ h => .inl h, fun _ _ h => .inl h, fun _ _ h _ => h⟩
theorem Gr.hn {w w' : Wl} (g : Gr w w') {a : Addr} (h : w'.H a = none) : w.H a = none ∨ a ∈ w.α := by
  by_cases q : a ∈ w.α
  · exact .inr q
  · cases e : w.H a with
    | none => exact .inl rfl
    | some u => rw [g.fr a u e q] at h; cases h
theorem Gr.trans {w w1 w2 : Wl} (a : Gr w w1) (b : Gr w1 w2) : Gr w w2 := by
  obtain ⟨m, e1⟩ := a.pre
  obtain ⟨m2, e2⟩ := b.pre
  refine ⟨a.sub.trans b.sub, ⟨m ++ m2, by rw [e2, e1, List.append_assoc]⟩, fun x hx => ?_, fun x u e => ?_, fun x u e n => ?_⟩
  · rcases b.nw x hx with h | h
    · exact a.nw x h
    · exact (a.hn h).symm
  · rcases b.ni x u e with h | h | h
    · exact a.ni x u h
    · rcases a.hn h with q | q
      · exact .inr (.inl q)
      · exact .inr (.inr q)
    · rcases a.nw x h with q | q
      · exact .inr (.inr q)
      · exact .inr (.inl q)
  · refine b.fr x u (a.fr x u e n) fun h => ?_
    rcases a.nw x h with q | q
    · exact n q
    · rw [e] at q; cases q
theorem Gr.at {w w' : Wl} (g : Gr w w') {k : Nat} {a : Addr} (h : w.α[k]? = some a) : w'.α[k]? = some a := by
  obtain ⟨m, e⟩ := g.pre
  rw [e, List.getElem?_append_left (List.getElem?_eq_some_iff.mp h).1]
  exact h
theorem Gr.mem {w w' : Wl} (g : Gr w w') {a : Addr} (h : a ∈ w.α) : a ∈ w'.α := by
  obtain ⟨m, e⟩ := g.pre
  rw [e]; exact List.mem_append_left _ h
section
variable {G : GC} {w w' : Wl} {μ : Store}
theorem RpS.mono (g : Gr w w') {x : SV} {v : V} (h : RpS G w x v) : RpS G w' x v := by
  cases h with
  | d r => exact .d (r.mono g.sub)
  | loc e => exact .loc (g.at e)
  | fn e => exact .fn e
theorem RpSs.mono (g : Gr w w') : ∀ {xs : List SV} {vs : List V}, RpSs G w xs vs → RpSs G w' xs vs
  | _, _, .nil => .nil
  | _, _, .cons a b => .cons (a.mono g) (RpSs.mono g b)
theorem RpSs.length : ∀ {xs : List SV} {vs : List V}, RpSs G w xs vs → xs.length = vs.length
  | _, _, .nil => rfl
  | _, _, .cons _ b => by rw [List.length_cons, List.length_cons, b.length]
theorem RpE.mono (g : Gr w w') {σ : L2.St} {env : DEnv} (h : RpE G w σ env) : RpE G w' σ env :=
  ⟨h.1, fun i x e => let ⟨v, q, r⟩ := h.2 i x e; ⟨v, q, r.mono g⟩⟩
theorem RpE.set {σ : L2.St} {env : DEnv} {i : Nat} {x : SV} {v : V} (h : RpE G w σ env) (r : RpS G w x v) : RpE G w (σ.set i (some v)) (env.set i (some x)) := by
  refine ⟨by rw [List.length_set, List.length_set]; exact h.1, fun j y e => ?_⟩
  by_cases q : i = j
  · subst q
    have hi : i < env.length := by
      have := (List.getElem?_eq_some_iff.mp e).1
      rw [List.length_set] at this
      exact this
    rw [List.getElem?_set_self hi] at e
    cases e
    exact ⟨v, List.getElem?_set_self (by rw [← h.1]; exact hi), r⟩
  · rw [List.getElem?_set_ne q] at e
    rw [List.getElem?_set_ne q]
    exact h.2 j y e
/-- forget a slot -/
theorem RpE.unset {σ : L2.St} {env : DEnv} (i : Nat) (h : RpE G w σ env) : RpE G w (σ.set i none) (env.set i none) := by
  refine ⟨by rw [List.length_set, List.length_set]; exact h.1, fun j y e => ?_⟩
  by_cases q : i = j
  · subst q
    have hi : i < env.length := by
      have := (List.getElem?_eq_some_iff.mp e).1
      rw [List.length_set] at this
      exact this
    rw [List.getElem?_set_self hi] at e
    cases e
  · rw [List.getElem?_set_ne q] at e
    rw [List.getElem?_set_ne q]
    exact h.2 j y e
/-- every thing of the store stands in the heap -/
theorem RpM.there {o : MO} {a : Addr} (s : Sub w.I w.H) (r : RpM G w o a) : ∃ u, w.H a = some u := by
  cases o with
  | frz x => obtain ⟨⟨u, e'⟩, _⟩ := r; exact ⟨u, s _ _ e'⟩
  | lst ds => obtain ⟨_, vs, e', _⟩ := r; exact ⟨_, e'⟩
  | dic ds => obtain ⟨_, vs, e', _⟩ := r; exact ⟨_, e'⟩
  | ins C fs => obtain ⟨_, Ca, dx, vs, _, e', _⟩ := r; exact ⟨_, e'⟩
theorem RpH.at (h : RpH G w μ) {k : Nat} {a : Addr} (e : w.α[k]? = some a) : ∃ o, μ[k]? = some o ∧ RpM G w o a := by
  have hk : k < μ.length := by rw [← h.len]; exact (List.getElem?_eq_some_iff.mp e).1
  obtain ⟨a', q, r⟩ := h.obj k μ[k] (List.getElem?_eq_getElem hk)
  rw [e] at q; cases q
  exact ⟨_, List.getElem?_eq_getElem hk, r⟩
theorem RpH.there (h : RpH G w μ) {a : Addr} (e : a ∈ w.α) : ∃ u, w.H a = some u := by
  obtain ⟨k, hk, rfl⟩ := List.mem_iff_getElem.mp e
  obtain ⟨o, _, r⟩ := h.at (List.getElem?_eq_getElem hk)
  exact r.there h.sub
/-- what stood stands: nothing tracked has changed -/
theorem Ex.gr {I' H' : Hp} (x : Ex w.I w.H I' H') : Gr w ⟨I', w.α, H'⟩ :=
  ⟨x.ii, ⟨[], by simp⟩, fun _ h => .inl h, fun a u e => (x.fr a u e).elim .inl fun z => .inr (.inl z), fun a u e _ => x.hh a u e⟩
theorem RpM.ex {α' : List Addr} {I' H' : Hp} (x : Ex w.I w.H I' H') (g : Gr w ⟨I', α', H'⟩) {o : MO} {a : Addr} (h : RpM G w o a) : RpM G ⟨I', α', H'⟩ o a := by
  have key : ∀ u, w.H a = some u → w.I a = none → I' a = none := fun u e n => by
    cases q : I' a with
    | none => rfl
    | some z =>
      rcases x.fr a z q with y | y
      · rw [n] at y; cases y
      · rw [e] at y; cases y
  cases o with
  | frz d => exact ⟨let ⟨u, e⟩ := h.1; ⟨u, x.ii _ _ e⟩, h.2.mono x.ii⟩
  | lst ds =>
    obtain ⟨n, vs, e, r⟩ := h
    exact ⟨key _ e n, vs, x.hh _ _ e, r.mono x.ii⟩
  | dic ds =>
    obtain ⟨n, vs, e, q, r⟩ := h
    exact ⟨key _ e n, vs, x.hh _ _ e, q, r.mono x.ii⟩
  | ins C fs =>
    obtain ⟨n, Ca, dx, vs, m, e, q, r⟩ := h
    exact ⟨key _ e n, Ca, dx, vs, m, x.hh _ _ e, q, r.mono g⟩
theorem RpH.ex {I' H' : Hp} (x : Ex w.I w.H I' H') (h : RpH G w μ) : RpH G ⟨I', w.α, H'⟩ μ :=
  ⟨x.ih, h.len, h.nd, fun k o e => let ⟨a, q, r⟩ := h.obj k o e; ⟨a, q, r.ex x x.gr⟩⟩
/-- a new list joins the store -/
theorem Ex.push {I' H' : Hp} {p : Addr} (x : Ex w.I w.H I' H') (n : w.H p = none) : Gr w ⟨I', w.α ++ [p], H'⟩ :=
  ⟨x.ii, ⟨[p], rfl⟩, fun a h => (List.mem_append.mp h).elim .inl fun z => .inr (by rw [List.mem_singleton.mp z]; exact n), fun a u e => (x.fr a u e).elim .inl fun z => .inr (.inl z), fun a u e _ => x.hh a u e⟩
theorem RpH.push {I' H' : Hp} {p : Addr} {o : MO} (h : RpH G w μ) (n : w.H p = none) (x : Ex w.I w.H I' H') (r : RpM G ⟨I', w.α ++ [p], H'⟩ o p) : RpH G ⟨I', w.α ++ [p], H'⟩ (μ ++ [o]) := by
  have g := x.push n
  refine ⟨x.ih, by show (w.α ++ [p]).length = _; rw [List.length_append, List.length_append, h.len]; rfl, ?_, fun k o' q => ?_⟩
  · show (w.α ++ [p]).Nodup
    rw [List.nodup_append]
    refine ⟨h.nd, by simp, fun a ha b hb => ?_⟩
    obtain rfl := List.mem_singleton.mp hb
    rintro rfl
    obtain ⟨u, e'⟩ := h.there ha
    rw [n] at e'; cases e'
  · by_cases hk : k < μ.length
    · rw [List.getElem?_append_left hk] at q
      obtain ⟨a, q1, r1⟩ := h.obj k o' q
      exact ⟨a, g.at q1, r1.ex x g⟩
    · rw [List.getElem?_append_right (Nat.le_of_not_lt hk)] at q
      have hk0 : k - μ.length = 0 := by
        have := (List.getElem?_eq_some_iff.mp q).1
        simp at this; omega
      rw [hk0] at q
      cases q
      refine ⟨p, ?_, r⟩
      have : k = w.α.length := by rw [h.len]; omega
      rw [this]
      show (w.α ++ [p])[w.α.length]? = some p
      simp
/-- the thing at k is frozen -/
theorem nodup_at {α : List Addr} (nd : α.Nodup) {i j : Nat} {a : Addr} (h1 : α[i]? = some a) (h2 : α[j]? = some a) : i = j := by
  obtain ⟨l1, e1⟩ := List.getElem?_eq_some_iff.mp h1
  obtain ⟨l2, e2⟩ := List.getElem?_eq_some_iff.mp h2
  exact (List.getElem_inj nd).mp (e1.trans e2.symm)
theorem RpH.freezeO {k : Nat} {a : Addr} {u : HO} {x : D} (h : RpH G w μ) (q : w.α[k]? = some a) (n : w.I a = none) (e : w.H a = some u) (rp : Rp G.K (upd w.I a u) (.ref a) x) :
    Gr w ⟨upd w.I a u, w.α, w.H⟩ ∧ RpH G ⟨upd w.I a u, w.α, w.H⟩ (μ.set k (.frz x)) := by
  have s1 : Sub w.I (upd w.I a u) := .new n
  have g : Gr w ⟨upd w.I a u, w.α, w.H⟩ := ⟨s1, ⟨[], by simp⟩, fun _ h => .inl h, fun b z hz => by
    by_cases hb : b = a
    · rw [hb]; exact .inr (.inr (List.mem_of_getElem? q))
    · have hz' : upd w.I a u b = some z := hz
      rw [upd_ne hb] at hz'; exact .inl hz', fun _ _ h _ => h⟩
  refine ⟨g, ⟨fun b o z => ?_, by rw [List.length_set]; exact h.len, h.nd, fun j o z => ?_⟩⟩
  · have z : upd w.I a u b = some o := z
    by_cases hb : b = a
    · subst hb; rw [upd_same] at z; cases z; exact e
    · rw [upd_ne hb] at z; exact h.sub b o z
  · by_cases hj : k = j
    · subst hj
      have hk : k < μ.length := by
        have := (List.getElem?_eq_some_iff.mp z).1
        rw [List.length_set] at this; exact this
      rw [List.getElem?_set_self hk] at z
      cases z
      exact ⟨a, q, ⟨u, upd_same⟩, rp⟩
    · rw [List.getElem?_set_ne hj] at z
      obtain ⟨b, q1, r1⟩ := h.obj j o z
      have nb : b ≠ a := fun z => hj (nodup_at h.nd q (z ▸ q1))
      have key : w.I b = none → upd w.I a u b = none := fun n => by rw [upd_ne nb]; exact n
      refine ⟨b, q1, ?_⟩
      cases o with
      | frz d => exact ⟨let ⟨u, z⟩ := r1.1; ⟨u, s1 _ _ z⟩, r1.2.mono s1⟩
      | lst ds => obtain ⟨n, vs, e, r⟩ := r1; exact ⟨key n, vs, e, r.mono s1⟩
      | dic ds => obtain ⟨n, vs, e, p, r⟩ := r1; exact ⟨key n, vs, e, p, r.mono s1⟩
      | ins C fs => obtain ⟨n, Ca, dx, vs, m, e, p, r⟩ := r1; exact ⟨key n, Ca, dx, vs, m, e, p, r.mono g⟩
/-- a thing of the store is written: the object at α k alone changes -/
theorem RpH.write {k : Nat} {a : Addr} {o : MO} {u : HO} (h : RpH G w μ) (q : w.α[k]? = some a) (n : w.I a = none) (r : RpM G ⟨w.I, w.α, upd w.H a u⟩ o a) :
    Gr w ⟨w.I, w.α, upd w.H a u⟩ ∧ RpH G ⟨w.I, w.α, upd w.H a u⟩ (μ.set k o) := by
  have g : Gr w ⟨w.I, w.α, upd w.H a u⟩ := ⟨.refl, ⟨[], by simp⟩, fun _ h => .inl h, fun _ _ h => .inl h, fun b z hz hb => by
    show upd w.H a u b = some z
    rw [upd_ne (fun e => hb (by rw [e]; exact List.mem_of_getElem? q))]; exact hz⟩
  refine ⟨g, ⟨fun b z e => ?_, by rw [List.length_set]; exact h.len, h.nd, fun j z e => ?_⟩⟩
  · have e : w.I b = some z := e
    have hb : b ≠ a := fun w => by rw [w, n] at e; cases e
    show upd w.H a u b = some z
    rw [upd_ne hb]; exact h.sub b z e
  · by_cases hj : k = j
    · subst hj
      have hk : k < μ.length := by
        have := (List.getElem?_eq_some_iff.mp e).1
        rw [List.length_set] at this; exact this
      rw [List.getElem?_set_self hk] at e
      cases e
      exact ⟨a, q, r⟩
    · rw [List.getElem?_set_ne hj] at e
      obtain ⟨b, q1, r1⟩ := h.obj j z e
      have nb : b ≠ a := fun w => hj (nodup_at h.nd q (w ▸ q1))
      refine ⟨b, q1, ?_⟩
      cases z with
      | frz d => exact r1
      | lst ds => obtain ⟨n, vs, e, r⟩ := r1; exact ⟨n, vs, by show upd w.H a u b = _; rw [upd_ne nb]; exact e, r⟩
      | dic ds => obtain ⟨n, vs, e, p, r⟩ := r1; exact ⟨n, vs, by show upd w.H a u b = _; rw [upd_ne nb]; exact e, p, r⟩
      | ins C fs => obtain ⟨n, Ca, dx, vs, m, e, p, r⟩ := r1; exact ⟨n, Ca, dx, vs, m, by show upd w.H a u b = _; rw [upd_ne nb]; exact e, p, r.mono g⟩
end

/-! ### what a def promises -/
abbrev DSp := List SV → Store → (SV → Store → Prop) → (Exn → Store → Prop) → Prop
def lift (G : GC) (ar : Nat) (sp : DSp) : Sp := fun vs H Q E => ∃ w svs μ P PE, w.H = H ∧ RpH G w μ ∧ RpSs G w svs vs ∧ svs.length = ar ∧ sp svs μ P PE ∧
  (∀ w' v x μ', Gr w w' → RpH G w' μ' → RpS G w' x v → P x μ' → Q v w'.H) ∧
  ∀ w' cls d x μ', Gr w w' → RpH G w' μ' → RpX G w' x cls d → PE x μ' → E cls d w'.H
structure FnG (G : GC) (k : Nat) (f : Addr) (fd : FuncData) (ps : List Str) (sp : Sp) : Prop where
  len : ∀ vs H Q E, sp vs H Q E → vs.length = ps.length
  run : ∀ (A : Around) (outer : List Env) (s : Shared) (H : Hp) (args : Args) (us : List Value) (vs : List V) (Q : VK) (E : XK), Room k A → A.guards = some [] → Env0 G.prog G.w G.K G.mg G.base A outer s H → BindsTo s fd args (ps.zip us) → Vals vs us → sp vs H Q E →
    codeAny (model G.prog G.w) A (.call (.ref f) args) (CR (CX G.prog G.w) outer G.prog G.w H s Q E) s
def Known (G : GC) (n : Str) (k ar : Nat) (sp : DSp) : Prop := ∃ (f : Addr) (fd : FuncData) (ps : List Str), ps.length = ar ∧ FnG G k f fd ps (lift G ar sp) ∧ G.mg n = some (.ref f) ∧ PySem.W.keepIn G.K (.ref f) = true ∧ Binds G.K fd ps []
theorem Known.mono {G : GC} {n : Str} {k j ar : Nat} {sp : DSp} (h : Known G n k ar sp) (hj : k ≤ j) : Known G n j ar sp := by
  obtain ⟨f, fd, ps, e, F, r⟩ := h
  exact ⟨f, fd, ps, e, ⟨F.len, fun A outer s H args us vs Q E hr => F.run A outer s H args us vs Q E (hr.mono hj)⟩, r⟩
/-- a module's constant -/
def GlobOk (G : GC) (n : Str) (x : D) : Prop := ∃ v u, G.mg n = some u ∧ RelV v u ∧ Rp G.K (fun _ => none) v x
end DV
set_option Elab.async false
set_option linter.all false
set_option maxRecDepth 100000
set_option maxHeartbeats 4000000
/-! Dv4: a small syntax of our own, what it means over data, and the look that it is a given piece of the text. -/
namespace DV
open PySem PySem.Spec PyProof.Rows L2
def okx : Expr → Bool
  | .Starred .. => false | .Set .. => false | .Slice .. => false | .NamedExpr .. => false | _ => true
def noSetX : Expr → Bool
  | .Set .. => false
  | _ => true
/-- tests of any value that is no test by itself -/
def plainT : Expr → Bool
  | .BoolOp .. => false | .UnaryOp .Not _ _ => false | .IfExp .. => false | .Compare .. => false | _ => true
structure Ck where
  N : List Str
  sc : Scope
  fnl : Option (List (Str × NameKind))
  bn : List Str
  lev : Nat
def Ck.fnOk (c : Ck) (x : Str) : Bool := match c.fnl with
  | none => true
  | some ns => match ns.lookup x with
    | some .cell => true
    | _ => false
structure CkOk (X : Cx) (c : Ck) (L : Addr) : Prop where
  N : X.N = c.N
  nd : X.N.Nodup
  sc : X.env.scope = c.sc
  calm : X.calm = true
  room : Room c.lev X.A
  guards : X.A.guards = some []
  bn : ∀ x ∈ c.bn, X.mg x = none
  fn : ∀ x, c.fnOk x = true → X.fn x = true
  st : ∃ E0 outer, X.stack = E0 :: outer ∧ E0.frame = some L
  fr : X.env.frame = some L
/-! ### pieces put in by their rules -/
inductive AllPE (X : Cx) : List Expr → List TE → Prop
  | nil : AllPE X [] []
  | cons {e : Expr} {es : List Expr} {t : TE} {ts : List TE} : okx e = true → PE X e t → AllPE X es ts → AllPE X (e :: es) (t :: ts)
def tAll : List TE → TA
  | [] => tNil
  | t :: ts => tCons t (tAll ts)
/-- a value made of values -/
structure PlugV where
  txt : Ck → Expr → Option (List Expr)
  op : List D → OS
  form : ∀ c ex es, txt c ex = some es → plainT ex = true ∧ noSetX ex = true
  ok : ∀ (X : Cx) (c : Ck) (L : Addr), CkOk X c L → ∀ ex es ts, txt c ex = some es → AllPE X es ts → PE X ex (tCB (rO X.K op) (tAll ts))
def ItGood (K : PySem.W.Frag) (vs : List V) (ds items : List D) (J : It) : Prop := ∀ I H, Sub I H → VwAll K I H vs ds → ∀ i : Nat,
  (∀ d, items[i]? = some d → J.go i H ∧ ∀ x H', J.yld i H x H' → ∃ I', Ex I H I' H' ∧ Rp K I' x d) ∧ (items.length = i → J.stop i H)
def tIt (K : PySem.W.Frag) (iop : List D → List D → Prop) (ta : TA) : TI := fun σ H R => ta σ H fun vs H1 => ∃ I ds items, Sub I H1 ∧ VwAll K I H1 vs ds ∧ iop ds items ∧ ∀ J, ItGood K vs ds items J → R J H1
/-- what is walked, made of values -/
structure PlugI where
  txt : Ck → Expr → Expr → Option (List Expr)
  iop : List D → List D → Prop
  ok : ∀ (X : Cx) (c : Ck) (L : Addr), CkOk X c L → ∀ tg ex es ts, txt c tg ex = some es → AllPE X es ts → PI X tg ex (tIt X.K iop (tAll ts)) ∧ ∀ x, foldedSetIterable ex X.env x = pure x
/-- a method that changes nothing -/
structure PlugM where
  T : String
  name : Str
  id : String
  hT : T ≠ "bool" ∧ T ≠ "NoneType"
  pa : PlainAttrs T
  slot : Slot T name id
  hty : typeOf (.builtin id) = pure (.type "method_descriptor")
  op : List D → OS
  ok : ∀ (X : Cx) (c : Ck) (L : Addr), CkOk X c L → MtR X id (fun x xs H Q => rO X.K op (x :: xs) H Q)
/-! ### operations -/
inductive Op
  | add | sub | mul | fdiv | mod | pow | neg
  | eq | ne | lt | le | gt | ge | isN | notN | in_ | notin
  | len | sum | max1 | min1 | max2 | min2 | abs | all | any | tupOf | lstOf | strOf | repr | intOf | ix
def Op.f : Op → List D → OS
  | .add => f2 sAdd | .sub => f2 sSub | .mul => f2 sMul | .fdiv => f2 sFdiv | .mod => f2 sMod | .pow => f2 sPow | .neg => f1 sNeg
  | .eq => f2 (sEq false) | .ne => f2 (sEq true) | .lt => f2 sLt | .le => f2 sLe | .gt => f2 sGt | .ge => f2 sGe | .isN => f2 (sIsN false) | .notN => f2 (sIsN true) | .in_ => f2 (sIn false) | .notin => f2 (sIn true)
  | .len => f1 sLen | .sum => f1 sSum | .max1 => f1 sMax1 | .min1 => f1 sMin1 | .max2 => f2 sMax2 | .min2 => f2 sMin2 | .abs => f1 sAbs | .all => f1 sAll | .any => f1 sAny
  | .tupOf => f1 sTup | .lstOf => f1 sLst | .strOf => f1 sStr | .repr => f1 sRepr | .intOf => f1 sInt | .ix => f2 sIx
inductive Shape
  | bin (o : Operator) | cmp (o : CmpOp) | un (o : UnaryOp) | fn (x : Str) (id : String) | ty (x : Str) (T : String) | ix
def Op.shape : Op → Shape
  | .add => .bin .Add | .sub => .bin .Sub | .mul => .bin .Mult | .fdiv => .bin .FloorDiv | .mod => .bin .Mod | .pow => .bin .Pow | .neg => .un .USub
  | .eq => .cmp .Eq | .ne => .cmp .NotEq | .lt => .cmp .Lt | .le => .cmp .LtE | .gt => .cmp .Gt | .ge => .cmp .GtE | .isN => .cmp .Is | .notN => .cmp .IsNot | .in_ => .cmp .In | .notin => .cmp .NotIn
  | .len => .fn "len" "len" | .sum => .fn "sum" "sum" | .max1 => .fn "max" "max" | .min1 => .fn "min" "min" | .max2 => .fn "max" "max" | .min2 => .fn "min" "min" | .abs => .fn "abs" "abs" | .all => .fn "all" "all" | .any => .fn "any" "any"
  | .tupOf => .ty "tuple" "tuple" | .lstOf => .ty "list" "list" | .strOf => .ty "str" "str" | .repr => .fn "repr" "repr" | .intOf => .ty "int" "int" | .ix => .ix
/-- methods that change a list -/
inductive Mut | append | pop0 | popAt
def Mut.name : Mut → Str
  | .append => "append" | .pop0 => "pop" | .popAt => "pop"

/-! ### the syntax -/
inductive Tg
  | nm (i : Nat) | nil | cons (a r : Tg) | tp (l : Tg)
inductive E
  | var (i : Nat)
  | lit (d : D)
  | glob (n : Str) (x : D)
  | op1 (o : Op) (a : E)
  | op2 (o : Op) (own : Bool) (a b : E)
  | fn (o : Op) (own : Bool) (a : E)
  | nil | cons (a r : E)
  | and (a b : E) | or (a b : E) | not (a : E) | ite (c a b : E)
  | chain (o p : Op) (a b c : E)
  | isi (t : Ty) (a : E)
  | call (n : Str) (k ar : Nat) (sp : DSp) (a : E)
  | tupd (a : E) | lstd (own : Bool) (a : E)
  | slc (own : Bool) (x lo hi : E)
  | lc (own : Bool) (tg : Tg) (it c e : E) (sl : List (Str × Nat))
  | mth (o : Mut) (r a : E)
  | rng (two : Bool) (a : E)
  | plug (p : PlugV) (own : Bool) (a : E)
  | plugI (p : PlugI) (a : E)
  | meth (p : PlugM) (own : Bool) (r a : E)

/-! ### what it means -/
def view1 (μ : Store) : SV → Option D
  | .d x => some x
  | .loc k => match μ[k]? with
    | some (.lst xs) => some (.list xs)
    | some (.dic kvs) => some (.dict kvs)
    | some (.frz x) => some x
    | _ => none
  | .fn _ => none
def viewK (μ : Store) : List SV → (List D → Prop) → Prop
  | [], P => P []
  | x :: r, P => match view1 μ x with
    | some d => viewK μ r fun ds => P (d :: ds)
    | none => False
def viewL (μ : Store) : List SV → Option (List D)
  | [] => some []
  | x :: r => match view1 μ x, viewL μ r with
    | some d, some ds => some (d :: ds)
    | _, _ => none
def frzK : SV → Store → (D → Store → Prop) → Prop
  | .d x, μ, P => P x μ
  | .loc k, μ, P => match μ[k]? with
    | some (.lst xs) => P (.list xs) (μ.set k (.frz (.list xs)))
    | some (.dic kvs) => P (.dict kvs) (μ.set k (.frz (.dict kvs)))
    | some (.frz x) => P x μ
    | _ => False
  | .fn _, _, _ => False
def frzL : List SV → Store → (List D → Store → Prop) → Prop
  | [], μ, P => P [] μ
  | x :: r, μ, P => frzK x μ fun d μ1 => frzL r μ1 fun ds μ2 => P (d :: ds) μ2
/-- a result becomes a value: its own thing, or data -/
def resK (own : Bool) (μ : Store) (P : SV → Store → Prop) (fresh : Bool) (r : D) : Prop :=
  match own with
  | true => fresh = true ∧ match r with
    | .list xs => P (.loc μ.length) (μ ++ [.lst xs])
    | _ => False
  | false => P (.d r) μ
def truthK (x : SV) (μ : Store) (P : Bool → Store → Prop) : Prop := match x with
  | .d (.bool b) => P b μ
  | _ => False
def signs (z : Str) : List D := z.cps.toList.map fun c => PyData.str ⟨#[c]⟩
def iterK (x : SV) (μ : Store) (P : List D → (Store → Prop) → Store → Prop) : Prop := match x with
  | .d (.list ds) => P ds (fun _ => True) μ
  | .d (.tuple ds) => P ds (fun _ => True) μ
  | .loc k => match μ[k]? with
    | some (.lst ds) => P ds (fun μ' => μ'[k]? = some (.lst ds)) μ
    | some (.frz (.list ds)) => P ds (fun _ => True) μ
    | _ => False
  | _ => False
structure TgS where
  v : SV → DEnv → (DEnv → Prop) → Prop
  l : List D → DEnv → (DEnv → Prop) → Prop
def bindT : Tg → TgS
  | .nm i => ⟨fun x env P => P (env.set i (some x)), fun _ _ _ => False⟩
  | .nil => ⟨fun _ _ _ => False, fun ds env P => match ds with
    | [] => P env
    | _ => False⟩
  | .cons a r => ⟨fun _ _ _ => False, fun ds env P => match ds with
    | d :: ds => (bindT a).v (.d d) env fun env1 => (bindT r).l ds env1 P
    | [] => False⟩
  | .tp l => ⟨fun x env P => match x with
    | .d (.tuple ds) => (bindT l).l ds env P
    | _ => False, fun _ _ _ => False⟩
def wipeE (env : DEnv) : List Nat → DEnv
  | [] => env
  | v :: vs => (wipeE env vs).set v none
def lcGo (bd : SV → DEnv → (DEnv → Prop) → Prop) (c : DEnv → Store → (Bool → Store → Prop) → Prop) (e : DEnv → Store → (SV → Store → Prop) → Prop) (env0 : DEnv) (g : Store → Prop) (fin : List D → Store → Prop) : List D → List D → Store → Prop
  | [], acc, μ => g μ ∧ fin acc μ
  | x :: xs, acc, μ => g μ ∧ bd (.d x) env0 fun env1 => c env1 μ fun b μ2 =>
      if b = true then e env1 μ2 fun y μ3 => frzK y μ3 fun d μ4 => acc.length < sizeLine ∧ lcGo bd c e env0 g fin xs (acc ++ [d]) μ4
      else lcGo bd c e env0 g fin xs acc μ2
structure Sm where
  v : DEnv → Store → (SV → Store → Prop) → Prop
  l : DEnv → Store → (List SV → Store → Prop) → Prop
  t : DEnv → Store → (Bool → Store → Prop) → Prop
  i : DEnv → Store → (List D → (Store → Prop) → Store → Prop) → Prop
  o : DEnv → Store → (Option Int → Store → Prop) → Prop
def tOf (v : DEnv → Store → (SV → Store → Prop) → Prop) : DEnv → Store → (Bool → Store → Prop) → Prop := fun env μ P => v env μ fun x μ1 => truthK x μ1 P
def mkV (v : DEnv → Store → (SV → Store → Prop) → Prop) : Sm := ⟨v, fun _ _ _ => False, tOf v, fun env μ P => v env μ fun x μ1 => iterK x μ1 P,
  fun env μ P => v env μ fun x μ1 => match x with
    | .d (.int i) => P (some i) μ1
    | _ => False⟩
def intK (y : SV) (P : Int → Prop) : Prop := match y with
  | .d (.int i) => P i
  | _ => False
def lstK (o : Option MO) (P : List D → Prop) : Prop := match o with
  | some (.lst xs) => P xs
  | _ => False
theorem intK_inv {y : SV} {P : Int → Prop} (h : intK y P) : ∃ i, y = .d (.int i) ∧ P i := by
  unfold intK at h
  split at h
  · exact ⟨_, rfl, h⟩
  · exact h.elim
theorem lstK_inv {y : Option MO} {P : List D → Prop} (h : lstK y P) : ∃ xs, y = some (.lst xs) ∧ P xs := by
  unfold lstK at h
  split at h
  · exact ⟨_, rfl, h⟩
  · exact h.elim
def mutK (o : Mut) (k : Nat) (a : List SV) (μ : Store) (P : SV → Store → Prop) : Prop :=
  match o, a with
  | .append, [y] => frzK y μ fun d μ1 => lstK μ1[k]? fun xs => xs.length < sizeLine ∧ P (.d .none) (μ1.set k (.lst (xs ++ [d])))
  | .pop0, [] => lstK μ[k]? fun xs => ∃ y, xs[xs.length - 1]? = some y ∧ P (.d y) (μ.set k (.lst xs.dropLast))
  | .popAt, [y] => intK y fun i => lstK μ[k]? fun xs => ∃ j z, -(2 ^ 63) ≤ i ∧ i < 2 ^ 63 ∧ seqIndex? i xs.length = some j ∧ xs[j]? = some z ∧ P (.d z) (μ.set k (.lst (xs.eraseIdx j)))
  | _, _ => False
def rangeD (lo : Int) (n : Nat) : List D := (List.range n).map fun (i : Nat) => PyData.int (lo + i)
def varK (env : DEnv) (i : Nat) (μ : Store) (P : SV → Store → Prop) : Prop := match env[i]? with
  | some (some x) => P x μ
  | _ => False
def andK (x : SV) (μ : Store) (P : SV → Store → Prop) (b : Prop) : Prop := match x with
  | .d (.bool true) => b
  | .d (.bool false) => P (.d (.bool false)) μ
  | _ => False
def orK (x : SV) (μ : Store) (P : SV → Store → Prop) (b : Prop) : Prop := match x with
  | .d (.bool true) => P (.d (.bool true)) μ
  | .d (.bool false) => b
  | _ => False
def notK (x : SV) (μ : Store) (P : SV → Store → Prop) : Prop := match x with
  | .d (.bool c) => P (.d (.bool (!c))) μ
  | _ => False
def chainK (r : D) (μ : Store) (P : SV → Store → Prop) (b : Prop) : Prop := match r with
  | .bool true => b
  | .bool false => P (.d (.bool false)) μ
  | _ => False
def oneK (ds : List D) (P : D → Prop) : Prop := match ds with
  | [d] => P d
  | _ => False
def locK (x : SV) (P : Nat → Prop) : Prop := match x with
  | .loc k => P k
  | _ => False
def rngK (two : Bool) (xs : List SV) (μ : Store) (P : List D → (Store → Prop) → Store → Prop) : Prop := match two, xs with
  | false, [.d (.int j)] => -(2 ^ 62) ≤ j ∧ j < 2 ^ 62 ∧ P (rangeD 0 j.toNat) (fun _ => True) μ
  | true, [.d (.int i), .d (.int j)] => (-(2 ^ 62) ≤ i ∧ i < 2 ^ 62 ∧ -(2 ^ 62) ≤ j ∧ j < 2 ^ 62) ∧ P (rangeD i (j - i).toNat) (fun _ => True) μ
  | _, _ => False
def tyK (T : String) : Option D → Prop
  | some d => tyD d = T
  | none => False
def sem (W : Exn → DEnv → Store → Prop) : E → Sm
  | .var i => mkV fun env μ P => varK env i μ P
  | .lit d => mkV fun _ μ P => P (.d d) μ
  | .glob _ x => mkV fun _ μ P => P (.d x) μ
  | .op1 o a => mkV fun env μ P => (sem W a).v env μ fun x μ1 => viewK μ1 [x] fun ds => o.f ds (resK false μ1 P)
  | .op2 o own a b => mkV fun env μ P => (sem W a).v env μ fun x μ1 => (sem W b).v env μ1 fun y μ2 => viewK μ2 [x, y] fun ds => o.f ds (resK own μ2 P)
  | .fn o own a => mkV fun env μ P => (sem W a).l env μ fun xs μ1 => viewK μ1 xs fun ds => o.f ds (resK own μ1 P)
  | .nil => ⟨fun _ _ _ => False, fun _ μ P => P [] μ, fun _ μ P => P true μ, fun _ _ _ => False, fun _ μ P => P none μ⟩
  | .cons a r => ⟨fun _ _ _ => False, fun env μ P => (sem W a).v env μ fun x μ1 => (sem W r).l env μ1 fun xs μ2 => P (x :: xs) μ2, fun _ _ _ => False, fun _ _ _ => False, fun _ _ _ => False⟩
  | .and a b => { mkV (fun env μ P => (sem W a).v env μ fun x μ1 => andK x μ1 P ((sem W b).v env μ1 P)) with t := fun env μ P => (sem W a).t env μ fun c μ1 => if c = true then (sem W b).t env μ1 P else P false μ1 }
  | .or a b => { mkV (fun env μ P => (sem W a).v env μ fun x μ1 => orK x μ1 P ((sem W b).v env μ1 P)) with t := fun env μ P => (sem W a).t env μ fun c μ1 => if c = true then P true μ1 else (sem W b).t env μ1 P }
  | .not a => { mkV (fun env μ P => (sem W a).v env μ fun x μ1 => notK x μ1 P) with t := fun env μ P => (sem W a).t env μ fun c μ1 => P (!c) μ1 }
  | .ite c a b => { mkV (fun env μ P => (sem W c).t env μ fun k μ1 => if k = true then (sem W a).v env μ1 P else (sem W b).v env μ1 P) with t := fun _ _ _ => False }
  | .chain o p a b c => mkV fun env μ P => (sem W a).v env μ fun x μ1 => (sem W b).v env μ1 fun y μ2 => viewK μ2 [x, y] fun ds => o.f ds fun _ r => chainK r μ2 P ((sem W c).v env μ2 fun z μ3 => viewK μ3 [y, z] fun es => p.f es (resK false μ3 P))
  | .isi t a => mkV fun env μ P => (sem W a).v env μ fun x μ1 => viewK μ1 [x] fun ds => oneK ds fun d => P (.d (.bool (isTy t d))) μ1
  | .call _ _ ar sp a => mkV fun env μ P => (sem W a).l env μ fun xs μ1 => xs.length = ar ∧ sp xs μ1 P fun x μ2 => W x env μ2
  | .tupd a => mkV fun env μ P => (sem W a).l env μ fun xs μ1 => frzL xs μ1 fun ds μ2 => ds.length ≤ sizeLine ∧ P (.d (.tuple ds)) μ2
  | .lstd own a => mkV fun env μ P => (sem W a).l env μ fun xs μ1 => frzL xs μ1 fun ds μ2 => ds.length ≤ sizeLine ∧ resK own μ2 P true (.list ds)
  | .slc own x lo hi => mkV fun env μ P => (sem W x).v env μ fun y μ1 => (sem W lo).o env μ1 fun l μ2 => (sem W hi).o env μ2 fun h μ3 => viewK μ3 [y] fun ds => oneK ds fun d => sSl d l h (resK own μ3 P)
  | .lc own tg it c e sl => mkV fun env μ P => (sem W it).i env μ fun ds g μ1 =>
      lcGo (bindT tg).v (sem (fun x _ μ => W x env μ) c).t (sem (fun x _ μ => W x env μ) e).v (wipeE env (sl.map (·.2))) g (fun acc μ' => resK own μ' P true (.list acc)) ds [] μ1
  | .mth o r a => mkV fun env μ P => (sem W r).v env μ fun x μ1 => locK x fun k => (∃ xs, μ1[k]? = some (.lst xs)) ∧ (sem W a).l env μ1 fun ys μ2 => mutK o k ys μ2 P
  | .rng two a => ⟨fun _ _ _ => False, fun _ _ _ => False, fun _ _ _ => False, fun env μ P => (sem W a).l env μ fun xs μ1 => rngK two xs μ1 P, fun _ _ _ => False⟩
  | .plug p own a => mkV fun env μ P => (sem W a).l env μ fun xs μ1 => viewK μ1 xs fun ds => p.op ds (resK own μ1 P)
  | .meth p own r a => mkV fun env μ P => (sem W r).v env μ fun x μ1 => tyK p.T (view1 μ1 x) ∧ (sem W a).l env μ1 fun ys μ2 => viewK μ2 (x :: ys) fun ds => p.op ds (resK own μ2 P)
  | .plugI p a => ⟨fun _ _ _ => False, fun _ _ _ => False, fun _ _ _ => False, fun env μ P => (sem W a).l env μ fun xs μ1 => viewK μ1 xs fun ds => ∃ items, p.iop ds items ∧ P items (fun μ' => viewL μ' xs = some ds) μ1, fun _ _ _ => False⟩

/-! ### the look -/
def visK (sc : Scope) (x : Str) : Bool := match sc.names.lookup x with
  | some .local => true | some .cell => true | some .free => true | _ => false
def gloK (sc : Scope) (x : Str) : Bool := match sc.names.lookup x with
  | some .globalImplicit => true | _ => false
def Ck.name (c : Ck) (i : Nat) (x : Str) : Bool := (match c.N[i]? with
  | some y => y == x
  | none => false) && (visK c.sc x && (!(x == ("__debug__" : Str)) && !(x == ("__classdict__" : Str))))
/-- a name that may be stored -/
def Ck.store (c : Ck) (i : Nat) (x : Str) : Bool := (match c.N[i]? with
  | some y => y == x
  | none => false) && (match c.sc.names.lookup x with
  | some .local => true
  | some .cell => c.fnOk x
  | _ => false)
def Ck.glo (c : Ck) (x : Str) : Bool := gloK c.sc x && !(x == ("__debug__" : Str))
def Ck.blt (c : Ck) (x : Str) : Bool := c.glo x && (!(x == ("__name__" : Str)) && c.bn.contains x)
inductive Sx
  | e (x : Expr) | l (xs : List Expr) | o (x : Option Expr) | i (tg x : Expr)
def plain (f : Expr → Bool) : Sx → Bool
  | .e x => f x
  | .i _ x => f x
  | .o (some x) => f x
  | _ => false
def litK : D → Const → Bool
  | .none, .none => true
  | .bool b, .bool c => b == c
  | .int i, .int j => i == j
  | .str x, .str y => x == y
  | _, _ => false
/-- a method's receiver -/
def okRecv : Expr → Bool
  | .Call (.Name ..) [] [] _ => false
  | _ => true
inductive TgX | e (x : Expr) | l (xs : List Expr)
def chkT : Tg → Ck → TgX → Bool
  | .nm i, c, .e (.Name x _) => c.store i x
  | .nil, _, .l [] => true
  | .cons a r, c, .l (x :: xs) => chkT a c (.e x) && chkT r c (.l xs)
  | .tp l, c, .e (.Tuple es _ _) => (es.all okx && !es.isEmpty) && chkT l c (.l es)
  | _, _, _ => false
def Tg.slots : Tg → List Nat
  | .nm i => [i] | .nil => [] | .cons a r => a.slots ++ r.slots | .tp l => l.slots
def rngA (two : Bool) (es : List Expr) : Bool := match two, es with
  | false, [_] => true
  | true, [_, _] => true
  | _, _ => false
def blkB (sc : Scope) (scope : Scope) : Scope := relS scope sc
def chk : E → Ck → Sx → Bool
  | .var i, c, s => plain (fun ex => match ex with
    | .Name x _ => c.name i x
    | _ => false) s
  | .lit d, _, s => plain (fun ex => match ex with
    | .Constant k _ _ => litK d k
    | _ => false) s
  | .glob n _, c, s => plain (fun ex => match ex with
    | .Name x _ => x == n && c.glo n
    | _ => false) s
  | .op1 o a, c, s => plain (fun ex => match o.shape, ex with
    | .un u, .UnaryOp v x _ => decide (v = u) && (okx x && chk a c (.e x))
    | _, _ => false) s
  | .op2 o _ a b, c, s => plain (fun ex => match o.shape, ex with
    | .bin u, .BinOp x v y _ => decide (v = u) && (okx x && (okx y && (chk a c (.e x) && chk b c (.e y))))
    | .cmp u, .Compare x [v] [y] _ => decide (v = u) && (okx x && (okx y && (chk a c (.e x) && chk b c (.e y))))
    | .ix, .Subscript x y _ => okx x && (okx y && (chk a c (.e x) && chk b c (.e y)))
    | _, _ => false) s
  | .fn o _ a, c, s => plain (fun ex => match o.shape, ex with
    | .fn f _, .Call (.Name x _) (e :: es) [] _ => x == f && (c.blt f && chk a c (.l (e :: es)))
    | .ty f _, .Call (.Name x _) (e :: es) [] _ => x == f && (c.blt f && chk a c (.l (e :: es)))
    | _, _ => false) s
  | .nil, _, .l [] => true
  | .nil, _, .o none => true
  | .nil, _, _ => false
  | .cons a r, c, .l (x :: xs) => okx x && (chk a c (.e x) && chk r c (.l xs))
  | .cons _ _, _, _ => false
  | .and a b, c, s => plain (fun ex => match ex with
    | .BoolOp .And [x, y] _ => chk a c (.e x) && chk b c (.e y)
    | .BoolOp .And (x :: y :: z :: r) p => chk a c (.e x) && chk b c (.e (.BoolOp .And (y :: z :: r) p))
    | _ => false) s
  | .or a b, c, s => plain (fun ex => match ex with
    | .BoolOp .Or [x, y] _ => chk a c (.e x) && chk b c (.e y)
    | .BoolOp .Or (x :: y :: z :: r) p => chk a c (.e x) && chk b c (.e (.BoolOp .Or (y :: z :: r) p))
    | _ => false) s
  | .not a, c, s => plain (fun ex => match ex with
    | .UnaryOp .Not x _ => chk a c (.e x)
    | _ => false) s
  | .ite k a b, c, s => plain (fun ex => match ex with
    | .IfExp x y z _ => chk k c (.e x) && (chk a c (.e y) && chk b c (.e z))
    | _ => false) s
  | .chain o p a b k, c, s => plain (fun ex => match o.shape, p.shape, ex with
    | .cmp u, .cmp v, .Compare x [u', v'] [y, z] _ => decide (u' = u) && (decide (v' = v) && (okx z && (chk a c (.e x) && (chk b c (.e y) && chk k c (.e z)))))
    | _, _, _ => false) s
  | .isi t a, c, s => plain (fun ex => match ex with
    | .Call (.Name x _) [e, .Name y _] [] _ => x == ("isinstance" : Str) && (c.blt "isinstance" && (y == PySem.Str.ofString t.n && (c.blt (PySem.Str.ofString t.n) && (okx e && chk a c (.e e)))))
    | _ => false) s
  | .call n k ar _ a, c, s => plain (fun ex => match ex with
    | .Call (.Name x _) es [] _ => x == n && (c.glo n && (decide (k ≤ c.lev) && chk a c (.l es)))
    | _ => false) s
  | .tupd a, c, s => plain (fun ex => match ex with
    | .Tuple es _ _ => chk a c (.l es)
    | _ => false) s
  | .lstd _ a, c, s => plain (fun ex => match ex with
    | .List es _ => chk a c (.l es)
    | _ => false) s
  | .slc _ a l h, c, s => plain (fun ex => match ex with
    | .Subscript x (.Slice lo hi none _) _ => chk a c (.e x) && (chk l c (.o lo) && chk h c (.o hi))
    | _ => false) s
  | .lc _ tg it k e sl, c, s => plain (fun ex => match ex with
    | .ListComp elt [⟨t, iter, ifs, 0⟩] scope _ => blkC c.N c.sc scope sl && (chk it c (.i t iter) && (chkT tg { c with sc := relS scope c.sc, fnl := some scope.names } (.e t) && (tg.slots.all (fun i => (sl.map (·.2)).contains i) &&
        ((match ifs with
          | [] => (match k with
            | .nil => true
            | _ => false)
          | [f] => (match k with
            | .nil => false
            | _ => chk k { c with sc := relS scope c.sc, fnl := some scope.names } (.e f))
          | _ => false) && chk e { c with sc := relS scope c.sc, fnl := some scope.names } (.e elt)))))
    | _ => false) s
  | .mth o r a, c, s => plain (fun ex => match ex with
    | .Call (.Attribute x m ap) es [] cp => m == o.name && (okRecv x && ((ap.endLine == cp.line) && (decide (es.length < 20) && (chk r c (.e x) && chk a c (.l es)))))
    | _ => false) s
  | .rng two a, c, .i _ (.Call (.Name x _) es [] _) => x == ("range" : Str) && (c.blt "range" && (rngA two es && chk a c (.l es)))
  | .rng _ _, _, _ => false
  | .plug p _ a, c, s => plain (fun ex => match p.txt c ex with
    | some es => chk a c (.l es)
    | none => false) s
  | .meth p _ r a, c, s => plain (fun ex => match ex with
    | .Call (.Attribute x m ap) es [] cp => m == p.name && (okRecv x && ((ap.endLine == cp.line) && (decide (es.length < 20) && (chk r c (.e x) && chk a c (.l es)))))
    | _ => false) s
  | .plugI p a, c, .i tg ex => (match p.txt c tg ex with
    | some es => chk a c (.l es)
    | none => false)
  | .plugI _ _, _, _ => false
/-- what a piece leans on -/
def nd (G : GC) : E → Prop
  | .var _ => True | .lit _ => True
  | .glob n x => GlobOk G n x
  | .op1 _ a => nd G a
  | .op2 _ _ a b => nd G a ∧ nd G b
  | .fn _ _ a => nd G a
  | .nil => True
  | .cons a r => nd G a ∧ nd G r
  | .and a b => nd G a ∧ nd G b
  | .or a b => nd G a ∧ nd G b
  | .not a => nd G a
  | .ite c a b => nd G c ∧ nd G a ∧ nd G b
  | .chain _ _ a b c => nd G a ∧ nd G b ∧ nd G c
  | .isi _ a => nd G a
  | .call n k ar sp a => Known G n k ar sp ∧ nd G a
  | .tupd a => nd G a
  | .lstd _ a => nd G a
  | .slc _ x l h => nd G x ∧ nd G l ∧ nd G h
  | .lc _ _ it c e _ => nd G it ∧ nd G c ∧ nd G e
  | .mth _ r a => nd G r ∧ nd G a
  | .rng _ a => nd G a
  | .plug _ _ a => nd G a
  | .plugI _ a => nd G a
  | .meth _ _ r a => nd G r ∧ nd G a
end DV
set_option Elab.async false
set_option linter.all false
set_option maxRecDepth 100000
set_option maxHeartbeats 4000000
/-! Dv5: what the small syntax means is what the machine does (expressions). -/
namespace DV
open PySem PySem.Spec PyProof.Rows L2
theorem pe_wk {X : Cx} {ex : Expr} {t t' : TE} (h : PE X ex t) (k : ∀ σ H Q, t' σ H Q → t σ H Q) : PE X ex t' := ⟨fun pins s σ H Q I q => h.run pins s σ H Q I (k _ _ _ q)⟩
theorem pt_wk {X : Cx} {ex : Expr} {t t' : TT} (h : PT X ex t) (k : ∀ σ H Q, t' σ H Q → t σ H Q) : PT X ex t' := ⟨fun pins s σ H Q I q => h.run pins s σ H Q I (k _ _ _ q)⟩
theorem pw_wk {X : Cx} {ex : Expr} {t t' : TT} (h : PW X ex t) (k : ∀ σ H Q, t' σ H Q → t σ H Q) : PW X ex t' := ⟨fun wh pins s σ H Q I q => h.run wh pins s σ H Q I (k _ _ _ q)⟩
theorem pa_wk {X : Cx} {es : List Expr} {t t' : TA} (h : PA X es t) (k : ∀ σ H Q, t' σ H Q → t σ H Q) : PA X es t' := ⟨fun pos pins s σ H Q I q => h.run pos pins s σ H Q I (k _ _ _ q)⟩
theorem po_wk {X : Cx} {e : Option Expr} {t t' : TO} (h : PO X e t) (k : ∀ σ H Q, t' σ H Q → t σ H Q) : PO X e t' := ⟨fun pins s σ H Q I q => h.run pins s σ H Q I (k _ _ _ q)⟩
theorem pi_wk {X : Cx} {tg e : Expr} {t t' : TI} (h : PI X tg e t) (k : ∀ σ H Q, t' σ H Q → t σ H Q) : PI X tg e t' := ⟨fun pins s σ H Q I q => h.run pins s σ H Q I (k _ _ _ q)⟩
section
variable (G : GC) (w0 : Wl)
/-- an exception as data -/
def wD (W : Exn → DEnv → Store → Prop) : WX := fun cls d σ H => ∃ w env μ x, w.H = H ∧ Gr w0 w ∧ RpH G w μ ∧ RpE G w σ env ∧ RpX G w x cls d ∧ W x env μ
def tV (m : DEnv → Store → (SV → Store → Prop) → Prop) : TE := fun σ H Q => ∃ w env μ P, w.H = H ∧ Gr w0 w ∧ RpH G w μ ∧ RpE G w σ env ∧ m env μ P ∧
  ∀ w' v x μ', Gr w w' → RpH G w' μ' → RpS G w' x v → P x μ' → Q v w'.H
def tL (m : DEnv → Store → (List SV → Store → Prop) → Prop) : TA := fun σ H Q => ∃ w env μ P, w.H = H ∧ Gr w0 w ∧ RpH G w μ ∧ RpE G w σ env ∧ m env μ P ∧
  ∀ w' v x μ', Gr w w' → RpH G w' μ' → RpSs G w' x v → P x μ' → Q v w'.H
def tT (m : DEnv → Store → (Bool → Store → Prop) → Prop) : TT := fun σ H Q => ∃ w env μ P, w.H = H ∧ Gr w0 w ∧ RpH G w μ ∧ RpE G w σ env ∧ m env μ P ∧
  ∀ w' (b : Bool) μ', Gr w w' → RpH G w' μ' → P b μ' → Q b w'.H
def tO (m : DEnv → Store → (Option Int → Store → Prop) → Prop) : TO := fun σ H Q => ∃ w env μ P, w.H = H ∧ Gr w0 w ∧ RpH G w μ ∧ RpE G w σ env ∧ m env μ P ∧
  ∀ w' (b : Option Int) μ', Gr w w' → RpH G w' μ' → P b μ' → Q b w'.H
/-- an iterator gives these items, while the guard holds -/
def ItOk (w1 : Wl) (J : It) (ds : List D) (g : Store → Prop) : Prop := ∀ w μ, Gr w1 w → RpH G w μ → g μ → ∀ i : Nat,
  (∀ d, ds[i]? = some d → J.go i w.H ∧ ∀ x H', J.yld i w.H x H' → ∃ I', Ex w.I w.H I' H' ∧ Rp G.K I' x d) ∧ (ds.length = i → J.stop i w.H)
def tI (m : DEnv → Store → (List D → (Store → Prop) → Store → Prop) → Prop) : TI := fun σ H R => ∃ w env μ P, w.H = H ∧ Gr w0 w ∧ RpH G w μ ∧ RpE G w σ env ∧ m env μ P ∧
  ∀ w' ds g μ' J, Gr w w' → RpH G w' μ' → P ds g μ' → ItOk G w' J ds g → R J w'.H
end
structure Snd1 (X : Cx) (c : Ck) (W : Exn → DEnv → Store → Prop) (w0 : Wl) (e : E) : Prop where
  v : ∀ ex, chk e c (.e ex) = true → PE X ex (tV (gcOf X) w0 (sem W e).v)
  t : ∀ ex, chk e c (.e ex) = true → PT X ex (tT (gcOf X) w0 (sem W e).t)
  w : ∀ op vs p, chk e c (.e (.BoolOp op vs p)) = true → PW X (.BoolOp op vs p) (tT (gcOf X) w0 (sem W e).t)
  l : ∀ xs, chk e c (.l xs) = true → PA X xs (tL (gcOf X) w0 (sem W e).l)
  o : ∀ x, chk e c (.o x) = true → PO X x (tO (gcOf X) w0 (sem W e).o)
  p : ∀ xs, chk e c (.l xs) = true → ∃ ts, AllPE X xs ts ∧ ∀ σ H Q, tL (gcOf X) w0 (sem W e).l σ H Q → tAll ts σ H Q
  i : ∀ tg ex, chk e c (.i tg ex) = true → PI X tg ex (tI (gcOf X) w0 (sem W e).i) ∧ ∀ x, foldedSetIterable ex X.env x = pure x
def Snd (e : E) : Prop := ∀ (X : Cx) (c : Ck) (L : Addr) (W : Exn → DEnv → Store → Prop) (w0 : Wl), CkOk X c L → nd (gcOf X) e → TakesL X L (wD (gcOf X) w0 W) → Snd1 X c W w0 e

/-! ### small things about the text -/
theorem star_ok {e : Expr} {es : List Expr} {env : Env} (h : okx e = true) : starEach (e :: es) env = (false, eval e env) :: starEach es env := by
  cases e <;> first | rfl | (cases h)
theorem marks_ok {op : CmpOp} {b : Expr} (h : okx b = true) : behindInMarks op b = false := by
  cases b <;> first | rfl | (cases h)
theorem ix_ok {b : Expr} (h : okx b = true) : PlainIx b := fun o i => by
  cases b <;> first | rfl | (cases h)
theorem recv_ok {o : Expr} {name : Str} {env : Env} {w : Sem Value} (h : okRecv o = true) : attributeBase o name env w = w := by
  cases o with
  | Call f as ks p =>
    cases f with
    | Name x q =>
      cases as with
      | nil =>
        cases ks with
        | nil => cases h
        | cons _ _ => rfl
      | cons _ _ => rfl
    | _ => rfl
  | _ => rfl
theorem fold_ok {e : Expr} {env : Env} (h : noSetX e = true) : ∀ x, foldedSetIterable e env x = pure x := fun x => by
  cases e <;> first | rfl | (cases h)
theorem isTrue_ok {e : Expr} {env : Env} (h : plainT e = true) : ∀ whole, isTrue e env whole = (do let v ← whole; standAt e.pos; holding [v] (truthy v)) := fun whole => by
  cases e with
  | UnaryOp u x p => cases u <;> first | rfl | (cases h)
  | _ => first | rfl | (cases h)
theorem any_back {pos : Pos} : ∀ {es : List Expr} {env : Env}, es.all okx = true → (backTo pos (starEach es env)).any (·.1) = false
  | [], _, _ => rfl
  | e :: es, env, h => by
    rw [List.all_cons, Bool.and_eq_true] at h
    rw [star_ok h.1]
    show (false || (backTo pos (starEach es env)).any (·.1)) = false
    rw [any_back h.2] <;> rfl
theorem all_back {pos : Pos} : ∀ {es : List Expr} {env : Env}, es.all okx = true → (backTo pos (starEach es env)).all (fun x => !x.1) = true
  | [], _, _ => rfl
  | e :: es, env, h => by
    rw [List.all_cons, Bool.and_eq_true] at h
    rw [star_ok h.1]
    show (true && (backTo pos (starEach es env)).all (fun x => !x.1)) = true
    rw [all_back h.2] <;> rfl
theorem chk_okx : ∀ {a : E} {c : Ck} {xs : List Expr}, chk a c (.l xs) = true → xs.all okx = true := by
  intro a
  induction a with
  | nil =>
    intro c xs h
    cases xs with
    | nil => rfl
    | cons x xs => exact absurd h (by simp [chk])
  | cons a r _ ih =>
    intro c xs h
    cases xs with
    | nil => exact absurd h (by simp [chk])
    | cons x xs =>
      simp only [chk, Bool.and_eq_true] at h
      rw [List.all_cons, h.1, ih h.2.2] <;> rfl
  | _ => intro c xs h; exact absurd h (by simp [chk, plain])

/-! ### the nodes that are plain values -/
section
variable {X : Cx} {c : Ck} {L : Addr} {W : Exn → DEnv → Store → Prop} {w0 : Wl}
theorem pt_of {ex : Expr} {v : DEnv → Store → (SV → Store → Prop) → Prop} (hv : PT X ex (tTest (tV (gcOf X) w0 v))) : PT X ex (tT (gcOf X) w0 (tOf v)) :=
  pt_wk hv fun σ H Q ⟨w, env, μ, P, eH, g, rh, re, m, k⟩ => ⟨w, env, μ, _, eH, g, rh, re, m, fun w' u x μ' g' rh' rs p => by
    cases rs with
    | d r =>
      cases r with
      | bl b => exact ⟨b, rfl, k w' b μ' g' rh' p⟩
      | _ => exact p.elim
    | loc _ => exact p.elim
    | fn _ => exact p.elim⟩
theorem pt_plain {ex : Expr} {v : DEnv → Store → (SV → Store → Prop) → Prop} (h : plainT ex = true) (hv : PE X ex (tV (gcOf X) w0 v)) : PT X ex (tT (gcOf X) w0 (tOf v)) :=
  pt_of (pt_wk (pt_val hv (isTrue_ok h)) fun σ H Q q => q)
theorem po_of {ex : Expr} {v : DEnv → Store → (SV → Store → Prop) → Prop} (hv : PE X ex (tV (gcOf X) w0 v)) : PO X (some ex) (tO (gcOf X) w0 (mkV v).o) :=
  po_wk (po_some hv) fun σ H Q ⟨w, env, μ, P, eH, g, rh, re, m, k⟩ => ⟨w, env, μ, _, eH, g, rh, re, m, fun w' u x μ' g' rh' rs p => by
    cases rs with
    | d r =>
      cases r with
      | int b => exact ⟨b, rfl, k w' (some b) μ' g' rh' p⟩
      | _ => exact p.elim
    | loc _ => exact p.elim
    | fn _ => exact p.elim⟩
theorem itl_ok {w1 : Wl} {a : Addr} {ds : List D} {g : Store → Prop} (h : ∀ w μ, Gr w1 w → RpH (gcOf X) w μ → g μ → ∃ vs, SqL X.K w.H a vs ∧ RpAll X.K w.I vs ds) : ItOk (gcOf X) w1 (Itl X.K a) ds g := by
  intro w μ g1 rh hg i
  obtain ⟨vs, hs, r⟩ := h w μ g1 rh hg
  refine ⟨fun d e => ?_, fun hl => ⟨vs, hs, by rw [r.length]; exact Nat.le_of_eq hl⟩⟩
  obtain ⟨v, hv, rv⟩ := r.get e
  refine ⟨⟨vs, v, hs, hv⟩, fun x H' ⟨e1, y⟩ => ?_⟩
  subst e1
  have := y vs hs
  rw [hv] at this
  cases this
  exact ⟨w.I, Ex.refl rh.sub, rv⟩
theorem pi_of {tg ex : Expr} {v : DEnv → Store → (SV → Store → Prop) → Prop} (hv : PE X ex (tV (gcOf X) w0 v)) : PI X tg ex (tI (gcOf X) w0 (mkV v).i) := by
  refine ⟨fun pins s σ H R I h => ?_⟩
  obtain ⟨w, env, μ, P, eH, g0, rh, re, m, k⟩ := h
  refine thn (hv.run pins s σ H (fun v H1 => ∃ w1 x μ1, w1.H = H1 ∧ Gr w w1 ∧ RpH (gcOf X) w1 μ1 ∧ RpS (gcOf X) w1 x v ∧ iterK x μ1 P) I ⟨w, env, μ, _, eH, g0, rh, re, m, fun w' v x μ' g r s p => ⟨w', x, μ', rfl, g, r, s, p⟩⟩) fun u s1 ⟨v, H1, I1, rv, w1, x, μ1, eH1, g1, rh1, rx, it⟩ => ?_
  subst eH1
  have fp : ∀ (b : Addr), b ∈ [s1.heap.objs.size] → FpOk X pins w1.H b := fun b hb => by
    have e : b = s1.heap.objs.size := by simpa using hb
    subst e
    exact I1.fpOk (Nat.le_refl _) (I1.hok.fresh (Nat.le_refl _))
  -- a list that is read at a
  have goL : ∀ (a : Addr) (xs : List V) (ds : List D) (gd : Store → Prop), v = .ref a → SqL X.K w1.H a xs → P ds gd μ1 → ItOk (gcOf X) w1 (Itl X.K a) ds gd → wpAny (model X.prog X.w) X.A (pyIter u) (PIE X pins σ tg R) X.xe s1 := fun a xs ds gd ea hq p ok => by
    subst ea
    obtain rfl := rv
    obtain ⟨its, rv', pl, hz⟩ := I1.list hq
    refine wpAny_pyIter_list pl.isList ?_
    exact ⟨s1.heap.objs.size, [s1.heap.objs.size], _, _, w1.H, rfl, I1.kept (t' := s1.toks) fun b o e => Heap.get?_push_of_some _ e, turn_list a _, ⟨_, Heap.get?_push_size _ rfl, rfl, rfl⟩, fp, k w1 ds gd μ1 _ g1 rh1 p ok⟩
  cases rx with
  | @d x' _ r =>
    cases r with
    | lst hl ha =>
      exact goL _ _ _ _ rfl (rh1.sub.sqL hl) it (itl_ok fun w2 μ2 g2 rh2 _ => ⟨_, rh2.sub.sqL (g2.sub.sqL hl), ha.mono g2.sub⟩)
    | tup ht _ ha =>
      obtain rfl := rv
      obtain ⟨its, rv', pl, hz⟩ := I1.tuple (rh1.sub.sqT ht)
      refine wpAny_pyIter_tuple (show s1.heap.IsTuple _ its.toArray from pl) ?_
      refine ⟨s1.heap.objs.size, [s1.heap.objs.size], _, _, w1.H, rfl, I1.kept (t' := s1.toks) fun b o e => Heap.get?_push_of_some _ e, turn_tuple _ _, ⟨_, Heap.get?_push_size _ rfl, rfl, rfl⟩, fp, k w1 _ _ μ1 _ g1 rh1 it ?_⟩
      intro w2 μ2 g2 rh2 _ i
      have hs := rh2.sub.sqT (g2.sub.sqT ht)
      have r := ha.mono g2.sub
      refine ⟨fun d e => ?_, fun hl => ⟨_, hs, by rw [r.length]; exact Nat.le_of_eq hl⟩⟩
      obtain ⟨v, hv, rv⟩ := r.get e
      refine ⟨⟨_, v, hs, hv⟩, fun x H' ⟨e1, y⟩ => ?_⟩
      subst e1
      have := y _ hs
      rw [hv] at this
      cases this
      exact ⟨w2.I, Ex.refl rh2.sub, rv⟩
    | _ => exact it.elim
  | @loc kk a e =>
    have it' : (match μ1[kk]? with
      | some (.lst ds) => P ds (fun μ' => μ'[kk]? = some (.lst ds)) μ1
      | some (.frz (.list ds)) => P ds (fun _ => True) μ1
      | _ => False) := it
    cases q : μ1[kk]? with
    | none => rw [q] at it'; exact it'.elim
    | some o =>
      rw [q] at it'
      obtain ⟨b, eb, rm⟩ := rh1.obj kk o q
      have eab : a = b := Option.some.inj (e.symm.trans eb)
      subst eab
      cases o with
      | lst ds =>
        obtain ⟨n, vs, hv, r⟩ := rm
        refine goL a vs ds _ rfl (SqL.of hv) it' (itl_ok fun w2 μ2 g2 rh2 hg => ?_)
        obtain ⟨b, eb, rm2⟩ := rh2.obj kk _ hg
        have eab : a = b := Option.some.inj ((g2.at e).symm.trans eb)
        subst eab
        obtain ⟨_, vs2, hv2, r2⟩ := rm2
        exact ⟨vs2, SqL.of hv2, r2⟩
      | frz x =>
        obtain ⟨_, rp⟩ := rm
        cases x with
        | list ds =>
          cases rp with
          | lst hl ha => exact goL a _ ds _ rfl (rh1.sub.sqL hl) it' (itl_ok fun w2 μ2 g2 rh2 _ => ⟨_, rh2.sub.sqL (g2.sub.sqL hl), ha.mono g2.sub⟩)
        | _ => exact it'.elim
      | _ => exact it'.elim
  | fn _ => exact it.elim
/-- a plain value, in all its places -/
theorem snd_plain {e : E} {f : Expr → Bool} {v : DEnv → Store → (SV → Store → Prop) → Prop} (hc : ∀ s, chk e c s = plain f s) (hs : sem W e = mkV v) (hv : ∀ ex, f ex = true → PE X ex (tV (gcOf X) w0 v))
    (ht : ∀ ex, f ex = true → PT X ex (tT (gcOf X) w0 (tOf v))) (hb : ∀ op vs p, f (.BoolOp op vs p) = false) (hn : ∀ ex, f ex = true → noSetX ex = true) : Snd1 X c W w0 e := by
  refine ⟨fun ex h => ?_, fun ex h => ?_, fun op vs p h => ?_, fun xs h => ?_, fun x h => ?_, fun xs h => (by rw [hc] at h; cases h), fun tg ex h => ?_⟩
  · rw [hc] at h; rw [hs]; exact hv ex h
  · rw [hc] at h; rw [hs]; exact ht ex h
  · rw [hc] at h
    have h' : f (.BoolOp op vs p) = true := h
    rw [hb] at h'; cases h'
  · rw [hc] at h; cases h
  · rw [hc] at h
    cases x with
    | none => cases h
    | some ex => rw [hs]; exact po_of (hv ex h)
  · rw [hc] at h; rw [hs]
    exact ⟨pi_of (hv ex h), fold_ok (hn ex h)⟩
/-- .. of a text that is no test by itself -/
theorem snd_plain' {e : E} {f : Expr → Bool} {v : DEnv → Store → (SV → Store → Prop) → Prop} (hc : ∀ s, chk e c s = plain f s) (hs : sem W e = mkV v) (hv : ∀ ex, f ex = true → PE X ex (tV (gcOf X) w0 v))
    (hp : ∀ ex, f ex = true → plainT ex = true ∧ noSetX ex = true) : Snd1 X c W w0 e :=
  snd_plain hc hs hv (fun ex h => pt_plain (hp ex h).1 (hv ex h)) (fun op vs p => by
    cases q : f (.BoolOp op vs p) with
    | false => rfl
    | true => exact absurd (hp _ q).1 (by simp [plainT])) fun ex h => (hp ex h).2
/-! ### names, constants -/
theorem ck_name {i : Nat} {x : Str} (K : CkOk X c L) (h : c.name i x = true) : X.N[i]? = some x ∧ Vis X.env.scope x ∧ (x == ("__debug__" : Str)) = false ∧ (x == ("__classdict__" : Str)) = false := by
  unfold Ck.name at h
  simp only [Bool.and_eq_true, Bool.not_eq_true'] at h
  obtain ⟨h1, h2, h3, h4⟩ := h
  refine ⟨?_, ?_, h3, h4⟩
  · rw [K.N]
    cases q : c.N[i]? with
    | none => rw [q] at h1; cases h1
    | some y =>
      rw [q] at h1
      rw [eq_of_beq (show (y == x) = true from h1)]
  · unfold visK at h2
    unfold Vis
    rw [K.sc]
    cases q : c.sc.names.lookup x with
    | none => rw [q] at h2; cases h2
    | some k =>
      rw [q] at h2
      cases k <;> first | exact .inl rfl | exact .inr (.inl rfl) | exact .inr (.inr rfl) | cases h2
theorem snd_var (i : Nat) : Snd (.var i) := fun X c L W w0 K _ _ => by
  refine snd_plain' (v := fun env μ P => varK env i μ P) (fun s => rfl) rfl (fun ex h => ?_) fun ex h => ?_
  · cases ex with
    | Name x p =>
      obtain ⟨h1, h2, h3, h4⟩ := ck_name K h
      refine pe_wk (pe_var h1 h2 h3 h4) fun σ H Q ⟨w, env, μ, P, eH, g, rh, re, m, k⟩ => ?_
      have m : varK env i μ P := m
      unfold varK at m
      cases q : env[i]? with
      | none => rw [q] at m; exact m.elim
      | some o =>
        cases o with
        | none => rw [q] at m; exact m.elim
        | some sv =>
          rw [q] at m
          obtain ⟨v, e, r⟩ := re.2 i sv q
          subst eH; exact ⟨v, e, k w v sv μ .refl rh r m⟩
    | _ => cases h
  · cases ex <;> first | exact ⟨rfl, rfl⟩ | cases h
theorem snd_const {e : E} {f : Expr → Bool} {d : D} (hc : ∀ s, chk e c s = plain f s) (hs : sem W e = mkV fun _ μ P => P (.d d) μ) (hv : ∀ ex, f ex = true → ∃ v, PE X ex (tC v) ∧ Rp X.K (fun _ => none) v d) (hp : ∀ ex, f ex = true → plainT ex = true ∧ noSetX ex = true) : Snd1 X c W w0 e :=
  snd_plain' hc hs (fun ex h => by
    obtain ⟨v, pe, r⟩ := hv ex h
    exact pe_wk pe fun σ H Q ⟨w, env, μ, P, eH, g, rh, re, m, k⟩ => by subst eH; exact k w v (.d d) μ .refl rh (.d (r.mono fun _ _ z => by cases z)) m) hp
theorem snd_lit (d : D) : Snd (.lit d) := fun X c L W w0 K _ _ => by
  refine snd_const (fun s => rfl) rfl (fun ex h => ?_) fun ex h => ?_
  · cases ex with
    | Constant k j p =>
      cases k with
      | none => cases d <;> first | exact ⟨_, pe_non, .non⟩ | cases h
      | bool b =>
        cases d <;> first | cases h | skip
        rw [eq_of_beq (show (_ == _) = true from h)]
        exact ⟨_, pe_bl, .bl _⟩
      | int b =>
        cases d <;> first | cases h | skip
        rw [eq_of_beq (show (_ == _) = true from h)]
        exact ⟨_, pe_int, .int _⟩
      | str b =>
        cases d <;> first | cases h | skip
        rw [eq_of_beq (show (_ == _) = true from h)]
        exact ⟨_, pe_str, .str _⟩
      | _ => cases d <;> cases h
    | _ => cases h
  · cases ex <;> first | exact ⟨rfl, rfl⟩ | cases h
theorem ck_glo {x : Str} (K : CkOk X c L) (h : c.glo x = true) : Gl X x ∧ (x == ("__debug__" : Str)) = false := by
  unfold Ck.glo at h
  simp only [Bool.and_eq_true, Bool.not_eq_true'] at h
  refine ⟨?_, h.2⟩
  have h1 := h.1
  unfold gloK at h1
  show X.env.scope.names.lookup x = some .globalImplicit
  rw [K.sc]
  cases q : c.sc.names.lookup x with
  | none => rw [q] at h1; cases h1
  | some k => rw [q] at h1; cases k <;> first | rfl | cases h1
theorem ck_blt {x : Str} (K : CkOk X c L) (h : c.blt x = true) : Gl X x ∧ (x == ("__debug__" : Str)) = false ∧ x ≠ "__name__" ∧ X.mg x = none := by
  unfold Ck.blt at h
  simp only [Bool.and_eq_true, Bool.not_eq_true'] at h
  obtain ⟨h1, h2⟩ := ck_glo K h.1
  refine ⟨h1, h2, fun z => ?_, K.bn x (List.contains_iff_mem.mp h.2.2)⟩
  have := h.2.1
  rw [z] at this
  simp at this
theorem snd_glob (n : Str) (x : D) : Snd (.glob n x) := fun X c L W w0 K hn _ => by
  refine snd_const (fun s => rfl) rfl (fun ex h => ?_) fun ex h => ?_
  · cases ex with
    | Name y p =>
      have h' : (y == n && c.glo n) = true := h
      rw [Bool.and_eq_true] at h'
      obtain ⟨h1, h2⟩ := ck_glo K h'.2
      rw [eq_of_beq h'.1]
      obtain ⟨v, u, m, r, rp⟩ := hn
      exact ⟨v, pe_glob h1 m r h2, rp⟩
    | _ => cases h
  · cases ex <;> first | exact ⟨rfl, rfl⟩ | cases h
end
end DV
set_option Elab.async false
set_option linter.all false
set_option maxRecDepth 100000
set_option maxHeartbeats 4000000
/-! Dv6: the nodes of operations. -/
namespace DV
open PySem PySem.Spec PyProof.Rows L2
section
variable {G : GC} {w : Wl} {μ : Store}
theorem view_one {x : SV} {v : V} {d : D} (rh : RpH G w μ) (rs : RpS G w x v) (e : view1 μ x = some d) : Vw G.K w.I w.H v d := by
  cases rs with
  | d r => cases e; exact .im r
  | fn _ => cases e
  | @loc k a ea =>
    have e' : (match μ[k]? with
      | some (.lst xs) => some (PyData.list xs)
      | some (.dic kvs) => some (PyData.dict kvs)
      | some (.frz x) => some x
      | _ => none) = some d := e
    cases q : μ[k]? with
    | none => rw [q] at e'; cases e'
    | some o =>
      rw [q] at e'
      obtain ⟨b, eb, rm⟩ := rh.obj k o q
      have eab : a = b := Option.some.inj (ea.symm.trans eb)
      subst eab
      cases o with
      | frz x => cases e'; exact .im rm.2
      | lst ds => cases e'; obtain ⟨_, vs, h, r⟩ := rm; exact .ml h r
      | dic ds => cases e'; obtain ⟨_, vs, h, r1, r⟩ := rm; exact .md h r1 r
      | ins _ _ => cases e'
theorem view_ok (rh : RpH G w μ) : ∀ {xs : List SV} {vs : List V} {P : List D → Prop}, RpSs G w xs vs → viewK μ xs P → ∃ ds, VwAll G.K w.I w.H vs ds ∧ P ds
  | _, _, _, .nil, h => ⟨[], .nil, h⟩
  | x :: r, v :: vs, P, .cons a b, h => by
    have h' : (match view1 μ x with
      | some d => viewK μ r fun ds => P (d :: ds)
      | none => False) := h
    cases q : view1 μ x with
    | none => rw [q] at h'; exact h'.elim
    | some d =>
      rw [q] at h'
      obtain ⟨ds, r1, p⟩ := view_ok rh b h'
      exact ⟨d :: ds, .cons (view_one rh a q) r1, p⟩
/-- a result joins the world -/
theorem res_ok {own fresh : Bool} {r : D} {v : V} {I' H' : Hp} {P : SV → Store → Prop} (rh : RpH G w μ) (x : Ex w.I w.H I' H') (rr : Res G.K I' w.H H' fresh r v) (p : resK own μ P fresh r) :
    ∃ w' y μ', w'.H = H' ∧ Gr w w' ∧ RpH G w' μ' ∧ RpS G w' y v ∧ P y μ' := by
  unfold Res at rr
  cases own with
  | true =>
    obtain ⟨rfl, p⟩ := p
    rw [if_pos rfl] at rr
    obtain ⟨a, vs, ds, rfl, rfl, n, ni, e, ra⟩ := rr
    exact ⟨⟨I', w.α ++ [a], H'⟩, .loc μ.length, μ ++ [.lst ds], rfl, x.push n, rh.push n x (show RpM G ⟨I', w.α ++ [a], H'⟩ (.lst ds) a from ⟨ni, vs, e, ra⟩), .loc (by rw [← rh.len]; show (w.α ++ [a])[w.α.length]? = some a; simp), p⟩
  | false =>
    have p : P (.d r) μ := p
    cases fresh with
    | false =>
      rw [if_neg (by decide)] at rr
      exact ⟨⟨I', w.α, H'⟩, .d r, μ, rfl, x.gr, rh.ex x, .d rr, p⟩
    | true =>
      rw [if_pos rfl] at rr
      obtain ⟨a, vs, ds, rfl, rfl, n, ni, e, ra⟩ := rr
      have s1 : Sub I' (upd I' a (.lst vs)) := .new ni
      have x2 : Ex w.I w.H (upd I' a (.lst vs)) H' := ⟨x.hh, x.ii.trans s1, fun b u q => by
        by_cases hb : b = a
        · subst hb; rw [upd_same] at q; cases q; exact e
        · rw [upd_ne hb] at q; exact x.ih b u q, fun b u q => by
        by_cases hb : b = a
        · subst hb; exact .inr n
        · rw [upd_ne hb] at q; exact x.fr b u q⟩
      exact ⟨⟨_, w.α, H'⟩, .d (.list ds), μ, rfl, x2.gr, rh.ex x2, .d (.lst (SqL.of upd_same) (ra.mono s1)), p⟩
/-- from the sense of an operation to what the machine is asked for -/
theorem op_go {f : List D → OS} {own : Bool} {xs : List SV} {vs : List V} {P : SV → Store → Prop} {Q : VK} (rh : RpH G w μ) (rs : RpSs G w xs vs) (m : viewK μ xs fun ds => f ds (resK own μ P))
    (k : ∀ w' v x μ', Gr w w' → RpH G w' μ' → RpS G w' x v → P x μ' → Q v w'.H) : rO G.K f vs w.H Q := by
  obtain ⟨ds, r, m⟩ := view_ok rh rs m
  refine ⟨w.I, ds, _, rh.sub, r, m, fun fresh r v I' H' x rr p => ?_⟩
  obtain ⟨w', y, μ', rfl, g, rh', rs', p'⟩ := res_ok rh x rr p
  exact k w' v y μ' g rh' rs' p'
/-- .. of a choice by a test -/
theorem op_goB {f : List D → OS} {xs : List SV} {vs : List V} {P : Bool → D → Prop} {Q : VK} (rh : RpH G w μ) (rs : RpSs G w xs vs) (m : viewK μ xs fun ds => f ds P)
    (k : ∀ w' fresh r v, Gr w w' → RpH G w' μ → Res G.K w'.I w.H w'.H fresh r v → P fresh r → Q v w'.H) : rO G.K f vs w.H Q := by
  obtain ⟨ds, r, m⟩ := view_ok rh rs m
  exact ⟨w.I, ds, _, rh.sub, r, m, fun fresh r v I' H' x rr p => k ⟨I', w.α, H'⟩ fresh r v x.gr (rh.ex x) rr p⟩
end
/-! ### subscripts, slices -/
section
variable {X : Cx}
theorem atI_lst {α β : Type} {xs : List α} {ys : List β} {i : Int} {y : β} (hl : xs.length = ys.length) (h : atI ys i = some y) : ∃ j : Nat, ys[j]? = some y ∧ ∀ x, xs[j]? = some x → atI xs i = some x := by
  unfold atI at h ⊢
  rw [hl]
  cases q : ixN ys.length i with
  | none => rw [q] at h; cases h
  | some j => rw [q] at h; exact ⟨j, h, fun x e => e⟩
theorem ix_any : IxR X (fun x y H Q => rO X.K (f2 sIx) [x, y] H Q) := by
  intro value slice pins s σ H x y v u Q I rx ry h hs
  refine ix_seq value slice pins s σ H x y v u Q I rx ry ?_ hs
  obtain ⟨F, ds, P, sb, vw, sem, kk⟩ := h
  obtain ⟨d, e, rfl, v1, v2⟩ := vw2 vw
  cases d with
  | list xs =>
    cases e <;> first | exact sem.elim | skip
    obtain ⟨z, ez, p⟩ := sem
    obtain ⟨a, vs, rfl, t, r⟩ := v1.list sb
    obtain rfl := v2.int
    obtain ⟨j, h1, h2⟩ := atI_lst (r.length) ez
    obtain ⟨c, hc, rc⟩ := r.get h1
    exact .inl ⟨a, vs, _, c, rfl, rfl, t, h2 c hc, keep sb kk rc p⟩
  | tuple xs =>
    cases e <;> first | exact sem.elim | skip
    obtain ⟨z, ez, p⟩ := sem
    obtain ⟨a, vs, rfl, t, r⟩ := v1.tuple
    obtain rfl := v2.int
    obtain ⟨j, h1, h2⟩ := atI_lst (r.length) ez
    obtain ⟨c, hc, rc⟩ := r.get h1
    exact .inr (.inl ⟨a, vs, _, c, rfl, rfl, sb.sqT t, h2 c hc, keep sb kk rc p⟩)
  | str z =>
    cases e <;> first | exact sem.elim | skip
    obtain ⟨hz, c, ec, p⟩ := sem
    obtain rfl := v1.str
    obtain rfl := v2.int
    exact .inr (.inr ⟨z, _, c, rfl, rfl, hz, ec, keep sb kk (.str _) p⟩)
  | _ => cases e <;> exact sem.elim
theorem cut_rp {K : PySem.W.Frag} {H : Hp} {vs : List V} {ds : List D} (r : RpAll K H vs ds) (lo hi : Option Int) : RpAll K H (cutV vs lo hi) (cutD ds lo hi) := by
  unfold cutV cutD
  rw [r.length]
  exact (r.drop _).take _
theorem cut_all {ds : List D} {lo hi : Option Int} (h1 : HT.sIx ds.length 0 lo = 0) (h2 : HT.sIx ds.length ds.length hi = ds.length) : cutD ds lo hi = ds := by
  unfold cutD
  rw [h1, h2]
  simp
def rSlD (K : PySem.W.Frag) : V → Option Int → Option Int → Hp → VK → Prop := fun x lo hi H Q => ∃ a xs, x = .ref a ∧ SqT K H a xs ∧
  (HT.sIx xs.length 0 lo = 0 ∧ HT.sIx xs.length xs.length hi = xs.length → Q (.ref a) H) ∧ (¬ (HT.sIx xs.length 0 lo = 0 ∧ HT.sIx xs.length xs.length hi = xs.length) → ∀ p its, H p = none → Q (.ref p) (upd H p (.frz (tupO its) (.tup (cutV xs lo hi)))))
theorem sl_tupD : SlR X (rSlD X.K) := by
  intro pins s σ H x v vl vu lo hi sl Q I rx hs pl pu h
  obtain ⟨a, xs, rfl, hx, q1, q2⟩ := h
  cases rx
  obtain ⟨its, r, ht, hz⟩ := I.tuple hx
  have hlen : its.toArray.size = xs.length := by rw [List.size_toArray]; exact r.length.symm
  refine ⟨"tuple", _, PyProof.Rows.slot_tuple_getitem.lookup, ht.typeIs, ?_⟩
  by_cases hw : HT.sIx xs.length 0 lo = 0 ∧ HT.sIx xs.length xs.length hi = xs.length
  · exact getItem_tuple_whole ht hs pl pu (by rw [hlen]; exact hw) ⟨.ref a, H, I, rfl, q1 hw⟩
  · refine HT.getItem_tuple_cut ht hs pl pu (by rw [hlen]; exact hw) ?_ (by rw [hlen]; exact hz)
    rw [hlen]
    exact ⟨.ref s.heap.objs.size, _, inv_ltup I (vs := cutV xs lo hi) (its := (its.drop (HT.sIx xs.length 0 lo)).take (HT.sIx xs.length xs.length hi - HT.sIx xs.length 0 lo)) (fun b ob q => Heap.get?_push_of_some _ q) (Nat.le_refl _) (Heap.get?_push_size _ rfl) (Nat.le_trans (cutV_length xs lo hi) hz) ((r.drop _).take _), rfl, q2 hw _ _ (I.hok.fresh (Nat.le_refl _))⟩
theorem sl_any : SlR X (fun x lo hi H Q => rO X.K (fun ds => match ds with
    | [d] => sSl d lo hi
    | _ => fun _ => False) [x] H Q) := by
  intro pins s σ H x v vl vu lo hi sl Q I rx hs pl pu h
  obtain ⟨F, ds, P, sb, vw, sem, kk⟩ := h
  obtain ⟨d, rfl, v1⟩ := vw1 vw
  have sem : sSl d lo hi P := sem
  cases d with
  | list xs =>
    obtain ⟨a, vs, rfl, t, r⟩ := v1.list sb
    exact sl_list pins s σ H _ v vl vu lo hi sl Q I rx hs pl pu ⟨a, vs, rfl, t, fun p n => newL sb kk (cut_rp r lo hi) n sem⟩
  | tuple xs =>
    obtain ⟨a, vs, rfl, t, r⟩ := v1.tuple
    have hl := r.length
    refine sl_tupD pins s σ H _ v vl vu lo hi sl Q I rx hs pl pu ⟨a, vs, rfl, sb.sqT t, fun hw => ?_, fun _ p its n => newT sb kk (cut_rp r lo hi) n sem⟩
    rw [hl] at hw
    have sem : P false (.tuple (cutD xs lo hi)) := sem
    rw [cut_all hw.1 hw.2] at sem
    exact keep sb kk v1.tupRp sem
  | str z =>
    obtain rfl := v1.str
    exact sl_str pins s σ H _ v vl vu lo hi sl Q I rx hs pl pu ⟨z, rfl, sem.1, keep sb kk (.str _) sem.2⟩
  | _ => exact sem.elim
inductive Kd | non | bool | int | str | lst | tup | dic
def Kd.n : Kd → String
  | .non => "NoneType" | .bool => "bool" | .int => "int" | .str => "str" | .lst => "list" | .tup => "tuple" | .dic => "dict"
def Kd.is : Ty → Kd → Bool
  | .int, .int => true
  | .int, .bool => true
  | .bool, .bool => true
  | .str, .str => true
  | .tup, .tup => true
  | .lst, .lst => true
  | .dic, .dic => true
  | _, _ => false
def kdOf : D → Kd
  | .none => .non | .bool _ => .bool | .int _ => .int | .str _ => .str | .list _ => .lst | .tuple _ => .tup | .dict _ => .dic
theorem kit_all (k : Kd) (t : Ty) : kitB k.n t.n = some (Kd.is t k) := by cases k <;> cases t <;> decide +kernel
theorem kitB_all (d : D) (t : Ty) : kitB (tyD d) t.n = some (isTy t d) := by
  have h := kit_all (kdOf d) t
  cases d <;> cases t <;> exact h
theorem Vw.ty {K : PySem.W.Frag} {I H : Hp} {v : V} {d : D} (sb : Sub I H) (h : Vw K I H v d) : TyX K H v (.type (tyD d)) := by
  have q := h.rp sb
  clear h
  cases q with
  | non => exact .base .non
  | bl b => exact .base (.bl b)
  | int i => exact .base (.int i)
  | str x => exact .base (.str x)
  | lst e _ =>
    rcases e with (z | ⟨o, z⟩) | ⟨o, its, n, z, c, _⟩
    · exact .base (.lst z)
    · exact .base (.frz z)
    · exact .kList z c
  | tup e _ _ =>
    rcases e with (z | ⟨o, z⟩) | ⟨o, its, n, z, c, _⟩
    · exact .base (.tup z)
    · exact .fTuple z
    · exact .kTuple z c
  | dic e _ _ =>
    rcases e with z | ⟨o, z⟩
    · exact .base (.dK z)
    · exact .fDict z
end
end DV
set_option Elab.async false
set_option linter.all false
set_option maxRecDepth 100000
set_option maxHeartbeats 4000000
/-! Dv7: the nodes, one by one. -/
namespace DV
open PySem PySem.Spec PyProof.Rows L2
section
variable {X : Cx} {c : Ck} {L : Addr} {W : Exn → DEnv → Store → Prop} {w0 : Wl}
theorem bin_ok (K : CkOk X c L) {o : Op} {u : Operator} (h : o.shape = .bin u) : OpR X (binaryOp u) (fun x y H Q => rO X.K o.f [x, y] H Q) := by
  cases o <;> cases h
  · exact o_add
  · exact o_sub
  · exact o_mul
  · exact o_fdiv
  · exact o_mod
  · exact o_pow
theorem cmp_ok (K : CkOk X c L) {o : Op} {u : CmpOp} (h : o.shape = .cmp u) : OpR X (compareOp u) (fun x y H Q => rO X.K o.f [x, y] H Q) := by
  have r := K.room.un
  cases o <;> cases h
  · exact o_eq (by omega)
  · exact o_ne (by omega)
  · exact o_lt (by omega)
  · exact o_le
  · exact o_gt
  · exact o_ge
  · exact o_isN
  · exact o_notN
  · exact o_in (by omega)
  · exact o_notin (by omega)
theorem un_ok {o : Op} {u : UnaryOp} (h : o.shape = .un u) : UnR X (unaryOp u) (fun x H Q => rO X.K o.f [x] H Q) := by
  cases o <;> cases h
  exact o_neg
theorem fn_ok (K : CkOk X c L) {o : Op} {f : Str} {id : String} (h : o.shape = .fn f id) : CallR X (.builtin id) (rO X.K o.f) ∧ bootBuiltins f = some (.builtin id) := by
  have r := K.room.un
  cases o <;> cases h
  · exact ⟨c_len, rfl⟩
  · exact ⟨c_sum K.calm, rfl⟩
  · exact ⟨c_max1 K.calm, rfl⟩
  · exact ⟨c_min1 K.calm, rfl⟩
  · exact ⟨c_max2 K.calm, rfl⟩
  · exact ⟨c_min2 K.calm, rfl⟩
  · exact ⟨c_abs, rfl⟩
  · exact ⟨c_all K.calm, rfl⟩
  · exact ⟨c_any K.calm, rfl⟩
  · exact ⟨c_repr K.guards (by omega), rfl⟩
theorem ty_ok {o : Op} {f : Str} {T : String} (h : o.shape = .ty f T) : CallR X (.type T) (rO X.K o.f) ∧ bootBuiltins f = some (.type T) := by
  cases o <;> cases h
  · exact ⟨c_tup, rfl⟩
  · exact ⟨c_lst, rfl⟩
  · exact ⟨c_str, rfl⟩
  · exact ⟨c_int, rfl⟩
theorem two_go {o : Op} {own : Bool} {a b : E} {σ : L2.St} {H : Hp} {Q : VK} (h : tV (gcOf X) w0 (fun env μ P => (sem W a).v env μ fun x μ1 => (sem W b).v env μ1 fun y μ2 => viewK μ2 [x, y] fun ds => o.f ds (resK own μ2 P)) σ H Q) :
    tOp (fun x y H Q => rO X.K o.f [x, y] H Q) (tV (gcOf X) w0 (sem W a).v) (tV (gcOf X) w0 (sem W b).v) σ H Q := by
  obtain ⟨w, env, μ, P, rfl, g, rh, re, m, k⟩ := h
  exact ⟨w, env, μ, _, rfl, g, rh, re, m, fun w1 v x μ1 g1 rh1 rs1 m1 => ⟨w1, env, μ1, _, rfl, g.trans g1, rh1, re.mono g1, m1, fun w2 v2 y μ2 g2 rh2 rs2 m2 =>
    op_go rh2 (.cons (rs1.mono g2) (.cons rs2 .nil)) m2 fun w3 v3 z μ3 g3 rh3 rs3 p => k w3 v3 z μ3 (g1.trans (g2.trans g3)) rh3 rs3 p⟩⟩
theorem chk_e {e : E} {s : Expr} {f : Expr → Bool} (hc : ∀ s, chk e c s = plain f s) (h : chk e c (.e s) = true) : f s = true := by rw [hc] at h; exact h
theorem snd_op1 (o : Op) (a : E) (ia : Snd a) : Snd (.op1 o a) := fun X c L W w0 K hn tk => by
  have A := ia X c L W w0 K hn tk
  refine snd_plain' (fun s => rfl) rfl (fun ex h => ?_) fun ex h => ?_
  · cases ex <;> first | (cases q : o.shape <;> rw [q] at h <;> cases h; done) | skip
    rename_i v x p
    cases q : o.shape <;> rw [q] at h <;> first | (cases h; done) | skip
    rename_i u
    simp only [Bool.and_eq_true, decide_eq_true_eq] at h
    obtain ⟨rfl, h1, h2⟩ := h
    refine pe_wk (pe_un (un_ok q) (A.v _ h2)) fun σ H Q ⟨w, env, μ, P, eH, g, rh, re, m, k⟩ => ?_
    subst eH
    exact ⟨w, env, μ, _, rfl, g, rh, re, m, fun w1 v x μ1 g1 rh1 rs1 m1 => op_go rh1 (.cons rs1 .nil) m1 fun w3 v3 z μ3 g3 rh3 rs3 p => k w3 v3 z μ3 (g1.trans g3) rh3 rs3 p⟩
  · cases ex <;> first | (cases q : o.shape <;> rw [q] at h <;> cases h; done) | skip
    rename_i v x p
    cases q : o.shape <;> rw [q] at h <;> first | (cases h; done) | skip
    rename_i u
    simp only [Bool.and_eq_true, decide_eq_true_eq] at h
    obtain ⟨rfl, h1, h2⟩ := h
    cases o <;> cases q
    exact ⟨rfl, rfl⟩

theorem snd_op2 (o : Op) (own : Bool) (a b : E) (ia : Snd a) (ib : Snd b) : Snd (.op2 o own a b) := fun X c L W w0 K hn tk => by
  have A := ia X c L W w0 K hn.1 tk
  have B := ib X c L W w0 K hn.2 tk
  refine snd_plain (fun s => rfl) rfl (fun ex h => ?_) (fun ex h => ?_) (fun op vs p => ?_) fun ex h => ?_
  · cases ex with
    | BinOp x v y p =>
      cases q : o.shape <;> rw [q] at h <;> first | (cases h; done) | skip
      simp only [Bool.and_eq_true, decide_eq_true_eq] at h
      obtain ⟨rfl, h1, h2, h3, h4⟩ := h
      exact pe_wk (pe_op (bin_ok K q) (A.v _ h3) (B.v _ h4)) fun σ H Q => two_go
    | Subscript x y p =>
      cases q : o.shape <;> rw [q] at h <;> first | (cases h; done) | skip
      simp only [Bool.and_eq_true] at h
      obtain ⟨h1, h2, h3, h4⟩ := h
      have e : o = .ix := by cases o <;> cases q <;> rfl
      subst e
      exact pe_wk (pe_ix ix_any (A.v _ h3) (B.v _ h4) (ix_ok h2)) fun σ H Q => two_go
    | Compare x ops es p =>
      cases q : o.shape <;> rw [q] at h <;> first | (cases h; done) | skip
      cases ops with
      | nil => cases h
      | cons v vr =>
        cases vr with
        | cons _ _ => cases h
        | nil =>
          cases es with
          | nil => cases h
          | cons y yr =>
            cases yr with
            | cons _ _ => cases h
            | nil =>
              simp only [Bool.and_eq_true, decide_eq_true_eq] at h
              obtain ⟨rfl, h1, h2, h3, h4⟩ := h
              exact pe_wk (pe_cmpR (cmp_ok K q) (A.v _ h3) (B.v _ h4) (marks_ok h2)) fun σ H Q => two_go
    | _ => cases q : o.shape <;> rw [q] at h <;> cases h
  · cases ex with
    | BinOp x v y p =>
      cases q : o.shape <;> rw [q] at h <;> first | (cases h; done) | skip
      simp only [Bool.and_eq_true, decide_eq_true_eq] at h
      obtain ⟨rfl, h1, h2, h3, h4⟩ := h
      exact pt_plain rfl (pe_wk (pe_op (bin_ok K q) (A.v _ h3) (B.v _ h4)) fun σ H Q => two_go)
    | Subscript x y p =>
      cases q : o.shape <;> rw [q] at h <;> first | (cases h; done) | skip
      simp only [Bool.and_eq_true] at h
      obtain ⟨h1, h2, h3, h4⟩ := h
      have e : o = .ix := by cases o <;> cases q <;> rfl
      subst e
      exact pt_plain rfl (pe_wk (pe_ix ix_any (A.v _ h3) (B.v _ h4) (ix_ok h2)) fun σ H Q => two_go)
    | Compare x ops es p =>
      cases q : o.shape <;> rw [q] at h <;> first | (cases h; done) | skip
      cases ops with
      | nil => cases h
      | cons v vr =>
        cases vr with
        | cons _ _ => cases h
        | nil =>
          cases es with
          | nil => cases h
          | cons y yr =>
            cases yr with
            | cons _ _ => cases h
            | nil =>
              simp only [Bool.and_eq_true, decide_eq_true_eq] at h
              obtain ⟨rfl, h1, h2, h3, h4⟩ := h
              exact pt_of (pt_wk (pt_cmpR (cmp_ok K q) (A.v _ h3) (B.v _ h4) (marks_ok h2)) fun σ H Q => two_go)
    | _ => cases q : o.shape <;> rw [q] at h <;> cases h
  · cases q : o.shape <;> rfl
  · cases ex <;> first | rfl | (cases q : o.shape <;> rw [q] at h <;> cases h)
/-- the arguments are looked at -/
theorem arg_go {o : Op} {own : Bool} {a : E} {σ : L2.St} {H : Hp} {Q : VK} (h : tV (gcOf X) w0 (fun env μ P => (sem W a).l env μ fun xs μ1 => viewK μ1 xs fun ds => o.f ds (resK own μ1 P)) σ H Q) :
    tCB (rO X.K o.f) (tL (gcOf X) w0 (sem W a).l) σ H Q := by
  obtain ⟨w, env, μ, P, rfl, g, rh, re, m, k⟩ := h
  exact ⟨w, env, μ, _, rfl, g, rh, re, m, fun w1 v x μ1 g1 rh1 rs1 m1 =>
    op_go rh1 rs1 m1 fun w3 v3 z μ3 g3 rh3 rs3 p => k w3 v3 z μ3 (g1.trans g3) rh3 rs3 p⟩
theorem okx_cons {x : Expr} {xs : List Expr} (h : (x :: xs).all okx = true) : okx x = true ∧ xs.all okx = true := by
  rw [List.all_cons, Bool.and_eq_true] at h; exact h
theorem snd_fn (o : Op) (own : Bool) (a : E) (ia : Snd a) : Snd (.fn o own a) := fun X c L W w0 K hn tk => by
  have A := ia X c L W w0 K hn tk
  refine snd_plain' (fun s => rfl) rfl (fun ex h => ?_) fun ex h => ?_
  · cases ex with
    | Call f es ks p =>
      cases f with
      | Name x q =>
        cases es with
        | nil => cases q : o.shape <;> rw [q] at h <;> cases h
        | cons e es =>
          cases ks with
          | cons _ _ => cases q : o.shape <;> rw [q] at h <;> cases h
          | nil =>
            cases q : o.shape <;> rw [q] at h <;> first | (cases h; done) | skip
            · simp only [Bool.and_eq_true] at h
              obtain ⟨h1, h2, h3⟩ := h
              obtain ⟨g1, g2, g3, g4⟩ := ck_blt K h2
              obtain ⟨r1, r2⟩ := fn_ok K q
              rw [eq_of_beq h1]
              have ok := okx_cons (chk_okx h3)
              exact pe_wk (pe_callB r1 g1 g4 r2 (A.l _ h3) g3 g2 (star_ok ok.1) (any_back ok.2)) fun σ H Q => arg_go
            · simp only [Bool.and_eq_true] at h
              obtain ⟨h1, h2, h3⟩ := h
              obtain ⟨g1, g2, g3, g4⟩ := ck_blt K h2
              obtain ⟨r1, r2⟩ := ty_ok q
              rw [eq_of_beq h1]
              have ok := okx_cons (chk_okx h3)
              exact pe_wk (pe_callTy r1 g1 g4 r2 (A.l _ h3) g3 g2 (star_ok ok.1) (any_back ok.2)) fun σ H Q => arg_go
      | _ => cases q : o.shape <;> rw [q] at h <;> cases h
    | _ => cases q : o.shape <;> rw [q] at h <;> cases h
  · cases ex <;> first | exact ⟨rfl, rfl⟩ | (cases q : o.shape <;> rw [q] at h <;> cases h)
theorem pt_none {ex : Expr} : PT X ex (tT (gcOf X) w0 (fun _ _ _ => False)) := ⟨fun _ _ _ _ _ _ ⟨_, _, _, _, _, _, _, _, m, _⟩ => m.elim⟩
theorem pe_none {ex : Expr} : PE X ex (tV (gcOf X) w0 (fun _ _ _ => False)) := ⟨fun _ _ _ _ _ _ ⟨_, _, _, _, _, _, _, _, m, _⟩ => m.elim⟩
theorem pa_none {ex : List Expr} : PA X ex (tL (gcOf X) w0 (fun _ _ _ => False)) := ⟨fun _ _ _ _ _ _ _ ⟨_, _, _, _, _, _, _, _, m, _⟩ => m.elim⟩
theorem snd_nil : Snd .nil := fun X c L W w0 K hn tk => by
  refine ⟨fun ex h => ?_, fun ex h => ?_, fun op vs p h => ?_, fun xs h => ?_, fun x h => ?_, fun xs h => ?_, fun tg ex h => ?_⟩
  · cases h
  · cases h
  · cases h
  · cases xs with
    | nil => exact pa_wk pa_nil fun σ H Q ⟨w, env, μ, P, eH, g, rh, re, m, k⟩ => by subst eH; exact k w [] [] μ .refl rh .nil m
    | cons _ _ => cases h
  · cases x with
    | none => exact po_wk po_none fun σ H Q ⟨w, env, μ, P, eH, g, rh, re, m, k⟩ => by subst eH; exact k w none μ .refl rh m
    | some _ => cases h
  · cases xs with
    | nil => exact ⟨[], .nil, fun σ H Q ⟨w, env, μ, P, eH, g, rh, re, m, k⟩ => by subst eH; exact k w [] [] μ .refl rh .nil m⟩
    | cons _ _ => cases h
  · cases h
theorem snd_cons (a r : E) (ia : Snd a) (ir : Snd r) : Snd (.cons a r) := fun X c L W w0 K hn tk => by
  have A := ia X c L W w0 K hn.1 tk
  have R := ir X c L W w0 K hn.2 tk
  have go : ∀ {tr : TA} {σ : L2.St} {H : Hp} {Q : List V → Hp → Prop}, (∀ σ H Q, tL (gcOf X) w0 (sem W r).l σ H Q → tr σ H Q) → tL (gcOf X) w0 (sem W (.cons a r)).l σ H Q → tCons (tV (gcOf X) w0 (sem W a).v) tr σ H Q := fun {tr σ H Q} up ⟨w, env, μ, P, eH, g, rh, re, m, k⟩ => by
    subst eH
    exact ⟨w, env, μ, _, rfl, g, rh, re, m, fun w1 v x μ1 g1 rh1 rs1 m1 => up _ _ _ ⟨w1, env, μ1, _, rfl, g.trans g1, rh1, re.mono g1, m1, fun w2 v2 y μ2 g2 rh2 rs2 p =>
      k w2 _ _ μ2 (g1.trans g2) rh2 (.cons (rs1.mono g2) rs2) p⟩⟩
  refine ⟨fun ex h => ?_, fun ex h => ?_, fun op vs p h => ?_, fun xs h => ?_, fun x h => ?_, fun xs h => ?_, fun tg ex h => ?_⟩
  · cases h
  · cases h
  · cases h
  · cases xs with
    | nil => cases h
    | cons x xs =>
      have h : (okx x && (chk a c (.e x) && chk r c (.l xs))) = true := h
      simp only [Bool.and_eq_true] at h
      exact pa_wk (pa_cons (A.v _ h.2.1) (R.l _ h.2.2) (star_ok h.1)) fun σ H Q => go fun _ _ _ z => z
  · cases h
  · cases xs with
    | nil => cases h
    | cons x xs =>
      have h : (okx x && (chk a c (.e x) && chk r c (.l xs))) = true := h
      simp only [Bool.and_eq_true] at h
      obtain ⟨ts, h1, h2⟩ := R.p _ h.2.2
      exact ⟨_ :: ts, .cons h.1 (A.v _ h.2.1) h1, fun σ H Q => go h2⟩
  · cases h
end
end DV
set_option Elab.async false
set_option linter.all false
set_option maxRecDepth 100000
set_option maxHeartbeats 4000000
/-! Dv8: more nodes: tests, displays, calls. -/
namespace DV
open PySem PySem.Spec PyProof.Rows L2
section
variable {X : Cx} {c : Ck} {L : Addr} {W : Exn → DEnv → Store → Prop} {w0 : Wl}
theorem rps_bool {G : GC} {w : Wl} {v : V} {b : Bool} (h : RpS G w (.d (.bool b)) v) : v = .bl b := by
  cases h with
  | d r => cases r; rfl
theorem and_go {a b : E} {σ : L2.St} {H : Hp} {Q : VK} (h : tV (gcOf X) w0 (fun env μ P => (sem W a).v env μ fun x μ1 => andK x μ1 P ((sem W b).v env μ1 P)) σ H Q) :
    tAndV (tV (gcOf X) w0 (sem W a).v) (tV (gcOf X) w0 (sem W b).v) σ H Q := by
  obtain ⟨w, env, μ, P, rfl, g, rh, re, m, k⟩ := h
  refine ⟨w, env, μ, _, rfl, g, rh, re, m, fun w1 v x μ1 g1 rh1 rs1 m1 => ?_⟩
  cases x with
  | d x =>
    cases x with
    | bool z =>
      obtain rfl := rps_bool rs1
      refine ⟨z, rfl, ?_⟩
      cases z with
      | true => exact ⟨w1, env, μ1, _, rfl, g.trans g1, rh1, re.mono g1, m1, fun w2 v2 y μ2 g2 rh2 rs2 p => k w2 v2 y μ2 (g1.trans g2) rh2 rs2 p⟩
      | false => exact k w1 _ _ μ1 g1 rh1 rs1 m1
    | _ => exact m1.elim
  | _ => exact m1.elim
theorem or_go {a b : E} {σ : L2.St} {H : Hp} {Q : VK} (h : tV (gcOf X) w0 (fun env μ P => (sem W a).v env μ fun x μ1 => orK x μ1 P ((sem W b).v env μ1 P)) σ H Q) :
    tOrV (tV (gcOf X) w0 (sem W a).v) (tV (gcOf X) w0 (sem W b).v) σ H Q := by
  obtain ⟨w, env, μ, P, rfl, g, rh, re, m, k⟩ := h
  refine ⟨w, env, μ, _, rfl, g, rh, re, m, fun w1 v x μ1 g1 rh1 rs1 m1 => ?_⟩
  cases x with
  | d x =>
    cases x with
    | bool z =>
      obtain rfl := rps_bool rs1
      refine ⟨z, rfl, ?_⟩
      cases z with
      | false => exact ⟨w1, env, μ1, _, rfl, g.trans g1, rh1, re.mono g1, m1, fun w2 v2 y μ2 g2 rh2 rs2 p => k w2 v2 y μ2 (g1.trans g2) rh2 rs2 p⟩
      | true => exact k w1 _ _ μ1 g1 rh1 rs1 m1
    | _ => exact m1.elim
  | _ => exact m1.elim
theorem andT_go {a b : E} {σ : L2.St} {H : Hp} {Q : Bool → Hp → Prop} (h : tT (gcOf X) w0 (fun env μ P => (sem W a).t env μ fun c μ1 => if c = true then (sem W b).t env μ1 P else P false μ1) σ H Q) :
    tAnd (tT (gcOf X) w0 (sem W a).t) (tT (gcOf X) w0 (sem W b).t) σ H Q := by
  obtain ⟨w, env, μ, P, rfl, g, rh, re, m, k⟩ := h
  refine ⟨w, env, μ, _, rfl, g, rh, re, m, fun w1 z μ1 g1 rh1 m1 => ?_⟩
  cases z with
  | true =>
    rw [if_pos rfl] at m1 ⊢
    exact ⟨w1, env, μ1, _, rfl, g.trans g1, rh1, re.mono g1, m1, fun w2 y μ2 g2 rh2 p => k w2 y μ2 (g1.trans g2) rh2 p⟩
  | false =>
    rw [if_neg Bool.false_ne_true] at m1 ⊢
    exact k w1 _ μ1 g1 rh1 m1
theorem orT_go {a b : E} {σ : L2.St} {H : Hp} {Q : Bool → Hp → Prop} (h : tT (gcOf X) w0 (fun env μ P => (sem W a).t env μ fun c μ1 => if c = true then P true μ1 else (sem W b).t env μ1 P) σ H Q) :
    tOr (tT (gcOf X) w0 (sem W a).t) (tT (gcOf X) w0 (sem W b).t) σ H Q := by
  obtain ⟨w, env, μ, P, rfl, g, rh, re, m, k⟩ := h
  refine ⟨w, env, μ, _, rfl, g, rh, re, m, fun w1 z μ1 g1 rh1 m1 => ?_⟩
  cases z with
  | false =>
    rw [if_neg Bool.false_ne_true] at m1 ⊢
    exact ⟨w1, env, μ1, _, rfl, g.trans g1, rh1, re.mono g1, m1, fun w2 y μ2 g2 rh2 p => k w2 y μ2 (g1.trans g2) rh2 p⟩
  | true =>
    rw [if_pos rfl] at m1 ⊢
    exact k w1 _ μ1 g1 rh1 m1
/-- a node that is a value, its own test apart -/
theorem snd_valT {e : E} {f : Expr → Bool} {v : DEnv → Store → (SV → Store → Prop) → Prop} {t : DEnv → Store → (Bool → Store → Prop) → Prop} (hc : ∀ s, chk e c s = plain f s) (hs : sem W e = { mkV v with t := t }) (hv : ∀ ex, f ex = true → PE X ex (tV (gcOf X) w0 v))
    (ht : ∀ ex, f ex = true → PT X ex (tT (gcOf X) w0 t)) (hb : ∀ op vs p, f (.BoolOp op vs p) = true → PW X (.BoolOp op vs p) (tT (gcOf X) w0 t)) (hn : ∀ ex, f ex = true → noSetX ex = true) : Snd1 X c W w0 e := by
  refine ⟨fun ex h => ?_, fun ex h => ?_, fun op vs p h => ?_, fun xs h => ?_, fun x h => ?_, fun xs h => (by rw [hc] at h; cases h), fun tg ex h => ?_⟩
  · rw [hc] at h; rw [hs]; exact hv ex h
  · rw [hc] at h; rw [hs]; exact ht ex h
  · rw [hc] at h; rw [hs]; exact hb op vs p h
  · rw [hc] at h; cases h
  · rw [hc] at h
    cases x with
    | none => cases h
    | some ex => rw [hs]; exact po_of (hv ex h)
  · rw [hc] at h; rw [hs]
    exact ⟨pi_of (hv ex h), fold_ok (hn ex h)⟩
def andF (a b : E) (c : Ck) : Expr → Bool := fun ex => match ex with
    | .BoolOp .And [x, y] _ => chk a c (.e x) && chk b c (.e y)
    | .BoolOp .And (x :: y :: z :: r) p => chk a c (.e x) && chk b c (.e (.BoolOp .And (y :: z :: r) p))
    | _ => false
def orF (a b : E) (c : Ck) : Expr → Bool := fun ex => match ex with
    | .BoolOp .Or [x, y] _ => chk a c (.e x) && chk b c (.e y)
    | .BoolOp .Or (x :: y :: z :: r) p => chk a c (.e x) && chk b c (.e (.BoolOp .Or (y :: z :: r) p))
    | _ => false
theorem andF_inv {a b : E} {ex : Expr} (h : andF a b c ex = true) : (∃ x y p, ex = .BoolOp .And [x, y] p ∧ chk a c (.e x) = true ∧ chk b c (.e y) = true) ∨
    ∃ x y z r p, ex = .BoolOp .And (x :: y :: z :: r) p ∧ chk a c (.e x) = true ∧ chk b c (.e (.BoolOp .And (y :: z :: r) p)) = true := by
  unfold andF at h
  split at h
  · rw [Bool.and_eq_true] at h; exact .inl ⟨_, _, _, rfl, h.1, h.2⟩
  · rw [Bool.and_eq_true] at h; exact .inr ⟨_, _, _, _, _, rfl, h.1, h.2⟩
  · cases h
theorem orF_inv {a b : E} {ex : Expr} (h : orF a b c ex = true) : (∃ x y p, ex = .BoolOp .Or [x, y] p ∧ chk a c (.e x) = true ∧ chk b c (.e y) = true) ∨
    ∃ x y z r p, ex = .BoolOp .Or (x :: y :: z :: r) p ∧ chk a c (.e x) = true ∧ chk b c (.e (.BoolOp .Or (y :: z :: r) p)) = true := by
  unfold orF at h
  split at h
  · rw [Bool.and_eq_true] at h; exact .inl ⟨_, _, _, rfl, h.1, h.2⟩
  · rw [Bool.and_eq_true] at h; exact .inr ⟨_, _, _, _, _, rfl, h.1, h.2⟩
  · cases h
theorem snd_and (a b : E) (ia : Snd a) (ib : Snd b) : Snd (.and a b) := fun X c L W w0 K hn tk => by
  have A := ia X c L W w0 K hn.1 tk
  have B := ib X c L W w0 K hn.2 tk
  have hw : ∀ ex, andF a b c ex = true → PW X ex (tT (gcOf X) w0 fun env μ P => (sem W a).t env μ fun c μ1 => if c = true then (sem W b).t env μ1 P else P false μ1) := fun ex h => by
    rcases andF_inv h with ⟨x, y, p, rfl, h1, h2⟩ | ⟨x, y, z, r, p, rfl, h1, h2⟩
    · exact pw_wk (pw_and (A.t _ h1) (pw_and1 (B.t _ h2))) fun σ H Q => andT_go
    · exact pw_wk (pw_and (A.t _ h1) (B.w _ _ _ h2)) fun σ H Q => andT_go
  refine snd_valT (f := andF a b c) (fun s => rfl) rfl (fun ex h => ?_) (fun ex h => (hw ex h).pt) (fun op vs p h => hw _ h) fun ex h => ?_
  · rcases andF_inv h with ⟨x, y, p, rfl, h1, h2⟩ | ⟨x, y, z, r, p, rfl, h1, h2⟩
    · exact pe_wk (pe_and (A.v _ h1) (pe_one (B.v _ h2))) fun σ H Q => and_go
    · exact pe_wk (pe_and (A.v _ h1) (B.v _ h2)) fun σ H Q => and_go
  · rcases andF_inv h with ⟨x, y, p, rfl, h1, h2⟩ | ⟨x, y, z, r, p, rfl, h1, h2⟩ <;> rfl
theorem snd_or (a b : E) (ia : Snd a) (ib : Snd b) : Snd (.or a b) := fun X c L W w0 K hn tk => by
  have A := ia X c L W w0 K hn.1 tk
  have B := ib X c L W w0 K hn.2 tk
  have hw : ∀ ex, orF a b c ex = true → PW X ex (tT (gcOf X) w0 fun env μ P => (sem W a).t env μ fun c μ1 => if c = true then P true μ1 else (sem W b).t env μ1 P) := fun ex h => by
    rcases orF_inv h with ⟨x, y, p, rfl, h1, h2⟩ | ⟨x, y, z, r, p, rfl, h1, h2⟩
    · exact pw_wk (pw_or (A.t _ h1) (pw_or1 (B.t _ h2))) fun σ H Q => orT_go
    · exact pw_wk (pw_or (A.t _ h1) (B.w _ _ _ h2)) fun σ H Q => orT_go
  refine snd_valT (f := orF a b c) (fun s => rfl) rfl (fun ex h => ?_) (fun ex h => (hw ex h).pt) (fun op vs p h => hw _ h) fun ex h => ?_
  · rcases orF_inv h with ⟨x, y, p, rfl, h1, h2⟩ | ⟨x, y, z, r, p, rfl, h1, h2⟩
    · exact pe_wk (pe_or (A.v _ h1) (pe_one (B.v _ h2))) fun σ H Q => or_go
    · exact pe_wk (pe_or (A.v _ h1) (B.v _ h2)) fun σ H Q => or_go
  · rcases orF_inv h with ⟨x, y, p, rfl, h1, h2⟩ | ⟨x, y, z, r, p, rfl, h1, h2⟩ <;> rfl
def notF (a : E) (c : Ck) : Expr → Bool := fun ex => match ex with
    | .UnaryOp .Not x _ => chk a c (.e x)
    | _ => false
theorem notF_inv {a : E} {ex : Expr} (h : notF a c ex = true) : ∃ x p, ex = .UnaryOp .Not x p ∧ chk a c (.e x) = true := by
  unfold notF at h
  split at h
  · exact ⟨_, _, rfl, h⟩
  · cases h
theorem snd_not (a : E) (ia : Snd a) : Snd (.not a) := fun X c L W w0 K hn tk => by
  have A := ia X c L W w0 K hn tk
  refine snd_valT (f := notF a c) (fun s => rfl) rfl (fun ex h => ?_) (fun ex h => ?_) (fun op vs p h => ?_) fun ex h => ?_
  · obtain ⟨x, p, rfl, h1⟩ := notF_inv h
    refine pe_wk (pe_not (A.v _ h1)) fun σ H Q ⟨w, env, μ, P, eH, g, rh, re, m, k⟩ => ?_
    subst eH
    refine ⟨w, env, μ, _, rfl, g, rh, re, m, fun w1 v x μ1 g1 rh1 rs1 m1 => ?_⟩
    cases x with
    | d x =>
      cases x with
      | bool z =>
        obtain rfl := rps_bool rs1
        exact ⟨z, rfl, k w1 _ _ μ1 g1 rh1 (.d (.bl _)) m1⟩
      | _ => exact m1.elim
    | _ => exact m1.elim
  · obtain ⟨x, p, rfl, h1⟩ := notF_inv h
    exact pt_wk (pt_not (A.t _ h1)) fun σ H Q ⟨w, env, μ, P, eH, g, rh, re, m, k⟩ => by
      subst eH
      exact ⟨w, env, μ, _, rfl, g, rh, re, m, fun w1 z μ1 g1 rh1 m1 => k w1 _ μ1 g1 rh1 m1⟩
  · cases h
  · obtain ⟨x, p, rfl, h1⟩ := notF_inv h; rfl
def iteF (k a b : E) (c : Ck) : Expr → Bool := fun ex => match ex with
    | .IfExp x y z _ => chk k c (.e x) && (chk a c (.e y) && chk b c (.e z))
    | _ => false
theorem iteF_inv {k a b : E} {ex : Expr} (h : iteF k a b c ex = true) : ∃ x y z p, ex = .IfExp x y z p ∧ chk k c (.e x) = true ∧ chk a c (.e y) = true ∧ chk b c (.e z) = true := by
  unfold iteF at h
  split at h
  · simp only [Bool.and_eq_true] at h
    exact ⟨_, _, _, _, rfl, h⟩
  · cases h
theorem snd_ite (q a b : E) (iq : Snd q) (ia : Snd a) (ib : Snd b) : Snd (.ite q a b) := fun X c L W w0 K hn tk => by
  have C := iq X c L W w0 K hn.1 tk
  have A := ia X c L W w0 K hn.2.1 tk
  have B := ib X c L W w0 K hn.2.2 tk
  refine snd_valT (f := iteF q a b c) (fun s => rfl) rfl (fun ex h => ?_) (fun ex h => pt_none) (fun op vs p h => ?_) fun ex h => ?_
  · obtain ⟨x, y, z, p, rfl, h1, h2, h3⟩ := iteF_inv h
    refine pe_wk (pe_ifExp (C.t _ h1) (A.v _ h2) (B.v _ h3)) fun σ H Q ⟨w, env, μ, P, eH, g, rh, re, m, k⟩ => ?_
    subst eH
    refine ⟨w, env, μ, _, rfl, g, rh, re, m, fun w1 z μ1 g1 rh1 m1 => ?_⟩
    cases z with
    | true =>
      rw [if_pos rfl] at m1 ⊢
      exact ⟨w1, env, μ1, _, rfl, g.trans g1, rh1, re.mono g1, m1, fun w2 v2 y μ2 g2 rh2 rs2 p => k w2 v2 y μ2 (g1.trans g2) rh2 rs2 p⟩
    | false =>
      rw [if_neg Bool.false_ne_true] at m1 ⊢
      exact ⟨w1, env, μ1, _, rfl, g.trans g1, rh1, re.mono g1, m1, fun w2 v2 y μ2 g2 rh2 rs2 p => k w2 v2 y μ2 (g1.trans g2) rh2 rs2 p⟩
  · cases h
  · obtain ⟨x, y, z, p, rfl, h1⟩ := iteF_inv h; rfl
/-- a operator b operator c -/
def chainF (o p : Op) (a b k : E) (c : Ck) : Expr → Bool := fun ex => match o.shape, p.shape, ex with
    | .cmp u, .cmp v, .Compare x [u', v'] [y, z] _ => decide (u' = u) && (decide (v' = v) && (okx z && (chk a c (.e x) && (chk b c (.e y) && chk k c (.e z)))))
    | _, _, _ => false
theorem chainF_inv {o p : Op} {a b k : E} {ex : Expr} (h : chainF o p a b k c ex = true) : ∃ u v x y z q, o.shape = .cmp u ∧ p.shape = .cmp v ∧ ex = .Compare x [u, v] [y, z] q ∧ okx z = true ∧ chk a c (.e x) = true ∧ chk b c (.e y) = true ∧ chk k c (.e z) = true := by
  unfold chainF at h
  split at h
  · rename_i e1 e2
    simp only [Bool.and_eq_true, decide_eq_true_eq] at h
    obtain ⟨rfl, rfl, h⟩ := h
    exact ⟨_, _, _, _, _, _, e1, e2, rfl, h⟩
  · cases h
theorem lastMarks_ok {u v : CmpOp} {y z : Expr} (h : okx z = true) : lastMarks [u, v] [y, z] = false := by
  show behindInMarks v z = false
  exact marks_ok h
theorem chain_go {o p : Op} {a b k : E} {σ : L2.St} {H : Hp} {Q : VK} (h : tV (gcOf X) w0 (fun env μ P => (sem W a).v env μ fun x μ1 => (sem W b).v env μ1 fun y μ2 => viewK μ2 [x, y] fun ds => o.f ds fun _ r => chainK r μ2 P ((sem W k).v env μ2 fun z μ3 => viewK μ3 [y, z] fun es => p.f es (resK false μ3 P))) σ H Q) :
    tChain (fun x y H Q => rO X.K o.f [x, y] H Q) (fun x y H Q => rO X.K p.f [x, y] H Q) (tV (gcOf X) w0 (sem W a).v) (tV (gcOf X) w0 (sem W b).v) (tV (gcOf X) w0 (sem W k).v) σ H Q := by
  obtain ⟨w, env, μ, P, rfl, g, rh, re, m, kk⟩ := h
  refine ⟨w, env, μ, _, rfl, g, rh, re, m, fun w1 v x μ1 g1 rh1 rs1 m1 => ⟨w1, env, μ1, _, rfl, g.trans g1, rh1, re.mono g1, m1, fun w2 v2 y μ2 g2 rh2 rs2 m2 => ?_⟩⟩
  refine op_goB rh2 (.cons (rs1.mono g2) (.cons rs2 .nil)) m2 fun w3 fresh r v3 g3 rh3 rr m3 => ?_
  cases r with
  | bool z =>
    have e : v3 = .bl z := by
      unfold Res at rr
      cases fresh with
      | true =>
        rw [if_pos rfl] at rr
        obtain ⟨_, _, _, _, e, _⟩ := rr
        cases e
      | false =>
        rw [if_neg Bool.false_ne_true] at rr
        cases rr; rfl
    subst e
    refine ⟨z, rfl, ?_⟩
    cases z with
    | true =>
      rw [if_pos rfl]
      exact ⟨w3, env, μ2, _, rfl, g.trans (g1.trans (g2.trans g3)), rh3, re.mono (g1.trans (g2.trans g3)), m3, fun w4 v4 z μ4 g4 rh4 rs4 m4 =>
        op_go rh4 (.cons (rs2.mono (g3.trans g4)) (.cons rs4 .nil)) m4 fun w5 v5 z μ5 g5 rh5 rs5 p => kk w5 v5 z μ5 (g1.trans (g2.trans (g3.trans (g4.trans g5)))) rh5 rs5 p⟩
    | false =>
      rw [if_neg Bool.false_ne_true]
      exact kk w3 _ _ μ2 (g1.trans (g2.trans g3)) rh3 (.d (.bl _)) m3
  | _ => exact m3.elim
theorem snd_chain (o p : Op) (a b k : E) (ia : Snd a) (ib : Snd b) (ik : Snd k) : Snd (.chain o p a b k) := fun X c L W w0 K hn tk => by
  have A := ia X c L W w0 K hn.1 tk
  have B := ib X c L W w0 K hn.2.1 tk
  have C := ik X c L W w0 K hn.2.2 tk
  refine snd_plain (f := chainF o p a b k c) (fun s => rfl) rfl (fun ex h => ?_) (fun ex h => ?_) (fun op vs p => ?_) fun ex h => ?_
  · obtain ⟨u, v, x, y, z, q, s1, s2, rfl, ok, h1, h2, h3⟩ := chainF_inv h
    exact pe_wk (pe_chain (cmp_ok K s1) (cmp_ok K s2) (A.v _ h1) (B.v _ h2) (C.v _ h3) (lastMarks_ok ok)) fun σ H Q => chain_go
  · obtain ⟨u, v, x, y, z, q, s1, s2, rfl, ok, h1, h2, h3⟩ := chainF_inv h
    exact pt_of (pt_wk (pt_chain (cmp_ok K s1) (cmp_ok K s2) (A.v _ h1) (B.v _ h2) (C.v _ h3) (lastMarks_ok ok)) fun σ H Q => chain_go)
  · unfold chainF
    split
    · rename_i e; cases e
    · rfl
  · obtain ⟨u, v, x, y, z, q, s1, s2, rfl, _⟩ := chainF_inv h; rfl
end
end DV
set_option Elab.async false
set_option linter.all false
set_option maxRecDepth 100000
set_option maxHeartbeats 4000000
/-! Dv9: more nodes: types, calls, displays, slices, methods, ranges. -/
namespace DV
open PySem PySem.Spec PyProof.Rows L2
section
variable {G : GC} {w : Wl} {μ : Store}
theorem upd_sub {I H : Hp} {a : Addr} {u : HO} (s : Sub I H) (e : H a = some u) : Sub (upd I a u) H := fun b z q => by
  by_cases hb : b = a
  · subst hb; rw [upd_same] at q; cases q; exact e
  · rw [upd_ne hb] at q; exact s b z q
/-- a value is frozen -/
theorem frz_ok {x : SV} {v : V} {P : D → Store → Prop} (rh : RpH G w μ) (rs : RpS G w x v) (m : frzK x μ P) : ∃ w' d μ', w'.H = w.H ∧ Gr w w' ∧ RpH G w' μ' ∧ Rp G.K w'.I v d ∧ P d μ' := by
  cases rs with
  | d r => exact ⟨w, _, μ, rfl, .refl, rh, r, m⟩
  | fn _ => exact m.elim
  | @loc k a ea =>
    have m' : (match μ[k]? with
      | some (.lst xs) => P (.list xs) (μ.set k (.frz (.list xs)))
      | some (.dic kvs) => P (.dict kvs) (μ.set k (.frz (.dict kvs)))
      | some (.frz x) => P x μ
      | _ => False) := m
    cases q : μ[k]? with
    | none => rw [q] at m'; exact m'.elim
    | some o =>
      rw [q] at m'
      obtain ⟨b, eb, rm⟩ := rh.obj k o q
      have eab : a = b := Option.some.inj (ea.symm.trans eb)
      subst eab
      cases o with
      | frz x => exact ⟨w, _, μ, rfl, .refl, rh, rm.2, m'⟩
      | lst ds =>
        obtain ⟨n, vs, h, r⟩ := rm
        have rp : Rp G.K (upd w.I a (.lst vs)) (.ref a) (.list ds) := .lst (SqL.of upd_same) (r.mono (.new n))
        obtain ⟨g, rh'⟩ := rh.freezeO ea n h rp
        exact ⟨_, _, _, (by exact rfl : (Wl.mk _ w.α w.H).H = w.H), g, rh', rp, m'⟩
      | dic ds =>
        obtain ⟨n, vs, h, r1, r⟩ := rm
        have rp : Rp G.K (upd w.I a (.dK vs)) (.ref a) (.dict ds) := .dic (.inl upd_same) r1 (r.mono (.new n))
        obtain ⟨g, rh'⟩ := rh.freezeO ea n h rp
        exact ⟨_, _, _, (by exact rfl : (Wl.mk _ w.α w.H).H = w.H), g, rh', rp, m'⟩
      | ins _ _ => exact m'.elim
theorem frzL_ok : ∀ {xs : List SV} {vs : List V} {w : Wl} {μ : Store} {P : List D → Store → Prop}, RpH G w μ → RpSs G w xs vs → frzL xs μ P → ∃ w' ds μ', w'.H = w.H ∧ Gr w w' ∧ RpH G w' μ' ∧ RpAll G.K w'.I vs ds ∧ P ds μ'
  | _, _, w, μ, _, rh, .nil, m => ⟨w, [], μ, rfl, .refl, rh, .nil, m⟩
  | x :: xs, v :: vs, w, μ, P, rh, .cons a b, m => by
    have m : frzK x μ (fun d μ1 => frzL xs μ1 fun ds μ2 => P (d :: ds) μ2) := m
    obtain ⟨w1, d, μ1, e1, g1, rh1, r1, m1⟩ := frz_ok rh a m
    obtain ⟨w2, ds, μ2, e2, g2, rh2, r2, m2⟩ := frzL_ok rh1 (b.mono g1) m1
    exact ⟨w2, d :: ds, μ2, e2.trans e1, g1.trans g2, rh2, .cons (r1.mono g2.sub) r2, m2⟩
end
section
variable {X : Cx} {c : Ck} {L : Addr} {W : Exn → DEnv → Store → Prop} {w0 : Wl}
def isiF (t : Ty) (a : E) (c : Ck) : Expr → Bool := fun ex => match ex with
    | .Call (.Name x _) [e, .Name y _] [] _ => x == ("isinstance" : Str) && (c.blt "isinstance" && (y == PySem.Str.ofString t.n && (c.blt (PySem.Str.ofString t.n) && (okx e && chk a c (.e e)))))
    | _ => false
theorem isiF_inv {t : Ty} {a : E} {ex : Expr} (h : isiF t a c ex = true) : ∃ e p q r, ex = .Call (.Name "isinstance" p) [e, .Name (PySem.Str.ofString t.n) q] [] r ∧ c.blt "isinstance" = true ∧ c.blt (PySem.Str.ofString t.n) = true ∧ okx e = true ∧ chk a c (.e e) = true := by
  unfold isiF at h
  split at h
  · simp only [Bool.and_eq_true] at h
    obtain ⟨h1, h2, h3, h4, h5, h6⟩ := h
    rw [eq_of_beq h1, eq_of_beq h3]
    exact ⟨_, _, _, _, rfl, h2, h4, h5, h6⟩
  · cases h
theorem boot_ty (t : Ty) : bootBuiltins (PySem.Str.ofString t.n) = some (.type t.n) := by cases t <;> rfl
theorem snd_isi (t : Ty) (a : E) (ia : Snd a) : Snd (.isi t a) := fun X c L W w0 K hn tk => by
  have A := ia X c L W w0 K hn tk
  refine snd_plain' (f := isiF t a c) (fun s => rfl) rfl (fun ex h => ?_) fun ex h => ?_
  · obtain ⟨e, p, q, r, rfl, h1, h2, h3, h4⟩ := isiF_inv h
    obtain ⟨g1, g2, g3, g4⟩ := ck_blt K h1
    obtain ⟨i1, i2, i3, i4⟩ := ck_blt K h2
    refine pe_wk (pe_callB (call_isi (X := X)) g1 g4 rfl (pa_cons (A.v _ h4) (pa_cons (pe_bltn (v := .ty t.n) i1 i4 (boot_ty t) rfl i3 i2) pa_nil) (star_ok h3)) g3 g2 (star_ok h3)) fun σ H Q ⟨w, env, μ, P, eH, g, rh, re, m, k⟩ => ?_
    subst eH
    refine ⟨w, env, μ, _, rfl, g, rh, re, m, fun w1 v x μ1 g1 rh1 rs1 m1 => ?_⟩
    obtain ⟨ds, vw, m1⟩ := view_ok rh1 (.cons rs1 .nil) m1
    obtain ⟨d, rfl, v1⟩ := vw1 vw
    have m1 : P (.d (.bool (isTy t d))) μ1 := m1
    exact ⟨v, .ty t.n, .type (tyD d), .type t.n, isTy t d, rfl, .ty _, v1.ty rh1.sub, kit_ty (kitB_all d t), k w1 _ _ μ1 g1 rh1 (.d (.bl _)) m1⟩
  · obtain ⟨e, p, q, r, rfl, _⟩ := isiF_inv h; exact ⟨rfl, rfl⟩
def tTupD (t : TA) : TE := fun σ H Q => t σ H fun xs H1 => xs.length ≤ sizeLine ∧ ∀ p its, H1 p = none → Q (.ref p) (upd H1 p (.frz (tupO its) (.tup xs)))
theorem pe_tupD {es : List Expr} {t : TA} {x1 : Nat} {pos : Pos} (h : PA X es t) : PE X (.Tuple es x1 pos) (tTupD t) := by
  refine ⟨fun pins s σ H Q I hq => ?_⟩
  refine wpAny_Tuple_spliced (thn (h.run pos pins s σ H _ I hq) fun us s1 ⟨xs, H1, I1, r, z, q⟩ => ⟨by rw [← r.length]; exact z, ?_⟩)
  exact ⟨.ref s1.heap.objs.size, _, inv_ltup I1 (its := us) (fun b u e => Heap.get?_push_of_some _ e) (Nat.le_refl _) (Heap.get?_push_size _ rfl) z r, rfl, q _ _ (I1.hok.fresh (Nat.le_refl _))⟩
theorem snd_tupd (a : E) (ia : Snd a) : Snd (.tupd a) := fun X c L W w0 K hn tk => by
  have A := ia X c L W w0 K hn tk
  refine snd_plain' (fun s => rfl) rfl (fun ex h => ?_) fun ex h => ?_
  · cases ex with
    | Tuple es kx p =>
      refine pe_wk (pe_tupD (A.l _ h)) fun σ H Q ⟨w, env, μ, P, eH, g, rh, re, m, k⟩ => ?_
      subst eH
      refine ⟨w, env, μ, _, rfl, g, rh, re, m, fun w1 vs xs μ1 g1 rh1 rs1 m1 => ?_⟩
      obtain ⟨w2, ds, μ2, e2, g2, rh2, r2, hl, m2⟩ := frzL_ok rh1 rs1 m1
      refine ⟨by rw [r2.length]; exact hl, fun p its hp => ?_⟩
      have x : Ex w2.I w2.H (upd w2.I p (.frz (tupO its) (.tup vs))) (upd w2.H p (.frz (tupO its) (.tup vs))) := Ex.new rh2.sub (by rw [e2]; exact hp)
      rw [← e2]
      exact k ⟨_, w2.α, _⟩ _ _ μ2 (g1.trans (g2.trans x.gr)) (rh2.ex x) (.d (.tup (.inl (.inr ⟨_, upd_same⟩)) (.inl ⟨_, _, upd_same, rfl⟩) (r2.mono x.ii))) m2
    | _ => cases h
  · cases ex <;> first | exact ⟨rfl, rfl⟩ | cases h
theorem snd_lstd (own : Bool) (a : E) (ia : Snd a) : Snd (.lstd own a) := fun X c L W w0 K hn tk => by
  have A := ia X c L W w0 K hn tk
  refine snd_plain' (fun s => rfl) rfl (fun ex h => ?_) fun ex h => ?_
  · cases ex with
    | List es p =>
      refine pe_wk (pe_lst (A.l _ h)) fun σ H Q ⟨w, env, μ, P, eH, g, rh, re, m, k⟩ => ?_
      subst eH
      refine ⟨w, env, μ, _, rfl, g, rh, re, m, fun w1 vs xs μ1 g1 rh1 rs1 m1 => ?_⟩
      obtain ⟨w2, ds, μ2, e2, g2, rh2, r2, hl, m2⟩ := frzL_ok rh1 rs1 m1
      refine ⟨by rw [r2.length]; exact hl, fun p hp => ?_⟩
      have hp' : w2.H p = none := by rw [e2]; exact hp
      have x : Ex w2.I w2.H w2.I (upd w2.H p (.lst vs)) := ⟨.new hp', .refl, rh2.sub.trans (.new hp'), fun _ _ e => .inl e⟩
      obtain ⟨w3, y, μ3, e3, g3, rh3, rs3, p3⟩ := res_ok rh2 x (fresh := true) (r := .list ds) (v := .ref p) (by unfold Res; rw [if_pos rfl]; exact ⟨p, vs, ds, rfl, rfl, hp', rh2.sub.no hp', upd_same, r2⟩) m2
      rw [← e2, ← e3]
      exact k w3 _ y μ3 (g1.trans (g2.trans g3)) rh3 rs3 p3
    | _ => cases h
  · cases ex <;> first | exact ⟨rfl, rfl⟩ | cases h
def slcF (a l u : E) (c : Ck) : Expr → Bool := fun ex => match ex with
    | .Subscript x (.Slice lo hi none _) _ => chk a c (.e x) && (chk l c (.o lo) && chk u c (.o hi))
    | _ => false
theorem slcF_inv {a l u : E} {ex : Expr} (h : slcF a l u c ex = true) : ∃ x lo hi p q, ex = .Subscript x (.Slice lo hi none p) q ∧ chk a c (.e x) = true ∧ chk l c (.o lo) = true ∧ chk u c (.o hi) = true := by
  unfold slcF at h
  split at h
  · simp only [Bool.and_eq_true] at h
    exact ⟨_, _, _, _, _, rfl, h⟩
  · cases h
theorem snd_slc (own : Bool) (a l u : E) (ia : Snd a) (il : Snd l) (iu : Snd u) : Snd (.slc own a l u) := fun X c L W w0 K hn tk => by
  have A := ia X c L W w0 K hn.1 tk
  have B := il X c L W w0 K hn.2.1 tk
  have C := iu X c L W w0 K hn.2.2 tk
  refine snd_plain' (f := slcF a l u c) (fun s => rfl) rfl (fun ex h => ?_) fun ex h => ?_
  · obtain ⟨x, lo, hi, p, q, rfl, h1, h2, h3⟩ := slcF_inv h
    refine pe_wk (pe_slice sl_any (A.v _ h1) (B.o _ h2) (C.o _ h3)) fun σ H Q ⟨w, env, μ, P, eH, g, rh, re, m, k⟩ => ?_
    subst eH
    refine ⟨w, env, μ, _, rfl, g, rh, re, m, fun w1 v x μ1 g1 rh1 rs1 m1 => ⟨w1, env, μ1, _, rfl, g.trans g1, rh1, re.mono g1, m1, fun w2 l μ2 g2 rh2 m2 => ⟨w2, env, μ2, _, rfl, g.trans (g1.trans g2), rh2, re.mono (g1.trans g2), m2, fun w3 u μ3 g3 rh3 m3 => ?_⟩⟩⟩
    refine op_go (own := own) (xs := [x]) rh3 (.cons (rs1.mono (g2.trans g3)) .nil) ?_ fun w4 v4 z μ4 g4 rh4 rs4 p => k w4 v4 z μ4 (g1.trans (g2.trans (g3.trans g4))) rh4 rs4 p
    have m3 : viewK μ3 [x] (fun ds => oneK ds fun d => sSl d l u (resK own μ3 P)) := m3
    unfold viewK at m3 ⊢
    cases q : view1 μ3 x with
    | none => rw [q] at m3; exact m3
    | some d => rw [q] at m3; exact m3
  · obtain ⟨x, lo, hi, p, q, rfl, _⟩ := slcF_inv h; exact ⟨rfl, rfl⟩
def rngF (a : E) (c : Ck) : Expr → Bool := fun ex => match ex with
  | .Call (.Name x _) es [] _ => x == ("range" : Str) && (c.blt "range" && ((match es with
    | [_] => true
    | [_, _] => true
    | _ => false) && chk a c (.l es)))
  | _ => false
theorem it_rng {G : GC} {w1 : Wl} {lo : Int} {n : Nat} {g : Store → Prop} : ItOk G w1 (Itr lo n) (rangeD lo n) g := fun w μ _ rh _ i => by
  refine ⟨fun d e => ?_, fun hl => by
    have hl : n ≤ i := Nat.le_of_eq (by simpa [rangeD] using hl)
    exact hl⟩
  unfold rangeD at e
  rw [List.getElem?_map] at e
  by_cases hi : i < n
  · rw [List.getElem?_range hi] at e
    cases e
    exact ⟨hi, fun x H' ⟨e1, e2⟩ => by subst e1 e2; exact ⟨w.I, Ex.refl rh.sub, .int _⟩⟩
  · rw [List.getElem?_eq_none (by simpa using hi)] at e
    cases e
theorem rps1 {G : GC} {w : Wl} {i : Int} {vs : List V} (h : RpSs G w [.d (.int i)] vs) : vs = [.int i] := by
  cases h with
  | cons a b =>
    cases b
    cases a with
    | d r => cases r; rfl
theorem rps2 {G : GC} {w : Wl} {i j : Int} {vs : List V} (h : RpSs G w [.d (.int i), .d (.int j)] vs) : vs = [.int i, .int j] := by
  cases h with
  | cons a b =>
    rw [rps1 b]
    cases a with
    | d r => cases r; rfl
theorem snd_rng (two : Bool) (a : E) (ia : Snd a) : Snd (.rng two a) := fun X c L W w0 K hn tk => by
  have A := ia X c L W w0 K hn tk
  refine ⟨fun ex h => ?_, fun ex h => ?_, fun op vs p h => ?_, fun xs h => ?_, fun x h => ?_, fun xs h => ?_, fun tg ex h => ?_⟩
  · cases h
  · cases h
  · cases h
  · cases h
  · cases h
  · cases h
  have key : ∃ es p q, ex = .Call (.Name "range" p) es [] q ∧ c.blt "range" = true ∧ ((two = false ∧ ∃ x, es = [x]) ∨ (two = true ∧ ∃ x y, es = [x, y])) ∧ chk a c (.l es) = true := by
    cases ex <;> first | (cases h; done) | skip
    rename_i f es ks p
    cases f <;> first | (cases h; done) | skip
    cases ks <;> first | (cases h; done) | skip
    rename_i x q
    have h : (x == ("range" : Str) && (c.blt "range" && (rngA two es && chk a c (.l es)))) = true := h
    simp only [Bool.and_eq_true] at h
    obtain ⟨h1, h2, h3, h4⟩ := h
    rw [eq_of_beq h1]
    refine ⟨es, _, _, rfl, h2, ?_, h4⟩
    unfold rngA at h3
    split at h3
    · exact .inl ⟨rfl, _, rfl⟩
    · exact .inr ⟨rfl, _, _, rfl⟩
    · cases h3
  obtain ⟨es, p, q, rfl, h1, h2, h3⟩ := key
  obtain ⟨g1, g2, g3, g4⟩ := ck_blt K h1
  refine ⟨?_, fold_ok rfl⟩
  have ok := chk_okx h3
  rcases h2 with ⟨rfl, x, rfl⟩ | ⟨rfl, x, y, rfl⟩
  · have o1 := okx_cons ok
    refine pi_wk (pi_range1 g1 g4 (A.l _ h3) (star_ok o1.1)) fun σ H R ⟨w, env, μ, P, eH, g, rh, re, m, k⟩ => ?_
    subst eH
    refine ⟨w, env, μ, _, rfl, g, rh, re, m, fun w1 vs xs μ1 g1 rh1 rs1 m1 => ?_⟩
    unfold rngK at m1
    split at m1
    · rw [rps1 rs1]
      exact ⟨_, rfl, m1.1, m1.2.1, k w1 _ _ μ1 _ g1 rh1 m1.2.2 it_rng⟩
    · rename_i e; cases e
    · exact m1.elim
  · have o1 := okx_cons ok
    have o2 := okx_cons o1.2
    refine pi_wk (pi_range2 g1 g4 (A.l _ h3) ((star_ok o1.1).trans (by rw [star_ok o2.1]; rfl)) (star_ok o2.1)) fun σ H R ⟨w, env, μ, P, eH, g, rh, re, m, k⟩ => ?_
    subst eH
    refine ⟨w, env, μ, _, rfl, g, rh, re, m, fun w1 vs xs μ1 g1 rh1 rs1 m1 => ?_⟩
    unfold rngK at m1
    split at m1
    · rename_i e; cases e
    · rw [rps2 rs1]
      exact ⟨_, _, rfl, m1.1, k w1 _ _ μ1 _ g1 rh1 m1.2 it_rng⟩
    · exact m1.elim

theorem view_l {μ : Store} : ∀ {xs : List SV} {ds : List D} {P : List D → Prop}, viewL μ xs = some ds → P ds → viewK μ xs P
  | [], ds, P, h, p => by cases h; exact p
  | x :: r, ds, P, h, p => by
    unfold viewL at h
    unfold viewK
    cases q : view1 μ x with
    | none => rw [q] at h; cases h
    | some d =>
      cases q2 : viewL μ r with
      | none => rw [q, q2] at h; cases h
      | some es =>
        rw [q, q2] at h
        cases h
        exact view_l q2 p
theorem view_inv {μ : Store} : ∀ {xs : List SV} {P : List D → Prop}, viewK μ xs P → ∃ ds, viewL μ xs = some ds ∧ P ds
  | [], P, h => ⟨[], rfl, h⟩
  | x :: r, P, h => by
    unfold viewK at h
    cases q : view1 μ x with
    | none => rw [q] at h; exact h.elim
    | some d =>
      rw [q] at h
      obtain ⟨ds, h1, h2⟩ := view_inv h
      refine ⟨d :: ds, ?_, h2⟩
      unfold viewL
      rw [q, h1]
theorem snd_plug (p : PlugV) (own : Bool) (a : E) (ia : Snd a) : Snd (.plug p own a) := fun X c L W w0 K hn tk => by
  have A := ia X c L W w0 K hn tk
  have inv : ∀ ex, (match p.txt c ex with
    | some es => chk a c (.l es)
    | none => false) = true → ∃ es, p.txt c ex = some es ∧ chk a c (.l es) = true := fun ex h => by
    cases q : p.txt c ex with
    | none => rw [q] at h; cases h
    | some es => rw [q] at h; exact ⟨es, rfl, h⟩
  refine snd_plain' (fun s => rfl) rfl (fun ex h => ?_) fun ex h => ?_
  · obtain ⟨es, h1, h2⟩ := inv ex h
    obtain ⟨ts, t1, t2⟩ := A.p es h2
    refine pe_wk (p.ok X c L K ex es ts h1 t1) fun σ H Q ⟨w, env, μ, P, eH, g, rh, re, m, k⟩ => ?_
    subst eH
    exact t2 _ _ _ ⟨w, env, μ, _, rfl, g, rh, re, m, fun w1 v x μ1 g1 rh1 rs1 m1 => op_go rh1 rs1 m1 fun w3 v3 z μ3 g3 rh3 rs3 q => k w3 v3 z μ3 (g1.trans g3) rh3 rs3 q⟩
  · obtain ⟨es, h1, h2⟩ := inv ex h
    exact p.form c ex es h1
theorem snd_plugI (p : PlugI) (a : E) (ia : Snd a) : Snd (.plugI p a) := fun X c L W w0 K hn tk => by
  have A := ia X c L W w0 K hn tk
  refine ⟨fun ex h => ?_, fun ex h => ?_, fun op vs p h => ?_, fun xs h => ?_, fun x h => ?_, fun xs h => ?_, fun tg ex h => ?_⟩
  · cases h
  · cases h
  · cases h
  · cases h
  · cases h
  · cases h
  have h : (match p.txt c tg ex with
    | some es => chk a c (.l es)
    | none => false) = true := h
  cases q : p.txt c tg ex with
  | none => rw [q] at h; cases h
  | some es =>
    rw [q] at h
    obtain ⟨ts, t1, t2⟩ := A.p es h
    obtain ⟨r1, r2⟩ := p.ok X c L K tg ex es ts q t1
    refine ⟨pi_wk r1 fun σ H R ⟨w, env, μ, P, eH, g, rh, re, m, k⟩ => ?_, r2⟩
    subst eH
    refine t2 _ _ _ ⟨w, env, μ, _, rfl, g, rh, re, m, fun w1 vs xs μ1 g1 rh1 rs1 m1 => ?_⟩
    obtain ⟨ds, v1, items, hi, m2⟩ := view_inv m1
    obtain ⟨ds', vw, e⟩ := view_ok rh1 rs1 (view_l (P := fun z => z = ds) v1 rfl)
    subst e
    refine ⟨w1.I, _, items, rh1.sub, vw, hi, fun J good => k w1 items _ μ1 J g1 rh1 m2 fun w2 μ2 g2 rh2 hg i => ?_⟩
    obtain ⟨ds2, vw2, e⟩ := view_ok rh2 (rs1.mono g2) (view_l (P := fun z => z = _) hg rfl)
    subst e
    exact good w2.I w2.H rh2.sub vw2 i
end
end DV
set_option Elab.async false
set_option linter.all false
set_option maxRecDepth 100000
set_option maxHeartbeats 4000000
/-! DvA: calls of defs, methods of lists. -/
namespace DV
open PySem PySem.Spec PyProof.Rows L2
section
variable {X : Cx} {c : Ck} {L : Addr} {W : Exn → DEnv → Store → Prop} {w0 : Wl}
/-- the callee runs -/
theorem run_fnG {pins : List (Addr × Obj)} {σ : L2.St} {H : Hp} {s : Shared} {Q : VK} {E : XK} {us : List Value} {vs : List V} {k : Nat} {f : Addr} {fd : FuncData} {ps : List Str} {sp : Sp} {G : GC} (eG : G = gcOf X) (F : FnG G k f fd ps sp) (hr : Room k X.A) (hg : X.A.guards = some []) (hb : Binds X.K fd ps [])
    (I : Inv X pins σ H s) (r : Vals vs us) (tk : TakesL X L (wD (gcOf X) w0 W)) (hE : ∀ cls d H', E cls d H' → wD (gcOf X) w0 W cls d σ H') (h : sp vs H Q E) : wpAny (model X.prog X.w) X.A (call (.ref f) us) (EP X pins σ Q) X.xe s := by
  subst eG
  have hl : (us ++ []).length = ps.length := by rw [List.append_nil, ← r.length]; exact F.len _ _ _ _ h
  have B := hb s us I.kIn hl
  rw [List.append_nil] at B
  refine wpAny_call (codeAny_mono (F.run X.A X.stack s H ⟨us, []⟩ us vs Q E hr hg I.env0 B r h) fun r s' hq => ?_)
  cases r with
  | error e => exact tk _ _ (XEL.of_call I hE hq)
  | ok fl =>
    cases fl with
    | ret u => exact I.after hq
    | next => exact False.elim hq
    | brk => exact False.elim hq
    | cont => exact False.elim hq
def callF (n : Str) (k : Nat) (a : E) (c : Ck) : Expr → Bool := fun ex => match ex with
    | .Call (.Name x _) es [] _ => x == n && (c.glo n && (decide (k ≤ c.lev) && chk a c (.l es)))
    | _ => false
theorem callF_inv {n : Str} {k : Nat} {a : E} {ex : Expr} (h : callF n k a c ex = true) : ∃ es p q, ex = .Call (.Name n p) es [] q ∧ c.glo n = true ∧ k ≤ c.lev ∧ chk a c (.l es) = true := by
  unfold callF at h
  split at h
  · simp only [Bool.and_eq_true, decide_eq_true_eq] at h
    obtain ⟨h1, h2, h3, h4⟩ := h
    rw [eq_of_beq h1]
    exact ⟨_, _, _, rfl, h2, h3, h4⟩
  · cases h
theorem chk_l0 {a : E} (h : chk a c (.l []) = true) : a = .nil := by
  cases a <;> first | rfl | (exfalso; simp [chk, plain] at h)
theorem snd_call (n : Str) (k ar : Nat) (sp : DSp) (a : E) (ia : Snd a) : Snd (.call n k ar sp a) := fun X c L W w0 K hn tk => by
  have A := ia X c L W w0 K hn.2 tk
  obtain ⟨f, fd, ps, hps, F, hm, hk, hb⟩ := hn.1
  refine snd_plain' (f := callF n k a c) (fun s => rfl) rfl (fun ex h => ?_) fun ex h => ?_
  · obtain ⟨es, p, q, rfl, h1, h2, h3⟩ := callF_inv h
    obtain ⟨g1, g2⟩ := ck_glo K h1
    have ok := chk_okx h3
    have go : ∀ (pins : List (Addr × Obj)) (s1 : Shared) (σ : L2.St) (w : Wl) (us : List Value) (vs : List V) (xs : List SV) (env : DEnv) (μ1 : Store) (P : SV → Store → Prop) (Q : VK) (w1 : Wl), Gr w0 w → Gr w w1 → RpE (gcOf X) w σ env → RpH (gcOf X) w1 μ1 → RpSs (gcOf X) w1 xs vs → Vals vs us → Inv X pins σ w1.H s1 →
        (xs.length = ar ∧ sp xs μ1 P fun x μ2 => W x env μ2) → (∀ w' v x μ', Gr w w' → RpH (gcOf X) w' μ' → RpS (gcOf X) w' x v → P x μ' → Q v w'.H) →
        wpAny (model X.prog X.w) X.A (call (.ref f) us) (EP X pins σ Q) X.xe s1 := fun pins s1 σ w us vs xs env μ1 P Q w1 g g1 re rh1 rs1 r I1 m1 kk => by
      refine run_fnG (E := fun cls d H => wD (gcOf X) w0 W cls d σ H) rfl F (K.room.mono h2) K.guards hb I1 r tk (fun cls d H' z => z) ?_
      refine ⟨w1, xs, μ1, _, _, rfl, rh1, rs1, m1.1, m1.2, fun w' v x μ' g' rh' rs' p => kk w' v x μ' (g1.trans g') rh' rs' p, fun w' cls d x μ' g' rh' rx p => ?_⟩
      exact ⟨w', env, μ', x, rfl, g.trans (g1.trans g'), rh', re.mono (g1.trans g'), rx, p⟩
    refine ⟨fun pins s σ H Q I hq => ?_⟩
    obtain ⟨w, env, μ, P, eH, g, rh, re, m, kk⟩ := hq
    subst eH
    refine wpAny_Call_Name_kw (ld_glob I g1 hm ?_ g2)
    cases es with
    | nil =>
      have ea := chk_l0 h3
      subst ea
      exact PySem.W.callWith_K0 I.kIn hk (go pins s σ w [] [] [] env μ P Q w g .refl re rh .nil .nil I m kk)
    | cons e es =>
      have o1 := okx_cons ok
      refine PySem.W.callWith_K (h₀ := X.base) I.ok.mod.kin hk (thn ((A.l _ h3).run q pins s σ w.H (fun vs H1 => ∃ w1 xs μ1, w1.H = H1 ∧ Gr w w1 ∧ RpH (gcOf X) w1 μ1 ∧ RpSs (gcOf X) w1 xs vs ∧ (xs.length = ar ∧ sp xs μ1 P fun x μ2 => W x env μ2)) I
        ⟨w, env, μ, _, rfl, g, rh, re, m, fun w1 vs xs μ1 g1 rh1 rs1 m1 => ⟨w1, xs, μ1, rfl, g1, rh1, rs1, m1⟩⟩) fun us s1 ⟨vs, H1, I1, r, w1, xs, μ1, eH1, g1, rh1, rs1, m1⟩ => ⟨I1.kIn, ?_⟩) (star_ok o1.1) (any_back o1.2)
      subst eH1
      exact go pins s1 σ w us vs xs env μ1 P Q w1 g g1 re rh1 rs1 r I1 m1 kk
  · obtain ⟨es, p, q, rfl, _⟩ := callF_inv h; exact ⟨rfl, rfl⟩
/-! ### methods of lists -/
def mthF (o : Mut) (r a : E) (c : Ck) : Expr → Bool := fun ex => match ex with
    | .Call (.Attribute x m ap) es [] cp => m == o.name && (okRecv x && ((ap.endLine == cp.line) && (decide (es.length < 20) && (chk r c (.e x) && chk a c (.l es)))))
    | _ => false
theorem mthF_inv {o : Mut} {r a : E} {ex : Expr} (h : mthF o r a c ex = true) : ∃ x ap es cp, ex = .Call (.Attribute x o.name ap) es [] cp ∧ okRecv x = true ∧ (ap.endLine == cp.line) = true ∧ es.length < 20 ∧ chk r c (.e x) = true ∧ chk a c (.l es) = true := by
  unfold mthF at h
  split at h
  · simp only [Bool.and_eq_true, decide_eq_true_eq] at h
    obtain ⟨h1, h2⟩ := h
    rw [eq_of_beq h1]
    exact ⟨_, _, _, _, rfl, h2⟩
  · cases h
theorem few_ok {cpos : Pos} {es : List Expr} {env : Env} (h1 : es.all okx = true) (h2 : es.length < 20) : ((backTo cpos (starEach es env)).all (fun x => !x.1) && (backToKw cpos (keywordEach [] env)).all (fun x => x.1.isSome)
      && decide (es.length + ([] : List Keyword).length + (if ([] : List Keyword).isEmpty then 0 else 1) < 30)) = true := by
  rw [all_back h1]
  simp only [Bool.and_eq_true, decide_eq_true_eq]
  refine ⟨⟨trivial, rfl⟩, ?_⟩
  simp
  omega
def Mut.id : Mut → String
  | .append => "list.append" | .pop0 => "list.pop" | .popAt => "list.pop"
theorem Mut.slot (o : Mut) : Slot "list" o.name o.id := by
  cases o
  · exact slot_list_append
  · exact PySem.F.slot_list_pop
  · exact PySem.F.slot_list_pop
theorem Mut.ty (o : Mut) : typeOf (.builtin o.id) = pure (.type "method_descriptor") := by cases o <;> rfl
/-- what a change of the list at a is: its machine rule -/
def rMut : Mut → V → List V → Hp → VK → Prop
  | .append => rAppend
  | .pop0 => rPop
  | .popAt => rPopAt
theorem mt_mut (o : Mut) : MtR X o.id (rMut o) := by
  cases o
  · exact mt_append
  · exact mt_pop
  · exact mt_popAt
theorem RpAll.dropLast {K : PySem.W.Frag} {H : Hp} : ∀ {vs : List V} {ds : List D}, RpAll K H vs ds → RpAll K H vs.dropLast ds.dropLast
  | _, _, .nil => .nil
  | _, _, .cons a .nil => .nil
  | _, _, .cons a (.cons b r) => .cons a (RpAll.dropLast (.cons b r))
theorem RpAll.eraseIdx {K : PySem.W.Frag} {H : Hp} : ∀ {vs : List V} {ds : List D} (i : Nat), RpAll K H vs ds → RpAll K H (vs.eraseIdx i) (ds.eraseIdx i)
  | _, _, _, .nil => .nil
  | _, _, 0, .cons _ r => r
  | _, _, i + 1, .cons a r => .cons a (r.eraseIdx i)
/-- a list of the store is rewritten -/
theorem lst_write {G : GC} {w : Wl} {μ : Store} {k : Nat} {a : Addr} {ds es : List D} {us : List V} (rh : RpH G w μ) (ea : w.α[k]? = some a) (n : w.I a = none) (r : RpAll G.K w.I us es) :
    Gr w ⟨w.I, w.α, upd w.H a (.lst us)⟩ ∧ RpH G ⟨w.I, w.α, upd w.H a (.lst us)⟩ (μ.set k (.lst es)) :=
  rh.write ea n (show RpM G ⟨w.I, w.α, upd w.H a (.lst us)⟩ (.lst es) a from ⟨n, us, upd_same, r⟩)
theorem lst_at {G : GC} {w : Wl} {μ : Store} {k : Nat} {a : Addr} {ds : List D} (rh : RpH G w μ) (ea : w.α[k]? = some a) (e : μ[k]? = some (.lst ds)) : w.I a = none ∧ ∃ vs, w.H a = some (.lst vs) ∧ RpAll G.K w.I vs ds := by
  obtain ⟨b, eb, rm⟩ := rh.obj k _ e
  have eab : a = b := Option.some.inj (ea.symm.trans eb)
  subst eab
  exact rm
theorem mut_go {G : GC} {w : Wl} {μ : Store} {o : Mut} {k : Nat} {a : Addr} {xs : List SV} {vs : List V} {P : SV → Store → Prop} {Q : VK} (rh : RpH G w μ) (ea : w.α[k]? = some a) (rs : RpSs G w xs vs) (m : mutK o k xs μ P)
    (kk : ∀ w' v x μ', Gr w w' → RpH G w' μ' → RpS G w' x v → P x μ' → Q v w'.H) : rMut o (.ref a) vs w.H Q := by
  cases o with
  | append =>
    cases rs with
    | nil => exact m.elim
    | @cons y v _ _ r0 rr =>
      cases rr with
      | cons _ _ => exact m.elim
      | nil =>
        have m : frzK y μ (fun d μ1 => lstK μ1[k]? fun xs => xs.length < sizeLine ∧ P (.d .none) (μ1.set k (.lst (xs ++ [d])))) := m
        obtain ⟨w1, d, μ1, e1, g1, rh1, rd, m1⟩ := frz_ok rh r0 m
        have ea1 := g1.at ea
        obtain ⟨ds, q, m1⟩ := lstK_inv m1
        obtain ⟨n, us, hu, ru⟩ := lst_at rh1 ea1 q
        obtain ⟨g2, rh2⟩ := lst_write (ds := ds) rh1 ea1 n (ru.append (.cons rd .nil))
        refine ⟨a, us, v, rfl, rfl, by rw [← e1]; exact hu, by rw [ru.length]; exact m1.1, ?_⟩
        rw [← e1]
        exact kk _ _ _ _ (g1.trans g2) rh2 (.d .non) m1.2
  | pop0 =>
    cases rs with
    | cons _ _ => exact m.elim
    | nil =>
      obtain ⟨ds, q, m1⟩ := lstK_inv m
      obtain ⟨y, ey, p⟩ := m1
      obtain ⟨n, us, hu, ru⟩ := lst_at rh ea q
      obtain ⟨v, hv, rv⟩ := ru.get ey
      obtain ⟨g2, rh2⟩ := lst_write (ds := ds) rh ea n ru.dropLast
      exact ⟨a, us, v, rfl, rfl, hu, by rw [ru.length]; exact hv, kk _ _ _ _ g2 rh2 (.d rv) p⟩
  | popAt =>
    cases rs with
    | nil => exact m.elim
    | @cons y v _ _ r0 rr =>
      cases rr with
      | cons _ _ => exact m.elim
      | nil =>
        obtain ⟨i, rfl, m⟩ := intK_inv m
        obtain ⟨ds, q, m⟩ := lstK_inv m
        obtain ⟨j, y, h1, h2, h3, ey, p⟩ := m
        obtain ⟨n, us, hu, ru⟩ := lst_at rh ea q
        obtain ⟨v', hv, rv⟩ := ru.get ey
        obtain ⟨g2, rh2⟩ := lst_write (ds := ds) rh ea n (ru.eraseIdx j)
        cases r0 with
        | d r0 =>
          cases r0
          exact ⟨a, us, i, j, v', rfl, rfl, hu, h1, h2, by rw [ru.length]; exact h3, hv, kk _ _ _ _ g2 rh2 (.d rv) p⟩
theorem snd_mth (o : Mut) (r a : E) (ir : Snd r) (ia : Snd a) : Snd (.mth o r a) := fun X c L W w0 K hn tk => by
  have R := ir X c L W w0 K hn.1 tk
  have A := ia X c L W w0 K hn.2 tk
  refine snd_plain' (f := mthF o r a c) (fun s => rfl) rfl (fun ex h => ?_) fun ex h => ?_
  · obtain ⟨x, ap, es, cp, rfl, h1, h2, h3, h4, h5⟩ := mthF_inv h
    have ok := chk_okx h5
    cases es with
    | nil =>
      have ea := chk_l0 h5
      subst ea
      refine pe_wk (pe_bm0 PySem.F.plainAttrs_list (Mut.slot o) (Mut.ty o) (mt_mut o) (R.v _ h4) (recv_ok h1) h2) fun σ H Q ⟨w, env, μ, P, eH, g, rh, re, m, k⟩ => ?_
      subst eH
      refine ⟨w, env, μ, _, rfl, g, rh, re, m, fun w1 v x μ1 g1 rh1 rs1 m1 => ?_⟩
      have m1 : locK x (fun k => (∃ xs, μ1[k]? = some (.lst xs)) ∧ (sem W .nil).l env μ1 fun ys μ2 => mutK o k ys μ2 P) := m1
      cases rs1 with
      | d _ => exact m1.elim
      | fn _ => exact m1.elim
      | @loc kk p ep =>
        obtain ⟨⟨xs, ex⟩, m2⟩ := m1
        obtain ⟨n, us, hu, ru⟩ := lst_at rh1 ep ex
        exact ⟨.inl ⟨rfl, us, SqL.of hu⟩, mut_go rh1 ep .nil m2 fun w' v x μ' g2 rh' rs' p => k w' v x μ' (g1.trans g2) rh' rs' p⟩
    | cons e es =>
      have o1 := okx_cons ok
      refine pe_wk (pe_bm PySem.F.plainAttrs_list (Mut.slot o) (Mut.ty o) (mt_mut o) (R.v _ h4) (A.l _ h5) (recv_ok h1) (few_ok ok h3) h2 (star_ok o1.1) (any_back o1.2)) fun σ H Q ⟨w, env, μ, P, eH, g, rh, re, m, k⟩ => ?_
      subst eH
      refine ⟨w, env, μ, _, rfl, g, rh, re, m, fun w1 v x μ1 g1 rh1 rs1 m1 => ?_⟩
      have m1 : locK x (fun k => (∃ xs, μ1[k]? = some (.lst xs)) ∧ (sem W a).l env μ1 fun ys μ2 => mutK o k ys μ2 P) := m1
      cases rs1 with
      | d _ => exact m1.elim
      | fn _ => exact m1.elim
      | @loc kk p ep =>
        obtain ⟨⟨xs, ex⟩, m2⟩ := m1
        obtain ⟨n, us, hu, ru⟩ := lst_at rh1 ep ex
        refine ⟨.inl ⟨rfl, us, SqL.of hu⟩, w1, env, μ1, _, rfl, g.trans g1, rh1, re.mono g1, m2, fun w2 vs ys μ2 g2 rh2 rs2 m3 => ?_⟩
        exact mut_go rh2 (g2.at ep) rs2 m3 fun w' v x μ' g3 rh' rs' p => k w' v x μ' (g1.trans (g2.trans g3)) rh' rs' p
  · obtain ⟨x, ap, es, cp, rfl, _⟩ := mthF_inv h; exact ⟨rfl, rfl⟩
/-! ### methods that change nothing -/
theorem vw_is {pins : List (Addr × Obj)} {σ : L2.St} {H F : Hp} {s : Shared} {x : V} {v : Value} {d : D} (I : Inv X pins σ H s) (sb : Sub F H) (h : Vw X.K F H x d) (hd : tyD d ≠ "bool" ∧ tyD d ≠ "NoneType") (r : RelV x v) :
    s.TypeIs v (tyD d) ∧ ∀ a, v = .ref a → ∃ ob, s.heap.get? a = some ob ∧ ob.dict = none := by
  have q := h.rp sb
  clear h
  cases q with
  | non => exact absurd rfl hd.2
  | bl b => exact absurd rfl hd.1
  | int i => obtain ⟨t, rfl⟩ := r; exact ⟨typeIs_int s i t, fun _ e => nomatch e⟩
  | str z => obtain ⟨t, rfl⟩ := r; exact ⟨typeIs_str s z t, fun _ e => nomatch e⟩
  | lst e _ =>
    cases r
    obtain ⟨its, _, pl, _⟩ := I.list e
    refine ⟨pl.isList.typeIs, fun a ea => ?_⟩
    cases ea
    obtain ⟨o, n, e, c, hd, _⟩ := pl
    exact ⟨o, e, hd⟩
  | tup e n _ =>
    cases r
    obtain ⟨its, _, ⟨o, e1, c1, n1, d1⟩, _⟩ := I.tuple e
    refine ⟨⟨o, e1, c1⟩, fun a ea => ?_⟩
    cases ea
    rcases n with ⟨o', u, z, dn⟩ | ⟨o', z, dn⟩
    · obtain ⟨e2, _⟩ := (show s.heap.get? _ = some o' ∧ _ from I.hok _ _ z)
      exact ⟨o', e2, dn⟩
    · exact ⟨o', I.kIn _ _ z, dn⟩
  | dic e _ _ =>
    cases r
    have z : ∀ {a : Addr} {kvs : List (Key × V)}, ObjOk X.prog X.w H s.heap a (.dK kvs) → ∃ o, s.heap.get? a = some o ∧ o.ExactDict := fun {a kvs} k => by
      obtain ⟨_, _, _, _, o, _, _, e, ex, _⟩ := k
      exact ⟨o, e, ex⟩
    rcases e with e | ⟨ob, e⟩
    · obtain ⟨o, e1, ex⟩ := z (I.hok _ _ e)
      exact ⟨⟨o, e1, ex.1⟩, fun a ea => by cases ea; exact ⟨o, e1, ex.2.1⟩⟩
    · obtain ⟨o, e1, ex⟩ := z (show s.heap.get? _ = some ob ∧ ObjOk X.prog X.w H s.heap _ (.dK _) from I.hok _ _ e).2
      exact ⟨⟨o, e1, ex.1⟩, fun a ea => by cases ea; exact ⟨o, e1, ex.2.1⟩⟩
def tMeth (K : PySem.W.Frag) (p : PlugM) (to : TE) (t : TA) : TE := fun σ H Q => to σ H fun x H1 => (∃ F d, Sub F H1 ∧ Vw K F H1 x d ∧ tyD d = p.T) ∧ t σ H1 fun xs H2 => rO K p.op (x :: xs) H2 Q
theorem pe_methP {o : Expr} {es : List Expr} {to : TE} {t : TA} {apos cpos : Pos} (K : CkOk X c L) (p : PlugM) (ho : PE X o to) (ha : es ≠ [] → PA X es t) (h0 : es = [] → ∀ σ H Q, t σ H Q → Q [] H) (hr : okRecv o = true) (hline : (apos.endLine == cpos.line) = true) (hok : es.all okx = true) (hl : es.length < 20) :
    PE X (.Call (.Attribute o p.name apos) es [] cpos) (tMeth X.K p to t) := by
  refine ⟨fun pins s σ H Q I h => ?_⟩
  have hT : ∀ {pins : List (Addr × Obj)} {σ : L2.St} {H1 : Hp} {s1 : Shared} {x : V} {v : Value}, Inv X pins σ H1 s1 → RelV x v → (∃ F d, Sub F H1 ∧ Vw X.K F H1 x d ∧ tyD d = p.T) → s1.TypeIs v p.T ∧ ∀ a, v = .ref a → ∃ ob, s1.heap.get? a = some ob ∧ ob.dict = none := fun {pins σ H1 s1 x v} I1 r1 ⟨F, d, sb, vw, e⟩ => by
    rw [← e]
    exact vw_is I1 sb vw (by rw [e]; exact p.hT) r1
  cases es with
  | nil =>
    refine wpAny_Call_method0_late (recv_ok hr) hline (thn (ho.run pins s σ H _ I h) fun v s1 ⟨x, H1, I1, r1, ty, q1⟩ => ?_)
    obtain ⟨h1, h2⟩ := hT I1 r1 ty
    exact ⟨p.T, p.id, p.pa, p.slot, p.hty, h1, h2, Calls.callWith_builtin rfl (PySem.evalArgs_none (p.ok X c L K pins s1 σ H1 x [] v [] Q I1 r1 .nil (h0 rfl _ _ _ q1)))⟩
  | cons e es =>
    have ok := okx_cons hok
    have hs := star_ok (env := X.env) (es := es) ok.1
    have hplain := any_back (pos := cpos) (env := X.env) ok.2
    refine wpAny_Call_method_late (recv_ok hr) (few_ok hok hl) hline rfl (thn (ho.run pins s σ H _ I h) fun v s1 ⟨x, H1, I1, r1, ty, q1⟩ => ?_)
    obtain ⟨h1, h2⟩ := hT I1 r1 ty
    refine ⟨p.T, p.id, p.pa, p.slot, p.hty, h1, h2, ?_⟩
    have hA := (ha (fun z => nomatch z)).run cpos pins s1 σ H1 _ I1 q1
    rw [hs] at hA ⊢
    refine Calls.callWith_builtin (by show (false || (backTo cpos (starEach es X.env)).any (·.1)) = false; rw [hplain] <;> rfl) (Calls.evalArgs_plain ?_)
    exact thn hA fun us s2 ⟨vs, H2, I2, r2, q2⟩ => p.ok X c L K pins s2 σ H2 x vs v us Q I2 r1 r2 q2
def methF (p : PlugM) (r a : E) (c : Ck) : Expr → Bool := fun ex => match ex with
    | .Call (.Attribute x m ap) es [] cp => m == p.name && (okRecv x && ((ap.endLine == cp.line) && (decide (es.length < 20) && (chk r c (.e x) && chk a c (.l es)))))
    | _ => false
theorem methF_inv {p : PlugM} {r a : E} {ex : Expr} (h : methF p r a c ex = true) : ∃ x ap es cp, ex = .Call (.Attribute x p.name ap) es [] cp ∧ okRecv x = true ∧ (ap.endLine == cp.line) = true ∧ es.length < 20 ∧ chk r c (.e x) = true ∧ chk a c (.l es) = true := by
  unfold methF at h
  split at h
  · simp only [Bool.and_eq_true, decide_eq_true_eq] at h
    obtain ⟨h1, h2⟩ := h
    rw [eq_of_beq h1]
    exact ⟨_, _, _, _, rfl, h2⟩
  · cases h
theorem snd_meth (p : PlugM) (own : Bool) (r a : E) (ir : Snd r) (ia : Snd a) : Snd (.meth p own r a) := fun X c L W w0 K hn tk => by
  have R := ir X c L W w0 K hn.1 tk
  have A := ia X c L W w0 K hn.2 tk
  refine snd_plain' (f := methF p r a c) (fun s => rfl) rfl (fun ex h => ?_) fun ex h => ?_
  · obtain ⟨x, ap, es, cp, rfl, h1, h2, h3, h4, h5⟩ := methF_inv h
    refine pe_wk (pe_methP K p (R.v _ h4) (t := tL (gcOf X) w0 (sem W a).l) (fun _ => A.l _ h5) (fun e => ?_) h1 h2 (chk_okx h5) h3) fun σ H Q ⟨w, env, μ, P, eH, g, rh, re, m, k⟩ => ?_
    · subst e
      have ea := chk_l0 h5
      subst ea
      intro σ H Q ⟨w, env, μ, P, eH, g, rh, re, m, k⟩
      subst eH
      exact k w [] [] μ .refl rh .nil m
    · subst eH
      refine ⟨w, env, μ, _, rfl, g, rh, re, m, fun w1 v x μ1 g1 rh1 rs1 m1 => ?_⟩
      obtain ⟨ty, m2⟩ := m1
      refine ⟨?_, w1, env, μ1, _, rfl, g.trans g1, rh1, re.mono g1, m2, fun w2 vs ys μ2 g2 rh2 rs2 m3 => op_go rh2 (.cons (rs1.mono g2) rs2) m3 fun w3 v3 z μ3 g3 rh3 rs3 q => k w3 v3 z μ3 (g1.trans (g2.trans g3)) rh3 rs3 q⟩
      cases q : view1 μ1 x with
      | none => rw [q] at ty; exact ty.elim
      | some d =>
        rw [q] at ty
        exact ⟨w1.I, d, rh1.sub, view_one rh1 rs1 q, ty⟩
  · obtain ⟨x, ap, es, cp, rfl, _⟩ := methF_inv h; exact ⟨rfl, rfl⟩
end
end DV
set_option Elab.async false
set_option linter.all false
set_option maxRecDepth 100000
set_option maxHeartbeats 4000000
/-! DvB: targets, comprehensions; every expression is sound. -/
namespace DV
open PySem PySem.Spec PyProof.Rows L2
/-! ### targets -/
theorem wipe_set {σ : L2.St} {i : Nat} {o : Option V} : ∀ {vs : List Nat}, i ∈ vs → wipe (σ.set i o) vs = wipe σ vs
  | [], h => by cases h
  | v :: vs, h => by
    have comm : ∀ (us : List Nat) (τ : L2.St), wipe (τ.set i o) us = (wipe τ us).set i o ∨ wipe (τ.set i o) us = wipe τ us := fun us τ => by
      induction us with
      | nil => exact .inl rfl
      | cons u us ih =>
        show (wipe (τ.set i o) us).set u none = ((wipe τ us).set u none).set i o ∨ (wipe (τ.set i o) us).set u none = (wipe τ us).set u none
        by_cases hu : u = i
        · subst hu
          right
          rcases ih with e | e
          · rw [e, List.set_set]
          · rw [e]
        · rcases ih with e | e
          · left; rw [e, List.set_comm _ _ (fun z => hu z.symm)]
          · right; rw [e]
    show (wipe (σ.set i o) vs).set v none = (wipe σ vs).set v none
    by_cases hv : i = v
    · subst hv
      rcases comm vs σ with e | e
      · rw [e, List.set_set]
      · rw [e]
    · rw [wipe_set (vs := vs) (by rcases List.mem_cons.mp h with e | e; exact absurd e hv; exact e)]
section
variable (G : GC)
def gD (tg : Tg) : TG := fun v σ H Q => ∃ w env x P, w.H = H ∧ RpE G w σ env ∧ RpS G w x v ∧ (∀ a, w.I a = none ∨ w.H a = w.I a) ∧ (bindT tg).v x env P ∧ ∀ σ' env', RpE G w σ' env' → (∀ vs : List Nat, (∀ i ∈ tg.slots, i ∈ vs) → wipe σ' vs = wipe σ vs) → P env' → Q σ' H
def gDs (tg : Tg) : TGs := fun us σ H Q => ∃ w env ds P, w.H = H ∧ RpE G w σ env ∧ RpAll G.K w.I us ds ∧ (∀ a, w.I a = none ∨ w.H a = w.I a) ∧ (bindT tg).l ds env P ∧ ∀ σ' env', RpE G w σ' env' → (∀ vs : List Nat, (∀ i ∈ tg.slots, i ∈ vs) → wipe σ' vs = wipe σ vs) → P env' → Q σ' H
end
theorem sub_ok {w : Wl} (s : Sub w.I w.H) : ∀ a, w.I a = none ∨ w.H a = w.I a := fun a => by
  cases q : w.I a with
  | none => exact .inl rfl
  | some u => exact .inr (s a u q)
theorem ok_sub {w : Wl} (s : ∀ a, w.I a = none ∨ w.H a = w.I a) : Sub w.I w.H := fun a u e => by
  rcases s a with z | z
  · rw [e] at z; cases z
  · rw [z]; exact e
theorem asg_ok {e : Expr} {es : List Expr} {env : Env} (h : okx e = true) : assignEach (e :: es) env = (false, assign e env) :: assignEach es env := by
  cases e <;> first | rfl | (cases h)
theorem asgs_len {env : Env} : ∀ {es : List Expr}, es.all okx = true → (assignEach es env).length = es.length ∧ (assignEach es env).findIdx? (·.1) = none
  | [], _ => ⟨rfl, rfl⟩
  | e :: es, h => by
    rw [List.all_cons, Bool.and_eq_true] at h
    rw [asg_ok h.1]
    obtain ⟨h1, h2⟩ := asgs_len (env := env) h.2
    exact ⟨by rw [List.length_cons, h1]; rfl, by rw [List.findIdx?_cons, h2]; rfl⟩
section
variable {X : Cx} {c : Ck} {L : Addr} {W : Exn → DEnv → Store → Prop} {w0 : Wl}
theorem ck_store {i : Nat} {x : Str} (K : CkOk X c L) (h : c.store i x = true) : X.N[i]? = some x ∧ L2.Loc X.env.scope x ∧ (X.fn x = true ∨ X.env.scope.names.lookup x = some .local) := by
  unfold Ck.store at h
  rw [Bool.and_eq_true] at h
  obtain ⟨h1, h2⟩ := h
  refine ⟨?_, ?_⟩
  · rw [K.N]
    cases q : c.N[i]? with
    | none => rw [q] at h1; cases h1
    | some y => rw [q] at h1; rw [eq_of_beq (show (y == x) = true from h1)]
  · unfold L2.Loc
    rw [K.sc]
    cases q : c.sc.names.lookup x with
    | none => rw [q] at h2; cases h2
    | some k =>
      rw [q] at h2
      cases k <;> first | (cases h2; done) | skip
      · exact ⟨.inl rfl, .inr rfl⟩
      · exact ⟨.inr rfl, .inl (K.fn x h2)⟩
theorem bindT_some : ∀ t : Tg, (∀ (x : SV) (e : DEnv) (Q : DEnv → Prop), (bindT t).v x e Q → ∃ e', Q e') ∧ (∀ (ds : List D) (e : DEnv) (Q : DEnv → Prop), (bindT t).l ds e Q → ∃ e', Q e') := by
  intro t
  induction t with
  | nm i => exact ⟨fun x e Q h => ⟨_, h⟩, fun ds e Q h => h.elim⟩
  | nil =>
    refine ⟨fun x e Q h => h.elim, fun ds e Q h => ?_⟩
    cases ds with
    | nil => exact ⟨_, h⟩
    | cons _ _ => exact h.elim
  | cons a r ia ir =>
    refine ⟨fun x e Q h => h.elim, fun ds e Q h => ?_⟩
    cases ds with
    | nil => exact h.elim
    | cons d ds =>
      obtain ⟨e1, h1⟩ := ia.1 _ _ _ h
      exact ir.2 _ _ _ h1
  | tp l il =>
    refine ⟨fun x e Q h => ?_, fun ds e Q h => h.elim⟩
    cases x with
    | d x => cases x <;> first | exact il.2 _ _ _ h | exact h.elim
    | _ => exact h.elim
theorem bindT_len : ∀ {tg : Tg} {ds : List D} {env : DEnv} {P : DEnv → Prop} {c : Ck} {es : List Expr}, chkT tg c (.l es) = true → (bindT tg).l ds env P → ds.length = es.length := by
  intro tg
  induction tg with
  | nm i => intro ds env P c es h; cases es <;> cases h
  | nil =>
    intro ds env P c es h m
    cases es with
    | nil => cases ds with
      | nil => rfl
      | cons _ _ => exact m.elim
    | cons _ _ => cases h
  | cons a r iha ihr =>
    intro ds env P c es h m
    cases es with
    | nil => cases h
    | cons x xs =>
      have h : (chkT a c (.e x) && chkT r c (.l xs)) = true := h
      rw [Bool.and_eq_true] at h
      cases ds with
      | nil => exact m.elim
      | cons d ds =>
        have m : (bindT a).v (.d d) env (fun env1 => (bindT r).l ds env1 P) := m
        obtain ⟨e1, m1⟩ := (bindT_some a).1 _ _ _ m
        rw [List.length_cons, List.length_cons, ihr h.2 m1]
  | tp l _ => intro ds env P c es h; cases es <;> cases h
theorem pg_bind (K : CkOk X c L) : ∀ tg : Tg, (∀ e, chkT tg c (.e e) = true → PG X e (gD (gcOf X) tg)) ∧ (∀ es, chkT tg c (.l es) = true → PGs X es (gDs (gcOf X) tg)) := by
  intro tg
  induction tg with
  | nm i =>
    refine ⟨fun e h => ?_, fun es h => (by cases es <;> cases h)⟩
    cases e <;> first | (cases h; done) | skip
    obtain ⟨h1, h2, h3⟩ := ck_store K h
    refine ⟨fun pins s σ H v u Q I r hw => (pg_name K.nd h1 h2 h3).run pins s σ H v u Q I r ?_⟩
    obtain ⟨w, env, x, P, eH, re, rs, _, m, k⟩ := hw
    subst eH
    exact k _ _ (re.set rs) (fun vs hv => wipe_set (hv i (List.mem_singleton.mpr rfl))) m
  | nil =>
    refine ⟨fun e h => (by cases e <;> cases h), fun es h => ?_⟩
    cases es with
    | cons _ _ => cases h
    | nil =>
      refine ⟨fun pins s σ H v u Q I r hw => pgs_nil.run pins s σ H v u Q I r ?_⟩
      obtain ⟨w, env, ds, P, eH, re, rs, _, m, k⟩ := hw
      cases ds with
      | cons _ _ => exact m.elim
      | nil =>
        cases rs
        exact ⟨rfl, k _ _ re (fun _ _ => rfl) m⟩
  | cons a r ia ir =>
    refine ⟨fun e h => (by cases e <;> cases h), fun es h => ?_⟩
    cases es with
    | nil => cases h
    | cons x xs =>
      have h : (chkT a c (.e x) && chkT r c (.l xs)) = true := h
      rw [Bool.and_eq_true] at h
      have hs : (assignEach (x :: xs) X.env).map (·.2) = assign x X.env :: (assignEach xs X.env).map (·.2) := by
        have ox : okx x = true := by
          have h1 := h.1
          cases x <;> first | rfl | (cases a <;> cases h1)
        rw [asg_ok ox]; rfl
      refine ⟨fun pins s σ H v u Q I rv hw => (pgs_cons (ia.1 x h.1) (ir.2 xs h.2) hs).run pins s σ H v u Q I rv ?_⟩
      obtain ⟨w, env, ds, P, eH, re, rs, so, m, k⟩ := hw
      subst eH
      cases rs with
      | nil => exact m.elim
      | cons r1 r2 =>
        refine ⟨_, _, rfl, w, env, _, _, rfl, re, .d r1, so, m, fun σ1 env1 re1 w1 m1 => ⟨w, env1, _, P, rfl, re1, r2, so, m1, fun σ2 env2 re2 w2 p => k σ2 env2 re2 (fun vs hv => ?_) p⟩⟩
        rw [w2 vs fun i hi => hv i (List.mem_append_right _ hi), w1 vs fun i hi => hv i (List.mem_append_left _ hi)]
  | tp l il =>
    refine ⟨fun e h => ?_, fun es h => (by cases es <;> cases h)⟩
    cases e <;> first | (cases h; done) | skip
    rename_i es n p
    have h : ((es.all okx && !es.isEmpty) && chkT l c (.l es)) = true := h
    simp only [Bool.and_eq_true] at h
    obtain ⟨⟨h1, h2⟩, h3⟩ := h
    obtain ⟨l1, l2⟩ := asgs_len (env := X.env) h1
    refine ⟨fun pins s σ H v u Q I rv hw => (pg_tup K.calm (il.2 es h3) l1 l2).run pins s σ H v u Q I rv ?_⟩
    obtain ⟨w, env, x, P, eH, re, rs, so, m, k⟩ := hw
    subst eH
    cases rs with
    | loc _ => exact m.elim
    | fn _ => exact m.elim
    | d r =>
      cases r with
      | tup t _ ra => exact ⟨_, _, rfl, (ok_sub so).sqT t, by rw [ra.length]; exact bindT_len h3 m, w, env, _, P, rfl, re, ra, so, m, k⟩
      | _ => exact m.elim
end
end DV
set_option Elab.async false
set_option linter.all false
set_option maxRecDepth 100000
set_option maxHeartbeats 4000000
/-! DvD: comprehensions; every expression is sound. -/
namespace DV
open PySem PySem.Spec PyProof.Rows L2
def delH (H : Hp) (a : Addr) : Hp := fun b => if b = a then none else H b
theorem delH_same {H : Hp} {a : Addr} : delH H a a = none := if_pos rfl
theorem delH_ne {H : Hp} {a b : Addr} (h : b ≠ a) : delH H a b = H b := if_neg h
theorem upd_delH {H : Hp} {a : Addr} {o : HO} : upd (delH H a) a o = upd H a o := by
  funext b
  by_cases h : b = a
  · rw [h, upd_same, upd_same]
  · rw [upd_ne h, upd_ne h, delH_ne h]
theorem upd_back {H : Hp} {a : Addr} {o : HO} (e : H a = some o) : upd (delH H a) a o = H := by
  funext b
  by_cases h : b = a
  · rw [h, upd_same, e]
  · rw [upd_ne h, delH_ne h]
theorem RpH.del {G : GC} {w : Wl} {μ : Store} {a : Addr} (rh : RpH G w μ) (n : a ∉ w.α) (ni : w.I a = none) : RpH G ⟨w.I, w.α, delH w.H a⟩ μ := by
  have g : Gr w ⟨w.I, w.α, w.H⟩ := .refl
  refine ⟨fun b u e => ?_, rh.len, rh.nd, fun k o e => ?_⟩
  · have e : w.I b = some u := e
    have hb : b ≠ a := fun z => by rw [z, ni] at e; cases e
    show delH w.H a b = some u
    rw [delH_ne hb]; exact rh.sub b u e
  · obtain ⟨b, q, r⟩ := rh.obj k o e
    have hb : b ≠ a := fun z => n (z ▸ List.mem_of_getElem? q)
    refine ⟨b, q, ?_⟩
    cases o with
    | frz d => exact r
    | lst ds => obtain ⟨n, vs, e, r⟩ := r; exact ⟨n, vs, by show delH w.H a b = _; rw [delH_ne hb]; exact e, r⟩
    | dic ds => obtain ⟨n, vs, e, r⟩ := r; exact ⟨n, vs, by show delH w.H a b = _; rw [delH_ne hb]; exact e, r⟩
    | ins C fs =>
      obtain ⟨n, Ca, dx, vs, m, e, p, r⟩ := r
      refine ⟨n, Ca, dx, vs, m, by show delH w.H a b = _; rw [delH_ne hb]; exact e, p, ?_⟩
      have cp : ∀ {xs : List SV} {us : List V}, RpSs G w xs us → RpSs G ⟨w.I, w.α, delH w.H a⟩ xs us := by
        intro xs us h
        induction h with
        | nil => exact .nil
        | cons a b ih =>
          refine .cons ?_ ih
          cases a with
          | d r => exact .d r
          | loc e => exact .loc e
          | fn e => exact .fn e
      exact cp r
theorem Gr.del {w1 w : Wl} {a : Addr} (g : Gr w1 w) (n : w1.H a = none) : Gr w1 ⟨w.I, w.α, delH w.H a⟩ :=
  ⟨g.sub, g.pre, g.nw, g.ni, fun b u e h => by
    have hb : b ≠ a := fun z => by rw [z, n] at e; cases e
    show delH w.H a b = some u
    rw [delH_ne hb]; exact g.fr b u e h⟩
theorem wipe_sub {σ : L2.St} {vs : List Nat} : ∀ {us : List Nat}, (∀ i ∈ us, i ∈ vs) → wipe (wipe σ us) vs = wipe σ vs
  | [], _ => rfl
  | u :: us, h => by
    show wipe ((wipe σ us).set u none) vs = wipe σ vs
    rw [wipe_set (h u (List.mem_cons_self ..)), wipe_sub fun i hi => h i (List.mem_cons_of_mem _ hi)]
theorem rpe_wipe {G : GC} {w : Wl} {σ : L2.St} {env : DEnv} (h : RpE G w σ env) : ∀ vs : List Nat, RpE G w (wipe σ vs) (wipeE env vs)
  | [] => h
  | v :: vs => (rpe_wipe h vs).unset v
section
variable {X : Cx} {c : Ck} {L : Addr} {W : Exn → DEnv → Store → Prop} {w0 : Wl}
def lcI (tg : Tg) (k e : E) (sl : List (Str × Nat)) (c : Ck) (t elt : Expr) (ifs : List Expr) (scope : Scope) : Bool :=
  chkT tg { c with sc := relS scope c.sc, fnl := some scope.names } (.e t) && (tg.slots.all (fun i => (sl.map (·.2)).contains i) &&
        ((match ifs with
          | [] => (match k with
            | .nil => true
            | _ => false)
          | [f] => (match k with
            | .nil => false
            | _ => chk k { c with sc := relS scope c.sc, fnl := some scope.names } (.e f))
          | _ => false) && chk e { c with sc := relS scope c.sc, fnl := some scope.names } (.e elt)))
def lcF (tg : Tg) (it k e : E) (sl : List (Str × Nat)) (c : Ck) : Expr → Bool := fun ex => match ex with
    | .ListComp elt [⟨t, iter, ifs, 0⟩] scope _ => blkC c.N c.sc scope sl && (chk it c (.i t iter) && lcI tg k e sl c t elt ifs scope)
    | _ => false
abbrev inBlk (c : Ck) (scope : Scope) : Ck := { c with sc := relS scope c.sc, fnl := some scope.names }
theorem lcF_inv {tg : Tg} {it k e : E} {sl : List (Str × Nat)} {ex : Expr} (h : lcF tg it k e sl c ex = true) : ∃ elt t iter ifs scope p, ex = .ListComp elt [⟨t, iter, ifs, 0⟩] scope p ∧ blkC c.N c.sc scope sl = true ∧ chk it c (.i t iter) = true ∧
    chkT tg (inBlk c scope) (.e t) = true ∧ (∀ i ∈ tg.slots, i ∈ sl.map (·.2)) ∧ ((ifs = [] ∧ k = .nil) ∨ ∃ f, ifs = [f] ∧ chk k (inBlk c scope) (.e f) = true) ∧ chk e (inBlk c scope) (.e elt) = true := by
  unfold lcF at h
  split at h
  · unfold lcI at h
    simp only [Bool.and_eq_true, List.all_eq_true] at h
    obtain ⟨h1, h2, h3, h4, h5, h6⟩ := h
    refine ⟨_, _, _, _, _, _, rfl, h1, h2, h3, fun i hi => List.contains_iff_mem.mp (h4 i hi), ?_, h6⟩
    split at h5
    · split at h5
      · exact .inl ⟨rfl, rfl⟩
      · cases h5
    · split at h5
      · cases h5
      · exact .inr ⟨_, rfl, h5⟩
    · cases h5
  · cases h
theorem ck_blk (K : CkOk X c L) {s : Shared} {H : Hp} {scope : Scope} {C : Addr} {cl : List (Str × Addr)} {fp : List Addr} : CkOk (blkx X s H scope (compEnvC scope cl C X.env) fp) (inBlk c scope) L where
  N := K.N
  nd := K.nd
  sc := by show relS scope X.env.scope = relS scope c.sc; rw [K.sc]
  calm := K.calm
  room := K.room
  guards := K.guards
  bn := K.bn
  fn := fun x h => by
    have h : (match scope.names.lookup x with
      | some .cell => true
      | _ => false) = true := h
    show (scope.names.lookup x == some .cell) = true
    split at h
    · rename_i q; rw [q]; rfl
    · cases h
  st := K.st
  fr := K.fr
theorem drop_cons {α : Type} {ds xs : List α} {x : α} {i : Nat} (h : ds.drop i = x :: xs) : ds[i]? = some x ∧ ds.drop (i + 1) = xs ∧ i < ds.length := by
  have e : (ds.drop i)[0]? = some x := by rw [h]; rfl
  rw [List.getElem?_drop, Nat.add_zero] at e
  refine ⟨e, ?_, (List.getElem?_eq_some_iff.mp e).1⟩
  rw [← List.drop_drop, h]; rfl
theorem lc_go {own : Bool} {tg : Tg} {it k e : E} {vs : List Nat} {σ : L2.St} {H : Hp} {Q : VK} (hs : ∀ i ∈ tg.slots, i ∈ vs) (h : tV (gcOf X) w0 (fun env μ P => (sem W it).i env μ fun ds g μ1 =>
      lcGo (bindT tg).v (sem (fun x _ μ => W x env μ) k).t (sem (fun x _ μ => W x env μ) e).v (wipeE env vs) g (fun acc μ' => resK own μ' P true (.list acc)) ds [] μ1) σ H Q) :
    ∃ i : DEnv × Wl, (∀ cl d σ1 H1, wD (gcOf X) i.2 (fun x _ μ => W x i.1 μ) cl d σ1 H1 → wD (gcOf X) w0 W cl d σ H1) ∧
      tLc (tI (gcOf X) w0 (sem W it).i) (gD (gcOf X) tg) (tT (gcOf X) i.2 (sem (fun x _ μ => W x i.1 μ) k).t) (tV (gcOf X) i.2 (sem (fun x _ μ => W x i.1 μ) e).v) vs σ H Q := by
  obtain ⟨w, env, μ, P, rfl, g, rh, re, m, kk⟩ := h
  refine ⟨(env, w), fun cl d σ1 H1 ⟨w', env', μ', x, eH, g', rh', re', rx, mw⟩ => ⟨w', env, μ', x, eH, g.trans g', rh', re.mono g', rx, mw⟩, ?_⟩
  refine ⟨w, env, μ, _, rfl, g, rh, re, m, fun w1 ds gd μ1 J g1 rh1 m1 ok => ?_⟩
  intro Da hD
  refine ⟨fun i mm H => mm = ds.length - i ∧ i ≤ ds.length ∧ ∃ w2 μ2 acc us, Gr w1 w2 ∧ RpH (gcOf X) w2 μ2 ∧ w2.H Da = none ∧ H = upd w2.H Da (.lst us) ∧ RpAll X.K w2.I us acc ∧
    lcGo (bindT tg).v (sem (fun x _ μ => W x env μ) k).t (sem (fun x _ μ => W x env μ) e).v (wipeE env vs) gd (fun acc μ' => resK own μ' P true (.list acc)) (ds.drop i) acc μ2, ⟨_, rfl, Nat.zero_le _, w1, μ1, [], [], .refl, rh1, hD, rfl, .nil, m1⟩, fun i mm H ⟨em, hle, w2, μ2, acc, us, g2, rh2, hD2, eH, ra, mm2⟩ => ?_⟩
  subst eH em
  have dI : w2.I Da = none := rh2.sub.no hD2
  have dα : Da ∉ w2.α := fun z => by
    obtain ⟨u, e⟩ := rh2.there z
    rw [hD2] at e; cases e
  have x : Ex w2.I w2.H w2.I (upd w2.H Da (.lst us)) := ⟨.new hD2, .refl, rh2.sub.trans (.new hD2), fun _ _ e => .inl e⟩
  have rhp : RpH (gcOf X) ⟨w2.I, w2.α, upd w2.H Da (.lst us)⟩ μ2 := rh2.ex x
  have gp : Gr w2 ⟨w2.I, w2.α, upd w2.H Da (.lst us)⟩ := x.gr
  cases eq : ds.drop i with
  | nil =>
    rw [eq] at mm2
    obtain ⟨hg, fin⟩ := mm2
    refine .inl ⟨(ok _ μ2 (g2.trans gp) rhp hg i).2 (Nat.le_antisymm (List.drop_eq_nil_iff.mp eq) hle), ?_⟩
    obtain ⟨w3, y, μ3, e3, g3, rh3, rs3, p3⟩ := res_ok rh2 x (fresh := true) (r := .list acc) (v := .ref Da) (by unfold Res; rw [if_pos rfl]; exact ⟨Da, us, acc, rfl, rfl, hD2, dI, upd_same, ra⟩) fin
    have q := kk w3 (.ref Da) y μ3 (g1.trans (g2.trans g3)) rh3 rs3 p3
    rw [e3] at q
    exact q
  | cons d xs =>
    rw [eq] at mm2
    obtain ⟨hx, hdr, hi⟩ := drop_cons eq
    obtain ⟨hg, mb⟩ := mm2
    obtain ⟨go, yl⟩ := (ok _ μ2 (g2.trans gp) rhp hg i).1 d hx
    -- the new list stands by itself
    have key : ∀ w6 : Wl, Gr ⟨w2.I, w2.α, upd w2.H Da (.lst us)⟩ w6 → w6.H Da = some (.lst us) ∧ Da ∉ w6.α ∧ w6.I Da = none := fun w6 gt => by
      have q : (upd w2.H Da (.lst us)) Da = some (.lst us) := upd_same
      refine ⟨gt.fr Da _ q dα, fun z => ?_, ?_⟩
      · rcases gt.nw Da z with y | y
        · exact dα y
        · have y : (upd w2.H Da (.lst us)) Da = none := y
          rw [q] at y; cases y
      · cases r : w6.I Da with
        | none => rfl
        | some u =>
          rcases gt.ni Da u r with y | y | y
          · have y : w2.I Da = some u := y
            rw [dI] at y; cases y
          · have y : (upd w2.H Da (.lst us)) Da = none := y
            rw [q] at y; cases y
          · exact absurd y dα
    refine .inr ⟨go, fun H' => ds.length - (i + 1) = ds.length - (i + 1) ∧ i + 1 ≤ ds.length ∧ ∃ w2 μ2 acc us, Gr w1 w2 ∧ RpH (gcOf X) w2 μ2 ∧ w2.H Da = none ∧ H' = upd w2.H Da (.lst us) ∧ RpAll X.K w2.I us acc ∧
      lcGo (bindT tg).v (sem (fun x _ μ => W x env μ) k).t (sem (fun x _ μ => W x env μ) e).v (wipeE env vs) gd (fun acc μ' => resK own μ' P true (.list acc)) (ds.drop (i + 1)) acc μ2, fun H' z => ⟨ds.length - (i + 1), by omega, z⟩, fun xv H' y => ?_⟩
    obtain ⟨I', xe, rx⟩ := yl xv H' y
    have rh3 : RpH (gcOf X) ⟨I', w2.α, H'⟩ μ2 := RpH.ex (w := ⟨w2.I, w2.α, upd w2.H Da (.lst us)⟩) xe rhp
    have g3 : Gr ⟨w2.I, w2.α, upd w2.H Da (.lst us)⟩ ⟨I', w2.α, H'⟩ := Ex.gr (w := ⟨w2.I, w2.α, upd w2.H Da (.lst us)⟩) xe
    have gw : Gr w ⟨I', w2.α, H'⟩ := g1.trans (g2.trans (gp.trans g3))
    refine ⟨⟨I', w2.α, H'⟩, wipeE env vs, .d d, _, rfl, rpe_wipe (re.mono gw) vs, .d rx, sub_ok rh3.sub, mb, fun σ' env' re' wp' p => ⟨?_, ?_⟩⟩
    · rw [wp' vs hs, wipe_sub fun i hi => hi]
    refine ⟨⟨I', w2.α, H'⟩, env', μ2, _, rfl, gw, rh3, re', p, fun w4 b μ4 g4 rh4 p4 => ?_⟩
    cases b with
    | true =>
      rw [if_pos rfl] at p4 ⊢
      refine ⟨w4, env', μ4, _, rfl, gw.trans g4, rh4, re'.mono g4, p4, fun w5 v y μ5 g5 rh5 rs5 p5 => ?_⟩
      obtain ⟨w6, dd, μ6, e6, g6, rh6, rd, hl, p6⟩ := frz_ok rh5 rs5 p5
      have gt := g3.trans (g4.trans (g5.trans g6))
      obtain ⟨k1, k2, k3⟩ := key w6 gt
      refine ⟨us, by rw [← e6]; exact k1, by rw [ra.length]; exact hl, rfl, hi, ⟨w6.I, w6.α, delH w6.H Da⟩, μ6, acc ++ [dd], us ++ [v], (g2.trans (gp.trans gt)).del hD, rh6.del k2 k3, delH_same, ?_, ?_, ?_⟩
      · rw [upd_delH, e6]
      · exact (ra.mono (gp.trans gt).sub).append (.cons rd .nil)
      · rw [hdr]; exact p6
    | false =>
      rw [if_neg Bool.false_ne_true] at p4 ⊢
      have gt := g3.trans g4
      obtain ⟨k1, k2, k3⟩ := key w4 gt
      refine ⟨rfl, hi, ⟨w4.I, w4.α, delH w4.H Da⟩, μ4, acc, us, (g2.trans (gp.trans gt)).del hD, rh4.del k2 k3, delH_same, ?_, ra.mono (gp.trans gt).sub, ?_⟩
      · exact (upd_back k1).symm
      · rw [hdr]; exact p4
theorem pts_none {X : Cx} {w0 : Wl} {W : Exn → DEnv → Store → Prop} : PTs X [] (tT (gcOf X) w0 (sem W .nil).t) := ⟨fun pins s σ H Q I ⟨w, env, μ, P, eH, g, rh, re, m, k⟩ => pts_nil.run pins s σ H Q I (by subst eH; exact k w true μ .refl rh m)⟩
structure LcR (X : Cx) (c : Ck) (L : Addr) (W : Exn → DEnv → Store → Prop) (w0 : Wl) (tg : Tg) (it k e : E) (sl : List (Str × Nat)) (elt t iter : Expr) (ifs : List Expr) (scope : Scope) : Prop where
  hi : PI X t iter (tI (gcOf X) w0 (sem W it).i)
  ok : BlkOk X.N X.env.scope scope sl
  hg : ∀ (s : Shared) (H : Hp) (C : Addr) (cl : List (Str × Addr)) (fp : List Addr), PG (blkx X s H scope (compEnvC scope cl C X.env) fp) t (gD (gcOf X) tg)
  ht : ∀ (i : DEnv × Wl) (s : Shared) (H : Hp) (C : Addr) (cl : List (Str × Addr)) (fp : List Addr), TakesL (blkx X s H scope (compEnvC scope cl C X.env) fp) L (wD (gcOf X) i.2 (fun x _ μ => W x i.1 μ)) → PTs (blkx X s H scope (compEnvC scope cl C X.env) fp) ifs (tT (gcOf X) i.2 (sem (fun x _ μ => W x i.1 μ) k).t)
  he : ∀ (i : DEnv × Wl) (s : Shared) (H : Hp) (C : Addr) (cl : List (Str × Addr)) (fp : List Addr), TakesL (blkx X s H scope (compEnvC scope cl C X.env) fp) L (wD (gcOf X) i.2 (fun x _ μ => W x i.1 μ)) → PE (blkx X s H scope (compEnvC scope cl C X.env) fp) elt (tV (gcOf X) i.2 (sem (fun x _ μ => W x i.1 μ) e).v)
  hs : ∀ x, foldedSetIterable iter X.env x = pure x
theorem lc_r {tg : Tg} {it k e : E} {sl : List (Str × Nat)} (ii : Snd it) (ik : Snd k) (ie : Snd e) (K : CkOk X c L) (hn : nd (gcOf X) it ∧ nd (gcOf X) k ∧ nd (gcOf X) e) (tk : TakesL X L (wD (gcOf X) w0 W)) {elt t iter : Expr} {ifs : List Expr} {scope : Scope}
    (h1 : blkC c.N c.sc scope sl = true) (h2 : chk it c (.i t iter) = true) (h3 : chkT tg (inBlk c scope) (.e t) = true) (h5 : (ifs = [] ∧ k = .nil) ∨ ∃ f, ifs = [f] ∧ chk k (inBlk c scope) (.e f) = true) (h6 : chk e (inBlk c scope) (.e elt) = true) :
    LcR X c L W w0 tg it k e sl elt t iter ifs scope where
  hi := ((ii X c L W w0 K hn.1 tk).i _ _ h2).1
  ok := blkOk_by (by rw [K.N, K.sc]; exact h1)
  hg := fun s H C cl fp => (pg_bind (ck_blk K) tg).1 t h3
  ht := fun i s H C cl fp tk' => by
    rcases h5 with ⟨rfl, rfl⟩ | ⟨f, rfl, hf⟩
    · exact pts_none (X := blkx X s H scope (compEnvC scope cl C X.env) fp)
    · exact pts_one ((ik _ _ L _ _ (ck_blk K) hn.2.1 tk').t f hf)
  he := fun i s H C cl fp tk' => (ie _ _ L _ _ (ck_blk K) hn.2.2 tk').v elt h6
  hs := ((ii X c L W w0 K hn.1 tk).i _ _ h2).2
theorem snd_lc (own : Bool) (tg : Tg) (it k e : E) (sl : List (Str × Nat)) (ii : Snd it) (ik : Snd k) (ie : Snd e) : Snd (.lc own tg it k e sl) := fun X c L W w0 K hn tk => by
  refine snd_plain' (f := lcF tg it k e sl c) (fun s => rfl) rfl (fun ex h => ?_) fun ex h => ?_
  · obtain ⟨elt, t, iter, ifs, scope, p, rfl, h1, h2, h3, h4, h5, h6⟩ := lcF_inv h
    obtain ⟨E0, outer, est, ef⟩ := K.st
    have R := lc_r ii ik ie K hn tk h1 h2 h3 h5 h6
    exact pe_wk (pe_lcX tk est ef K.fr K.calm K.nd R.hi R.ok R.hg R.ht R.he R.hs) fun σ H Q => lc_go h4
  · obtain ⟨elt, t, iter, ifs, scope, p, rfl, _⟩ := lcF_inv h; exact ⟨rfl, rfl⟩
end
/-- every expression -/
theorem snd_all : ∀ e : E, Snd e := by
  intro e
  induction e with
  | var i => exact snd_var i
  | lit d => exact snd_lit d
  | glob n x => exact snd_glob n x
  | op1 o a ia => exact snd_op1 o a ia
  | op2 o own a b ia ib => exact snd_op2 o own a b ia ib
  | fn o own a ia => exact snd_fn o own a ia
  | nil => exact snd_nil
  | cons a r ia ir => exact snd_cons a r ia ir
  | and a b ia ib => exact snd_and a b ia ib
  | or a b ia ib => exact snd_or a b ia ib
  | not a ia => exact snd_not a ia
  | ite c a b ic ia ib => exact snd_ite c a b ic ia ib
  | chain o p a b c ia ib ic => exact snd_chain o p a b c ia ib ic
  | isi t a ia => exact snd_isi t a ia
  | call n k ar sp a ia => exact snd_call n k ar sp a ia
  | tupd a ia => exact snd_tupd a ia
  | lstd own a ia => exact snd_lstd own a ia
  | slc own x lo hi i1 i2 i3 => exact snd_slc own x lo hi i1 i2 i3
  | lc own tg it c e sl i1 i2 i3 => exact snd_lc own tg it c e sl i1 i2 i3
  | mth o r a ir ia => exact snd_mth o r a ir ia
  | rng two a ia => exact snd_rng two a ia
  | plug p own a ia => exact snd_plug p own a ia
  | plugI p a ia => exact snd_plugI p a ia
  | meth p own r a ir ia => exact snd_meth p own r a ir ia
end DV
set_option Elab.async false
set_option linter.all false
set_option maxRecDepth 100000
set_option maxHeartbeats 4000000
/-! DvE: statements. -/
namespace DV
open PySem PySem.Spec PyProof.Rows L2
inductive S
  | nop
  | seq (a r : S)
  | set (tg : Tg) (e : E)
  | setc (i : Nat) (own : Bool) (tg : Tg) (it c e : E) (sl : List (Str × Nat))
  | ex (e : E)
  | ret (own : Bool) (e : E)
  | retN
  | ite (c : E) (a b : S)
  | for_ (tg : Tg) (it : E) (b : S)
  | whl (c : E) (b : S)
  | setix (o i v : E)
abbrev NK := DEnv → Store → Prop
abbrev RK := SV → Store → Prop
def forGo (bd : SV → DEnv → (DEnv → Prop) → Prop) (b : DEnv → Store → NK → Prop) (g : Store → Prop) (nx : NK) : List D → DEnv → Store → Prop
  | [], env, μ => g μ ∧ nx env μ
  | x :: xs, env, μ => g μ ∧ bd (.d x) env fun env1 => b env1 μ (forGo bd b g nx xs)
def whlGo (c : DEnv → Store → (Bool → Store → Prop) → Prop) (b : DEnv → Store → NK → Prop) (nx : NK) : Nat → DEnv → Store → Prop
  | 0, _, _ => False
  | n + 1, env, μ => c env μ fun k μ1 => if k = true then b env μ1 (whlGo c b nx n) else nx env μ1
def retK (own : Bool) (x : SV) (μ : Store) (rt : RK) : Prop := match own with
  | true => rt x μ
  | false => frzK x μ fun d μ1 => rt (.d d) μ1
def sx (W : Exn → DEnv → Store → Prop) : S → DEnv → Store → NK → RK → Prop
  | .nop => fun env μ nx _ => nx env μ
  | .seq a r => fun env μ nx rt => sx W a env μ (fun env1 μ1 => sx W r env1 μ1 nx rt) rt
  | .set tg e => fun env μ nx _ => (sem W e).v env μ fun x μ1 => (bindT tg).v x env fun env1 => nx env1 μ1
  | .setc i own tg it c e sl => fun env μ nx _ => (sem W (.lc own tg it c e sl)).v env μ fun x μ1 => nx (env.set i (some x)) μ1
  | .ex e => fun env μ nx _ => (sem W e).v env μ fun _ μ1 => nx env μ1
  | .ret own e => fun env μ _ rt => (sem W e).v env μ fun x μ1 => retK own x μ1 rt
  | .retN => fun _ μ _ rt => rt (.d .none) μ
  | .ite c a b => fun env μ nx rt => (sem W c).t env μ fun k μ1 => if k = true then sx W a env μ1 nx rt else sx W b env μ1 nx rt
  | .for_ tg it b => fun env μ nx rt => (sem W it).i env μ fun ds g μ1 => forGo (bindT tg).v (fun env1 μ2 k => sx W b env1 μ2 k rt) g nx ds env μ1
  | .whl c b => fun env μ nx rt => ∃ n, whlGo (sem W c).t (fun env1 μ2 k => sx W b env1 μ2 k rt) nx n env μ
  | .setix o i v => fun env μ nx _ => (sem W v).v env μ fun y μ1 => (sem W o).v env μ1 fun x μ2 => (sem W i).v env μ2 fun z μ3 => locK x fun k => intK z fun j => frzK y μ3 fun d μ4 => lstK μ4[k]? fun xs =>
      ∃ n, ixN xs.length j = some n ∧ nx env (μ4.set k (.lst (xs.set n d)))
/-! ### the look -/
inductive StX | s (x : Stmt) | l (xs : List Stmt)
def noComp : Expr → Bool
  | .ListComp .. => false | .SetComp .. => false | .DictComp .. => false | _ => true
def notNm : Expr → Bool
  | .Name .. => false | _ => true
def notTup : Expr → Bool
  | .Tuple .. => false | _ => true
def notTL : Expr → Bool
  | .Tuple .. => false | .List .. => false | _ => true
def notSlc : Expr → Bool
  | .Slice .. => false | _ => true
def swB (sc : Scope) (y : Str) (py : Pos) (vp : Pos) (scope : Scope) : Bool :=
  (if sc.kind.isAnnotationScope then ScopeKind.function else sc.kind) == .function && sc.names.lookup y == some .local && py.line == vp.line && !(scope.names.any fun (n, k) => n == y && (k == .local || k == .cell))
def plainS (f : Stmt → Bool) : StX → Bool
  | .s x => f x
  | _ => false
def setcF (i : Nat) (tg : Tg) (it k e : E) (sl : List (Str × Nat)) (c : Ck) : Stmt → Bool := fun st => match st with
    | .Assign [.Name y py] (.ListComp elt [⟨t, iter, ifs, 0⟩] scope p) _ => (c.store i y && (c.sc.names.lookup y == some .local && swB c.sc y py p scope)) && (blkC c.N c.sc scope sl && (chk it c (.i t iter) && lcI tg k e sl c t elt ifs scope))
    | _ => false
def chkS : S → Ck → StX → Bool
  | .nop, _, .l [] => true
  | .nop, _, .s (.Pass _) => true
  | .nop, _, _ => false
  | .seq a r, c, .l (x :: xs) => chkS a c (.s x) && chkS r c (.l xs)
  | .seq _ _, _, _ => false
  | .set tg e, c, s => plainS (fun st => match st with
    | .Assign [t] v _ => ((noComp v || notNm t) && (notTup v || notTL t)) && (okx t && (chkT tg c (.e t) && chk e c (.e v)))
    | _ => false) s
  | .setc i _ tg it k e sl, c, s => plainS (setcF i tg it k e sl c) s
  | .ex e, c, s => plainS (fun st => match st with
    | .Expr x _ => noComp x && chk e c (.e x)
    | _ => false) s
  | .ret _ e, c, s => plainS (fun st => match st with
    | .Return (some x) _ => chk e c (.e x)
    | _ => false) s
  | .retN, _, s => plainS (fun st => match st with
    | .Return none _ => true
    | _ => false) s
  | .ite k a b, c, s => plainS (fun st => match st with
    | .If x p q _ => chk k c (.e x) && (chkS a c (.l p) && chkS b c (.l q))
    | _ => false) s
  | .for_ tg it b, c, s => plainS (fun st => match st with
    | .For t x p [] _ => chk it c (.i t x) && (chkT tg c (.e t) && chkS b c (.l p))
    | _ => false) s
  | .whl k b, c, s => plainS (fun st => match st with
    | .While x p [] _ => chk k c (.e x) && chkS b c (.l p)
    | _ => false) s
  | .setix o i v, c, s => plainS (fun st => match st with
    | .Assign [.Subscript x y _] z _ => okx y && (chk o c (.e x) && (chk i c (.e y) && chk v c (.e z)))
    | _ => false) s
def ndS (G : GC) : S → Prop
  | .nop => True
  | .seq a r => ndS G a ∧ ndS G r
  | .set _ e => nd G e
  | .setc _ _ _ it c e _ => nd G it ∧ nd G c ∧ nd G e
  | .ex e => nd G e
  | .ret _ e => nd G e
  | .retN => True
  | .ite c a b => nd G c ∧ ndS G a ∧ ndS G b
  | .for_ _ it b => nd G it ∧ ndS G b
  | .whl c b => nd G c ∧ ndS G b
  | .setix o i v => nd G o ∧ nd G i ∧ nd G v
/-! ### soundness -/
def tS (G : GC) (w0 : Wl) (m : DEnv → Store → NK → RK → Prop) : TS := fun D σ H => ∃ w env μ nx rt, w.H = H ∧ Gr w0 w ∧ RpH G w μ ∧ RpE G w σ env ∧ m env μ nx rt ∧
  (∀ w' σ' env' μ', Gr w w' → RpH G w' μ' → RpE G w' σ' env' → nx env' μ' → D.nx σ' w'.H) ∧ ∀ w' v x μ', Gr w w' → RpH G w' μ' → RpS G w' x v → rt x μ' → D.rt v w'.H
theorem ps_wk {X : Cx} {st : Stmt} {t t' : TS} (h : PS X st t) (k : ∀ D σ H, t' D σ H → t D σ H) : PS X st t' := ⟨fun pins s σ H D I q => h.run pins s σ H D I (k _ _ _ q)⟩
theorem pss_wk {X : Cx} {st : List Stmt} {t t' : TS} (h : PSs X st t) (k : ∀ D σ H, t' D σ H → t D σ H) : PSs X st t' := ⟨fun pins s σ H D I q => h.run pins s σ H D I (k _ _ _ q)⟩
structure SndS1 (X : Cx) (c : Ck) (W : Exn → DEnv → Store → Prop) (w0 : Wl) (s : S) : Prop where
  o : ∀ st, chkS s c (.s st) = true → PS X st (tS (gcOf X) w0 (sx W s))
  l : ∀ sts, chkS s c (.l sts) = true → PSs X sts (tS (gcOf X) w0 (sx W s))
def SndS (s : S) : Prop := ∀ (X : Cx) (c : Ck) (L : Addr) (W : Exn → DEnv → Store → Prop) (w0 : Wl), CkOk X c L → PassesOwn (model X.prog X.w) X.A X.env X.xe → ndS (gcOf X) s → TakesL X L (wD (gcOf X) w0 W) → SndS1 X c W w0 s
section
variable {X : Cx} {c : Ck} {L : Addr} {W : Exn → DEnv → Store → Prop} {w0 : Wl}
theorem snds_plain {s : S} {f : Stmt → Bool} (hc : ∀ q, chkS s c q = plainS f q) (h : ∀ st, f st = true → PS X st (tS (gcOf X) w0 (sx W s))) : SndS1 X c W w0 s :=
  ⟨fun st q => by rw [hc] at q; exact h st q, fun sts q => by rw [hc] at q; cases q⟩
theorem snds_nop : SndS .nop := fun X c L W w0 K po hn tk => by
  refine ⟨fun st h => ?_, fun sts h => ?_⟩
  · cases st <;> first | (cases h; done) | skip
    exact ps_wk ps_pass fun D σ H ⟨w, env, μ, nx, rt, eH, g, rh, re, m, kn, kr⟩ => by subst eH; exact kn w σ env μ .refl rh re m
  · cases sts with
    | nil => exact pss_wk pss_nil fun D σ H ⟨w, env, μ, nx, rt, eH, g, rh, re, m, kn, kr⟩ => by subst eH; exact kn w σ env μ .refl rh re m
    | cons _ _ => cases h
theorem snds_seq (a r : S) (ia : SndS a) (ir : SndS r) : SndS (.seq a r) := fun X c L W w0 K po hn tk => by
  have A := ia X c L W w0 K po hn.1 tk
  have R := ir X c L W w0 K po hn.2 tk
  refine ⟨fun st h => (by cases h), fun sts h => ?_⟩
  cases sts with
  | nil => cases h
  | cons x xs =>
    have h : (chkS a c (.s x) && chkS r c (.l xs)) = true := h
    rw [Bool.and_eq_true] at h
    refine pss_wk (pss_cons (A.o x h.1) (R.l xs h.2)) fun D σ H ⟨w, env, μ, nx, rt, eH, g, rh, re, m, kn, kr⟩ => ?_
    subst eH
    refine ⟨w, env, μ, _, rt, rfl, g, rh, re, m, fun w1 σ1 env1 μ1 g1 rh1 re1 m1 => ⟨w1, env1, μ1, nx, rt, rfl, g.trans g1, rh1, re1, m1, fun w2 σ2 env2 μ2 g2 rh2 re2 p => kn w2 σ2 env2 μ2 (g1.trans g2) rh2 re2 p, fun w2 v x μ2 g2 rh2 rs p => kr w2 v x μ2 (g1.trans g2) rh2 rs p⟩, kr⟩
theorem sw_none {v t : Expr} {l : Nat} {env : Env} (h : (noComp v || notNm t) = true) : swapsWithSole [t] v l env = pure false := by
  rw [Bool.or_eq_true] at h
  rcases h with h | h
  · cases v <;> first | rfl | cases h
  · cases v <;> cases t <;> first | rfl | cases h
theorem st_none {v t : Expr} {env : Env} (h : (notTup v || notTL t) = true) : swappedStores [t] v env = pure none := by
  rw [Bool.or_eq_true] at h
  rcases h with h | h
  · cases v <;> first | (cases t <;> rfl) | cases h
  · cases t <;> first | (cases v <;> rfl) | cases h
theorem snds_set (tg : Tg) (e : E) : SndS (.set tg e) := fun X c L W w0 K po hn tk => by
  have A := snd_all e X c L W w0 K hn tk
  refine snds_plain (fun q => rfl) fun st h => ?_
  cases st with
  | Assign ts v p =>
    cases ts with
    | nil => cases h
    | cons t tr =>
      cases tr with
      | cons _ _ => cases h
      | nil =>
        have h : (((noComp v || notNm t) && (notTup v || notTL t)) && (okx t && (chkT tg c (.e t) && chk e c (.e v)))) = true := h
        rw [Bool.and_eq_true, Bool.and_eq_true, Bool.and_eq_true, Bool.and_eq_true] at h
        obtain ⟨⟨h1, h2⟩, h3, h4, h5⟩ := h
        refine ps_wk (ps_asg (A.v v h5) ((pg_bind K tg).1 t h4) (sw_none h1) (st_none h2) (by rw [asg_ok h3]; rfl)) fun D σ H ⟨w, env, μ, nx, rt, eH, g, rh, re, m, kn, kr⟩ => ?_
        subst eH
        exact ⟨w, env, μ, _, rfl, g, rh, re, m, fun w1 v x μ1 g1 rh1 rs1 m1 => ⟨w1, env, x, _, rfl, re.mono g1, rs1, sub_ok rh1.sub, m1, fun σ' env' re' _ p => kn w1 σ' env' μ1 g1 rh1 re' p⟩⟩
  | _ => cases h
theorem snds_ex (e : E) : SndS (.ex e) := fun X c L W w0 K po hn tk => by
  have A := snd_all e X c L W w0 K hn tk
  refine snds_plain (fun q => rfl) fun st h => ?_
  cases st with
  | Expr x p =>
    have h : (noComp x && chk e c (.e x)) = true := h
    rw [Bool.and_eq_true] at h
    refine ps_wk (ps_expr (A.v x h.2) (by have h1 := h.1; cases x <;> first | rfl | cases h1)) fun D σ H ⟨w, env, μ, nx, rt, eH, g, rh, re, m, kn, kr⟩ => ?_
    subst eH
    exact ⟨w, env, μ, _, rfl, g, rh, re, m, fun w1 v x μ1 g1 rh1 rs1 m1 => kn w1 σ env μ1 g1 rh1 (re.mono g1) m1⟩
  | _ => cases h
theorem snds_ret (own : Bool) (e : E) : SndS (.ret own e) := fun X c L W w0 K po hn tk => by
  have A := snd_all e X c L W w0 K hn tk
  refine snds_plain (fun q => rfl) fun st h => ?_
  cases st with
  | Return x p =>
    cases x with
    | none => cases h
    | some x =>
      refine ps_wk (ps_ret (A.v x h)) fun D σ H ⟨w, env, μ, nx, rt, eH, g, rh, re, m, kn, kr⟩ => ?_
      subst eH
      refine ⟨w, env, μ, _, rfl, g, rh, re, m, fun w1 v x μ1 g1 rh1 rs1 m1 => ?_⟩
      cases own with
      | true => exact kr w1 v x μ1 g1 rh1 rs1 m1
      | false =>
        obtain ⟨w2, d, μ2, e2, g2, rh2, rd, p2⟩ := frz_ok rh1 rs1 m1
        rw [← e2]
        exact kr w2 v _ μ2 (g1.trans g2) rh2 (.d rd) p2
  | _ => cases h
theorem snds_retN : SndS .retN := fun X c L W w0 K po hn tk => by
  refine snds_plain (fun q => rfl) fun st h => ?_
  cases st with
  | Return x p =>
    cases x with
    | some x => cases h
    | none => exact ps_wk ps_retN fun D σ H ⟨w, env, μ, nx, rt, eH, g, rh, re, m, kn, kr⟩ => by subst eH; exact kr w .non _ μ .refl rh (.d .non) m
  | _ => cases h
theorem snds_ite (k : E) (a b : S) (ia : SndS a) (ib : SndS b) : SndS (.ite k a b) := fun X c L W w0 K po hn tk => by
  have C := snd_all k X c L W w0 K hn.1 tk
  have A := ia X c L W w0 K po hn.2.1 tk
  have B := ib X c L W w0 K po hn.2.2 tk
  refine snds_plain (fun q => rfl) fun st h => ?_
  cases st with
  | If x p q ps =>
    have h : (chk k c (.e x) && (chkS a c (.l p) && chkS b c (.l q))) = true := h
    rw [Bool.and_eq_true, Bool.and_eq_true] at h
    refine ps_wk (ps_if (C.t x h.1) (A.l p h.2.1) (B.l q h.2.2)) fun D σ H ⟨w, env, μ, nx, rt, eH, g, rh, re, m, kn, kr⟩ => ?_
    subst eH
    refine ⟨w, env, μ, _, rfl, g, rh, re, m, fun w1 z μ1 g1 rh1 m1 => ?_⟩
    cases z with
    | true =>
      rw [if_pos rfl] at m1 ⊢
      exact ⟨w1, env, μ1, nx, rt, rfl, g.trans g1, rh1, re.mono g1, m1, fun w2 σ2 env2 μ2 g2 rh2 re2 p => kn w2 σ2 env2 μ2 (g1.trans g2) rh2 re2 p, fun w2 v x μ2 g2 rh2 rs p => kr w2 v x μ2 (g1.trans g2) rh2 rs p⟩
    | false =>
      rw [if_neg Bool.false_ne_true] at m1 ⊢
      exact ⟨w1, env, μ1, nx, rt, rfl, g.trans g1, rh1, re.mono g1, m1, fun w2 σ2 env2 μ2 g2 rh2 re2 p => kn w2 σ2 env2 μ2 (g1.trans g2) rh2 re2 p, fun w2 v x μ2 g2 rh2 rs p => kr w2 v x μ2 (g1.trans g2) rh2 rs p⟩
  | _ => cases h
theorem snds_for (tg : Tg) (it : E) (b : S) (ib : SndS b) : SndS (.for_ tg it b) := fun X c L W w0 K po hn tk => by
  have A := snd_all it X c L W w0 K hn.1 tk
  have B := ib X c L W w0 K po hn.2 tk
  refine snds_plain (fun q => rfl) fun st h => ?_
  cases st with
  | For t x p q ps =>
    cases q with
    | cons _ _ => cases h
    | nil =>
      have h : (chk it c (.i t x) && (chkT tg c (.e t) && chkS b c (.l p))) = true := h
      rw [Bool.and_eq_true, Bool.and_eq_true] at h
      obtain ⟨P1, P2⟩ := A.i t x h.1
      refine ps_wk (ps_for po K.calm P1 ((pg_bind K tg).1 t h.2.1) (B.l p h.2.2) P2) fun D σ H ⟨w, env, μ, nx, rt, eH, g, rh, re, m, kn, kr⟩ => ?_
      subst eH
      refine ⟨w, env, μ, _, rfl, g, rh, re, m, fun w1 ds gd μ1 J g1 rh1 m1 ok => ?_⟩
      refine ⟨fun i mm σ H => mm = ds.length - i ∧ i ≤ ds.length ∧ ∃ w2 env2 μ2, w2.H = H ∧ Gr w1 w2 ∧ RpH (gcOf X) w2 μ2 ∧ RpE (gcOf X) w2 σ env2 ∧ forGo (bindT tg).v (fun env1 μ2 k => sx W b env1 μ2 k rt) gd nx (ds.drop i) env2 μ2,
        ⟨_, rfl, Nat.zero_le _, w1, env, μ1, rfl, .refl, rh1, re.mono g1, m1⟩, fun i mm σ H ⟨em, hle, w2, env2, μ2, eH, g2, rh2, re2, mm2⟩ => ?_⟩
      subst eH em
      cases eq : ds.drop i with
      | nil =>
        rw [eq] at mm2
        obtain ⟨hg, fin⟩ := mm2
        exact .inl ⟨(ok w2 μ2 g2 rh2 hg i).2 (Nat.le_antisymm (List.drop_eq_nil_iff.mp eq) hle), kn w2 σ env2 μ2 (g1.trans g2) rh2 re2 fin⟩
      | cons d xs =>
        rw [eq] at mm2
        obtain ⟨hx, hdr, hi⟩ := drop_cons eq
        obtain ⟨hg, mb⟩ := mm2
        obtain ⟨go, yl⟩ := (ok w2 μ2 g2 rh2 hg i).1 d hx
        refine .inr ⟨go, fun σ H => ds.length - (i + 1) = ds.length - (i + 1) ∧ i + 1 ≤ ds.length ∧ ∃ w2 env2 μ2, w2.H = H ∧ Gr w1 w2 ∧ RpH (gcOf X) w2 μ2 ∧ RpE (gcOf X) w2 σ env2 ∧ forGo (bindT tg).v (fun env1 μ2 k => sx W b env1 μ2 k rt) gd nx (ds.drop (i + 1)) env2 μ2,
          fun σ' H' z => ⟨ds.length - (i + 1), by omega, z⟩, fun xv H' y => ?_⟩
        obtain ⟨I', xe, rx⟩ := yl xv H' y
        have rh3 : RpH (gcOf X) ⟨I', w2.α, H'⟩ μ2 := rh2.ex xe
        have g3 : Gr w2 ⟨I', w2.α, H'⟩ := xe.gr
        refine ⟨⟨I', w2.α, H'⟩, env2, .d d, _, rfl, re2.mono g3, .d rx, sub_ok rh3.sub, mb, fun σ' env' re' _ p => ?_⟩
        refine ⟨⟨I', w2.α, H'⟩, env', μ2, _, rt, rfl, g.trans (g1.trans (g2.trans g3)), rh3, re', p, fun w4 σ4 env4 μ4 g4 rh4 re4 p4 => ?_, fun w4 v x μ4 g4 rh4 rs4 p4 => kr w4 v x μ4 (g1.trans (g2.trans (g3.trans g4))) rh4 rs4 p4⟩
        exact ⟨rfl, hi, w4, env4, μ4, rfl, g2.trans (g3.trans g4), rh4, re4, by rw [hdr]; exact p4⟩
  | _ => cases h
theorem snds_whl (k : E) (b : S) (ib : SndS b) : SndS (.whl k b) := fun X c L W w0 K po hn tk => by
  have A := snd_all k X c L W w0 K hn.1 tk
  have B := ib X c L W w0 K po hn.2 tk
  refine snds_plain (fun q => rfl) fun st h => ?_
  cases st with
  | While x p q ps =>
    cases q with
    | cons _ _ => cases h
    | nil =>
      have h : (chk k c (.e x) && chkS b c (.l p)) = true := h
      rw [Bool.and_eq_true] at h
      refine ps_wk (ps_while po (A.t x h.1) (B.l p h.2)) fun D σ H ⟨w, env, μ, nx, rt, eH, g, rh, re, m, kn, kr⟩ => ?_
      subst eH
      obtain ⟨n, m⟩ := m
      refine ⟨fun n σ H => ∃ w2 env2 μ2, w2.H = H ∧ Gr w w2 ∧ RpH (gcOf X) w2 μ2 ∧ RpE (gcOf X) w2 σ env2 ∧ whlGo (sem W k).t (fun env1 μ2 k => sx W b env1 μ2 k rt) nx n env2 μ2, ⟨n, w, env, μ, rfl, .refl, rh, re, m⟩, fun n σ H ⟨w2, env2, μ2, eH, g2, rh2, re2, m2⟩ => ?_⟩
      subst eH
      cases n with
      | zero => exact m2.elim
      | succ n =>
        refine ⟨w2, env2, μ2, _, rfl, g.trans g2, rh2, re2, m2, fun w3 z μ3 g3 rh3 m3 => ?_⟩
        cases z with
        | true =>
          rw [if_pos rfl] at m3 ⊢
          refine ⟨fun σ H => ∃ w2 env2 μ2, w2.H = H ∧ Gr w w2 ∧ RpH (gcOf X) w2 μ2 ∧ RpE (gcOf X) w2 σ env2 ∧ whlGo (sem W k).t (fun env1 μ2 k => sx W b env1 μ2 k rt) nx n env2 μ2, fun σ' H' z => ⟨n, Nat.lt_succ_self n, z⟩, ?_⟩
          exact ⟨w3, env2, μ3, _, rt, rfl, g.trans (g2.trans g3), rh3, re2.mono g3, m3, fun w4 σ4 env4 μ4 g4 rh4 re4 p4 => ⟨w4, env4, μ4, rfl, g2.trans (g3.trans g4), rh4, re4, p4⟩, fun w4 v x μ4 g4 rh4 rs4 p4 => kr w4 v x μ4 (g2.trans (g3.trans g4)) rh4 rs4 p4⟩
        | false =>
          rw [if_neg Bool.false_ne_true] at m3 ⊢
          exact kn w3 σ env2 μ3 (g2.trans g3) rh3 (re2.mono g3) m3
  | _ => cases h
theorem asgIx_ok {x y : Expr} {p : Pos} {env : Env} (h : okx y = true) : ∀ v, assign (.Subscript x y p) env v = (do
      let ov ← holding [v] (eval x env)
      let iv ← holding [v, ov] (eval y env)
      standAt p
      holding [v, ov, iv] (setItem ov iv v)
      release [v, ov, iv] []) := fun v => by
  cases y <;> first | rfl | cases h
theorem snds_setix (o i v : E) : SndS (.setix o i v) := fun X c L W w0 K po hn tk => by
  have A := snd_all o X c L W w0 K hn.1 tk
  have B := snd_all i X c L W w0 K hn.2.1 tk
  have C := snd_all v X c L W w0 K hn.2.2 tk
  refine snds_plain (fun q => rfl) fun st h => ?_
  cases st with
  | Assign ts z p =>
    cases ts with
    | nil => cases h
    | cons t tr =>
      cases tr with
      | cons _ _ => cases t <;> cases h
      | nil =>
        cases t with
        | Subscript x y q =>
          have h : (okx y && (chk o c (.e x) && (chk i c (.e y) && chk v c (.e z)))) = true := h
          rw [Bool.and_eq_true, Bool.and_eq_true, Bool.and_eq_true] at h
          obtain ⟨h1, h2, h3, h4⟩ := h
          refine ps_wk (ps_asg (C.v z h4) (pg_sub (A.v x h2) (B.v y h3) set_list (asgIx_ok h1)) (by cases z <;> rfl) (by cases z <;> rfl) rfl) fun D σ H ⟨w, env, μ, nx, rt, eH, g, rh, re, m, kn, kr⟩ => ?_
          subst eH
          refine ⟨w, env, μ, _, rfl, g, rh, re, m, fun w1 vv yy μ1 g1 rh1 rs1 m1 => ⟨w1, env, μ1, _, rfl, g.trans g1, rh1, re.mono g1, m1, fun w2 ov xx μ2 g2 rh2 rs2 m2 => ⟨w2, env, μ2, _, rfl, g.trans (g1.trans g2), rh2, re.mono (g1.trans g2), m2, fun w3 iv zz μ3 g3 rh3 rs3 m3 => ?_⟩⟩⟩
          have m3 : locK xx (fun k => intK zz fun j => frzK yy μ3 fun d μ4 => lstK μ4[k]? fun xs => ∃ n, ixN xs.length j = some n ∧ nx env (μ4.set k (.lst (xs.set n d)))) := m3
          cases rs2 with
          | d _ => exact m3.elim
          | fn _ => exact m3.elim
          | @loc kk p ep =>
            obtain ⟨j, rfl, m4⟩ := intK_inv m3
            obtain ⟨w4, d, μ4, e4, g4, rh4, rd, m5⟩ := frz_ok rh3 (rs1.mono (g2.trans g3)) m4
            obtain ⟨ds, q, n, hn, m6⟩ := lstK_inv m5
            have ep4 := (g3.trans g4).at ep
            obtain ⟨ni, us, hu, ru⟩ := lst_at rh4 ep4 q
            obtain ⟨g5, rh5⟩ := lst_write (ds := ds) rh4 ep4 ni (ru.set n rd)
            cases rs3 with
            | d r3 =>
              cases r3
              refine ⟨p, us, j, n, rfl, rfl, by rw [← e4]; exact hu, by rw [ru.length]; exact hn, ?_⟩
              rw [← e4]
              exact kn _ σ env _ (g1.trans (g2.trans (g3.trans (g4.trans g5)))) rh5 (re.mono (g1.trans (g2.trans (g3.trans (g4.trans g5))))) m6
        | _ => cases h
  | _ => cases h
theorem sw_yes {sc : Scope} {y : Str} {py p : Pos} {elt : Expr} {gs : List Comprehension} {scope : Scope} {l : Nat} {env : Env} (e : env.scope = sc) (h : swB sc y py p scope = true) : swapsWith (.ListComp elt gs scope p) (some (.Name y py)) l env = pure true := by
  subst e
  rw [← h]
  rfl
theorem snds_setc (i : Nat) (own : Bool) (tg : Tg) (it k e : E) (sl : List (Str × Nat)) : SndS (.setc i own tg it k e sl) := fun X c L W w0 K po hn tk => by
  refine snds_plain (fun q => rfl) fun st h => ?_
  have key : ∃ y py elt t iter ifs scope p q, st = .Assign [.Name y py] (.ListComp elt [⟨t, iter, ifs, 0⟩] scope p) q ∧ c.store i y = true ∧ c.sc.names.lookup y = some .local ∧ swB c.sc y py p scope = true ∧ blkC c.N c.sc scope sl = true ∧ chk it c (.i t iter) = true ∧ lcI tg k e sl c t elt ifs scope = true := by
    have h : setcF i tg it k e sl c st = true := h
    unfold setcF at h
    split at h
    · simp only [Bool.and_eq_true] at h
      obtain ⟨⟨h1, h2, h3⟩, h4, h5, h6⟩ := h
      exact ⟨_, _, _, _, _, _, _, _, _, rfl, h1, eq_of_beq h2, h3, h4, h5, h6⟩
    · cases h
  obtain ⟨y, py, elt, t, iter, ifs, scope, p, q, rfl, h1, h2, h3, h4, h5, h6⟩ := key
  have hf : lcF tg it k e sl c (.ListComp elt [⟨t, iter, ifs, 0⟩] scope p) = true := by
    show (blkC c.N c.sc scope sl && (chk it c (.i t iter) && lcI tg k e sl c t elt ifs scope)) = true
    rw [h4, h5, h6]; rfl
  obtain ⟨elt', t', iter', ifs', scope', p', e', i1, i2, i3, i4, i5, i6⟩ := lcF_inv hf
  cases e'
  obtain ⟨E0, outer, est, ef⟩ := K.st
  have R := lc_r (snd_all it) (snd_all k) (snd_all e) K hn tk i1 i2 i3 i5 i6
  obtain ⟨s1, s2, s3⟩ := ck_store K h1
  refine ps_wk (ps_setLcX tk est ef K.fr K.calm K.nd s1 (by rw [K.sc]; exact h2) (sw_yes K.sc h3) R.hi R.ok R.hg R.ht R.he R.hs) fun D σ H ⟨w, env, μ, nx, rt, eH, g, rh, re, m, kn, kr⟩ => ?_
  subst eH
  refine lc_go i4 ⟨w, env, μ, _, rfl, g, rh, re, m, fun w1 v x μ1 g1 rh1 rs1 m1 => ?_⟩
  exact kn w1 _ _ μ1 g1 rh1 ((re.mono g1).set rs1) m1
end
theorem snds_all : ∀ s : S, SndS s := by
  intro s
  induction s with
  | nop => exact snds_nop
  | seq a r ia ir => exact snds_seq a r ia ir
  | set tg e => exact snds_set tg e
  | setc i own tg it c e sl => exact snds_setc i own tg it c e sl
  | ex e => exact snds_ex e
  | ret own e => exact snds_ret own e
  | retN => exact snds_retN
  | ite c a b ia ib => exact snds_ite c a b ia ib
  | for_ tg it b ib => exact snds_for tg it b ib
  | whl c b ib => exact snds_whl c b ib
  | setix o i v => exact snds_setix o i v
end DV
set_option Elab.async false
set_option linter.all false
set_option maxRecDepth 100000
set_option maxHeartbeats 4000000
/-! DvF: a def keeps its promise: what it leaves behind is dropped; what it does not see stands. -/
namespace DV
open PySem PySem.Spec PyProof.Rows L2
/-! ### what is dropped -/
def fitV (n : Nat) : SV → Bool
  | .loc k => decide (k < n)
  | _ => true
def fitO (n : Nat) : MO → Bool
  | .ins _ fs => fs.all fun p => fitV n p.2
  | _ => true
def gcK (n : Nat) (x : SV) (μ' : Store) (P : SV → Store → Prop) : Prop := (μ'.take n).all (fitO n) = true ∧ match x with
  | .loc k => if k < n then P (.loc k) (μ'.take n) else match μ'[k]? with
    | some o => fitO n o = true ∧ P (.loc n) (μ'.take n ++ [o])
    | none => False
  | x => P x (μ'.take n)
def gcX (n : Nat) (μ' : Store) (P : Store → Prop) : Prop := (μ'.take n).all (fitO n) = true ∧ P (μ'.take n)
section
variable {G : GC} {w w1 : Wl} {μ0 μ' : Store}
theorem rps_cut {w1 w2 : Wl} {n : Nat} (hI : w2.I = w1.I) (hα : ∀ j, j < n → w2.α[j]? = w1.α[j]?) {x : SV} {v : V} (f : fitV n x = true) (h : RpS G w1 x v) : RpS G w2 x v := by
  cases h with
  | d r => exact .d (by rw [hI]; exact r)
  | loc e => exact .loc (by rw [hα _ (of_decide_eq_true f)]; exact e)
  | fn e => exact .fn e
theorem rpss_cut {w1 w2 : Wl} {n : Nat} (hI : w2.I = w1.I) (hα : ∀ j, j < n → w2.α[j]? = w1.α[j]?) : ∀ {xs : List SV} {vs : List V}, (xs.all (fitV n)) = true → RpSs G w1 xs vs → RpSs G w2 xs vs
  | _, _, _, .nil => .nil
  | x :: xs, _, f, .cons a b => by
    rw [List.all_cons, Bool.and_eq_true] at f
    exact .cons (rps_cut hI hα f.1 a) (rpss_cut hI hα f.2 b)
theorem rpm_cut {w1 w2 : Wl} {n : Nat} (hI : w2.I = w1.I) (hH : w2.H = w1.H) (hα : ∀ j, j < n → w2.α[j]? = w1.α[j]?) {o : MO} {a : Addr} (f : fitO n o = true) (h : RpM G w1 o a) : RpM G w2 o a := by
  cases o with
  | frz x => obtain ⟨h1, h2⟩ := h; exact ⟨by rw [hI]; exact h1, by rw [hI]; exact h2⟩
  | lst ds => obtain ⟨n, vs, e, r⟩ := h; exact ⟨by rw [hI]; exact n, vs, by rw [hH]; exact e, by rw [hI]; exact r⟩
  | dic ds => obtain ⟨n, vs, e, q, r⟩ := h; exact ⟨by rw [hI]; exact n, vs, by rw [hH]; exact e, q, by rw [hI]; exact r⟩
  | ins C fs =>
    obtain ⟨n, Ca, dx, vs, m, e, q, r⟩ := h
    refine ⟨by rw [hI]; exact n, Ca, dx, vs, m, by rw [hH]; exact e, q, rpss_cut hI hα ?_ r⟩
    rw [List.all_map]; exact f
theorem gr_pre (g : Gr w w1) {j : Nat} (h : j < w.α.length) : w.α[j]? = w1.α[j]? := by
  obtain ⟨m, e⟩ := g.pre
  rw [e, List.getElem?_append_left h]
theorem gr_cut (g : Gr w w1) : Gr w ⟨w1.I, w.α, w1.H⟩ := ⟨g.sub, ⟨[], by simp⟩, fun a h => .inl h, g.ni, g.fr⟩
theorem rph_cut (rh0 : RpH G w μ0) (g : Gr w w1) (rh : RpH G w1 μ') (f : (μ'.take μ0.length).all (fitO μ0.length) = true) : RpH G ⟨w1.I, w.α, w1.H⟩ (μ'.take μ0.length) := by
  have hl := rh0.len
  have hle : w.α.length ≤ w1.α.length := by
    obtain ⟨m, e⟩ := g.pre
    rw [e, List.length_append]; omega
  refine ⟨rh.sub, by rw [List.length_take, ← rh.len]; show w.α.length = _; omega, rh0.nd, fun k o e => ?_⟩
  have hk : k < μ0.length := by
    have := (List.getElem?_eq_some_iff.mp e).1
    rw [List.length_take] at this; omega
  have fo : fitO μ0.length o = true := (List.all_eq_true.mp f) o (List.mem_of_getElem? e)
  rw [List.getElem?_take_of_lt hk] at e
  obtain ⟨a, q, r⟩ := rh.obj k o e
  refine ⟨a, ?_, rpm_cut (w1 := w1) (w2 := ⟨w1.I, w.α, w1.H⟩) (n := μ0.length) rfl rfl (fun j hj => gr_pre g (by omega)) fo r⟩
  show w.α[k]? = some a
  rw [gr_pre g (by omega)]; exact q
theorem gc_ok {x : SV} {v : V} {P : SV → Store → Prop} (rh0 : RpH G w μ0) (g : Gr w w1) (rh : RpH G w1 μ') (rs : RpS G w1 x v) (p : gcK μ0.length x μ' P) : ∃ w2 y μ2, w2.H = w1.H ∧ Gr w w2 ∧ RpH G w2 μ2 ∧ RpS G w2 y v ∧ P y μ2 := by
  obtain ⟨f, p⟩ := p
  have rc := rph_cut rh0 g rh f
  have hl := rh0.len
  cases rs with
  | d r => exact ⟨⟨w1.I, w.α, w1.H⟩, _, _, rfl, gr_cut g, rc, .d r, p⟩
  | fn e => exact ⟨⟨w1.I, w.α, w1.H⟩, _, _, rfl, gr_cut g, rc, .fn e, p⟩
  | @loc k a e =>
    have p : (if k < μ0.length then P (.loc k) (μ'.take μ0.length) else match μ'[k]? with
      | some o => fitO μ0.length o = true ∧ P (.loc μ0.length) (μ'.take μ0.length ++ [o])
      | none => False) := p
    by_cases hk : k < μ0.length
    · rw [if_pos hk] at p
      exact ⟨⟨w1.I, w.α, w1.H⟩, _, _, rfl, gr_cut g, rc, .loc (by show w.α[k]? = _; rw [gr_pre g (by omega)]; exact e), p⟩
    · rw [if_neg hk] at p
      cases q : μ'[k]? with
      | none => rw [q] at p; exact p.elim
      | some o =>
        rw [q] at p
        obtain ⟨fo, p⟩ := p
        obtain ⟨b, eb, rm⟩ := rh.obj k o q
        obtain rfl : a = b := Option.some.inj (e.symm.trans eb)
        have na : a ∉ w.α := fun z => by
          obtain ⟨j, hj, ej⟩ := List.mem_iff_getElem.mp z
          have e2 : w1.α[j]? = some a := by rw [← gr_pre g hj, List.getElem?_eq_getElem hj, ej]
          have := nodup_at rh.nd e e2
          omega
        have g2 : Gr w ⟨w1.I, w.α ++ [a], w1.H⟩ := ⟨g.sub, ⟨[a], rfl⟩, fun b hb => (List.mem_append.mp hb).elim .inl fun z => by
          rw [List.mem_singleton.mp z]; exact g.nw a (List.mem_of_getElem? e), g.ni, g.fr⟩
        have hα : ∀ j, j < μ0.length → (w.α ++ [a])[j]? = w1.α[j]? := fun j hj => by
          rw [List.getElem?_append_left (by omega)]; exact gr_pre g (by omega)
        refine ⟨⟨w1.I, w.α ++ [a], w1.H⟩, .loc μ0.length, _, rfl, g2, ⟨rh.sub, ?_, ?_, fun j u z => ?_⟩, .loc (by rw [← hl]; show (w.α ++ [a])[w.α.length]? = _; simp), p⟩
        · show (w.α ++ [a]).length = _
          rw [List.length_append, List.length_append, ← rc.len]; rfl
        · show (w.α ++ [a]).Nodup
          rw [List.nodup_append]
          refine ⟨rh0.nd, by simp, fun x hx y hy => ?_⟩
          obtain rfl := List.mem_singleton.mp hy
          rintro rfl
          exact na hx
        · have hlt : (μ'.take μ0.length).length = μ0.length := by rw [← rc.len]; exact hl
          by_cases hj : j < μ0.length
          · rw [List.getElem?_append_left (by omega)] at z
            obtain ⟨b, qb, rb⟩ := rc.obj j u z
            have fu : fitO μ0.length u = true := (List.all_eq_true.mp f) u (List.mem_of_getElem? z)
            refine ⟨b, by show (w.α ++ [a])[j]? = _; rw [List.getElem?_append_left (by omega)]; exact qb, rpm_cut (w1 := ⟨w1.I, w.α, w1.H⟩) (w2 := ⟨w1.I, w.α ++ [a], w1.H⟩) (n := μ0.length) rfl rfl (fun i hi => (by show (w.α ++ [a])[i]? = w.α[i]?; rw [List.getElem?_append_left (by omega)])) fu rb⟩
          · rw [List.getElem?_append_right (by omega), hlt] at z
            have hj0 : j - μ0.length = 0 := by
              have := (List.getElem?_eq_some_iff.mp z).1
              simp at this; omega
            rw [hj0] at z
            cases z
            refine ⟨a, ?_, rpm_cut (w1 := w1) (w2 := ⟨w1.I, w.α ++ [a], w1.H⟩) (n := μ0.length) rfl rfl hα fo rm⟩
            have : j = w.α.length := by omega
            rw [this]; show (w.α ++ [a])[w.α.length]? = _; simp
end
/-! ### the rule of a def -/
def startE (N : List Str) (svs : List SV) : DEnv := svs.map some ++ List.replicate (N.length - svs.length) none
theorem rpe_start {G : GC} {w : Wl} {N : List Str} {svs : List SV} {vs : List V} (h : RpSs G w svs vs) : RpE G w (L2.start N vs) (startE N svs) := by
  have hl := h.length
  refine ⟨by unfold L2.start startE; simp [hl], fun i x e => ?_⟩
  unfold startE at e
  have hi : i < svs.length := by
    by_cases hi : i < svs.length
    · exact hi
    · rw [List.getElem?_append_right (by simpa using hi), List.getElem?_replicate] at e
      split at e <;> cases e
  rw [List.getElem?_append_left (by simpa using hi), List.getElem?_map] at e
  have go : ∀ {xs : List SV} {us : List V} {i : Nat} {x : SV}, RpSs G w xs us → xs[i]? = some x → ∃ v, us[i]? = some v ∧ RpS G w x v := by
    intro xs us i x h
    induction h generalizing i with
    | nil => intro e; simp at e
    | cons a b ih =>
      intro e
      cases i with
      | zero => simp at e; subst e; exact ⟨_, rfl, a⟩
      | succ i => obtain ⟨v, h1, h2⟩ := ih (by simpa using e); exact ⟨v, by simpa using h1, h2⟩
  cases q : svs[i]? with
  | none => rw [q] at e; cases e
  | some y =>
    rw [q] at e
    cases e
    obtain ⟨v, h1, h2⟩ := go h q
    refine ⟨v, ?_, h2⟩
    unfold L2.start
    rw [List.getElem?_append_left (by simpa [← hl] using hi), List.getElem?_map, h1]; rfl
/-- THE RULE -/
theorem fnG_of {G : GC} {x qual : Str} {params : Arguments} {body : List Stmt} {scope : Scope} {f : Addr} {fd : FuncData} {N ps bn : List Str} {k : Nat} {b : S} {dsp : DSp} {dvs : List V} {kws : List (Str × V)} (F : FunD G.K x qual params body scope dvs kws f fd) (Sc : FnScope N ps scope) (hbn : ∀ x ∈ bn, G.mg x = none)
    (hc : chkS b ⟨N, scope, none, bn, k⟩ (.l body) = true) (hn : ndS G b)
    (hsem : ∀ svs μ P PE, svs.length = ps.length → dsp svs μ P PE → sx (fun x _ μ' => gcX μ.length μ' (PE x)) b (startE N svs) μ (fun _ μ' => gcK μ.length (.d .none) μ' P) (fun x μ' => gcK μ.length x μ' P)) :
    FnG G (k + 1) f fd ps (lift G ps.length dsp) := by
  cases G with
  | mk prog wd K mg base =>
  obtain ⟨oc, od, dV, kV, doc, pm, an, cdv, ct, osl, rfl, lk, hcd, _, _⟩ := F.ex
  have len : ∀ vs H Q E, lift ⟨prog, wd, K, mg, base⟩ ps.length dsp vs H Q E → vs.length = ps.length := fun vs H Q E ⟨w, svs, μ, P, PE, _, _, rs, hl, _⟩ => by rw [← rs.length]; exact hl
  refine ⟨len, fun A outer s H args us vs Q E hr hg e0 hb r hsp => ?_⟩
  have hl := len _ _ _ _ hsp
  have KX : K.In s.heap := e0.mod.kin.keeps fun b o e => (e0.bs b o e).1
  have lim : s.heap.NoLimit := e0.mod.nolimit.keeps fun b o e => (e0.bs b o e).1
  have hkind : ∀ y ∈ ps.zip us, scope.names.lookup y.1 = some .local ∨ (scope.names.lookup y.1 = some .cell ∧ ((cellsFrom (s.heap.objs.size + 1) scope.names []).lookup y.1).isSome = true) := fun ⟨n, v⟩ hy => by
    rcases Sc.par n (List.of_mem_zip hy).1 with q | q
    · exact .inl q
    · exact .inr ⟨q, PySem.W.cellsFrom_some _ _ _ (.inl q)⟩
  refine codeAny_call_function hr.depth (KX _ _ lk) rfl Sc.co Sc.gen rfl (PySem.W.codeRec_of KX hcd) (hb _ _ _ _ ?_)
  refine wpAny_newFunctionEnv_cells Sc.kind hkind fun env he s1 x => ?_
  subst he
  refine ⟨lim.keeps x.toInCall.keep, codeAny_func ?_⟩
  have I : Inv (cxOf (L2.CX prog wd) prog wd K mg base N qual scope f cdv A outer s H E) [] (L2.start N vs) H s1 := inv_start Sc hr.hd e0 hl r x
  obtain ⟨w, svs, μ, P, PE, eH, rh, rs, hsl, sp, kQ, kE⟩ := hsp
  subst eH
  let X : Cx := cxOf (L2.CX prog wd) prog wd K mg base N qual scope f cdv A outer s w.H E
  have hcond : CkOk X ⟨N, scope, none, bn, k⟩ X.env.locals := ⟨rfl, Sc.nd, rfl, rfl, hr.deeper _, hg, hbn, fun _ _ => rfl, ⟨_, _, rfl, rfl⟩, rfl⟩
  have tk0 : Takes X (fun cls d _ H => E cls d H) := takes_of rfl rfl rfl rfl
  have po : PassesOwn (model X.prog X.w) X.A X.env X.xe := passes_of rfl
  have tk : TakesL X X.env.locals (wD ⟨prog, wd, K, mg, base⟩ w fun x _ μ' => gcX μ.length μ' (PE x)) := by
    refine fun u s' z => tk0.imp (W' := wD ⟨prog, wd, K, mg, base⟩ w fun x _ μ' => gcX μ.length μ' (PE x)) (fun c d σ H' z => ?_) u s' z
    obtain ⟨w1, env1, μ1, x, e1, g1, rh1, re1, rx, f, p⟩ := z
    subst e1
    obtain ⟨Ca, m1, m2, m3⟩ := rx
    exact kE ⟨w1.I, w.α, w1.H⟩ c d x _ (gr_cut g1) (rph_cut rh g1 rh1 f) ⟨Ca, m1, m2, m3⟩ p
  have B := (snds_all b X ⟨N, scope, none, bn, k⟩ X.env.locals _ w hcond po hn tk).l body hc
  have run := B.run [] s1 (L2.start N vs) w.H { nx := fun _ H' => Q .non H', rt := Q } I ⟨w, startE N svs, μ, _, _, rfl, .refl, rh, rpe_start rs, hsem svs μ P PE hsl sp, fun w1 σ1 env1 μ1 g1 rh1 re1 p => (by
    obtain ⟨w2, y, μ2, e2, g2, rh2, rs2, p2⟩ := gc_ok rh g1 rh1 (.d .non) p
    have := kQ w2 .non y μ2 g2 rh2 rs2 p2
    rw [e2] at this
    exact this), fun w1 v x μ1 g1 rh1 rs1 p => (by
    obtain ⟨w2, y, μ2, e2, g2, rh2, rs2, p2⟩ := gc_ok rh g1 rh1 rs1 p
    have := kQ w2 v y μ2 g2 rh2 rs2 p2
    rw [e2] at this
    exact this)⟩
  refine wpAny_mono run (fun fl s' hs => ?_) fun e s' hs => hs
  have fin : ∀ {σ' : L2.St} {H' : Hp} {v : V} {u : Value}, Inv X [] σ' H' s' → RelV v u → Q v H' → CE outer prog wd w.H s Q u s' :=
    fun {σ' H' v u} J rv q => ⟨v, H', J.os, J.bare, J.base, J.hok, rv, q⟩
  cases fl with
  | ret u =>
    obtain ⟨v, σ', H', J, rv, q⟩ := hs
    exact fin J rv q
  | next =>
    obtain ⟨σ', H', J, q⟩ := hs
    exact fin (v := V.non) (u := Value.none) J rfl q
  | brk =>
    obtain ⟨_, _, _, q⟩ := hs
    exact False.elim q
  | cont =>
    obtain ⟨_, _, _, q⟩ := hs
    exact False.elim q
end DV
set_option Elab.async false
set_option linter.all false
set_option maxRecDepth 100000
set_option maxHeartbeats 4000000
/-! DvG: the frame: a promise over a small store is one over any store that holds it. -/
namespace DV
open PySem PySem.Spec PyProof.Rows L2
def svB (ks : List Nat) (m : Nat) : SV → SV
  | .loc j => .loc (match ks[j]? with
    | some k => k
    | none => m + (j - ks.length))
  | x => x
def objB (ks : List Nat) (m : Nat) : MO → MO
  | .ins C fs => .ins C (fs.map fun p => (p.1, svB ks m p.2))
  | o => o
def putB : Store → List Nat → Store → Store
  | μ, k :: ks, o :: os => putB (μ.set k o) ks os
  | μ, _, os => μ ++ os
def bigSp (lsp : DSp) : DSp := fun svs μ P PE => ∃ (ks : List Nat) (svs0 : List SV) (μ0 : Store), ks.Nodup ∧ svs = svs0.map (svB ks μ.length) ∧ ks.map (fun k => μ[k]?) = μ0.map (fun o => some (objB ks μ.length o)) ∧
  lsp svs0 μ0 (fun x μ' => P (svB ks μ.length x) (putB μ ks (μ'.map (objB ks μ.length)))) fun x μ' => PE x (putB μ ks (μ'.map (objB ks μ.length)))
theorem putB_length : ∀ {ks : List Nat} {os μ : Store}, ks.length ≤ os.length → (putB μ ks os).length = μ.length + (os.length - ks.length)
  | [], os, μ, _ => by unfold putB; simp
  | k :: ks, [], μ, h => by simp at h
  | k :: ks, o :: os, μ, h => by
    unfold putB
    rw [putB_length (by simpa using h), List.length_set]
    simp
theorem putB_off : ∀ {ks : List Nat} {os μ : Store} {i : Nat}, ks.length ≤ os.length → i < μ.length → i ∉ ks → (putB μ ks os)[i]? = μ[i]?
  | [], os, μ, i, _, hi, _ => by unfold putB; rw [List.getElem?_append_left hi]
  | k :: ks, [], μ, i, h, _, _ => by simp at h
  | k :: ks, o :: os, μ, i, h, hi, hn => by
    unfold putB
    have hk : k ≠ i := fun e => hn (by rw [e]; exact List.mem_cons_self ..)
    rw [putB_off (by simpa using h) (by rw [List.length_set]; exact hi) fun z => hn (List.mem_cons_of_mem _ z), List.getElem?_set_ne hk]
theorem putB_on : ∀ {ks : List Nat} {os μ : Store} {j k : Nat}, ks.Nodup → ks.length ≤ os.length → ks[j]? = some k → k < μ.length → (putB μ ks os)[k]? = os[j]?
  | [], os, μ, j, k, _, _, e, _ => by simp at e
  | k0 :: ks, [], μ, _, _, _, h, _, _ => by simp at h
  | k0 :: ks, o :: os, μ, 0, k, nd, h, e, hk => by
    simp at e
    subst e
    unfold putB
    rw [putB_off (by simpa using h) (by rw [List.length_set]; exact hk) (List.nodup_cons.mp nd).1, List.getElem?_set_self hk]; rfl
  | k0 :: ks, o :: os, μ, j + 1, k, nd, h, e, hk => by
    unfold putB
    rw [putB_on (j := j) (List.nodup_cons.mp nd).2 (by simpa using h) (by simpa using e) (by rw [List.length_set]; exact hk)]
    simp
theorem putB_new : ∀ {ks : List Nat} {os μ : Store} {i : Nat}, ks.length ≤ os.length → μ.length ≤ i → (putB μ ks os)[i]? = os[ks.length + (i - μ.length)]?
  | [], os, μ, i, _, hi => by unfold putB; rw [List.getElem?_append_right hi]; simp
  | k :: ks, [], μ, i, h, _ => by simp at h
  | k :: ks, o :: os, μ, i, h, hi => by
    unfold putB
    rw [putB_new (by simpa using h) (by rw [List.length_set]; exact hi), List.length_set]
    simp [Nat.add_right_comm]
section
variable {G : GC}
def pick (α : List Addr) (ks : List Nat) : List Addr := ks.filterMap fun k => α[k]?
theorem pick_get : ∀ {ks : List Nat} {α : List Addr} {j : Nat}, (∀ k ∈ ks, k < α.length) → (pick α ks)[j]? = (ks[j]?).bind fun k => α[k]?
  | [], α, j, _ => by simp [pick]
  | k :: ks, α, j, h => by
    have hk := h k (List.mem_cons_self ..)
    have e : pick α (k :: ks) = α[k] :: pick α ks := by
      unfold pick
      rw [List.filterMap_cons, List.getElem?_eq_getElem hk]
    rw [e]
    cases j with
    | zero => simp [List.getElem?_eq_getElem hk]
    | succ j =>
      have := pick_get (ks := ks) (α := α) (j := j) fun k hk => h k (List.mem_cons_of_mem _ hk)
      simpa using this
theorem pick_len {ks : List Nat} {α : List Addr} (h : ∀ k ∈ ks, k < α.length) : (pick α ks).length = ks.length := by
  induction ks with
  | nil => rfl
  | cons k ks ih =>
    have hk := h k (List.mem_cons_self ..)
    have e : pick α (k :: ks) = α[k] :: pick α ks := by
      unfold pick
      rw [List.filterMap_cons, List.getElem?_eq_getElem hk]
    rw [e, List.length_cons, List.length_cons, ih fun k hk => h k (List.mem_cons_of_mem _ hk)]
theorem frame_ok {ar : Nat} {lsp : DSp} {vs : List V} {H : Hp} {Q : VK} {E : XK} (h : lift G ar (bigSp lsp) vs H Q E) : lift G ar lsp vs H Q E := by
  obtain ⟨w, svs, μ, P, PE, eH, rh, rs, hl, ⟨ks, svs0, μ0, nd, es, est, sp⟩, kQ, kE⟩ := h
  subst eH es
  have hL := rh.len
  have get : ∀ {j k : Nat}, ks[j]? = some k → ∃ o, μ0[j]? = some o ∧ μ[k]? = some (objB ks μ.length o) := fun {j k} e => by
    have := congrArg (·[j]?) est
    simp only [List.getElem?_map, e] at this
    cases q : μ0[j]? with
    | none => rw [q] at this; cases this
    | some o =>
      rw [q] at this
      exact ⟨o, rfl, by simpa using this⟩
  have hks : ∀ k ∈ ks, k < w.α.length := fun k hk => by
    obtain ⟨j, hj, ej⟩ := List.mem_iff_getElem.mp hk
    obtain ⟨o, _, e⟩ := get (j := j) (k := k) (by rw [List.getElem?_eq_getElem hj, ej])
    rw [hL]; exact (List.getElem?_eq_some_iff.mp e).1
  have l0 : μ0.length = ks.length := by
    have := congrArg List.length est
    rw [List.length_map, List.length_map] at this
    exact this.symm
  -- the small world
  let ws : Wl := ⟨w.I, pick w.α ks, w.H⟩
  have psub : ∀ a ∈ pick w.α ks, a ∈ w.α := fun a ha => by
    obtain ⟨j, hj, ej⟩ := List.mem_iff_getElem.mp ha
    have e : (pick w.α ks)[j]? = some a := by rw [List.getElem?_eq_getElem hj, ej]
    rw [pick_get hks] at e
    cases q : ks[j]? with
    | none => rw [q] at e; cases e
    | some k => rw [q] at e; exact List.mem_of_getElem? e
  have pat : ∀ {j k : Nat}, ks[j]? = some k → (pick w.α ks)[j]? = w.α[k]? := fun {j k} e => by rw [pick_get hks, e]; rfl
  -- down: what is in the big world is in the small one
  have dn : ∀ {x : SV} {v : V}, RpS G w (svB ks μ.length x) v → RpS G ws x v := fun {x v} r => by
    cases x with
    | d x => cases r with | d r => exact .d r
    | fn n => cases r with | fn r => exact .fn r
    | loc j =>
      have r : RpS G w (.loc (match ks[j]? with
        | some k => k
        | none => μ.length + (j - ks.length))) v := r
      cases q : ks[j]? with
      | some k =>
        rw [q] at r
        cases r with
        | loc e => exact .loc (by show (pick w.α ks)[j]? = _; rw [pat q]; exact e)
      | none =>
        rw [q] at r
        cases r with
        | loc e =>
          have e : w.α[μ.length + (j - ks.length)]? = _ := e
          have := (List.getElem?_eq_some_iff.mp e).1
          omega
  have dns : ∀ {xs : List SV} {vs : List V}, RpSs G w (xs.map (svB ks μ.length)) vs → RpSs G ws xs vs := by
    intro xs
    induction xs with
    | nil => intro vs r; cases r; exact .nil
    | cons x xs ih =>
      intro vs r
      cases r with
      | cons a b => exact .cons (dn a) (ih b)
  have rhs : RpH G ws μ0 := by
    refine ⟨rh.sub, by show (pick w.α ks).length = _; rw [pick_len hks, l0], ?_, fun j o e => ?_⟩
    · show (pick w.α ks).Nodup
      rw [List.nodup_iff_pairwise_ne, List.pairwise_iff_getElem]
      intro i j hi hj hij z
      have z : (pick w.α ks)[i]? = (pick w.α ks)[j]? := by rw [List.getElem?_eq_getElem hi, List.getElem?_eq_getElem hj, z]
      rw [pick_len hks] at hi hj
      have ei : ks[i]? = some (ks[i]'(by omega)) := List.getElem?_eq_getElem (by omega)
      have ej : ks[j]? = some (ks[j]'(by omega)) := List.getElem?_eq_getElem (by omega)
      rw [pat ei, pat ej] at z
      have hb := hks _ (List.getElem_mem (show i < ks.length by omega))
      have e1 : w.α[ks[i]'(by omega)]? = some w.α[ks[i]'(by omega)] := List.getElem?_eq_getElem hb
      have := nodup_at rh.nd e1 (by rw [← z]; exact e1)
      have := (List.getElem_inj nd).mp this
      omega
    · have hj : j < ks.length := by rw [← l0]; exact (List.getElem?_eq_some_iff.mp e).1
      have ek : ks[j]? = some ks[j] := List.getElem?_eq_getElem hj
      obtain ⟨o', q1, q2⟩ := get ek
      rw [e] at q1; cases q1
      obtain ⟨a, ea, rm⟩ := rh.obj _ _ q2
      refine ⟨a, by show (pick w.α ks)[j]? = _; rw [pat ek]; exact ea, ?_⟩
      cases o with
      | frz d => exact rm
      | lst ds => exact rm
      | dic ds => exact rm
      | ins C fs =>
        obtain ⟨n, Ca, dx, us, m, e, q, r⟩ := rm
        refine ⟨n, Ca, dx, us, m, e, by rw [q, List.map_map]; rfl, dns ?_⟩
        have r : RpSs G w ((fs.map fun p => (p.1, svB ks μ.length p.2)).map (·.2)) (us.map (·.2)) := r
        rw [List.map_map] at r
        rw [List.map_map]
        exact r
  -- up again
  have up : ∀ (w' : Wl) (μ' : Store), Gr ws w' → RpH G w' μ' → Gr w ⟨w'.I, w.α ++ w'.α.drop ks.length, w'.H⟩ ∧ RpH G ⟨w'.I, w.α ++ w'.α.drop ks.length, w'.H⟩ (putB μ ks (μ'.map (objB ks μ.length))) ∧
      ∀ {x : SV} {v : V}, RpS G w' x v → RpS G ⟨w'.I, w.α ++ w'.α.drop ks.length, w'.H⟩ (svB ks μ.length x) v := fun w' μ' g rh' => by
    obtain ⟨more, epre⟩ := g.pre
    have epre : w'.α = pick w.α ks ++ more := epre
    have edrop : w'.α.drop ks.length = more := by rw [epre, ← pick_len hks, List.drop_left]
    have gB : Gr w ⟨w'.I, w.α ++ w'.α.drop ks.length, w'.H⟩ := ⟨g.sub, ⟨_, rfl⟩, fun a ha => by
      rcases List.mem_append.mp ha with z | z
      · exact .inl z
      · rcases g.nw a (List.mem_of_mem_drop z) with y | y
        · exact .inl (psub a y)
        · exact .inr y, fun a u e => by
      rcases g.ni a u e with z | z | z
      · exact .inl z
      · exact .inr (.inl z)
      · exact .inr (.inr (psub a z)), fun a u e n => g.fr a u e fun z => n (psub a z)⟩
    have upS : ∀ {x : SV} {v : V}, RpS G w' x v → RpS G ⟨w'.I, w.α ++ w'.α.drop ks.length, w'.H⟩ (svB ks μ.length x) v := fun {x v} r => by
      cases r with
      | d r => exact .d r
      | fn r => exact .fn r
      | @loc j a e =>
        refine .loc ?_
        show (w.α ++ w'.α.drop ks.length)[_]? = some a
        cases q : ks[j]? with
        | some k =>
          have hj : j < ks.length := (List.getElem?_eq_some_iff.mp q).1
          have hk := hks k (List.mem_of_getElem? q)
          show (w.α ++ w'.α.drop ks.length)[k]? = some a
          rw [List.getElem?_append_left hk, ← pat q, ← e, epre, List.getElem?_append_left (by rw [pick_len hks]; exact hj)]
        | none =>
          have hj : ks.length ≤ j := List.getElem?_eq_none_iff.mp q
          show (w.α ++ w'.α.drop ks.length)[μ.length + (j - ks.length)]? = some a
          rw [List.getElem?_append_right (by omega), List.getElem?_drop, hL, ← e]
          congr 1
          omega
    have upM : ∀ {o : MO} {a : Addr}, RpM G w' o a → RpM G ⟨w'.I, w.α ++ w'.α.drop ks.length, w'.H⟩ (objB ks μ.length o) a := fun {o a} rm => by
      cases o with
      | frz d => exact rm
      | lst ds => exact rm
      | dic ds => exact rm
      | ins C fs =>
        obtain ⟨n, Ca, dx, us, m, e, q, r⟩ := rm
        refine ⟨n, Ca, dx, us, m, e, by rw [q, List.map_map]; rfl, ?_⟩
        show RpSs G _ ((fs.map fun p => (p.1, svB ks μ.length p.2)).map (·.2)) _
        rw [List.map_map]
        have go : ∀ {fs : List (Str × SV)} {us : List V}, RpSs G w' (fs.map (·.2)) us → RpSs G ⟨w'.I, w.α ++ w'.α.drop ks.length, w'.H⟩ (fs.map ((·.2) ∘ fun p => (p.1, svB ks μ.length p.2))) us := by
          intro fs
          induction fs with
          | nil => intro us r; cases r; exact .nil
          | cons p fs ih =>
            intro us r
            cases r with
            | cons a b => exact .cons (upS a) (ih b)
        exact go r
    have hle : ks.length ≤ (μ'.map (objB ks μ.length)).length := by
      rw [List.length_map, ← rh'.len, epre, List.length_append, pick_len hks]; omega
    refine ⟨gB, ⟨rh'.sub, ?_, ?_, fun i o e => ?_⟩, upS⟩
    · show (w.α ++ w'.α.drop ks.length).length = _
      rw [putB_length hle, List.length_append, List.length_drop, List.length_map, ← rh'.len, hL]
    · show (w.α ++ w'.α.drop ks.length).Nodup
      have nd' := rh'.nd
      rw [epre, List.nodup_append] at nd'
      rw [edrop, List.nodup_append]
      refine ⟨rh.nd, nd'.2.1, fun a ha b hb => ?_⟩
      rintro rfl
      rcases g.nw a (by rw [epre]; exact List.mem_append_right _ hb) with y | y
      · exact nd'.2.2 a y a hb rfl
      · obtain ⟨u, eu⟩ := rh.there ha
        have y : w.H a = none := y
        rw [y] at eu; cases eu
    · show ∃ a, (w.α ++ w'.α.drop ks.length)[i]? = some a ∧ _
      by_cases hi : i < μ.length
      · by_cases hm : i ∈ ks
        · obtain ⟨j, hj, ej⟩ := List.mem_iff_getElem.mp hm
          have ek : ks[j]? = some i := by rw [List.getElem?_eq_getElem hj, ej]
          rw [putB_on nd hle ek hi, List.getElem?_map] at e
          cases q : μ'[j]? with
          | none => rw [q] at e; cases e
          | some o' =>
            rw [q] at e
            cases e
            obtain ⟨a, ea, rm⟩ := rh'.obj j o' q
            refine ⟨a, ?_, upM rm⟩
            rw [List.getElem?_append_left (by omega), ← pat ek, ← ea, epre, List.getElem?_append_left (by rw [pick_len hks]; exact hj)]
        · rw [putB_off hle hi hm] at e
          obtain ⟨a, ea, rm⟩ := rh.obj i o e
          have na : a ∉ pick w.α ks := fun z => by
            obtain ⟨j, hj, ej⟩ := List.mem_iff_getElem.mp z
            have e2 : (pick w.α ks)[j]? = some a := by rw [List.getElem?_eq_getElem hj, ej]
            rw [pick_get hks] at e2
            cases q : ks[j]? with
            | none => rw [q] at e2; cases e2
            | some k =>
              rw [q] at e2
              have := nodup_at rh.nd ea e2
              exact hm (by rw [this]; exact List.mem_of_getElem? q)
          obtain ⟨u0, hu0⟩ := rm.there rh.sub
          have st : ∀ u, w.H a = some u → w'.H a = some u := fun u hu => g.fr a u hu na
          have nI : w.I a = none → w'.I a = none := fun n => by
            cases q : w'.I a with
            | none => rfl
            | some z =>
              rcases g.ni a z q with y | y | y
              · have y : w.I a = some z := y
                rw [n] at y; cases y
              · have y : w.H a = none := y
                rw [hu0] at y; cases y
              · exact absurd y na
          refine ⟨a, by rw [List.getElem?_append_left (by omega)]; exact ea, ?_⟩
          cases o with
          | frz d => exact ⟨let ⟨u, z⟩ := rm.1; ⟨u, g.sub _ _ z⟩, rm.2.mono g.sub⟩
          | lst ds => obtain ⟨n, vs, e, r⟩ := rm; exact ⟨nI n, vs, st _ e, r.mono g.sub⟩
          | dic ds => obtain ⟨n, vs, e, p, r⟩ := rm; exact ⟨nI n, vs, st _ e, p, r.mono g.sub⟩
          | ins C fs => obtain ⟨n, Ca, dx, vs, m, e, p, r⟩ := rm; exact ⟨nI n, Ca, dx, vs, m, st _ e, p, r.mono gB⟩
      · rw [putB_new hle (by omega), List.getElem?_map] at e
        cases q : μ'[ks.length + (i - μ.length)]? with
        | none => rw [q] at e; cases e
        | some o' =>
          rw [q] at e
          cases e
          obtain ⟨a, ea, rm⟩ := rh'.obj _ o' q
          refine ⟨a, ?_, upM rm⟩
          rw [List.getElem?_append_right (by omega), List.getElem?_drop, hL]
          exact ea
  refine ⟨ws, svs0, μ0, _, _, rfl, rhs, dns rs, by rw [← hl, List.length_map], sp, fun w' v x μ' g rh' rs' p => ?_, fun w' cls d x μ' g rh' rx p => ?_⟩
  · obtain ⟨gB, rB, uB⟩ := up w' μ' g rh'
    exact kQ ⟨w'.I, w.α ++ w'.α.drop ks.length, w'.H⟩ v _ _ gB rB (uB rs') p
  · obtain ⟨gB, rB, uB⟩ := up w' μ' g rh'
    obtain ⟨Ca, m1, m2, m3⟩ := rx
    exact kE ⟨w'.I, w.α ++ w'.α.drop ks.length, w'.H⟩ cls d x _ gB rB ⟨Ca, m1, m2, m3⟩ p
theorem FnG.big {k ar : Nat} {f : Addr} {fd : FuncData} {ps : List Str} {lsp : DSp} (F : FnG G k f fd ps (lift G ar lsp)) : FnG G k f fd ps (lift G ar (bigSp lsp)) :=
  ⟨fun vs H Q E h => F.len vs H Q E (frame_ok h), fun A outer s H args us vs Q E hr hg e0 hb r h => F.run A outer s H args us vs Q E hr hg e0 hb r (frame_ok h)⟩
theorem FnG.imp {k ar : Nat} {f : Addr} {fd : FuncData} {ps : List Str} {lsp lsp' : DSp} (F : FnG G k f fd ps (lift G ar lsp)) (h : ∀ svs μ P PE, lsp' svs μ P PE → lsp svs μ P PE) : FnG G k f fd ps (lift G ar lsp') := by
  have k : ∀ vs H Q E, lift G ar lsp' vs H Q E → lift G ar lsp vs H Q E := fun vs H Q E ⟨w, svs, μ, P, PE, a, b, c, d, e, r⟩ => ⟨w, svs, μ, P, PE, a, b, c, d, h _ _ _ _ e, r⟩
  exact ⟨fun vs H Q E z => F.len vs H Q E (k _ _ _ _ z), fun A outer s H args us vs Q E hr hg e0 hb r z => F.run A outer s H args us vs Q E hr hg e0 hb r (k _ _ _ _ z)⟩
end
end DV
set_option Elab.async false
set_option linter.all false
set_option maxRecDepth 100000
set_option maxHeartbeats 4000000
/-! DvH: the head: what the module's names hold, the law's call. -/
namespace DV
open PySem PySem.Spec PyProof.Rows L2
/-! ### constants of the module as data -/
mutual
def dB (K : PySem.W.Frag) : Value → D → Bool
  | .none, .none => true
  | .bool b, .bool c => b == c
  | .int i _, .int j => i == j
  | .str x _, .str y => x == y
  | .ref a, .tuple ds => (match K.lookup a with
    | some ⟨.type c, none, .seq its _, _⟩ => decide (c = "tuple") && (decide (its.size ≤ sizeLine) && dBs K its.toList ds)
    | _ => false)
  | .ref a, .list ds => (match K.lookup a with
    | some ⟨.type c, none, .seq its _, _⟩ => decide (c = "list") && (decide (its.size ≤ sizeLine) && dBs K its.toList ds)
    | _ => false)
  | _, _ => false
def dBs (K : PySem.W.Frag) : List Value → List D → Bool
  | [], [] => true
  | v :: vs, d :: ds => dB K v d && dBs K vs ds
  | _, _ => false
end
mutual
theorem dB_ok {K : PySem.W.Frag} {H : Hp} : ∀ {d : D} {u : Value}, dB K u d = true → ∃ v, RelV v u ∧ Rp K H v d
  | .none, u, h => by cases u <;> first | exact ⟨.non, rfl, .non⟩ | cases h
  | .bool b, u, h => by
    cases u <;> first | (cases h; done) | skip
    rw [eq_of_beq (show (_ == _) = true from h)]
    exact ⟨.bl b, rfl, .bl b⟩
  | .int i, u, h => by
    cases u <;> first | (cases h; done) | skip
    rw [eq_of_beq (show (_ == _) = true from h)]
    exact ⟨.int i, ⟨_, rfl⟩, .int i⟩
  | .str x, u, h => by
    cases u <;> first | (cases h; done) | skip
    rw [eq_of_beq (show (_ == _) = true from h)]
    exact ⟨.str x, ⟨_, rfl⟩, .str x⟩
  | .tuple ds, u, h => by
    cases u <;> first | (cases h; done) | skip
    rename_i a
    have h : (match K.lookup a with
      | some ⟨.type c, none, .seq its _, _⟩ => decide (c = "tuple") && (decide (its.size ≤ sizeLine) && dBs K its.toList ds)
      | _ => false) = true := h
    split at h
    · rename_i q
      rw [Bool.and_eq_true, Bool.and_eq_true] at h
      obtain ⟨vs, h1, h2⟩ := dBs_ok (H := H) h.2.2
      exact ⟨.ref a, rfl, .tup (.inr ⟨_, _, _, q, congrArg Value.type (of_decide_eq_true h.1), rfl, of_decide_eq_true h.2.1, h1⟩) (.inr ⟨_, q, rfl⟩) h2⟩
    · cases h
  | .list ds, u, h => by
    cases u <;> first | (cases h; done) | skip
    rename_i a
    have h : (match K.lookup a with
      | some ⟨.type c, none, .seq its _, _⟩ => decide (c = "list") && (decide (its.size ≤ sizeLine) && dBs K its.toList ds)
      | _ => false) = true := h
    split at h
    · rename_i q
      rw [Bool.and_eq_true, Bool.and_eq_true] at h
      obtain ⟨vs, h1, h2⟩ := dBs_ok (H := H) h.2.2
      exact ⟨.ref a, rfl, .lst (.inr ⟨_, _, _, q, congrArg Value.type (of_decide_eq_true h.1), rfl, rfl, of_decide_eq_true h.2.1, h1⟩) h2⟩
    · cases h
  | .dict ds, u, h => by cases u <;> cases h
theorem dBs_ok {K : PySem.W.Frag} {H : Hp} : ∀ {ds : List D} {us : List Value}, dBs K us ds = true → ∃ vs, Vals vs us ∧ RpAll K H vs ds
  | [], [], _ => ⟨[], .nil, .nil⟩
  | [], _ :: _, h => by cases h
  | _ :: _, [], h => by cases h
  | d :: ds, u :: us, h => by
    have h : (dB K u d && dBs K us ds) = true := h
    rw [Bool.and_eq_true] at h
    obtain ⟨v, a, b⟩ := dB_ok (H := H) h.1
    obtain ⟨vs, c, e⟩ := dBs_ok (H := H) h.2
    exact ⟨v :: vs, .cons a c, .cons b e⟩
end
def csB (K : PySem.W.Frag) (p : Str × D) : Bool := match PySem.W.nsIn K mainGlobals p.1 with
  | some (some u) => dB K u p.2
  | _ => false
theorem csB_ok {K : PySem.W.Frag} {h : Heap} {mg : Str → Option Value} {P : Program} {w : World} {base : Heap} (X : K.In h) (G : h.Ns mainGlobals mg) {p : Str × D} (c : csB K p = true) : GlobOk ⟨P, w, K, mg, base⟩ p.1 p.2 := by
  unfold csB at c
  split at c
  · rename_i u q
    obtain ⟨v, r, rp⟩ := dB_ok (H := fun _ => none) c
    exact ⟨v, u, PySem.W.mg_of X G q, r, rp⟩
  · cases c
/-! ### the Hook -/
abbrev AlX : Type := Bool × He.AlD
def obsX (cs : List (Str × D)) (fa : List He.Fa) (fn : List He.DefD) (K : PySem.W.Frag) : AlX := (cs.all (csB K), He.obsD fa fn K)
def valX (fn : List He.DefD) : AlX := (true, He.valD fn)
def SaysX (cs : List (Str × D)) (fa : List He.Fa) (fn : List He.DefD) (K : PySem.W.Frag) : Prop := obsX cs fa fn K = valX fn
def obsXG (n : Nat) (cs : List (Str × D)) (fa : List He.Fa) (fn : List He.DefD) (g : Addr → Option Obj) : AlX := obsX cs fa fn (He.frG g (He.asD g n))
def hookX (n : Nat) (cs : List (Str × D)) (fa : List He.Fa) (fn : List He.DefD) : PySem.W.Hook where
  α := AlX
  obs := fun s => obsXG n cs fa fn s.heap.get?
  val := fun _ => valX fn
  says := fun _ h => ∃ K : PySem.W.Frag, K.In h ∧ SaysX cs fa fn K
  of := fun _ _ e => ⟨_, He.frG_in, e⟩
  keeps := fun _ _ _ ⟨K, hK, c⟩ k => ⟨K, PySem.W.Frag.In.keeps hK k, c⟩
theorem obsXG_eq {n : Nat} {cs : List (Str × D)} {fa : List He.Fa} {fn : List He.DefD} {g : Addr → Option Obj} {s : Shared} (h : ∀ a, g a = s.heap.get? a) : obsXG n cs fa fn g = (hookX n cs fa fn).obs s := by
  have e : g = s.heap.get? := funext h
  rw [e] <;> rfl
theorem SaysX.cs {cs : List (Str × D)} {fa : List He.Fa} {fn : List He.DefD} {K : PySem.W.Frag} (c : SaysX cs fa fn K) {p : Str × D} (h : p ∈ cs) : csB K p = true := by
  have e : cs.all (csB K) = true := congrArg (fun z : AlX => z.1) c
  exact List.all_eq_true.mp e p h
theorem SaysX.d {cs : List (Str × D)} {fa : List He.Fa} {fn : List He.DefD} {K : PySem.W.Frag} (c : SaysX cs fa fn K) : He.SaysD fa fn K := congrArg (fun z : AlX => z.2) c
/-- a def of the list, known by its promise -/
theorem known_of {K : PySem.W.Frag} {h : Heap} {mg : Str → Option Value} {P : Program} {w : World} {base : Heap} (X : K.In h) (G : h.Ns mainGlobals mg) {n : Str} {k : Nat} {dsp : DSp} {fd : FuncData} {ps : List Str}
    (F : FnG ⟨P, w, K, mg, base⟩ k (He.ga K n) fd ps (lift ⟨P, w, K, mg, base⟩ ps.length dsp)) (gl : (He.Fa.glo n).ok K = true) (kp : PySem.W.keepIn K (.ref (He.ga K n)) = true) (b : Binds K fd ps []) : Known ⟨P, w, K, mg, base⟩ n k ps.length (bigSp dsp) :=
  ⟨_, fd, ps, rfl, F.big, He.glo_ok X G gl, kp, b⟩
/-! ### the law's call -/
theorem law_callG {P : Program} {w : World} {K : PySem.W.Frag} {mg mb : Str → Option Value} {k : Nat} {fa a : Addr} {fd : FuncData} {x : Str} {dsp : DSp} {s1 : Shared} {vs : List Value} {ns : List Int}
    (KX : K.In s1.heap) (hns : s1.heap.Ns mainGlobals mg) (hb : s1.heap.Ns builtinsNs mb) (hbb : ∀ x : Str, x ≠ "__name__" → mb x = bootBuiltins x) (hlim : s1.heap.NoLimit) (hg : s1.gens = #[])
    (ha : s1.heap.get? a = some { cls := .type "list", data := .seq vs.toArray }) (hi : IntsAre vs ns) (hl : ns.length ≤ sizeLine) (hr : Room k callerA)
    (F : ∀ base : Heap, K.In base → base.Ns mainGlobals mg → FnG ⟨P, w, K, mg, base⟩ k fa fd [x] (lift ⟨P, w, K, mg, base⟩ 1 dsp)) (hbind : ∀ (s : Shared) (u : Value), BindsTo s fd ⟨[u], []⟩ [(x, u)])
    (hsp : dsp [.d (.list (ns.map PyData.int))] [] (fun y _ => y = .d (.bool true)) fun _ _ => False) :
    codeAny (model P w) callerA (.call (.ref fa) ⟨[.ref a], []⟩) (fun r s' => r = .ok (.ret (.bool true)) ∧ OldK s1.heap s'.heap ∧ s'.os = s1.os ∧ AllBare s'.gens) s1 := by
  have rv := vals_ints hi
  have key : ∀ H : Hp, (∀ b, H b = none ∨ (b = a ∧ K.lookup a = none ∧ H b = some (.frz { cls := .type "list", data := .seq vs.toArray } (.lst (ns.map V.int))))) → SqL K H a (ns.map V.int) → HOk P w H s1.heap →
      codeAny (model P w) callerA (.call (.ref fa) ⟨[.ref a], []⟩) (fun r s' => r = .ok (.ret (.bool true)) ∧ OldK s1.heap s'.heap ∧ s'.os = s1.os ∧ AllBare s'.gens) s1 := fun H only hS hok => by
    have off : ∀ {b : Addr} {o : Obj}, s1.heap.get? b = some o → (b = a → ∃ es ep, o.data = .dict es ep) → H b = none := fun {b o} e d => by
      rcases only b with z | ⟨rfl, _, _⟩
      · exact z
      · obtain ⟨es, ep, d⟩ := d rfl
        rw [ha] at e; cases e
        cases d
    have nsK : ∀ {b : Addr} {m : Str → Option Value}, s1.heap.Ns b m → (hidT s1.heap H).Ns b m := fun {b m} ⟨o, es, ep, e, d, r⟩ => ⟨o, es, ep, hidT_get e (off e fun _ => ⟨es, ep, d⟩), d, r⟩
    have hKb : K.In (hidT s1.heap H) := fun b o e => hidT_get (KX b o e) (by
      rcases only b with z | ⟨rfl, z, _⟩
      · exact z
      · rw [z] at e; cases e)
    have hM : Mod K mg (hidT s1.heap H) := ⟨hKb, nsK hns, ⟨mb, nsK hb, hbb⟩, let ⟨mc, h1, h2⟩ := hlim; ⟨mc, nsK h1, h2⟩⟩
    have e0 : Env0 P w K mg (hidT s1.heap H) callerA [] s1 H := ⟨rfl, hM, fun b o e => of_hidT e, Nat.le_of_eq (hidT_size _ _), trivial, fun b hb => absurd (show b ∈ ([] : List Addr) from hb) (by simp), hok, .of_eq hg⟩
    have sp : lift ⟨P, w, K, mg, hidT s1.heap H⟩ 1 dsp [.ref a] H (fun v _ => v = .bl true) (fun _ _ _ => False) :=
      ⟨⟨H, [], H⟩, [.d (.list (ns.map PyData.int))], [], _, _, rfl, ⟨.refl, rfl, .nil, fun k o e => by simp at e⟩, .cons (.d (.lst hS .ints)) .nil, rfl, hsp, fun w' v y μ' _ _ rs p => by subst p; exact rps_bool rs, fun _ _ _ _ _ _ _ _ p => p⟩
    refine codeAny_mono ((F _ hKb (nsK hns)).run callerA [] s1 H ⟨[.ref a], []⟩ [.ref a] [.ref a] _ _ hr rfl e0 (hbind s1 (.ref a)) (.cons rfl .nil) sp) fun r s' h => ?_
    cases r with
    | error e =>
      obtain ⟨_, _, _, _, _, _, _, _, _, _, _, _, z⟩ := h
      exact z.elim
    | ok fl =>
      cases fl with
      | next => exact False.elim h
      | brk => exact False.elim h
      | cont => exact False.elim h
      | ret u =>
        obtain ⟨v, H', os, bare, un, hok', r', q⟩ := h
        have q : v = .bl true := q
        subst q
        obtain rfl : u = Value.bool true := r'
        refine ⟨rfl, OldK.of_keep fun b o e => ?_, os, bare⟩
        rcases only b with z | ⟨_, _, z⟩
        · exact un.keep b o e z (fun y => absurd (show b ∈ ([] : List Addr) from y) (by simp)) (by simp)
        · obtain ⟨e1, _⟩ := hok b _ z
          obtain ⟨e2, _⟩ := hok' b _ (un.frzs b _ _ z)
          rw [e] at e1; cases e1
          exact e2
  have lv := hi.length
  cases hk : K.lookup a with
  | some o =>
    have e := KX a o hk
    rw [ha] at e
    cases e
    exact key (fun _ => none) (fun _ => .inl rfl) (.inr ⟨_, vs.toArray, _, hk, rfl, rfl, rfl, by rw [List.size_toArray, lv]; exact hl, by simpa using rv⟩) fun b u z => by cases (show (none : Option HO) = some u from z)
  | none =>
    refine key (fun b => if b = a then some (.frz { cls := .type "list", data := .seq vs.toArray } (.lst (ns.map V.int))) else none) (fun b => ?_) (.inl (.inr ⟨_, if_pos rfl⟩)) fun b u z => ?_
    · by_cases hb : b = a
      · exact .inr ⟨hb, hk, if_pos hb⟩
      · exact .inl (if_neg hb)
    · by_cases hb : b = a
      · have z' := (if_pos hb).symm.trans z
        cases z'
        subst hb
        exact ⟨ha, by rw [List.length_map]; exact hl, vs, _, rv, ha⟩
      · have z' := (if_neg hb).symm.trans z
        cases z'
theorem walk_G {l : PySem.W.OpenLaw} {n k : Nat} {q : Program} {loose : List Str} {XP : (Str → Option Value) → Heap → Prop} {YP : World → Heap → Prop} {d : DefRec} {x : Str} {dsp : DSp}
    (hn : l.most = some n) (hn2 : n ≤ sizeLine) (hdf : d.params.defaults = []) (hr : Room k callerA)
    (F : ∀ (w : World) (mg : Str → Option Value) (fa : Addr) (h : Heap), YP w h → h.Ns mainGlobals mg → mg d.name = some (.ref fa) →
      ∃ (K : PySem.W.Frag) (fd : FuncData), K.In h ∧ (∀ (s : Shared) (u : Value), BindsTo s fd ⟨[u], []⟩ [(x, u)]) ∧
        ∀ base : Heap, K.In base → base.Ns mainGlobals mg → FnG ⟨l.prog, w, K, mg, base⟩ k fa fd [x] (lift ⟨l.prog, w, K, mg, base⟩ 1 dsp))
    (hsp : ∀ ns : List Int, ns.length ≤ n → dsp [.d (.list (ns.map PyData.int))] [] (fun y _ => y = .d (.bool true)) fun _ _ => False) :
    PySem.W.WalkO q loose XP YP l.row.toRowW d [] (fun f vs => PySem.call f vs) := by
  refine Att.attach_call hn hdf fun w s0 s1 mg mb fa o pm cd doc a vs ns G Y ho hd hcd hmg hobj hints hlen hg => ?_
  obtain ⟨K, fd, KX, hb, hF⟩ := F w mg fa _ Y G.T.g hmg
  exact law_callG KX G.T.g G.T.b G.T.builtins G.T.nolimit hg hobj hints (Nat.le_trans hlen hn2) hr hF hb (hsp ns hlen)
end DV
set_option Elab.async false
set_option linter.all false
set_option maxRecDepth 100000
set_option maxHeartbeats 4000000
/-! DvI: zip, enumerate of lists and tuples. -/
namespace DV
open PySem PySem.Spec PyProof.Rows L2
inductive SK | l | t
def SK.sq (K : PySem.W.Frag) (H : Hp) (a : Addr) (xs : List V) : SK → Prop
  | .l => SqL K H a xs
  | .t => SqT K H a xs
def SK.it (h : Heap) (i a : Addr) (n : Nat) : SK → Prop
  | .l => h.IsListIter i a n
  | .t => h.IsTupleIter i a n
def SK.is (h : Heap) (a : Addr) (xs : Array Value) : SK → Prop
  | .l => h.IsList a xs
  | .t => h.IsTuple a xs
def SK.o (a : Addr) : SK → Obj
  | .l => { cls := .type "list_iterator", data := .fields #[.ref a, .int 0 0] }
  | .t => { cls := .type "tuple_iterator", data := .fields #[.ref a, .int 0 0] }
theorem SK.begins (k : SK) (a : Addr) (its : Array Value) : Begins (.ref a) (k.o a) (fun h => k.is h a its) := by
  cases k
  · exact begins_list a its
  · exact begins_tuple a its
theorem SK.draws (k : SK) {prog : Program} {w : World} {A : Around} (hh : A.handled = none) (i a : Addr) (hne : a ≠ i) (its : Array Value) : Draws prog w A i [i, a] its.size (fun j v => its[j]? = some v) (fun j h => k.it h i a j ∧ k.is h a its) := by
  cases k
  · exact Draws.list hh i a hne its
  · exact Draws.tuple hh i a hne its
theorem SK.iat {k : SK} {h h' : Heap} {i a : Addr} {n : Nat} (x : k.it h i a n) (hk : ∀ o, h.get? i = some o → h'.get? i = some o) : k.it h' i a n := by
  cases k
  · exact Heap.IsListIter.at x fun o e => hk o e
  · exact Heap.IsTupleIter.at x fun o e => hk o e
theorem SK.iget {k : SK} {h : Heap} {i a : Addr} {n : Nat} (x : k.it h i a n) : ∃ o, h.get? i = some o ∧ ∀ v, o.data ≠ .cell v := by
  cases k
  · obtain ⟨o, e, _, d⟩ := x; exact ⟨o, e, fun v z => by rw [d] at z; cases z⟩
  · obtain ⟨o, e, _, d⟩ := x; exact ⟨o, e, fun v z => by rw [d] at z; cases z⟩
theorem SK.start {k : SK} {h : Heap} {i a : Addr} (e : h.get? i = some (k.o a)) : k.it h i a 0 := by
  cases k
  · exact ⟨_, e, rfl, rfl⟩
  · exact ⟨_, e, rfl, rfl⟩
theorem SK.isget {k : SK} {h : Heap} {a : Addr} {its : Array Value} (x : k.is h a its) : ∃ o, h.get? a = some o := by
  cases k
  · obtain ⟨o, e, _⟩ := x; exact ⟨o, e⟩
  · obtain ⟨o, e, _⟩ := x; exact ⟨o, e⟩
section
variable {X : Cx} {pins : List (Addr × Obj)} {σ : L2.St} {H : Hp} {s : Shared}
theorem SK.of (k : SK) (I : Inv X pins σ H s) {a : Addr} {xs : List V} (h : k.sq X.K H a xs) : ∃ its : List Value, Vals xs its ∧ k.is s.heap a its.toArray ∧ xs.length ≤ sizeLine := by
  cases k
  · obtain ⟨its, r, p, z⟩ := I.list h; exact ⟨its, r, p.isList, z⟩
  · obtain ⟨its, r, p, z⟩ := I.tuple h; exact ⟨its, r, p, z⟩
theorem SK.inj (k : SK) (I : Inv X pins σ H s) {a : Addr} {xs ys : List V} (h : k.sq X.K H a xs) (h' : k.sq X.K H a ys) : xs = ys := by
  cases k
  · exact I.list_inj h h'
  · exact I.tuple_inj h h'
end
/-- zip of two: each item a new pair -/
def JZ (K : PySem.W.Frag) (k1 k2 : SK) (a b : Addr) : It :=
  ⟨fun i H => ∃ (xs ys : List V) (x y : V), k1.sq K H a xs ∧ k2.sq K H b ys ∧ xs[i]? = some x ∧ ys[i]? = some y,
    fun i H v H' => ∃ T its x y, v = .ref T ∧ H T = none ∧ H' = upd H T (.frz (tupO its) (.tup [x, y])) ∧ (∀ xs, k1.sq K H a xs → xs[i]? = some x) ∧ ∀ ys, k2.sq K H b ys → ys[i]? = some y,
    fun i H => ∃ xs ys : List V, k1.sq K H a xs ∧ k2.sq K H b ys ∧ ((xs.length = i ∧ i ≤ ys.length) ∨ (ys.length = i ∧ i ≤ xs.length))⟩
theorem turn_zipK {P : Program} {w : World} {K : PySem.W.Frag} {elts : List Expr} {kk : Nat} {tpos : Pos} {k1 k2 : SK} {a b z TI TO i1 i2 : Addr} (D : ZipSep2 z TI TO i1 i2 [i1, a] [i2, b]) (n1 : a ≠ i1) (n2 : b ≠ i2) :
    Turn P w K (.Tuple elts kk tpos) (JZ K k1 k2 a b) [z, TI, TO, i1, i2] z (fun i h => IsZip h z TI TO .none ∧ IsTupOf2 h TI (.ref i1) (.ref i2) ∧ (∃ x y, IsTupOf2 h TO x y) ∧ k1.it h i1 a i ∧ k2.it h i2 b i) where
  mem := by simp
  obj := fun i h st c hc => by
    obtain ⟨hz, hTI, ⟨x, y, hTO⟩, h1, h2⟩ := st
    have e' : c = z ∨ c = TI ∨ c = TO ∨ c = i1 ∨ c = i2 := by simpa using hc
    rcases e' with q | q | q | q | q
    · rw [q]; exact ⟨_, hz, fun v q => nomatch q⟩
    · rw [q]; exact ⟨_, hTI, fun v q => nomatch q⟩
    · rw [q]; exact ⟨_, hTO, fun v q => nomatch q⟩
    · rw [q]; exact SK.iget h1
    · rw [q]; exact SK.iget h2
  keep := fun i h h' st k => by
    obtain ⟨hz, hTI, ⟨x, y, hTO⟩, h1, h2⟩ := st
    exact ⟨k z (by simp) _ hz, k TI (by simp) _ hTI, ⟨x, y, k TO (by simp) _ hTO⟩, SK.iat h1 fun o q => k i1 (by simp) o q, SK.iat h2 fun o q => k i2 (by simp) o q⟩
  item := by
    intro X hP hw hK hc i pins s σ H E I hf st hg
    subst hP hw hK
    obtain ⟨hz, hTI, ⟨x0, y0, hTO⟩, h1, h2⟩ := st
    obtain ⟨xs, ys, x, y, hqx, hqy, hx, hy⟩ := hg
    obtain ⟨its, rv, p, _⟩ := SK.of _ I hqx
    obtain ⟨its2, rv2, p2, _⟩ := SK.of _ I hqy
    obtain ⟨u, hu, ru⟩ := rv.get hx
    obtain ⟨u2, hu2, ru2⟩ := rv2.get hy
    have hh : X.A.in1.handled = none := I.ok.hd hc
    have lt1 : i < its.toArray.size := by rw [List.size_toArray]; exact (List.getElem?_eq_some_iff.mp hu).1
    have lt2 : i < its2.toArray.size := by rw [List.size_toArray]; exact (List.getElem?_eq_some_iff.mp hu2).1
    have hzl : z < s.heap.objs.size := Heap.lt_size hz
    refine wpAny_pyNext_zipD2_item D (k1.draws hh i1 a n1 its.toArray) (k2.draws hh i2 b n2 its2.toArray) hz hTI hTO ⟨h1, p⟩ ⟨h2, p2⟩ lt1 lt2 fun x1 x2 h' tk q1 q2 z' TO' s1 s2 hT hsz hk => ?_
    have e1 : x1 = u := by
      have : its.toArray[i]? = some u := by simpa using hu
      rw [this] at q1; exact (Option.some.inj q1).symm
    have e2 : x2 = u2 := by
      have : its2.toArray[i]? = some u2 := by simpa using hu2
      rw [this] at q2; exact (Option.some.inj q2).symm
    subst e1 e2
    refine ⟨_, rfl, wpAny_letOwnedTupleGo_zip (s := { s with heap := h', toks := tk }) z' fun h'' z'' sb => ?_⟩
    have hT2 : h''.get? s.heap.objs.size = some (tupO [x1, x2]) := (sb.2 _ (Nat.ne_of_gt hzl)).trans hT
    have new : ObjOk X.prog X.w (upd H s.heap.objs.size (.frz (tupO [x1, x2]) (.tup [x, y]))) h'' s.heap.objs.size (.frz (tupO [x1, x2]) (.tup [x, y])) :=
      (show h''.get? s.heap.objs.size = some (tupO [x1, x2]) ∧ _ from ⟨hT2, by show 2 ≤ sizeLine; decide, [x1, x2], .cons ru (.cons ru2 .nil), ⟨_, hT2, rfl, _, rfl⟩⟩)
    have I1 : Inv X pins σ (upd H s.heap.objs.size (.frz (tupO [x1, x2]) (.tup [x, y]))) { s with heap := h'', toks := tk } :=
      I.turnedNew (t' := tk) (ch := [z, TI, TO, i1, i2]) (fun c o hb q => (sb.2 c (fun q' => hb (by simp [q']))).trans (hk c o (fun q' => hb (by simp [q'])) (fun q' => hb (by simp [q'])) (fun q' => hb (by simp [q'])) (fun q' => hb (by simp [q'])) q)) hf (Nat.le_refl _) new
    refine ⟨.ref s.heap.objs.size, _, I1, rfl, ⟨_, _, x, y, rfl, I.hok.fresh (Nat.le_refl _), rfl, fun l hl => by rw [SK.inj _ I hl hqx]; exact hx, fun l hl => by rw [SK.inj _ I hl hqy]; exact hy⟩, ⟨z'', ?_, ⟨x1, x2, ?_⟩, ?_, ?_⟩, fun c hcm => ?_⟩
    · exact (sb.2 _ D.TIz).trans (hk _ _ D.TIz D.TITO D.TIi1 D.TIi2 hTI)
    · exact (sb.2 _ D.TOz).trans TO'
    · exact SK.iat s1.1 fun o q => (sb.2 _ D.zi1.symm).trans q
    · exact SK.iat s2.1 fun o q => (sb.2 _ D.zi2.symm).trans q
    · have hlt : c < s.heap.objs.size := by
        have e' : c = z ∨ c = TI ∨ c = TO ∨ c = i1 ∨ c = i2 := by simpa using hcm
        rcases e' with q | q | q | q | q
        · rw [q]; exact hzl
        · rw [q]; exact Heap.lt_size hTI
        · rw [q]; exact Heap.lt_size hTO
        · rw [q]; obtain ⟨_, e1, _⟩ := SK.iget h1; exact Heap.lt_size e1
        · rw [q]; obtain ⟨_, e2, _⟩ := SK.iget h2; exact Heap.lt_size e2
      rw [upd_ne (Nat.ne_of_lt hlt)]
      exact (hf c hcm).1
  done := by
    intro X hP hw hK hc i pins s σ H E I hf st hg
    subst hP hw hK
    obtain ⟨hz, hTI, ⟨x0, y0, hTO⟩, h1, h2⟩ := st
    obtain ⟨xs, ys, hqx, hqy, hend⟩ := hg
    obtain ⟨its, rv, p, _⟩ := SK.of _ I hqx
    obtain ⟨its2, rv2, p2, _⟩ := SK.of _ I hqy
    have hh : X.A.in1.handled = none := I.ok.hd hc
    have l1 := rv.length
    have l2 := rv2.length
    refine wpAny_pyNext_zipD2_end (i := i) D (k1.draws hh i1 a n1 its.toArray) (k2.draws hh i2 b n2 its2.toArray) hz hTI hTO ⟨h1, p⟩ ⟨h2, p2⟩ (by rw [List.size_toArray]; omega) (by rw [List.size_toArray]; omega) (by rw [List.size_toArray, List.size_toArray]; omega) fun h' tk hk => ⟨rfl, I.turnedL (t' := tk) (ch := [z, TI, TO, i1, i2]) (fun c o hb q =>
      hk c o (fun q' => hb (by simp [q'])) (fun q' => hb (by simp [q'])) (fun q' => hb (by simp [q'])) (fun q' => hb (by simp [q'])) q) hf⟩
  self := fun A i s Q E st h => wpAny_pyIter_zip st.1 h
/-- enumerate: each item a new pair -/
def JE (K : PySem.W.Frag) (k : SK) (a : Addr) : It :=
  ⟨fun i H => ∃ (xs : List V) (x : V), k.sq K H a xs ∧ xs[i]? = some x, fun i H v H' => ∃ T its x, v = .ref T ∧ H T = none ∧ H' = upd H T (.frz (tupO its) (.tup [.int (i : Nat), x])) ∧ ∀ xs, k.sq K H a xs → xs[i]? = some x, fun i H => ∃ xs : List V, k.sq K H a xs ∧ xs.length = i⟩
theorem turn_enumK {P : Program} {w : World} {K : PySem.W.Frag} {elts : List Expr} {kk : Nat} {tpos : Pos} {k : SK} (a e it : Addr) (n1 : a ≠ it) (n2 : e ≠ it) (n3 : e ≠ a) :
    Turn P w K (.Tuple elts kk tpos) (JE K k a) [e, it] e (fun i h => (∃ old, IsEnum h e it ((i : Nat) : Int) old) ∧ k.it h it a i) where
  mem := by simp
  obj := fun i h st b hb => by
    obtain ⟨⟨old, he⟩, h1⟩ := st
    have e' : b = e ∨ b = it := by simpa using hb
    rcases e' with z | z
    · rw [z]; exact ⟨_, he, fun v q => nomatch q⟩
    · rw [z]; exact SK.iget h1
  keep := fun i h h' st k => let ⟨⟨old, he⟩, hi⟩ := st; ⟨⟨old, k e (by simp) _ he⟩, SK.iat hi fun o q => k it (by simp) o q⟩
  item := by
    intro X hP hw hK hc i pins s σ H E I hf st hg
    subst hP hw hK
    obtain ⟨⟨old, he⟩, hit⟩ := st
    obtain ⟨xs, x, hq, hx⟩ := hg
    obtain ⟨its, rv, p, hz⟩ := SK.of _ I hq
    obtain ⟨u, hu, ru⟩ := rv.get hx
    have hh : X.A.in1.handled = none := I.ok.hd hc
    have lt1 : i < its.toArray.size := by rw [List.size_toArray]; exact (List.getElem?_eq_some_iff.mp hu).1
    have hel : e < s.heap.objs.size := Heap.lt_size he
    have hil : it < s.heap.objs.size := by obtain ⟨_, q, _⟩ := SK.iget hit; exact Heap.lt_size q
    refine wpAny_pyNext_enum_itemC (k.draws hh it a n1 its.toArray) he ⟨hit, p⟩ lt1 n2 (by simp [n2, n3]) fun x1 h' tk q1 ho hit' hT hsz hk => ?_
    have e1 : x1 = u := by
      have : its.toArray[i]? = some u := by simpa using hu
      rw [this] at q1; exact (Option.some.inj q1).symm
    subst e1
    refine ⟨_, rfl, wpAny_letOwnedTupleGo_enum (s := { s with heap := h', toks := tk + 1 }) ho fun h'' he' sb => ?_⟩
    have hT2 : h''.get? s.heap.objs.size = some (tupO [.int i tk, x1]) := (sb.2 _ (Nat.ne_of_gt hel)).trans hT
    have new : ObjOk X.prog X.w (upd H s.heap.objs.size (.frz (tupO [.int i tk, x1]) (.tup [.int (i : Nat), x]))) h'' s.heap.objs.size (.frz (tupO [.int i tk, x1]) (.tup [.int (i : Nat), x])) :=
      (show h''.get? s.heap.objs.size = some (tupO [.int i tk, x1]) ∧ _ from ⟨hT2, by show 2 ≤ sizeLine; decide, [.int i tk, x1], .cons ⟨_, rfl⟩ (.cons ru .nil), ⟨_, hT2, rfl, _, rfl⟩⟩)
    have I1 : Inv X pins σ (upd H s.heap.objs.size (.frz (tupO [.int i tk, x1]) (.tup [.int (i : Nat), x]))) { s with heap := h'', toks := tk + 1 } :=
      I.turnedNew (ch := [e, it]) (fun b ob hb q => (sb.2 b (fun z => hb (by simp [z]))).trans (hk b ob (fun z => hb (by simp [z])) (fun z => hb (by simp [z])) q)) hf (Nat.le_refl _) new
    refine ⟨.ref s.heap.objs.size, _, I1, rfl, ⟨_, _, x, rfl, I.hok.fresh (Nat.le_refl _), rfl, fun ys hy => by rw [SK.inj _ I hy hq]; exact hx⟩, ⟨⟨x1, ?_⟩, SK.iat hit'.1 fun o q => (sb.2 it n2.symm).trans q⟩, fun b hb => ?_⟩
    · have e1 : ((i + 1 : Nat) : Int) = (i : Int) + 1 := by omega
      rw [e1]; exact he'
    · have hb' : b < s.heap.objs.size := by
        have e' : b = e ∨ b = it := by simpa using hb
        rcases e' with z | z
        · rw [z]; exact hel
        · rw [z]; exact hil
      rw [upd_ne (Nat.ne_of_lt hb')]
      exact (hf b hb).1
  done := by
    intro X hP hw hK hc i pins s σ H E I hf st hg
    subst hP hw hK
    obtain ⟨⟨old, he⟩, hit⟩ := st
    obtain ⟨xs, hq, hx⟩ := hg
    obtain ⟨its, rv, p, hz⟩ := SK.of _ I hq
    have hh : X.A.in1.handled = none := I.ok.hd hc
    have hl := rv.length
    refine wpAny_pyNext_enum_endD (k.draws hh it a n1 its.toArray) he ⟨by rw [List.size_toArray, ← hl, hx]; exact hit, p⟩ fun h' eb => ⟨rfl, ?_⟩
    obtain ⟨f0, f1, f2, f3, f4, f5⟩ := hf it (by simp)
    exact I.turned (t' := s.toks) (fun b o hb q => eb b o hb q) f0 f1 f3 f4 f5
  self := fun A i s Q E st h => let ⟨⟨_, he⟩, _⟩ := st; wpAny_pyIter_enum he h
/-! ### enumerate(x) of one argument -/
theorem meets_enum1 {v : Value} {o : Obj} {Hv : Heap → Prop} (B : Begins v o Hv) :
    Meets (Builtin.«enumerate.__new__» ⟨[.type "enumerate", v], []⟩) (fun _ R s => Hv s.heap ∧
      R (.ok (.ret (.ref (s.heap.push o).objs.size))) { s with heap := (s.heap.push o).push { cls := .type "enumerate", data := .fields #[.none, .bool false, .ref s.heap.objs.size, rawInt 0, .none, .none] } }) :=
  .of_wp fun prog w A R s h => by
    obtain ⟨hp, g, d, tk, os⟩ := s; obtain ⟨h1, h⟩ := h
    have hsub := sub_enumerate
    have q1 : ∀ {A' : Around} {E : Value → Shared → Prop} {Q : Value → Shared → Prop}, Q (.ref hp.objs.size) ⟨hp.push o, g, d, tk, os⟩ → wpAny (model prog w) A' (pyIter v) Q E ⟨hp, g, d, tk, os⟩ :=
      fun q => B.iter prog w _ _ ⟨hp, g, d, tk, os⟩ _ h1 q
    wp_walk using q1
    refine wpAny_stack_any fun st => wpAny_pure ?_
    split
    · rename_i c _ _ _ _ _
      cases (c == Value.type "enumerate")
      · wp_walk using q1
        exact ⟨_, rfl, h⟩
      · wp_walk using q1
        exact ⟨_, rfl, h⟩
    · wp_walk using q1
      exact ⟨_, rfl, h⟩
theorem enum1_begins {prog : Program} {w : World} {A : Around} {E : Value → Shared → Prop} {s : Shared} {v : Value} {o : Obj} {Hv : Heap → Prop} {Q : Value → Shared → Prop} (B : Begins v o Hv) (h1 : Hv s.heap)
    (h : ∀ h', IsEnum h' (s.heap.objs.size + 1) s.heap.objs.size 0 .none → h'.get? s.heap.objs.size = some o → (∀ b o, s.heap.get? b = some o → h'.get? b = some o) → Q (.ref (s.heap.objs.size + 1)) { s with heap := h' }) :
    wpAny (model prog w) A (call (.type "enumerate") [v]) Q E s := by
  refine callType_new F.called_enumerate (by decide) (F.typeCall_enumerate_1 _) (F.newCall_enumerate_1 _) (fun obj => F.args_object_init_2 obj _) F.entry_enumerate_new (meets_enum1 B) ⟨h1, ?_⟩
  have hz : (s.heap.push o).objs.size = s.heap.objs.size + 1 := Heap.size_push ..
  show _ ∧ _
  rw [hz]
  have he : IsEnum ((s.heap.push o).push { cls := .type "enumerate", data := .fields #[.none, .bool false, .ref s.heap.objs.size, rawInt 0, .none, .none] }) (s.heap.objs.size + 1) s.heap.objs.size 0 .none := by
    have := Heap.get?_push_size (s.heap.push o) (o := { cls := .type "enumerate", data := .fields #[.none, .bool false, .ref s.heap.objs.size, rawInt 0, .none, .none] }) rfl
    rw [hz] at this; exact this
  exact ⟨⟨_, he, rfl⟩, h _ he (Heap.get?_push_of_some _ (Heap.get?_push_size _ B.free)) fun b o x => Heap.get?_push_of_some _ (Heap.get?_push_of_some _ x)⟩
end DV
set_option Elab.async false
set_option linter.all false
set_option maxRecDepth 100000
set_option maxHeartbeats 4000000
/-! DvJ: the pieces by their rules. -/
namespace DV
open PySem PySem.Spec PyProof.Rows L2
theorem pa_of {X : Cx} : ∀ {es : List Expr} {ts : List TE}, AllPE X es ts → PA X es (tAll ts)
  | _, _, .nil => pa_nil
  | _, _, .cons ok p r => pa_cons p (pa_of r) (star_ok ok)
theorem all_okx {X : Cx} : ∀ {es : List Expr} {ts : List TE}, AllPE X es ts → es.all okx = true
  | _, _, .nil => rfl
  | _, _, .cons ok p r => by rw [List.all_cons, ok, all_okx r]; rfl
theorem AllPE.one {X : Cx} {e : Expr} {ts : List TE} (h : AllPE X [e] ts) : ∃ t, ts = [t] ∧ okx e = true ∧ PE X e t := by
  cases h with
  | cons a b c => cases c; exact ⟨_, rfl, a, b⟩
theorem AllPE.two {X : Cx} {e f : Expr} {ts : List TE} (h : AllPE X [e, f] ts) : ∃ t u, ts = [t, u] ∧ okx e = true ∧ PE X e t ∧ okx f = true ∧ PE X f u := by
  cases h with
  | cons a b c =>
    obtain ⟨u, rfl, d, e⟩ := c.one
    exact ⟨_, u, rfl, a, b, d, e⟩
def kOf : D → SK
  | .list _ => .l
  | _ => .t
theorem Vw.sk {K : PySem.W.Frag} {I H : Hp} {v : V} {x : D} {xs : List D} (s : Sub I H) (h : Vw K I H v x) (e : itemsOf x = some xs) : ∃ a vs, v = .ref a ∧ (kOf x).sq K H a vs ∧ RpAll K I vs xs := by
  rcases itemsOf_some e with rfl | rfl
  · obtain ⟨a, vs, q, t, r⟩ := h.list s
    exact ⟨a, vs, q, t, r⟩
  · obtain ⟨a, vs, q, t, r⟩ := h.tuple
    exact ⟨a, vs, q, s.sqT t, r⟩
def isTupX : Expr → Bool
  | .Tuple .. => true
  | _ => false
/-! ### zip -/
def zipT (c : Ck) (tg ex : Expr) : Option (List Expr) := match tg, ex with
  | .Tuple _ _ _, .Call (.Name x _) [e1, e2] [] _ => if (x == ("zip" : Str) && c.blt "zip") = true then some [e1, e2] else none
  | _, _ => none
def zipD (ds items : List D) : Prop := ∃ x y xs ys, ds = [x, y] ∧ itemsOf x = some xs ∧ itemsOf y = some ys ∧ items = List.zipWith (fun a b => PyData.tuple [a, b]) xs ys
theorem zipT_inv {c : Ck} {tg ex : Expr} {es : List Expr} (h : zipT c tg ex = some es) : ∃ l k p e1 e2 q r, tg = .Tuple l k p ∧ ex = .Call (.Name "zip" q) [e1, e2] [] r ∧ c.blt "zip" = true ∧ es = [e1, e2] := by
  unfold zipT at h
  split at h
  · split at h
    · rename_i q
      rw [Bool.and_eq_true] at q
      rw [eq_of_beq q.1]
      cases h
      exact ⟨_, _, _, _, _, _, _, rfl, rfl, q.2, rfl⟩
    · cases h
  · cases h
theorem zip_good {K : PySem.W.Frag} {a b : Addr} {x y : D} {xs ys : List D} (ex : itemsOf x = some xs) (ey : itemsOf y = some ys) : ItGood K [.ref a, .ref b] [x, y] (List.zipWith (fun a b => PyData.tuple [a, b]) xs ys) (JZ K (kOf x) (kOf y) a b) := by
  intro I H sb vw i
  obtain ⟨d1, d2, e, v1, v2⟩ := vw2 vw
  cases e
  obtain ⟨a', us, e1, s1, r1⟩ := v1.sk sb ex
  obtain ⟨b', ws, e2, s2, r2⟩ := v2.sk sb ey
  cases e1
  cases e2
  refine ⟨fun d hd => ?_, fun hl => ⟨us, ws, s1, s2, ?_⟩⟩
  · rw [List.getElem?_zipWith] at hd
    cases q1 : xs[i]? with
    | none => rw [q1] at hd; cases ys[i]? <;> cases hd
    | some d1 =>
      cases q2 : ys[i]? with
      | none => rw [q1, q2] at hd; cases hd
      | some d2 =>
        rw [q1, q2] at hd
        cases hd
        obtain ⟨u1, h1, p1⟩ := r1.get q1
        obtain ⟨u2, h2, p2⟩ := r2.get q2
        refine ⟨⟨us, ws, u1, u2, s1, s2, h1, h2⟩, fun v H' ⟨T, its, z1, z2, ev, n, eH, f1, f2⟩ => ?_⟩
        subst ev eH
        have g1 := f1 us s1
        rw [h1] at g1; cases g1
        have g2 := f2 ws s2
        rw [h2] at g2; cases g2
        refine ⟨_, Ex.new sb n, .tup (.inl (.inr ⟨_, upd_same⟩)) (.inl ⟨_, _, upd_same, rfl⟩) (.cons (p1.mono (.new (sb.no n))) (.cons (p2.mono (.new (sb.no n))) .nil))⟩
  · have l1 := r1.length
    have l2 := r2.length
    rw [List.length_zipWith] at hl
    omega
theorem zip_ok (X : Cx) (c : Ck) (L : Addr) (K : CkOk X c L) (tg ex : Expr) (es : List Expr) (ts : List TE) (h : zipT c tg ex = some es) (ha : AllPE X es ts) : PI X tg ex (tIt X.K zipD (tAll ts)) ∧ ∀ x, foldedSetIterable ex X.env x = pure x := by
  obtain ⟨l, k, p, e1, e2, q, r, rfl, rfl, hb, rfl⟩ := zipT_inv h
  obtain ⟨g1, g2, g3, g4⟩ := ck_blt K hb
  have ok := okx_cons (all_okx ha)
  refine ⟨⟨fun pins s σ H R I h => ?_⟩, fold_ok rfl⟩
  refine Call_ (ld_blt I g1 g4 PyProof.Rows.boot_zip (PyProof.Rows.callWith_type1 (thn ((pa_of ha).run r pins s σ H _ I h) fun us s1 ⟨vs, H1, I1, r1, q1⟩ => ?_) (star_ok ok.1) (any_back ok.2)))
  obtain ⟨F, ds, items, sb, vw, ⟨x, y, xs, ys, rfl, ex, ey, rfl⟩, good⟩ := q1
  obtain ⟨d1, d2, e, v1, v2⟩ : ∃ v1 v2, vs = [v1, v2] ∧ Vw X.K F H1 v1 x ∧ Vw X.K F H1 v2 y := by
    cases vw with
    | cons a b =>
      cases b with
      | cons c d => cases d; exact ⟨_, _, rfl, a, c⟩
  subst e
  obtain ⟨a, us1, rfl, s1', r1'⟩ := v1.sk sb ex
  obtain ⟨b, us2, rfl, s2', r2'⟩ := v2.sk sb ey
  obtain ⟨w1, w2, rfl, ra, rb⟩ := vals2 r1
  cases ra
  cases rb
  obtain ⟨its, rv, p1, _⟩ := SK.of _ I1 s1'
  obtain ⟨its2, rv2, p2, _⟩ := SK.of _ I1 s2'
  obtain ⟨o1, ho1⟩ := SK.isget p1
  obtain ⟨o2, ho2⟩ := SK.isget p2
  have la : a < s1.heap.objs.size := Heap.lt_size ho1
  have lb : b < s1.heap.objs.size := Heap.lt_size ho2
  refine zip_begins2 ((kOf x).begins a its.toArray) ((kOf y).begins b its2.toArray) p1 p2 fun h' hz hTI hTO h1 h2 hsz hk => wpAny_pyIter_zip hz ?_
  have I2 : Inv X pins σ H1 { s1 with heap := h' } := I1.kept (t' := s1.toks) hk
  refine ⟨s1.heap.objs.size + 4, [s1.heap.objs.size + 4, s1.heap.objs.size + 2, s1.heap.objs.size + 3, s1.heap.objs.size, s1.heap.objs.size + 1], _, _, H1, rfl, I2, turn_zipK (zip_sep2 (fp1 := [a]) (fp2 := [b]) (by simpa using la) (by simpa using lb)) (Nat.ne_of_lt la) (Nat.ne_of_lt (Nat.lt_succ_of_lt lb)), ⟨hz, hTI, ⟨_, _, hTO⟩, SK.start h1, SK.start h2⟩, fun c hcm => ?_, good _ (zip_good ex ey)⟩
  have e' : c = s1.heap.objs.size + 4 ∨ c = s1.heap.objs.size + 2 ∨ c = s1.heap.objs.size + 3 ∨ c = s1.heap.objs.size ∨ c = s1.heap.objs.size + 1 := by simpa using hcm
  have hle : s1.heap.objs.size ≤ c := by
    rcases e' with q | q | q | q | q <;> rw [q] <;> first | exact Nat.le_refl _ | exact Nat.le_add_right _ _
  exact I1.fpOk hle (I1.hok.fresh hle)
def pZip : PlugI := ⟨zipT, zipD, zip_ok⟩
/-! ### enumerate -/
def enumT (c : Ck) (tg ex : Expr) : Option (List Expr) := match tg, ex with
  | .Tuple _ _ _, .Call (.Name x _) [e1] [] _ => if (x == ("enumerate" : Str) && c.blt "enumerate") = true then some [e1] else none
  | _, _ => none
def enumD (ds items : List D) : Prop := ∃ x xs, ds = [x] ∧ itemsOf x = some xs ∧ items = xs.mapIdx fun i a => PyData.tuple [.int (i : Nat), a]
theorem enumT_inv {c : Ck} {tg ex : Expr} {es : List Expr} (h : enumT c tg ex = some es) : ∃ l k p e1 q r, tg = .Tuple l k p ∧ ex = .Call (.Name "enumerate" q) [e1] [] r ∧ c.blt "enumerate" = true ∧ es = [e1] := by
  unfold enumT at h
  split at h
  · split at h
    · rename_i q
      rw [Bool.and_eq_true] at q
      rw [eq_of_beq q.1]
      cases h
      exact ⟨_, _, _, _, _, _, rfl, rfl, q.2, rfl⟩
    · cases h
  · cases h
theorem enum_good {K : PySem.W.Frag} {a : Addr} {x : D} {xs : List D} (ex : itemsOf x = some xs) : ItGood K [.ref a] [x] (xs.mapIdx fun i a => PyData.tuple [.int (i : Nat), a]) (JE K (kOf x) a) := by
  intro I H sb vw i
  obtain ⟨d1, e, v1⟩ := vw1 vw
  cases e
  obtain ⟨a', us, e1, s1, r1⟩ := v1.sk sb ex
  cases e1
  refine ⟨fun d hd => ?_, fun hl => ⟨us, s1, ?_⟩⟩
  · rw [List.getElem?_mapIdx] at hd
    cases q1 : xs[i]? with
    | none => rw [q1] at hd; cases hd
    | some d1 =>
      rw [q1] at hd
      cases hd
      obtain ⟨u1, h1, p1⟩ := r1.get q1
      refine ⟨⟨us, u1, s1, h1⟩, fun v H' ⟨T, its, z1, ev, n, eH, f1⟩ => ?_⟩
      subst ev eH
      have g1 := f1 us s1
      rw [h1] at g1; cases g1
      exact ⟨_, Ex.new sb n, .tup (.inl (.inr ⟨_, upd_same⟩)) (.inl ⟨_, _, upd_same, rfl⟩) (.cons (.int _) (.cons (p1.mono (.new (sb.no n))) .nil))⟩
  · have l1 := r1.length
    rw [List.length_mapIdx] at hl
    omega
theorem enum_ok (X : Cx) (c : Ck) (L : Addr) (K : CkOk X c L) (tg ex : Expr) (es : List Expr) (ts : List TE) (h : enumT c tg ex = some es) (ha : AllPE X es ts) : PI X tg ex (tIt X.K enumD (tAll ts)) ∧ ∀ x, foldedSetIterable ex X.env x = pure x := by
  obtain ⟨l, k, p, e1, q, r, rfl, rfl, hb, rfl⟩ := enumT_inv h
  obtain ⟨g1, g2, g3, g4⟩ := ck_blt K hb
  have ok := okx_cons (all_okx ha)
  refine ⟨⟨fun pins s σ H R I h => ?_⟩, fold_ok rfl⟩
  refine Call_ (ld_blt I g1 g4 PyProof.Rows.boot_enumerate (PyProof.Rows.callWith_type1 (thn ((pa_of ha).run r pins s σ H _ I h) fun us s1 ⟨vs, H1, I1, r1, q1⟩ => ?_) (star_ok ok.1) (any_back ok.2)))
  obtain ⟨F, ds, items, sb, vw, ⟨x, xs, rfl, ex, rfl⟩, good⟩ := q1
  obtain ⟨v1, e, v1'⟩ : ∃ v1, vs = [v1] ∧ Vw X.K F H1 v1 x := by
    cases vw with
    | cons a b => cases b; exact ⟨_, rfl, a⟩
  subst e
  obtain ⟨a, us1, rfl, s1', r1'⟩ := v1'.sk sb ex
  obtain ⟨w1, rfl, ra⟩ := vals1 r1
  cases ra
  obtain ⟨its, rv, p1, _⟩ := SK.of _ I1 s1'
  obtain ⟨o1, ho1⟩ := SK.isget p1
  have la : a < s1.heap.objs.size := Heap.lt_size ho1
  refine enum1_begins ((kOf x).begins a its.toArray) p1 fun h' he h1 hk => wpAny_pyIter_enum he ?_
  have I2 : Inv X pins σ H1 { s1 with heap := h' } := I1.kept (t' := s1.toks) hk
  refine ⟨s1.heap.objs.size + 1, [s1.heap.objs.size + 1, s1.heap.objs.size], _, _, H1, rfl, I2, turn_enumK a (s1.heap.objs.size + 1) s1.heap.objs.size (Nat.ne_of_lt la) (Nat.succ_ne_self _) (Nat.ne_of_gt (Nat.lt_succ_of_lt la)), ⟨⟨.none, he⟩, SK.start h1⟩, fun c hcm => ?_, good _ (enum_good ex)⟩
  have e' : c = s1.heap.objs.size + 1 ∨ c = s1.heap.objs.size := by simpa using hcm
  have hle : s1.heap.objs.size ≤ c := by
    rcases e' with q | q <;> rw [q] <;> first | exact Nat.le_refl _ | exact Nat.le_add_right _ _
  exact I1.fpOk hle (I1.hok.fresh hle)
def pEnum : PlugI := ⟨enumT, enumD, enum_ok⟩
end DV
set_option Elab.async false
set_option linter.all false
set_option maxRecDepth 100000
set_option maxHeartbeats 4000000
/-! DvK: more pieces by their rules. -/
namespace DV
open PySem PySem.Spec PyProof.Rows L2
/-- a transformer that may be weakened -/
def tUp (t : TE) : TE := fun σ H Q => ∃ Q0 : VK, t σ H Q0 ∧ ∀ x H', Q0 x H' → Q x H'
theorem pe_up {X : Cx} {e : Expr} {t : TE} (h : PE X e t) : PE X e (tUp t) := ⟨fun pins s σ H Q I ⟨Q0, q, k⟩ => thn (h.run pins s σ H Q0 I q) fun v s1 ⟨x, H1, I1, r, q1⟩ => ⟨x, H1, I1, r, k x H1 q1⟩⟩
/-! ### list(range(n)) -/
def lrgT (c : Ck) (ex : Expr) : Option (List Expr) := match ex with
  | .Call (.Name x _) [.Call (.Name y _) [a] [] _] [] _ => if (x == ("list" : Str) && (y == ("range" : Str) && (c.blt "list" && c.blt "range"))) = true then some [a] else none
  | _ => none
theorem lrgT_inv {c : Ck} {ex : Expr} {es : List Expr} (h : lrgT c ex = some es) : ∃ a p q r u, ex = .Call (.Name "list" p) [.Call (.Name "range" q) [a] [] r] [] u ∧ c.blt "list" = true ∧ c.blt "range" = true ∧ es = [a] := by
  unfold lrgT at h
  split at h
  · split at h
    · rename_i q
      simp only [Bool.and_eq_true] at q
      rw [eq_of_beq q.1, eq_of_beq q.2.1]
      cases h
      exact ⟨_, _, _, _, _, rfl, q.2.2.1, q.2.2.2, rfl⟩
    · cases h
  · cases h
def sLrg : D → OS
  | .int n, P => RgOk 0 n ∧ P true (.list (rangeD 0 n.toNat))
  | _, _ => False
theorem rgV_rp {K : PySem.W.Frag} {H : Hp} {n : Int} : RpAll K H (rgV 0 n) (rangeD 0 n.toNat) := by
  unfold rgV rangeD
  rw [Int.sub_zero]
  generalize List.range n.toNat = l
  induction l with
  | nil => exact .nil
  | cons a r ih => exact .cons (.int _) ih
def pListRg : PlugV := ⟨lrgT, f1 sLrg, fun c ex es h => by obtain ⟨a, p, q, r, u, rfl, _⟩ := lrgT_inv h; exact ⟨rfl, rfl⟩, fun X c L K ex es ts h ha => by
  obtain ⟨a, p, q, r, u, rfl, b1, b2, rfl⟩ := lrgT_inv h
  obtain ⟨g1, g2, g3, g4⟩ := ck_blt K b1
  obtain ⟨i1, i2, i3, i4⟩ := ck_blt K b2
  obtain ⟨t, rfl, oa, pa⟩ := ha.one
  refine pe_wk (pe_listRg K.calm g1 g4 (prg_1 i1 i4 (pe_up pa) (star_ok oa))) fun σ H Q hq => ?_
  have hq : t σ H (fun x H1 => rO X.K (f1 sLrg) [x] H1 Q) := hq
  refine ⟨_, hq, fun x H1 ⟨F, ds, P, sb, vw, sem, k⟩ => ?_⟩
  obtain ⟨d, rfl, v1⟩ := vw1 vw
  cases d <;> first | exact sem.elim | skip
  obtain rfl := v1.int
  exact ⟨_, rfl, sem.1, fun l n => newL sb k rgV_rp n sem.2⟩⟩
/-! ### xs[::-1] of a list -/
def revT (c : Ck) (ex : Expr) : Option (List Expr) := match ex with
  | .Subscript e (.Slice none none (some (.UnaryOp .USub (.Constant (.int 1) _ _) _)) _) _ => if okx e = true then some [e] else none
  | _ => none
theorem revT_inv {c : Ck} {ex : Expr} {es : List Expr} (h : revT c ex = some es) : ∃ e k p1 p2 p3 q, ex = .Subscript e (.Slice none none (some (.UnaryOp .USub (.Constant (.int 1) k p1) p2)) p3) q ∧ es = [e] := by
  unfold revT at h
  split at h
  · split at h
    · cases h; exact ⟨_, _, _, _, _, _, rfl, rfl⟩
    · cases h
  · cases h
def sRev : D → OS
  | .list xs, P => P true (.list xs.reverse)
  | _, _ => False
def pRev : PlugV := ⟨revT, f1 sRev, fun c ex es h => by obtain ⟨a, p, q, r, u, v, rfl, _⟩ := revT_inv h; exact ⟨rfl, rfl⟩, fun X c L K ex es ts h ha => by
  obtain ⟨e, k, p1, p2, p3, q, rfl, rfl⟩ := revT_inv h
  obtain ⟨t, rfl, oa, pa⟩ := ha.one
  refine pe_wk (pe_revL (pe_up pa)) fun σ H Q hq => ?_
  have hq : t σ H (fun x H1 => rO X.K (f1 sRev) [x] H1 Q) := hq
  refine ⟨_, hq, fun x H1 ⟨F, ds, P, sb, vw, sem, k⟩ => ?_⟩
  obtain ⟨d, rfl, v1⟩ := vw1 vw
  cases d <;> first | exact sem.elim | skip
  obtain ⟨a, vs, rfl, t, r⟩ := v1.list sb
  exact ⟨a, vs, rfl, t, fun l n => newL sb k r.reverse n sem⟩⟩
/-! ### t.index(x) -/
def sTix (x y : D) : OS := fun P => ∃ (zs : List Str) (z : Str) (j : Nat), x = .tuple (zs.map PyData.str) ∧ y = .str z ∧ zs[j]? = some z ∧ (∀ m, m < j → zs[m]? ≠ some z) ∧ P false (.int j)
def mTix : PlugM := ⟨"tuple", "index", "tuple.index", by decide, PySem.F.plainAttrs_tuple, PySem.F.slot_tuple_index, rfl, f2 sTix, fun X c L K => by
  intro pins s σ H x xs v us Q I rx rs hq
  refine mt_tup_index pins s σ H x xs v us Q I rx rs ?_
  obtain ⟨F, ds, P, sb, vw, sem, k⟩ := hq
  cases vw with
  | cons a b =>
    cases b with
    | nil => exact sem.elim
    | cons c d =>
      cases d with
      | cons _ _ => exact sem.elim
      | nil =>
        obtain ⟨zs, z, j, rfl, rfl, h1, h2, p⟩ := sem
        obtain ⟨a', vs, rfl, t, r⟩ := a.tuple
        obtain rfl := c.str
        obtain rfl := r.strs_of
        exact ⟨a', zs, z, j, rfl, rfl, sb.sqT t, h1, h2, keep sb k (.int _) p⟩⟩
/-! ### the signs of a text -/
def strT (c : Ck) (tg ex : Expr) : Option (List Expr) := if (okx ex && noSetX ex) = true then some [ex] else none
def strD (ds items : List D) : Prop := ∃ z : Str, ds = [.str z] ∧ items = signs z
def pStr : PlugI := ⟨strT, strD, fun X c L K tg ex es ts h ha => by
  unfold strT at h
  split at h
  · rename_i q
    rw [Bool.and_eq_true] at q
    cases h
    obtain ⟨t, rfl, oa, pa⟩ := ha.one
    refine ⟨pi_wk (pi_str (pe_up pa)) fun σ H R hq => ?_, fold_ok q.2⟩
    have hq : t σ H (fun x H1 => ∃ I ds items, Sub I H1 ∧ VwAll X.K I H1 [x] ds ∧ strD ds items ∧ ∀ J, ItGood X.K [x] ds items J → R J H1) := hq
    refine ⟨_, hq, fun x H1 ⟨F, ds, items, sb, vw, ⟨z, e1, e2⟩, good⟩ => ?_⟩
    subst e1 e2
    obtain ⟨d, e, v1⟩ := vw1 vw
    cases e
    obtain rfl := v1.str
    refine ⟨z, rfl, good _ fun I H sb vw i => ⟨fun d hd => ?_, fun hl => ?_⟩⟩
    · unfold signs at hd
      rw [List.getElem?_map] at hd
      cases q : z.cps.toList[i]? with
      | none => rw [q] at hd; cases hd
      | some cc =>
        rw [q] at hd
        cases hd
        have lt : i < z.cps.size := by
          have := (List.getElem?_eq_some_iff.mp q).1
          simpa using this
        refine ⟨lt, fun v H' y => ?_⟩
        obtain ⟨e1, c2, h2, rfl⟩ := y
        subst e1
        have : z.cps[i]? = some cc := by rw [← Array.getElem?_toList]; exact q
        rw [this] at h2
        cases h2
        exact ⟨I, Ex.refl sb, .str _⟩
    · have : z.cps.size = i := by unfold signs at hl; simpa using hl
      exact Nat.le_of_eq this
  · cases h⟩
end DV
set_option Elab.async false
set_option linter.all false
set_option maxRecDepth 100000
set_option maxHeartbeats 4000000
/-! DvL: loops over data, by invariants; small facts of numbers. -/
namespace DV
open PySem PySem.Spec PyProof.Rows L2
theorem forGo_inv {bd : SV → DEnv → (DEnv → Prop) → Prop} {b : DEnv → Store → NK → Prop} {g : Store → Prop} {nx : NK} {ds : List D} {env : DEnv} {μ : Store} (Inv : Nat → DEnv → Store → Prop) (h0 : Inv 0 env μ) (hg : ∀ i env μ, i ≤ ds.length → Inv i env μ → g μ)
    (step : ∀ i x env μ (K : NK), ds[i]? = some x → Inv i env μ → (∀ env' μ', Inv (i + 1) env' μ' → K env' μ') → bd (.d x) env fun env1 => b env1 μ K) (hd : ∀ env μ, Inv ds.length env μ → nx env μ) : forGo bd b g nx ds env μ := by
  have go : ∀ (n i : Nat) (env : DEnv) (μ : Store), n + i = ds.length → Inv i env μ → forGo bd b g nx (ds.drop i) env μ := by
    intro n
    induction n with
    | zero =>
      intro i env μ e h
      have : ds.drop i = [] := List.drop_eq_nil_iff.mpr (by omega)
      rw [this]
      refine ⟨hg i env μ (by omega) h, hd env μ ?_⟩
      have : i = ds.length := by omega
      rw [← this]; exact h
    | succ n ih =>
      intro i env μ e h
      have hi : i < ds.length := by omega
      rw [List.drop_eq_getElem_cons hi]
      exact ⟨hg i env μ (by omega) h, step i ds[i] env μ _ (List.getElem?_eq_getElem hi) h fun env' μ' h' => ih (i + 1) env' μ' (by omega) h'⟩
  exact go ds.length 0 env μ (by omega) h0
theorem lcGo_inv {bd : SV → DEnv → (DEnv → Prop) → Prop} {c : DEnv → Store → (Bool → Store → Prop) → Prop} {e : DEnv → Store → (SV → Store → Prop) → Prop} {env0 : DEnv} {g : Store → Prop} {fin : List D → Store → Prop} {ds : List D} {μ : Store} (Inv : Nat → List D → Store → Prop) (h0 : Inv 0 [] μ)
    (hg : ∀ i acc μ, i ≤ ds.length → Inv i acc μ → g μ)
    (step : ∀ i x acc μ (K : List D → Store → Prop), ds[i]? = some x → Inv i acc μ → (∀ acc' μ', Inv (i + 1) acc' μ' → K acc' μ') → bd (.d x) env0 fun env1 => c env1 μ fun b μ2 => if b = true then e env1 μ2 fun y μ3 => frzK y μ3 fun d μ4 => acc.length < sizeLine ∧ K (acc ++ [d]) μ4 else K acc μ2)
    (hd : ∀ acc μ, Inv ds.length acc μ → fin acc μ) : lcGo bd c e env0 g fin ds [] μ := by
  have go : ∀ (n i : Nat) (acc : List D) (μ : Store), n + i = ds.length → Inv i acc μ → lcGo bd c e env0 g fin (ds.drop i) acc μ := by
    intro n
    induction n with
    | zero =>
      intro i acc μ e h
      have : ds.drop i = [] := List.drop_eq_nil_iff.mpr (by omega)
      rw [this]
      refine ⟨hg i acc μ (by omega) h, hd acc μ ?_⟩
      have : i = ds.length := by omega
      rw [← this]; exact h
    | succ n ih =>
      intro i acc μ e h
      have hi : i < ds.length := by omega
      rw [List.drop_eq_getElem_cons hi]
      exact ⟨hg i acc μ (by omega) h, step i ds[i] acc μ (fun acc' μ' => lcGo bd c _ env0 g fin (ds.drop (i + 1)) acc' μ') (List.getElem?_eq_getElem hi) h fun acc' μ' h' => ih (i + 1) acc' μ' (by omega) h'⟩
  exact go ds.length 0 [] μ (by omega) h0
/-- nothing is changed: each item gives one, or none -/
theorem lcGo_fm {bd : SV → DEnv → (DEnv → Prop) → Prop} {c : DEnv → Store → (Bool → Store → Prop) → Prop} {e : DEnv → Store → (SV → Store → Prop) → Prop} {env0 : DEnv} {g : Store → Prop} {fin : List D → Store → Prop} {ds : List D} {μ : Store} (f : D → Option D) (hl : ds.length ≤ sizeLine) (hg : g μ)
    (step : ∀ x ∈ ds, ∀ (A : Prop) (K : D → Store → Prop) (K2 : Store → Prop), A → (∀ d, f x = some d → K d μ) → (f x = none → K2 μ) → bd (.d x) env0 fun env1 => c env1 μ fun b μ2 => if b = true then e env1 μ2 fun y μ3 => frzK y μ3 fun d μ4 => A ∧ K d μ4 else K2 μ2)
    (hd : fin (ds.filterMap f) μ) : lcGo bd c e env0 g fin ds [] μ := by
  refine lcGo_inv (fun i acc μ' => μ' = μ ∧ acc = (ds.take i).filterMap f) ⟨rfl, rfl⟩ (fun i acc μ' _ h => by rw [h.1]; exact hg) (fun i x acc μ' K hx h k => ?_) fun acc μ' h => by
    rw [h.1, h.2, List.take_length]; exact hd
  obtain ⟨rfl, rfl⟩ := h
  have hi := (List.getElem?_eq_some_iff.mp hx).1
  have ht : ds.take (i + 1) = ds.take i ++ [x] := by
    rw [List.take_add_one, hx]; rfl
  refine step x (List.mem_of_getElem? hx) _ (fun d μ'' => K ((ds.take i).filterMap f ++ [d]) μ'') (fun μ'' => K ((ds.take i).filterMap f) μ'') ?_ (fun d e => k _ _ ⟨rfl, ?_⟩) fun e => k _ _ ⟨rfl, ?_⟩
  · have := List.length_filterMap_le f (ds.take i)
    rw [List.length_take] at this
    omega
  · rw [ht, List.filterMap_append]; simp [e]
  · rw [ht, List.filterMap_append]; simp [e]
theorem lcGo_map {bd : SV → DEnv → (DEnv → Prop) → Prop} {c : DEnv → Store → (Bool → Store → Prop) → Prop} {e : DEnv → Store → (SV → Store → Prop) → Prop} {env0 : DEnv} {g : Store → Prop} {fin : List D → Store → Prop} {ds : List D} {μ : Store} (f : D → D) (hl : ds.length ≤ sizeLine) (hg : g μ)
    (step : ∀ x ∈ ds, ∀ (A : Prop) (K : D → Store → Prop) (K2 : Store → Prop), A → K (f x) μ → bd (.d x) env0 fun env1 => c env1 μ fun b μ2 => if b = true then e env1 μ2 fun y μ3 => frzK y μ3 fun d μ4 => A ∧ K d μ4 else K2 μ2)
    (hd : fin (ds.map f) μ) : lcGo bd c e env0 g fin ds [] μ :=
  lcGo_fm (fun x => some (f x)) hl hg (fun x hx A K K2 a k _ => step x hx A K K2 a (k _ rfl)) (by
    have : ds.filterMap (fun x => some (f x)) = ds.map f := by simp
    rw [this]; exact hd)
/-! ### numbers -/
theorem mulS {i j : Int} (h1 : -(2 ^ 62) ≤ i) (h2 : i < 2 ^ 62) : IntMulOk i j := .of_left (intBits_le_64 (by omega) (by omega))
theorem mulR {i j : Int} (h1 : -(2 ^ 62) ≤ j) (h2 : j < 2 ^ 62) : IntMulOk i j := .of_right (intBits_le_64 (by omega) (by omega))
theorem fm_b {a m : Int} (h : 0 < m) : 0 ≤ a.fmod m ∧ a.fmod m < m := ⟨Int.fmod_nonneg_of_pos a h, Int.fmod_lt_of_pos a h⟩
theorem rangeD_length {lo : Int} {n : Nat} : (rangeD lo n).length = n := by simp [rangeD]
theorem rangeD_get {lo : Int} {n i : Nat} {x : D} (h : (rangeD lo n)[i]? = some x) : i < n ∧ x = .int (lo + i) := by
  unfold rangeD at h
  rw [List.getElem?_map] at h
  by_cases hi : i < n
  · rw [List.getElem?_range hi] at h
    cases h; exact ⟨hi, rfl⟩
  · rw [List.getElem?_eq_none (by simpa using hi)] at h; cases h
theorem rangeD_mem {lo : Int} {n : Nat} {x : D} (h : x ∈ rangeD lo n) : ∃ i : Nat, i < n ∧ x = .int (lo + i) := by
  unfold rangeD at h
  obtain ⟨i, hi, rfl⟩ := List.mem_map.mp h
  exact ⟨i, List.mem_range.mp hi, rfl⟩
theorem ixN_nat {n k : Nat} (h : k < n) : ixN n (k : Int) = some k := by
  unfold ixN
  rw [if_pos (by omega), if_pos (by omega)]; rfl
theorem ixN_of {n k : Nat} (h : k < n) : ixN n (no_index (@OfNat.ofNat Int k instOfNat)) = some k := ixN_nat h
theorem atI_nat {α : Type} (xs : List α) (k : Nat) : atI xs (k : Int) = xs[k]? := by
  unfold atI ixN
  rw [if_pos (by omega)]
  by_cases h : k < xs.length
  · rw [if_pos (by omega)]; rfl
  · rw [if_neg (by omega), List.getElem?_eq_none (by omega)]; rfl
theorem atI_of {α : Type} (xs : List α) (k : Nat) : atI xs (no_index (@OfNat.ofNat Int k instOfNat)) = xs[k]? := atI_nat xs k
theorem atI_int {α : Type} {xs : List α} {i : Int} (h0 : 0 ≤ i) : atI xs i = xs[i.toNat]? := by
  obtain ⟨k, rfl⟩ := Int.eq_ofNat_of_zero_le h0
  exact atI_nat xs k
theorem atI_some {α : Type} {xs : List α} {i : Int} (h0 : 0 ≤ i) (h1 : i < xs.length) : ∃ x, x ∈ xs ∧ atI xs i = some x := by
  have h : i.toNat < xs.length := by omega
  exact ⟨xs[i.toNat], List.getElem_mem h, by rw [atI_int h0, List.getElem?_eq_getElem h]⟩
/-- the intro of a call over part of the store -/
theorem big_in {lsp : DSp} {svs : List SV} {μ : Store} {P : SV → Store → Prop} {PE : Exn → Store → Prop} (ks : List Nat) (svs0 : List SV) (μ0 : Store) (h1 : ks.Nodup) (h2 : svs = svs0.map (svB ks μ.length)) (h3 : ks.map (fun k => μ[k]?) = μ0.map (fun o => some (objB ks μ.length o)))
    (h : lsp svs0 μ0 (fun x μ' => P (svB ks μ.length x) (putB μ ks (μ'.map (objB ks μ.length)))) fun x μ' => PE x (putB μ ks (μ'.map (objB ks μ.length)))) : bigSp lsp svs μ P PE := ⟨ks, svs0, μ0, h1, h2, h3, h⟩
/-- a statement ahead of the rest, with what is known between -/
theorem seq_cut {W : Exn → DEnv → Store → Prop} {a r : S} {env : DEnv} {μ : Store} {nx : NK} {rt : RK} (Mid : DEnv → Store → Prop) (h1 : ∀ K : NK, (∀ env1 μ1, Mid env1 μ1 → K env1 μ1) → sx W a env μ K rt) (h2 : ∀ env1 μ1, Mid env1 μ1 → sx W r env1 μ1 nx rt) : sx W (.seq a r) env μ nx rt :=
  h1 _ fun env1 μ1 h => h2 env1 μ1 h
theorem putB_last {μ : Store} {x y : MO} : putB (μ ++ [x]) [μ.length] [y] = μ ++ [y] := by
  show putB ((μ ++ [x]).set μ.length y) [] [] = _
  unfold putB
  simp
theorem putB_zero {μ : Store} {x y : MO} : putB (x :: μ) [0] [y] = y :: μ := by
  show putB ((x :: μ).set 0 y) [] [] = _
  unfold putB
  simp
/-- a statement, the rest kept shut -/
theorem seq_step {W : Exn → DEnv → Store → Prop} {a r : S} {env : DEnv} {μ : Store} {nx : NK} {rt : RK} (h : ∀ K : NK, K = (fun env1 μ1 => sx W r env1 μ1 nx rt) → sx W a env μ K rt) : sx W (.seq a r) env μ nx rt := h _ rfl
end DV
set_option Elab.async false
set_option linter.all false
set_option maxRecDepth 100000
set_option maxHeartbeats 4000000
/-! DvM: data of one kind: what may be compared, found, shown. -/
namespace DV
open PySem PySem.Spec PyProof.Rows L2
theorem shaped_list {ds : List D} (h : PyData.canLayAll0 ds = true) (h2 : PyData.depthAll ds ≤ 63) : SeqAt.shaped (.list ds) = true := by
  unfold SeqAt.shaped
  rw [Bool.and_eq_true, decide_eq_true_eq]
  exact ⟨by simpa [PyData.canLay0] using h, by simp only [PyData.depth]; omega⟩
theorem shaped_tuple {ds : List D} (h : PyData.canLayAll0 ds = true) (h2 : PyData.depthAll ds ≤ 63) : SeqAt.shaped (.tuple ds) = true := by
  unfold SeqAt.shaped
  rw [Bool.and_eq_true, decide_eq_true_eq]
  exact ⟨by simpa [PyData.canLay0] using h, by simp only [PyData.depth]; omega⟩
theorem lay_ints : ∀ ns : List Int, PyData.canLayAll0 (ns.map PyData.int) = true ∧ PyData.depthAll (ns.map PyData.int) = 0
  | [] => ⟨by simp [PyData.canLayAll0], by simp [PyData.depthAll]⟩
  | n :: ns => by
    obtain ⟨h1, h2⟩ := lay_ints ns
    exact ⟨by simp [PyData.canLayAll0, PyData.canLay0, h1], by simp [PyData.depthAll, PyData.depth, h2]⟩
theorem lay_strs : ∀ zs : List Str, (∀ z ∈ zs, PyData.strOk z = true) → PyData.canLayAll0 (zs.map PyData.str) = true ∧ PyData.depthAll (zs.map PyData.str) = 0
  | [], _ => ⟨by simp [PyData.canLayAll0], by simp [PyData.depthAll]⟩
  | n :: ns, h => by
    obtain ⟨h1, h2⟩ := lay_strs ns fun z hz => h z (List.mem_cons_of_mem _ hz)
    exact ⟨by simp [PyData.canLayAll0, PyData.canLay0, h1, h n (List.mem_cons_self ..)], by simp [PyData.depthAll, PyData.depth, h2]⟩
theorem eqv_ints : ∀ ns ms : List Int, PyData.eqvAll (ns.map PyData.int) (ms.map PyData.int) = decide (ns = ms)
  | [], [] => by simp [PyData.eqvAll]
  | [], m :: ms => by simp [PyData.eqvAll]
  | n :: ns, [] => by simp [PyData.eqvAll]
  | n :: ns, m :: ms => by
    simp only [List.map_cons, PyData.eqvAll, PyData.eqv, eqv_ints ns ms]
    by_cases h : n = m
    · by_cases h2 : ns = ms
      · simp [h, h2]
      · simp [h, h2]
    · simp [h]
theorem any_str (zs : List Str) (z : Str) : ((zs.map PyData.str).any fun y => PyData.eqv y (.str z)) = decide (z ∈ zs) := by
  induction zs with
  | nil => simp
  | cons x xs ih =>
    simp only [List.map_cons, List.any_cons, PyData.eqv, ih]
    by_cases h : x = z
    · subst h; simp
    · have h' : ¬ z = x := fun e => h e.symm
      have hb : (x == z) = false := beq_eq_false_iff_ne.mpr h
      simp [hb, h']
theorem any_int (zs : List Int) (z : Int) : ((zs.map PyData.int).any fun y => PyData.eqv y (.int z)) = decide (z ∈ zs) := by
  induction zs with
  | nil => simp
  | cons x xs ih =>
    simp only [List.map_cons, List.any_cons, PyData.eqv, ih]
    by_cases h : x = z
    · subst h; simp
    · have h' : ¬ z = x := fun e => h e.symm
      have hb : (x == z) = false := beq_eq_false_iff_ne.mpr h
      simp [hb, h']
theorem sIn_strs {neg : Bool} {z : Str} {zs : List Str} {P : Bool → D → Prop} (hz : PyData.strOk z = true) (hs : ∀ z ∈ zs, PyData.strOk z = true) (p : P false (.bool (neg ^^ decide (z ∈ zs)))) : sIn neg (.str z) (.tuple (zs.map PyData.str)) P ∧ sIn neg (.str z) (.list (zs.map PyData.str)) P := by
  obtain ⟨h1, h2⟩ := lay_strs zs hs
  have hz' : SeqAt.shaped (.str z) = true := by
    unfold SeqAt.shaped
    simp [PyData.canLay0, PyData.depth, hz]
  exact ⟨⟨hz', shaped_tuple h1 (by omega), by rw [any_str]; exact p⟩, ⟨hz', shaped_list h1 (by omega), by rw [any_str]; exact p⟩⟩
/-! ### shown -/
theorem log_small {n : Nat} (h : n < 2 ^ 60) : n.log2 < 60 := by
  by_cases h0 : n = 0
  · subst h0; decide
  · exact (Nat.log2_lt h0).mpr h
theorem ints_facts : ∀ ns : List Int, (∀ n ∈ ns, n.natAbs < 10 ^ 18) → PyData.leavesShortAll 20 (ns.map PyData.int) = true ∧ PyData.weightAll (ns.map PyData.int) ≤ 62 * ns.length ∧ PyData.showableAll (ns.map PyData.int) = true
  | [], _ => ⟨by simp [PyData.leavesShortAll], by simp [PyData.weightAll], by simp [PyData.showableAll]⟩
  | n :: ns, h => by
    obtain ⟨h1, h2, h3⟩ := ints_facts ns fun z hz => h z (List.mem_cons_of_mem _ hz)
    have hn := h n (List.mem_cons_self ..)
    have e := int_text_length_le10 (k := 18) (by decide) hn
    have hl : (PyData.shown (.int n)).length ≤ 20 := by
      show (Str.ofString (toString n)).length ≤ 20
      rw [PySem.ofString_length]; omega
    have lg : n.natAbs.log2 < 60 := log_small (by omega)
    refine ⟨?_, ?_, ?_⟩
    · simp only [List.map_cons, PyData.leavesShortAll, PyData.leavesShort, Bool.and_eq_true, decide_eq_true_eq]
      exact ⟨hl, h1⟩
    · simp only [List.map_cons, PyData.weightAll, PyData.weight, List.length_cons]
      split <;> omega
    · simp only [List.map_cons, PyData.showableAll, PyData.showable, Bool.and_eq_true, decide_eq_true_eq]
      exact ⟨by omega, h3⟩
theorem sRepr_ints {ns : List Int} {P : Bool → D → Prop} (hl : ns.length ≤ 1000) (h : ∀ n ∈ ns, n.natAbs < 10 ^ 18) (p : P false (.str (PyData.shown (.tuple (ns.map PyData.int))))) : sRepr (.tuple (ns.map PyData.int)) P := by
  obtain ⟨h1, h2, h3⟩ := ints_facts ns h
  obtain ⟨l1, l2⟩ := lay_ints ns
  have hs := PyData.shown_le 20 (by decide) (.tuple (ns.map PyData.int)) (by simpa [PyData.leavesShort] using h1)
  have hw : PyData.weight (.tuple (ns.map PyData.int)) ≤ 62 * ns.length := by simpa [PyData.weight] using h2
  refine ⟨by simpa [PyData.showable] using h3, noDict (shaped_tuple l1 (by omega)), by simp [PyData.depth, l2], ?_, p⟩
  have : (20 + 2) * PyData.weight (.tuple (ns.map PyData.int)) ≤ 22 * (62 * 1000) := Nat.mul_le_mul (by decide) (by omega)
  have e : sizeLine = 16777216 := rfl
  omega
theorem sRepr_int {n : Int} {P : Bool → D → Prop} (h : n.natAbs < 10 ^ 18) (p : P false (.str (PyData.shown (.int n)))) : sRepr (.int n) P := by
  have e := int_text_length_le10 (k := 18) (by decide) h
  have lg : n.natAbs.log2 < 60 := log_small (by omega)
  refine ⟨by simp [PyData.showable]; omega, by simp [PyData.hasDict], by simp [PyData.depth], ?_, p⟩
  show (Str.ofString (toString n)).length ≤ sizeLine
  rw [PySem.ofString_length]
  exact Nat.le_trans e (by decide)
theorem sRepr_none {P : Bool → D → Prop} (p : P false (.str (PyData.shown .none))) : sRepr .none P :=
  ⟨by simp [PyData.showable], by simp [PyData.hasDict], by simp [PyData.depth], by show (Str.ofString "None").length ≤ sizeLine; decide, p⟩
theorem sRepr_bool {b : Bool} {P : Bool → D → Prop} (p : P false (.str (PyData.shown (.bool b)))) : sRepr (.bool b) P :=
  ⟨by simp [PyData.showable], by simp [PyData.hasDict], by simp [PyData.depth], by cases b <;> (show (Str.ofString _).length ≤ sizeLine; decide), p⟩
/-! ### words for simp -/
theorem shaped_int (i : Int) : SeqAt.shaped (.int i) = true := by simp [SeqAt.shaped, PyData.canLay0, PyData.depth]
theorem shaped_bool (b : Bool) : SeqAt.shaped (.bool b) = true := by simp [SeqAt.shaped, PyData.canLay0, PyData.depth]
theorem shaped_none : SeqAt.shaped (.none) = true := by simp [SeqAt.shaped, PyData.canLay0, PyData.depth]
theorem shaped_str (z : Str) : SeqAt.shaped (.str z) = PyData.strOk z := by simp [SeqAt.shaped, PyData.canLay0, PyData.depth]
theorem shaped_il (ns : List Int) : SeqAt.shaped (.list (ns.map PyData.int)) = true := shaped_list (lay_ints ns).1 (by rw [(lay_ints ns).2]; omega)
theorem shaped_it (ns : List Int) : SeqAt.shaped (.tuple (ns.map PyData.int)) = true := shaped_tuple (lay_ints ns).1 (by rw [(lay_ints ns).2]; omega)
theorem eqv_il (ns ms : List Int) : PyData.eqv (.list (ns.map PyData.int)) (.list (ms.map PyData.int)) = decide (ns = ms) := by simp only [PyData.eqv]; exact eqv_ints ns ms
theorem eqv_it (ns ms : List Int) : PyData.eqv (.tuple (ns.map PyData.int)) (.tuple (ms.map PyData.int)) = decide (ns = ms) := by simp only [PyData.eqv]; exact eqv_ints ns ms
theorem eqv_int (i j : Int) : PyData.eqv (.int i) (.int j) = (i == j) := by simp only [PyData.eqv]
theorem eqv_str (i j : Str) : PyData.eqv (.str i) (.str j) = (i == j) := by simp only [PyData.eqv]
theorem at_getD {xs : List Int} {n : Nat} (h : n < xs.length) : atI (xs.map PyData.int) (n : Int) = some (.int (xs.getD n 0)) := by
  rw [DV.atI_nat, List.getElem?_map, List.getElem?_eq_getElem h]
  simp [List.getD, List.getElem?_eq_getElem h]
end DV
set_option Elab.async false
set_option linter.all false
set_option maxRecDepth 100000
set_option maxHeartbeats 4000000
namespace Lk02
open PySem PySem.Spec PyProof.Rows L2 DV

def nm0 : List Str := ["a", "ab", "abc", "insort", "outer", "ruler", "tone", "begins", "sort", "b", "zzzzzzzz", "x"]
def fd (a b c : Int) : MO := .lst [.int a, .int b, .int c]
/-- a rule: two rows of whole numbers from 0 up -/
def ruleD (p : List Int × List Int) : D := .tuple [.tuple (p.1.map PyData.int), .tuple (p.2.map PyData.int)]
structure PotD where
  sorts : List Str
  rules : List (List Int × List Int)
  inputs : List Nat
  begin : List Int
  answer : Nat
def PotD.d (p : PotD) : D := .tuple [.tuple (p.sorts.map PyData.str), .tuple (p.rules.map ruleD), .tuple (p.inputs.map fun (n : Nat) => PyData.int n), .tuple (p.begin.map PyData.int), .int p.answer]
structure PotD.ok (p : PotD) : Prop where
  one : 1 ≤ p.sorts.length
  few : p.sorts.length ≤ 8
  nd : p.sorts.Nodup
  nm : ∀ z ∈ p.sorts, z ∈ nm0
  rl : p.rules.length ≤ 8
  row : ∀ r ∈ p.rules, r.1.length = p.sorts.length ∧ r.2.length = p.sorts.length ∧ ∀ x ∈ r.1, 0 ≤ x
  inp : ∀ i ∈ p.inputs, i < p.sorts.length
  inl : p.inputs.length ≤ 8
  bgl : p.begin.length = p.sorts.length
  bg : ∀ x ∈ p.begin, 0 ≤ x ∧ x < 100
  ans : p.answer < p.sorts.length
def sp_sort_called : DSp := fun svs μ P _ => ∃ (p : PotD) (z : Str), svs = [.d p.d, .d (.str z)] ∧ μ = [] ∧ p.ok ∧ PyData.strOk z = true ∧ ((z ∉ p.sorts → P (.d .none) []) ∧ ∀ j : Nat, p.sorts[j]? = some z → P (.d (.int j)) [])
def sp_inputs_of : DSp := fun svs μ P _ => ∃ p : PotD, svs = [.d p.d] ∧ μ = [] ∧ P (.d (.int p.inputs.length)) []
def sp_first_taker : DSp := fun svs μ P _ => ∃ p : PotD, svs = [.d p.d] ∧ μ = [] ∧ p.ok ∧ P (.d (match p.rules.findIdx? (fun r => decide (0 < r.1.getD p.answer 0)) with
  | some i => .int i
  | none => .none)) []
def addAt (row : List Int) (p : Nat × Int) : List Int := row.set p.1 (row.getD p.1 0 + p.2)
def sp_beginning : DSp := fun svs μ P _ => ∃ (p : PotD) (am : List Int), svs = [.d p.d, .d (.tuple (am.map PyData.int))] ∧ μ = [] ∧ p.ok ∧ am.length = p.inputs.length ∧ P (.d (.tuple (((p.inputs.zip am).foldl addAt p.begin).map PyData.int))) []
def sp_l_feed : DSp := fun svs μ P _ => ∃ (ns : List Int) (k : Nat), svs = [.d (.list (ns.map PyData.int)), .d (.int k)] ∧ μ = [] ∧ k < 1000 ∧ ns.length < 1000 ∧ ∀ a b : Int, P (.loc 0) [fd a b 0]
def sp_l_draw : DSp := fun svs μ P _ => ∃ a b c many : Int, svs = [.loc 0, .d (.int many)] ∧ μ = [fd a b c] ∧ 0 < many ∧ many < 1073741824 ∧ ∀ r a' c' : Int, 0 ≤ r → r < many → P (.d (.int r)) [fd a' b c']
def sp_l_names : DSp := fun svs μ P _ => ∃ (a b c : Int) (m : Nat), svs = [.loc 0, .d (.int m)] ∧ μ = [fd a b c] ∧ m ≤ 12 ∧ ∀ (zs : List Str) (a' c' : Int), zs.length = m → zs.Nodup → (∀ z ∈ zs, z ∈ nm0) → P (.d (.list (zs.map PyData.str))) [fd a' b c']
def sp_l_rule : DSp := fun svs μ P _ => ∃ (a b c : Int) (m : Nat), svs = [.loc 0, .d (.int m)] ∧ μ = [fd a b c] ∧ 1 ≤ m ∧ m ≤ 12 ∧ ∀ (xs ys : List Int) (a' c' : Int), xs.length = m → ys.length = m → (∀ x ∈ xs, 0 ≤ x) → P (.d (ruleD (xs, ys))) [fd a' b c']
def sp_l_pot : DSp := fun svs μ P _ => ∃ a b c : Int, svs = [.loc 0] ∧ μ = [fd a b c] ∧ ∀ (p : PotD) (a' c' : Int), p.ok → P (.d p.d) [fd a' b c']
def sp_l_right : DSp := fun svs μ P _ => ∃ (p : PotD) (am : List Int), svs = [.d p.d, .d (.tuple (am.map PyData.int))] ∧ μ = [] ∧ p.ok ∧ am.length = p.inputs.length ∧ (∀ x ∈ am, 0 ≤ x ∧ x ≤ 1000000000000) ∧ P (.d (.bool true)) []
def sp_law : DSp := fun svs μ P _ => (∃ ns : List Int, ns.length ≤ 63 ∧ svs = [.d (.list (ns.map PyData.int))] ∧ μ = []) ∧ P (.d (.bool true)) []
theorem law_sp : ∀ ns : List Int, ns.length ≤ 63 → sp_law [.d (.list (ns.map PyData.int))] [] (fun y _ => y = .d (.bool true)) fun _ _ => False := fun ns h => ⟨⟨ns, h, rfl, rfl⟩, rfl⟩

abbrev pw : Program := PySem.Challenge.pw_dropsums_k02_asked_of_pots
def top (i : Nat) : Stmt := pw.main.body.getD i (.Pass ⟨0, 0, 0, 0⟩)
/-! sort_called -/
abbrev t_sort_called : Stmt := top 1
def N_sort_called : List Str := ["pot", "name"]
def B_sort_called : List Str := []
def b_sort_called : S := (.seq (.ite (.op2 .notin false (.var 1) (.op2 .ix false (.var 0) (.lit (PyData.int 0)))) (.seq (.ret false (.lit PyData.none))
  .nop) .nop)
  (.seq (.ret false (.meth mTix false (.op2 .ix false (.var 0) (.lit (PyData.int 0))) (.cons (.var 1) .nil)))
  .nop))
theorem sc_sort_called : FnScope N_sort_called ["pot", "name"] (defScope t_sort_called) := ⟨rfl, rfl, rfl, by decide +kernel, rfl, by decide +kernel, by decide +kernel⟩
theorem ck_sort_called : chkS b_sort_called ⟨N_sort_called, defScope t_sort_called, none, B_sort_called, 0⟩ (.l (defBody t_sort_called)) = true := by decide +kernel
/-! inputs_of -/
abbrev t_inputs_of : Stmt := top 2
def N_inputs_of : List Str := ["pot"]
def B_inputs_of : List Str := ["len"]
def b_inputs_of : S := (.seq (.ret false (.fn .len false (.cons (.op2 .ix false (.var 0) (.lit (PyData.int 2))) .nil)))
  .nop)
theorem sc_inputs_of : FnScope N_inputs_of ["pot"] (defScope t_inputs_of) := ⟨rfl, rfl, rfl, by decide +kernel, rfl, by decide +kernel, by decide +kernel⟩
theorem ck_inputs_of : chkS b_inputs_of ⟨N_inputs_of, defScope t_inputs_of, none, B_inputs_of, 0⟩ (.l (defBody t_inputs_of)) = true := by decide +kernel
/-! first_taker -/
abbrev t_first_taker : Stmt := top 3
def N_first_taker : List Str := ["pot", "number", "takes", "gives"]
def B_first_taker : List Str := ["enumerate"]
def b_first_taker : S := (.seq (.for_ (.tp (.cons (.nm 1) (.cons (.tp (.cons (.nm 2) (.cons (.nm 3) .nil))) .nil))) (.plugI pEnum (.cons (.op2 .ix false (.var 0) (.lit (PyData.int 1))) .nil)) (.seq (.ite (.op2 .gt false (.op2 .ix false (.var 2) (.op2 .ix false (.var 0) (.lit (PyData.int 4)))) (.lit (PyData.int 0))) (.seq (.ret false (.var 1))
  .nop) .nop)
  .nop))
  (.seq (.ret false (.lit PyData.none))
  .nop))
theorem sc_first_taker : FnScope N_first_taker ["pot"] (defScope t_first_taker) := ⟨rfl, rfl, rfl, by decide +kernel, rfl, by decide +kernel, by decide +kernel⟩
theorem ck_first_taker : chkS b_first_taker ⟨N_first_taker, defScope t_first_taker, none, B_first_taker, 0⟩ (.l (defBody t_first_taker)) = true := by decide +kernel
/-! beginning -/
abbrev t_beginning : Stmt := top 4
def N_beginning : List Str := ["pot", "amounts", "stand", "sort", "amount"]
def B_beginning : List Str := ["list", "tuple", "zip"]
def b_beginning : S := (.seq (.set (.nm 2) (.fn .lstOf true (.cons (.op2 .ix false (.var 0) (.lit (PyData.int 3))) .nil)))
  (.seq (.for_ (.tp (.cons (.nm 3) (.cons (.nm 4) .nil))) (.plugI pZip (.cons (.op2 .ix false (.var 0) (.lit (PyData.int 2))) (.cons (.var 1) .nil))) (.seq (.setix (.var 2) (.var 3) (.op2 .add false (.op2 .ix false (.var 2) (.var 3)) (.var 4)))
  .nop))
  (.seq (.ret false (.fn .tupOf false (.cons (.var 2) .nil)))
  .nop)))
theorem sc_beginning : FnScope N_beginning ["pot", "amounts"] (defScope t_beginning) := ⟨rfl, rfl, rfl, by decide +kernel, rfl, by decide +kernel, by decide +kernel⟩
theorem ck_beginning : chkS b_beginning ⟨N_beginning, defScope t_beginning, none, B_beginning, 0⟩ (.l (defBody t_beginning)) = true := by decide +kernel
/-! _law_feed -/
abbrev t_l_feed : Stmt := top 6
def N_l_feed : List Str := ["_law_script", "_law_k", "_law_cell", "_law_left"]
def B_l_feed : List Str := ["len"]
def b_l_feed : S := (.seq (.set (.nm 2) (.op2 .add false (.op2 .mul false (.lit (PyData.int 7919)) (.var 1)) (.lit (PyData.int 5))))
  (.seq (.ite (.op2 .gt false (.fn .len false (.cons (.var 0) .nil)) (.lit (PyData.int 0))) (.seq (.set (.nm 2) (.op2 .add false (.op2 .ix false (.var 0) (.op2 .mod false (.var 1) (.fn .len false (.cons (.var 0) .nil)))) (.op2 .mul false (.lit (PyData.int 104729)) (.op2 .fdiv false (.var 1) (.fn .len false (.cons (.var 0) .nil))))))
  .nop) .nop)
  (.seq (.set (.nm 3) (.ite (.op2 .ge false (.var 2) (.op2 .pow false (.lit (PyData.int 10)) (.lit (PyData.int 18)))) (.var 2) (.lit (PyData.int 0))))
  (.seq (.ret true (.lstd true (.cons (.var 3) (.cons (.op2 .add false (.op2 .add false (.op2 .mod false (.var 2) (.lit (PyData.int 2147483629))) (.op2 .mul false (.lit (PyData.int 31)) (.var 1))) (.lit (PyData.int 1))) (.cons (.lit (PyData.int 0)) .nil)))))
  .nop))))
theorem sc_l_feed : FnScope N_l_feed ["_law_script", "_law_k"] (defScope t_l_feed) := ⟨rfl, rfl, rfl, by decide +kernel, rfl, by decide +kernel, by decide +kernel⟩
theorem ck_l_feed : chkS b_l_feed ⟨N_l_feed, defScope t_l_feed, none, B_l_feed, 0⟩ (.l (defBody t_l_feed)) = true := by decide +kernel
/-! _law_draw -/
abbrev t_l_draw : Stmt := top 7
def N_l_draw : List Str := ["_law_feed_here", "_law_many", "_law_mixed", "_law_found"]
def B_l_draw : List Str := []
def b_l_draw : S := (.seq (.setix (.var 0) (.lit (PyData.int 2)) (.op2 .add false (.op2 .ix false (.var 0) (.lit (PyData.int 2))) (.lit (PyData.int 1))))
  (.seq (.ite (.op2 .gt false (.op2 .ix false (.var 0) (.lit (PyData.int 0))) (.lit (PyData.int 0))) (.seq (.set (.nm 3) (.op2 .mod false (.op2 .ix false (.var 0) (.lit (PyData.int 0))) (.var 1)))
  (.seq (.setix (.var 0) (.lit (PyData.int 0)) (.op2 .fdiv false (.op2 .ix false (.var 0) (.lit (PyData.int 0))) (.var 1)))
  (.seq (.ret false (.var 3))
  .nop))) .nop)
  (.seq (.set (.nm 2) (.op2 .mod false (.op2 .mul false (.op2 .mod false (.op2 .add false (.op2 .ix false (.var 0) (.lit (PyData.int 1))) (.op2 .mul false (.lit (PyData.int 40692)) (.op2 .ix false (.var 0) (.lit (PyData.int 2))))) (.lit (PyData.int 2147483399))) (.lit (PyData.int 48271))) (.lit (PyData.int 2147483647))))
  (.seq (.set (.nm 2) (.op2 .mod false (.op2 .mul false (.var 2) (.op2 .add false (.var 2) (.lit (PyData.int 7919)))) (.lit (PyData.int 2147483587))))
  (.seq (.ret false (.op2 .mod false (.op2 .fdiv false (.op2 .mod false (.op2 .mul false (.var 2) (.lit (PyData.int 69621))) (.lit (PyData.int 2147483629))) (.lit (PyData.int 7))) (.var 1)))
  .nop)))))
theorem sc_l_draw : FnScope N_l_draw ["_law_feed_here", "_law_many"] (defScope t_l_draw) := ⟨rfl, rfl, rfl, by decide +kernel, rfl, by decide +kernel, by decide +kernel⟩
theorem ck_l_draw : chkS b_l_draw ⟨N_l_draw, defScope t_l_draw, none, B_l_draw, 0⟩ (.l (defBody t_l_draw)) = true := by decide +kernel
/-! _law_names -/
abbrev t_l_names : Stmt := top 8
def N_l_names : List Str := ["_law_feed_here", "_law_many", "_law_some", "_law_start", "_law_step", "_law_k"]
def B_l_names : List Str := ["range"]
def b_l_names : S := (.seq (.set (.nm 2) (.lstd false (.cons (.lit (PyData.str "a")) (.cons (.lit (PyData.str "ab")) (.cons (.lit (PyData.str "abc")) (.cons (.lit (PyData.str "insort")) (.cons (.lit (PyData.str "outer")) (.cons (.lit (PyData.str "ruler")) (.cons (.lit (PyData.str "tone")) (.cons (.lit (PyData.str "begins")) (.cons (.lit (PyData.str "sort")) (.cons (.lit (PyData.str "b")) (.cons (.lit (PyData.str "zzzzzzzz")) (.cons (.lit (PyData.str "x")) .nil))))))))))))))
  (.seq (.set (.nm 3) (.call "_law_draw" 1 2 (bigSp sp_l_draw) (.cons (.var 0) (.cons (.lit (PyData.int 12)) .nil))))
  (.seq (.set (.nm 4) (.op2 .ix false (.lstd false (.cons (.lit (PyData.int 1)) (.cons (.lit (PyData.int 5)) (.cons (.lit (PyData.int 7)) (.cons (.lit (PyData.int 11)) .nil))))) (.call "_law_draw" 1 2 (bigSp sp_l_draw) (.cons (.var 0) (.cons (.lit (PyData.int 4)) .nil)))))
  (.seq (.ret false (.lc false (.nm 5) (.rng false (.cons (.var 1) .nil)) .nil (.op2 .ix false (.var 2) (.op2 .mod false (.op2 .add false (.var 3) (.op2 .mul false (.var 4) (.var 5))) (.lit (PyData.int 12)))) [("_law_k", 5)]))
  .nop))))
theorem sc_l_names : FnScope N_l_names ["_law_feed_here", "_law_many"] (defScope t_l_names) := ⟨rfl, rfl, rfl, by decide +kernel, rfl, by decide +kernel, by decide +kernel⟩
theorem ck_l_names : chkS b_l_names ⟨N_l_names, defScope t_l_names, none, B_l_names, 1⟩ (.l (defBody t_l_names)) = true := by decide +kernel
/-! _law_rule -/
abbrev t_l_rule : Stmt := top 9
def N_l_rule : List Str := ["_law_feed_here", "_law_many", "_law_takes", "_law_gives", "_law_j", "_law_way", "_law_sort"]
def B_l_rule : List Str := ["int", "range", "tuple"]
def b_l_rule : S := (.seq (.setc 2 true (.nm 6) (.rng false (.cons (.var 1) .nil)) .nil (.lit (PyData.int 0)) [("_law_sort", 6)])
  (.seq (.setc 3 true (.nm 6) (.rng false (.cons (.var 1) .nil)) .nil (.lit (PyData.int 0)) [("_law_sort", 6)])
  (.seq (.for_ (.nm 4) (.rng false (.cons (.op2 .add false (.lit (PyData.int 1)) (.call "_law_draw" 1 2 (bigSp sp_l_draw) (.cons (.var 0) (.cons (.lit (PyData.int 3)) .nil)))) .nil)) (.seq (.set (.nm 6) (.call "_law_draw" 1 2 (bigSp sp_l_draw) (.cons (.var 0) (.cons (.var 1) .nil))))
  (.seq (.setix (.var 2) (.var 6) (.op2 .add false (.op2 .add false (.op2 .ix false (.var 2) (.var 6)) (.lit (PyData.int 1))) (.call "_law_draw" 1 2 (bigSp sp_l_draw) (.cons (.var 0) (.cons (.lit (PyData.int 2)) .nil)))))
  .nop)))
  (.seq (.for_ (.nm 4) (.rng false (.cons (.call "_law_draw" 1 2 (bigSp sp_l_draw) (.cons (.var 0) (.cons (.lit (PyData.int 4)) .nil))) .nil)) (.seq (.set (.nm 6) (.call "_law_draw" 1 2 (bigSp sp_l_draw) (.cons (.var 0) (.cons (.var 1) .nil))))
  (.seq (.setix (.var 3) (.var 6) (.op2 .add false (.op2 .add false (.op2 .ix false (.var 3) (.var 6)) (.lit (PyData.int 1))) (.call "_law_draw" 1 2 (bigSp sp_l_draw) (.cons (.var 0) (.cons (.lit (PyData.int 3)) .nil)))))
  .nop)))
  (.seq (.set (.nm 5) (.call "_law_draw" 1 2 (bigSp sp_l_draw) (.cons (.var 0) (.cons (.lit (PyData.int 8)) .nil))))
  (.seq (.set (.nm 6) (.call "_law_draw" 1 2 (bigSp sp_l_draw) (.cons (.var 0) (.cons (.var 1) .nil))))
  (.seq (.ite (.op2 .lt false (.var 5) (.lit (PyData.int 2))) (.seq (.setix (.var 3) (.var 6) (.op2 .ix false (.var 2) (.var 6)))
  .nop) .nop)
  (.seq (.ite (.op2 .eq false (.var 5) (.lit (PyData.int 2))) (.seq (.setix (.var 2) (.var 6) (.lit (PyData.int 9)))
  .nop) .nop)
  (.seq (.ite (.op2 .eq false (.var 2) (.var 3)) (.seq (.setix (.var 3) (.var 6) (.op2 .ix false (.lstd false (.cons (.op2 .add false (.op2 .ix false (.var 3) (.var 6)) (.lit (PyData.int 1))) (.cons (.lit (PyData.int 0)) .nil))) (.fn .intOf false (.cons (.op2 .eq false (.op2 .ix false (.var 2) (.var 6)) (.lit (PyData.int 9))) .nil))))
  .nop) .nop)
  (.seq (.ret false (.tupd (.cons (.fn .tupOf false (.cons (.var 2) .nil)) (.cons (.fn .tupOf false (.cons (.var 3) .nil)) .nil))))
  .nop))))))))))
theorem sc_l_rule : FnScope N_l_rule ["_law_feed_here", "_law_many"] (defScope t_l_rule) := ⟨rfl, rfl, rfl, by decide +kernel, rfl, by decide +kernel, by decide +kernel⟩
theorem ck_l_rule : chkS b_l_rule ⟨N_l_rule, defScope t_l_rule, none, B_l_rule, 1⟩ (.l (defBody t_l_rule)) = true := by decide +kernel
/-! _law_pot -/
abbrev t_l_pot : Stmt := top 10
def N_l_pot : List Str := ["_law_feed_here", "_law_many", "_law_sorts", "_law_rules", "_law_left", "_law_inputs", "_law_k", "_law_begin", "_law_sort"]
def B_l_pot : List Str := ["len", "list", "min", "range", "tuple"]
def b_l_pot : S := (.seq (.set (.nm 1) (.op2 .ix false (.lstd false (.cons (.lit (PyData.int 1)) (.cons (.lit (PyData.int 2)) (.cons (.lit (PyData.int 3)) (.cons (.lit (PyData.int 3)) (.cons (.lit (PyData.int 4)) (.cons (.lit (PyData.int 5)) (.cons (.lit (PyData.int 6)) (.cons (.lit (PyData.int 8)) .nil))))))))) (.call "_law_draw" 1 2 (bigSp sp_l_draw) (.cons (.var 0) (.cons (.lit (PyData.int 8)) .nil)))))
  (.seq (.set (.nm 2) (.fn .tupOf false (.cons (.call "_law_names" 2 2 (bigSp sp_l_names) (.cons (.var 0) (.cons (.var 1) .nil))) .nil)))
  (.seq (.set (.nm 3) (.fn .tupOf false (.cons (.lc false (.nm 6) (.rng false (.cons (.op2 .ix false (.lstd false (.cons (.lit (PyData.int 0)) (.cons (.lit (PyData.int 1)) (.cons (.lit (PyData.int 2)) (.cons (.lit (PyData.int 2)) (.cons (.lit (PyData.int 3)) (.cons (.lit (PyData.int 4)) (.cons (.lit (PyData.int 5)) (.cons (.lit (PyData.int 8)) .nil))))))))) (.call "_law_draw" 1 2 (bigSp sp_l_draw) (.cons (.var 0) (.cons (.lit (PyData.int 8)) .nil)))) .nil)) .nil (.call "_law_rule" 2 2 (bigSp sp_l_rule) (.cons (.var 0) (.cons (.var 1) .nil))) [("_law_k", 6)]) .nil)))
  (.seq (.set (.nm 4) (.plug pListRg true (.cons (.var 1) .nil)))
  (.seq (.set (.nm 5) (.lstd true .nil))
  (.seq (.for_ (.nm 6) (.rng false (.cons (.fn .min2 false (.cons (.var 1) (.cons (.op2 .ix false (.lstd false (.cons (.lit (PyData.int 0)) (.cons (.lit (PyData.int 1)) (.cons (.lit (PyData.int 2)) (.cons (.lit (PyData.int 2)) (.cons (.lit (PyData.int 3)) .nil)))))) (.call "_law_draw" 1 2 (bigSp sp_l_draw) (.cons (.var 0) (.cons (.lit (PyData.int 5)) .nil)))) .nil))) .nil)) (.seq (.ex (.mth .append (.var 5) (.cons (.mth .popAt (.var 4) (.cons (.call "_law_draw" 1 2 (bigSp sp_l_draw) (.cons (.var 0) (.cons (.fn .len false (.cons (.var 4) .nil)) .nil))) .nil)) .nil)))
  .nop))
  (.seq (.set (.nm 7) (.fn .tupOf false (.cons (.lc false (.nm 8) (.var 2) .nil (.op2 .ix false (.lstd false (.cons (.lit (PyData.int 0)) (.cons (.lit (PyData.int 0)) (.cons (.lit (PyData.int 1)) (.cons (.lit (PyData.int 2)) (.cons (.lit (PyData.int 99)) (.cons (.call "_law_draw" 1 2 (bigSp sp_l_draw) (.cons (.var 0) (.cons (.lit (PyData.int 100)) .nil))) .nil))))))) (.call "_law_draw" 1 2 (bigSp sp_l_draw) (.cons (.var 0) (.cons (.lit (PyData.int 6)) .nil)))) [("_law_sort", 8)]) .nil)))
  (.seq (.ret false (.tupd (.cons (.var 2) (.cons (.var 3) (.cons (.fn .tupOf false (.cons (.var 5) .nil)) (.cons (.var 7) (.cons (.call "_law_draw" 1 2 (bigSp sp_l_draw) (.cons (.var 0) (.cons (.var 1) .nil))) .nil)))))))
  .nop))))))))
theorem sc_l_pot : FnScope N_l_pot ["_law_feed_here"] (defScope t_l_pot) := ⟨rfl, rfl, rfl, by decide +kernel, rfl, by decide +kernel, by decide +kernel⟩
theorem ck_l_pot : chkS b_l_pot ⟨N_l_pot, defScope t_l_pot, none, B_l_pot, 2⟩ (.l (defBody t_l_pot)) = true := by decide +kernel
/-! _law_right -/
abbrev t_l_right : Stmt := top 11
def N_l_right : List Str := ["_law_pot_here", "_law_amounts", "_law_name", "_law_takers", "_law_due", "_law_sort", "_law_sorts", "_law_rules", "_law_inputs", "_law_begin", "_law_answer", "_law_number", "_law_more", "_law_k"]
def B_l_right : List Str := ["len", "list", "range", "repr", "sum", "tuple"]
def b_l_right : S := (.seq (.set (.tp (.cons (.nm 6) (.cons (.nm 7) (.cons (.nm 8) (.cons (.nm 9) (.cons (.nm 10) .nil)))))) (.var 0))
  (.seq (.for_ (.nm 2) (.op2 .add false (.fn .lstOf false (.cons (.var 6) .nil)) (.lstd false (.cons (.lit (PyData.str "a")) (.cons (.lit (PyData.str "sort")) (.cons (.lit (PyData.str "y")) (.cons (.lit (PyData.str "")) (.cons (.lit (PyData.str "to")) (.cons (.lit (PyData.str "abcd")) (.cons (.lit (PyData.str "Sort")) (.cons (.lit (PyData.str "ab c")) .nil)))))))))) (.seq (.set (.nm 4) (.lit PyData.none))
  (.seq (.for_ (.nm 11) (.rng false (.cons (.fn .len false (.cons (.var 6) .nil)) .nil)) (.seq (.ite (.op2 .eq false (.op2 .ix false (.var 6) (.var 11)) (.var 2)) (.seq (.set (.nm 4) (.var 11))
  .nop) .nop)
  .nop))
  (.seq (.ite (.op2 .ne false (.fn .repr false (.cons (.call "sort_called" 1 2 (bigSp sp_sort_called) (.cons (.var 0) (.cons (.var 2) .nil))) .nil)) (.fn .repr false (.cons (.var 4) .nil))) (.seq (.ret false (.lit (PyData.bool false)))
  .nop) .nop)
  .nop))))
  (.seq (.set (.nm 3) (.op2 .add false (.lc false (.nm 11) (.rng false (.cons (.fn .len false (.cons (.var 7) .nil)) .nil)) (.op2 .ne false (.op2 .ix false (.op2 .ix false (.op2 .ix false (.var 7) (.var 11)) (.lit (PyData.int 0))) (.var 10)) (.lit (PyData.int 0))) (.var 11) [("_law_number", 11)]) (.lstd false (.cons (.lit PyData.none) .nil))))
  (.seq (.ite (.or (.op2 .ne false (.fn .repr false (.cons (.call "first_taker" 1 1 (bigSp sp_first_taker) (.cons (.var 0) .nil)) .nil)) (.fn .repr false (.cons (.op2 .ix false (.var 3) (.lit (PyData.int 0))) .nil))) (.op2 .ne false (.fn .repr false (.cons (.call "inputs_of" 1 1 (bigSp sp_inputs_of) (.cons (.var 0) .nil)) .nil)) (.fn .repr false (.cons (.fn .len false (.cons (.var 8) .nil)) .nil)))) (.seq (.ret false (.lit (PyData.bool false)))
  .nop) .nop)
  (.seq (.set (.nm 4) (.lstd true .nil))
  (.seq (.for_ (.nm 5) (.rng false (.cons (.fn .len false (.cons (.var 6) .nil)) .nil)) (.seq (.setc 12 false (.nm 13) (.rng false (.cons (.fn .len false (.cons (.var 8) .nil)) .nil)) (.op2 .eq false (.op2 .ix false (.var 8) (.var 13)) (.var 5)) (.op2 .ix false (.var 1) (.var 13)) [("_law_k", 13)])
  (.seq (.ex (.mth .append (.var 4) (.cons (.op2 .add false (.op2 .ix false (.var 9) (.var 5)) (.fn .sum false (.cons (.var 12) .nil))) .nil)))
  .nop)))
  (.seq (.ret false (.op2 .eq false (.fn .repr false (.cons (.call "beginning" 1 2 (bigSp sp_beginning) (.cons (.var 0) (.cons (.var 1) .nil))) .nil)) (.fn .repr false (.cons (.fn .tupOf false (.cons (.var 4) .nil)) .nil))))
  .nop)))))))
theorem sc_l_right : FnScope N_l_right ["_law_pot_here", "_law_amounts"] (defScope t_l_right) := ⟨rfl, rfl, rfl, by decide +kernel, rfl, by decide +kernel, by decide +kernel⟩
theorem ck_l_right : chkS b_l_right ⟨N_l_right, defScope t_l_right, none, B_l_right, 1⟩ (.l (defBody t_l_right)) = true := by decide +kernel
/-! law -/
abbrev t_law : Stmt := top 12
def N_law : List Str := ["_law_script", "_law_some", "_law_k", "_law_feed_here", "_law_pot_here", "_law_amounts", "_law_one"]
def B_law : List Str := ["range", "tuple"]
def b_law : S := (.seq (.set (.nm 1) (.lstd true .nil))
  (.seq (.for_ (.nm 2) (.rng false (.cons (.lit (PyData.int 8)) .nil)) (.seq (.set (.nm 3) (.call "_law_feed" 1 2 (bigSp sp_l_feed) (.cons (.var 0) (.cons (.var 2) .nil))))
  (.seq (.set (.nm 4) (.call "_law_pot" 3 1 (bigSp sp_l_pot) (.cons (.var 3) .nil)))
  (.seq (.set (.nm 5) (.fn .tupOf false (.cons (.lc false (.nm 6) (.op2 .ix false (.var 4) (.lit (PyData.int 2))) .nil (.op2 .ix false (.lstd false (.cons (.lit (PyData.int 0)) (.cons (.lit (PyData.int 1)) (.cons (.op2 .pow false (.lit (PyData.int 10)) (.lit (PyData.int 12))) (.cons (.call "_law_draw" 1 2 (bigSp sp_l_draw) (.cons (.var 3) (.cons (.lit (PyData.int 50)) .nil))) .nil))))) (.call "_law_draw" 1 2 (bigSp sp_l_draw) (.cons (.var 3) (.cons (.lit (PyData.int 4)) .nil)))) [("_law_one", 6)]) .nil)))
  (.seq (.ex (.mth .append (.var 1) (.cons (.tupd (.cons (.var 4) (.cons (.var 5) .nil))) .nil)))
  .nop)))))
  (.seq (.for_ (.tp (.cons (.nm 4) (.cons (.nm 5) .nil))) (.op2 .add false (.var 1) (.plug pRev false (.cons (.var 1) .nil))) (.seq (.ite (.not (.call "_law_right" 2 2 (bigSp sp_l_right) (.cons (.var 4) (.cons (.var 5) .nil)))) (.seq (.ret false (.lit (PyData.bool false)))
  .nop) .nop)
  .nop))
  (.seq (.ret false (.lit (PyData.bool true)))
  .nop))))
theorem sc_law : FnScope N_law ["_law_script"] (defScope t_law) := ⟨rfl, rfl, rfl, by decide +kernel, rfl, by decide +kernel, by decide +kernel⟩
theorem ck_law : chkS b_law ⟨N_law, defScope t_law, none, B_law, 3⟩ (.l (defBody t_law)) = true := by decide +kernel
def cs : List (Str × D) := []
def allF : List Str := ["sort_called", "inputs_of", "first_taker", "beginning", "_law_feed", "_law_draw", "_law_names", "_law_rule", "_law_pot", "_law_right", "law"]
def allB : List Str := ["enumerate", "int", "len", "list", "min", "range", "repr", "sum", "tuple", "zip"]
def fa : List He.Fa := allF.map He.Fa.glo ++ allB.map He.Fa.free
theorem sub_sort_called : ∀ x ∈ B_sort_called, x ∈ allB := by decide +kernel
theorem sub_inputs_of : ∀ x ∈ B_inputs_of, x ∈ allB := by decide +kernel
theorem sub_first_taker : ∀ x ∈ B_first_taker, x ∈ allB := by decide +kernel
theorem sub_beginning : ∀ x ∈ B_beginning, x ∈ allB := by decide +kernel
theorem sub_l_feed : ∀ x ∈ B_l_feed, x ∈ allB := by decide +kernel
theorem sub_l_draw : ∀ x ∈ B_l_draw, x ∈ allB := by decide +kernel
theorem sub_l_names : ∀ x ∈ B_l_names, x ∈ allB := by decide +kernel
theorem sub_l_rule : ∀ x ∈ B_l_rule, x ∈ allB := by decide +kernel
theorem sub_l_pot : ∀ x ∈ B_l_pot, x ∈ allB := by decide +kernel
theorem sub_l_right : ∀ x ∈ B_l_right, x ∈ allB := by decide +kernel
theorem sub_law : ∀ x ∈ B_law, x ∈ allB := by decide +kernel
def d_sort_called : He.DefD := ⟨("sort_called", none), "sort_called", "sort_called", defArgs t_sort_called, defBody t_sort_called, defScope t_sort_called, [], []⟩
def d_inputs_of : He.DefD := ⟨("inputs_of", none), "inputs_of", "inputs_of", defArgs t_inputs_of, defBody t_inputs_of, defScope t_inputs_of, [], []⟩
def d_first_taker : He.DefD := ⟨("first_taker", none), "first_taker", "first_taker", defArgs t_first_taker, defBody t_first_taker, defScope t_first_taker, [], []⟩
def d_beginning : He.DefD := ⟨("beginning", none), "beginning", "beginning", defArgs t_beginning, defBody t_beginning, defScope t_beginning, [], []⟩
def d_l_feed : He.DefD := ⟨("_law_feed", none), "_law_feed", "_law_feed", defArgs t_l_feed, defBody t_l_feed, defScope t_l_feed, [], []⟩
def d_l_draw : He.DefD := ⟨("_law_draw", none), "_law_draw", "_law_draw", defArgs t_l_draw, defBody t_l_draw, defScope t_l_draw, [], []⟩
def d_l_names : He.DefD := ⟨("_law_names", none), "_law_names", "_law_names", defArgs t_l_names, defBody t_l_names, defScope t_l_names, [], []⟩
def d_l_rule : He.DefD := ⟨("_law_rule", none), "_law_rule", "_law_rule", defArgs t_l_rule, defBody t_l_rule, defScope t_l_rule, [], []⟩
def d_l_pot : He.DefD := ⟨("_law_pot", none), "_law_pot", "_law_pot", defArgs t_l_pot, defBody t_l_pot, defScope t_l_pot, [], []⟩
def d_l_right : He.DefD := ⟨("_law_right", none), "_law_right", "_law_right", defArgs t_l_right, defBody t_l_right, defScope t_l_right, [], []⟩
def d_law : He.DefD := ⟨("law", none), "law", "law", defArgs t_law, defBody t_law, defScope t_law, [], []⟩
def fn : List He.DefD := [d_sort_called, d_inputs_of, d_first_taker, d_beginning, d_l_feed, d_l_draw, d_l_names, d_l_rule, d_l_pot, d_l_right, d_law]
end Lk02
set_option Elab.async false
set_option linter.all false
set_option maxRecDepth 100000
set_option maxHeartbeats 4000000
namespace Lk02
open PySem PySem.Spec PyProof.Rows L2 DV
theorem draw0 {a b c many : Int} {rest : Store} {P : SV → Store → Prop} {PE : Exn → Store → Prop} (h0 : 0 < many) (h1 : many < 1073741824) (k : ∀ r a' c' : Int, 0 ≤ r → r < many → P (.d (.int r)) (fd a' b c' :: rest)) : bigSp sp_l_draw [.loc 0, .d (.int many)] (fd a b c :: rest) P PE :=
  big_in [0] [.loc 0, .d (.int many)] [fd a b c] (by decide) rfl rfl ⟨a, b, c, many, rfl, rfl, h0, h1, fun r a' c' q1 q2 => (by
    show P (.d (.int r)) (putB (fd a b c :: rest) [0] [fd a' b c'])
    rw [putB_zero]; exact k r a' c' q1 q2)⟩
theorem names0 {a b c : Int} {m : Nat} {rest : Store} {P : SV → Store → Prop} {PE : Exn → Store → Prop} (hm : m ≤ 12) (k : ∀ (zs : List Str) (a' c' : Int), zs.length = m → zs.Nodup → (∀ z ∈ zs, z ∈ nm0) → P (.d (.list (zs.map PyData.str))) (fd a' b c' :: rest)) : bigSp sp_l_names [.loc 0, .d (.int m)] (fd a b c :: rest) P PE :=
  big_in [0] [.loc 0, .d (.int m)] [fd a b c] (by decide) rfl rfl ⟨a, b, c, m, rfl, rfl, hm, fun zs a' c' h1 h2 h3 => (by
    show P (.d (.list (zs.map PyData.str))) (putB (fd a b c :: rest) [0] [fd a' b c'])
    rw [putB_zero]; exact k zs a' c' h1 h2 h3)⟩
theorem rule0 {a b c : Int} {m : Nat} {rest : Store} {P : SV → Store → Prop} {PE : Exn → Store → Prop} (h1 : 1 ≤ m) (hm : m ≤ 12) (k : ∀ (xs ys : List Int) (a' c' : Int), xs.length = m → ys.length = m → (∀ x ∈ xs, 0 ≤ x) → P (.d (ruleD (xs, ys))) (fd a' b c' :: rest)) : bigSp sp_l_rule [.loc 0, .d (.int m)] (fd a b c :: rest) P PE :=
  big_in [0] [.loc 0, .d (.int m)] [fd a b c] (by decide) rfl rfl ⟨a, b, c, m, rfl, rfl, h1, hm, fun xs ys a' c' h1 h2 h3 => (by
    show P (.d (ruleD (xs, ys))) (putB (fd a b c :: rest) [0] [fd a' b c'])
    rw [putB_zero]; exact k xs ys a' c' h1 h2 h3)⟩
theorem map_erase {α β : Type} (f : α → β) : ∀ (l : List α) (j : Nat), (l.map f).eraseIdx j = (l.eraseIdx j).map f
  | [], _ => rfl
  | _ :: _, 0 => rfl
  | a :: l, j + 1 => by
    show f a :: (l.map f).eraseIdx j = f a :: (l.eraseIdx j).map f
    rw [map_erase f l j]
theorem nm0_ok : ∀ z ∈ nm0, PyData.strOk z = true := by decide +kernel
theorem PotD.ok.strs {p : PotD} (h : p.ok) : ∀ z ∈ p.sorts, PyData.strOk z = true := fun z hz => nm0_ok z (h.nm z hz)
theorem sem_l_feed : ∀ svs μ P PE, svs.length = 2 → sp_l_feed svs μ P PE → sx (fun x _ μ' => gcX μ.length μ' (PE x)) b_l_feed (startE N_l_feed svs) μ (fun _ μ' => gcK μ.length (.d .none) μ' P) (fun x μ' => gcK μ.length x μ' P) := by
  intro svs μ P PE hl h
  obtain ⟨ns, kk, rfl, rfl, h1, h2, k⟩ := h
  have p18 : CPow 10 18 := ⟨by decide, by decide, by decide⟩
  by_cases h0 : ns.length = 0
  · have h00 : ns = [] := List.eq_nil_of_length_eq_zero h0
    subst h00
    simp [b_l_feed, N_l_feed, sx, sem, mkV, tOf, varK, startE, locK, intK, frzK, lstK, ixN_of, atI_of, sEq, twoStr, shaped_int, shaped_bool, shaped_none, shaped_str, shaped_il, shaped_it, eqv_il, eqv_it, eqv_int, eqv_str, viewK, view1, truthK, iterK, resK, retK, notK, andK, orK, oneK, tyK, mutK, rngK, Op.f, f1, f2, sIx, sAdd, sSub, sMul, sFdiv, sMod, sPow, sNeg, sLt, sLe, sGt, sGe, sLen, sTup, sLst, sInt, sAbs, sMin2, sMax2, sSl, sIsN, isNone, gcK, gcX, fitO, fitV, bindT, forGo, wipeE, List.map_cons, List.map_nil, List.replicate, List.length_cons, List.length_nil, List.getElem?_cons_zero, List.getElem?_cons_succ, List.set_cons_zero, List.set_cons_succ, List.cons_append, List.nil_append, List.append_nil, List.take, List.all_cons, List.all_nil, Bool.and_self, Bool.and_true, Bool.true_and, Option.bind_some, Option.bind, Option.some.injEq, frzL]
    refine ⟨mulS (by omega) (by omega), p18, ?_⟩
    split
    · exact ⟨mulS (by omega) (by omega), by decide, k _ _⟩
    · exact ⟨mulS (by omega) (by omega), by decide, k _ _⟩
  · have q := fm_b (a := (kk : Int)) (m := ns.length) (by omega)
    obtain ⟨x, hx, ex⟩ := atI_some (xs := ns.map PyData.int) q.1 (by rw [List.length_map]; exact q.2)
    obtain ⟨v, _, rfl⟩ := List.mem_map.mp hx
    simp [b_l_feed, N_l_feed, sx, sem, mkV, tOf, varK, startE, locK, intK, frzK, lstK, ixN_of, atI_of, sEq, twoStr, shaped_int, shaped_bool, shaped_none, shaped_str, shaped_il, shaped_it, eqv_il, eqv_it, eqv_int, eqv_str, viewK, view1, truthK, iterK, resK, retK, notK, andK, orK, oneK, tyK, mutK, rngK, Op.f, f1, f2, sIx, sAdd, sSub, sMul, sFdiv, sMod, sPow, sNeg, sLt, sLe, sGt, sGe, sLen, sTup, sLst, sInt, sAbs, sMin2, sMax2, sSl, sIsN, isNone, gcK, gcX, fitO, fitV, bindT, forGo, wipeE, List.map_cons, List.map_nil, List.replicate, List.length_cons, List.length_nil, List.getElem?_cons_zero, List.getElem?_cons_succ, List.set_cons_zero, List.set_cons_succ, List.cons_append, List.nil_append, List.append_nil, List.take, List.all_cons, List.all_nil, Bool.and_self, Bool.and_true, Bool.true_and, Option.bind_some, Option.bind, Option.some.injEq, frzL, ex]
    have f0 : 0 ≤ (kk : Int).fdiv ns.length := Int.fdiv_nonneg (by omega) (by omega)
    have f1 : (kk : Int).fdiv ns.length < 2 ^ 62 := by
      have := Int.fdiv_le_self (a := (kk : Int)) (b := ns.length) (by omega)
      omega
    have nz : ¬ ns = [] := fun z => h0 (by rw [z]; rfl)
    rw [if_pos (by omega)]
    refine ⟨mulS (by omega) (by omega), nz, ⟨nz, .inl (by omega)⟩, mulS (by omega) (by omega), p18, ?_⟩
    split
    · exact ⟨mulS (by omega) (by omega), by decide, k _ _⟩
    · exact ⟨mulS (by omega) (by omega), by decide, k _ _⟩
theorem sem_l_draw : ∀ svs μ P PE, svs.length = 2 → sp_l_draw svs μ P PE → sx (fun x _ μ' => gcX μ.length μ' (PE x)) b_l_draw (startE N_l_draw svs) μ (fun _ μ' => gcK μ.length (.d .none) μ' P) (fun x μ' => gcK μ.length x μ' P) := by
  intro svs μ P PE hl h
  obtain ⟨a, b, c, many, rfl, rfl, h1, h2, k⟩ := h
  simp [fd, b_l_draw, N_l_draw, sx, sem, mkV, tOf, varK, startE, locK, intK, frzK, lstK, ixN_of, atI_of, sEq, twoStr, shaped_int, shaped_bool, shaped_none, shaped_str, shaped_il, shaped_it, eqv_il, eqv_it, eqv_int, eqv_str, viewK, view1, truthK, iterK, resK, retK, notK, andK, orK, oneK, tyK, mutK, rngK, Op.f, f1, f2, sIx, sAdd, sSub, sMul, sFdiv, sMod, sPow, sNeg, sLt, sLe, sGt, sGe, sLen, sTup, sLst, sInt, sAbs, sMin2, sMax2, sSl, sIsN, isNone, gcK, gcX, fitO, fitV, bindT, forGo, wipeE, List.map_cons, List.map_nil, List.replicate, List.length_cons, List.length_nil, List.getElem?_cons_zero, List.getElem?_cons_succ, List.set_cons_zero, List.set_cons_succ, List.cons_append, List.nil_append, List.append_nil, List.take, List.all_cons, List.all_nil, Bool.and_self, Bool.and_true, Bool.true_and, Option.bind_some, Option.bind, Option.some.injEq]
  have m0 : ¬ many = 0 := by omega
  split
  · have q := fm_b (a := a) h1
    exact ⟨m0, ⟨m0, .inl (by omega)⟩, k _ _ _ q.1 q.2⟩
  · have q1 := fm_b (a := b + 40692 * (c + 1)) (m := 2147483399) (by omega)
    have q2 := fm_b (a := (b + 40692 * (c + 1)).fmod 2147483399 * 48271) (m := 2147483647) (by omega)
    refine ⟨mulS (by omega) (by omega), mulR (by omega) (by omega), mulS (by omega) (by omega), mulR (by omega) (by omega), m0, ?_⟩
    have q := fm_b (a := ((((((b + 40692 * (c + 1)).fmod 2147483399 * 48271).fmod 2147483647 * (((b + 40692 * (c + 1)).fmod 2147483399 * 48271).fmod 2147483647 + 7919)).fmod 2147483587 * 69621).fmod 2147483629).fdiv 7)) h1
    exact k _ _ _ q.1 q.2
theorem names_nd (s t : Nat) (hs : s < 12) (ht : t = 1 ∨ t = 5 ∨ t = 7 ∨ t = 11) : ((List.range 12).map fun k => nm0.getD ((s + t * k) % 12) "").Nodup := by
  have h : ∀ s < 12, ((List.range 12).map fun k => nm0.getD ((s + 1 * k) % 12) "").Nodup ∧ ((List.range 12).map fun k => nm0.getD ((s + 5 * k) % 12) "").Nodup ∧ ((List.range 12).map fun k => nm0.getD ((s + 7 * k) % 12) "").Nodup ∧ ((List.range 12).map fun k => nm0.getD ((s + 11 * k) % 12) "").Nodup := by decide +kernel
  obtain ⟨h1, h2, h3, h4⟩ := h s hs
  rcases ht with rfl | rfl | rfl | rfl
  · exact h1
  · exact h2
  · exact h3
  · exact h4
theorem sem_l_names : ∀ svs μ P PE, svs.length = 2 → sp_l_names svs μ P PE → sx (fun x _ μ' => gcX μ.length μ' (PE x)) b_l_names (startE N_l_names svs) μ (fun _ μ' => gcK μ.length (.d .none) μ' P) (fun x μ' => gcK μ.length x μ' P) := by
  intro svs μ P PE hl h
  obtain ⟨a, b, c, m, rfl, rfl, hm, k⟩ := h
  unfold b_l_names
  refine seq_step fun K hK => ?_
  simp [N_l_names, sx, sem, mkV, tOf, varK, startE, locK, intK, frzK, lstK, ixN_of, atI_of, sEq, twoStr, shaped_int, shaped_bool, shaped_none, shaped_str, shaped_il, shaped_it, eqv_il, eqv_it, eqv_int, eqv_str, viewK, view1, truthK, iterK, resK, retK, notK, andK, orK, oneK, tyK, mutK, rngK, Op.f, f1, f2, sIx, sAdd, sSub, sMul, sFdiv, sMod, sPow, sNeg, sLt, sLe, sGt, sGe, sLen, sTup, sLst, sInt, sAbs, sMin2, sMax2, sSl, sIsN, isNone, gcK, gcX, fitO, fitV, bindT, forGo, wipeE, List.map_cons, List.map_nil, List.replicate, List.length_cons, List.length_nil, List.getElem?_cons_zero, List.getElem?_cons_succ, List.set_cons_zero, List.set_cons_succ, List.cons_append, List.nil_append, List.append_nil, List.take, List.all_cons, List.all_nil, Bool.and_self, Bool.and_true, Bool.true_and, Option.bind_some, Option.bind, Option.some.injEq, frzL]
  refine ⟨by decide, ?_⟩
  rw [hK]; clear hK K
  refine seq_step fun K hK => ?_
  simp [sx, sem, mkV, tOf, varK, startE, locK, intK, frzK, lstK, ixN_of, atI_of, sEq, twoStr, shaped_int, shaped_bool, shaped_none, shaped_str, shaped_il, shaped_it, eqv_il, eqv_it, eqv_int, eqv_str, viewK, view1, truthK, iterK, resK, retK, notK, andK, orK, oneK, tyK, mutK, rngK, Op.f, f1, f2, sIx, sAdd, sSub, sMul, sFdiv, sMod, sPow, sNeg, sLt, sLe, sGt, sGe, sLen, sTup, sLst, sInt, sAbs, sMin2, sMax2, sSl, sIsN, isNone, gcK, gcX, fitO, fitV, bindT, forGo, wipeE, List.map_cons, List.map_nil, List.replicate, List.length_cons, List.length_nil, List.getElem?_cons_zero, List.getElem?_cons_succ, List.set_cons_zero, List.set_cons_succ, List.cons_append, List.nil_append, List.append_nil, List.take, List.all_cons, List.all_nil, Bool.and_self, Bool.and_true, Bool.true_and, Option.bind_some, Option.bind, Option.some.injEq, frzL]
  refine draw0 (by omega) (by omega) fun r1 a1 c1 q1 q2 => ?_
  rw [hK]; clear hK K
  refine seq_step fun K hK => ?_
  simp [sx, sem, mkV, tOf, varK, startE, locK, intK, frzK, lstK, ixN_of, atI_of, sEq, twoStr, shaped_int, shaped_bool, shaped_none, shaped_str, shaped_il, shaped_it, eqv_il, eqv_it, eqv_int, eqv_str, viewK, view1, truthK, iterK, resK, retK, notK, andK, orK, oneK, tyK, mutK, rngK, Op.f, f1, f2, sIx, sAdd, sSub, sMul, sFdiv, sMod, sPow, sNeg, sLt, sLe, sGt, sGe, sLen, sTup, sLst, sInt, sAbs, sMin2, sMax2, sSl, sIsN, isNone, gcK, gcX, fitO, fitV, bindT, forGo, wipeE, List.map_cons, List.map_nil, List.replicate, List.length_cons, List.length_nil, List.getElem?_cons_zero, List.getElem?_cons_succ, List.set_cons_zero, List.set_cons_succ, List.cons_append, List.nil_append, List.append_nil, List.take, List.all_cons, List.all_nil, Bool.and_self, Bool.and_true, Bool.true_and, Option.bind_some, Option.bind, Option.some.injEq, frzL]
  refine ⟨by decide, draw0 (by omega) (by omega) fun r2 a2 c2 q3 q4 => ?_⟩
  have ht : ∃ t : Nat, (t = 1 ∨ t = 5 ∨ t = 7 ∨ t = 11) ∧ atI [PyData.int 1, PyData.int 5, PyData.int 7, PyData.int 11] r2 = some (.int t) := by
    have : r2 = 0 ∨ r2 = 1 ∨ r2 = 2 ∨ r2 = 3 := by omega
    rcases this with rfl | rfl | rfl | rfl
    · exact ⟨1, by simp, rfl⟩
    · exact ⟨5, by simp, rfl⟩
    · exact ⟨7, by simp, rfl⟩
    · exact ⟨11, by simp, rfl⟩
  obtain ⟨t, ht, et⟩ := ht
  simp [sx, sem, mkV, tOf, varK, startE, locK, intK, frzK, lstK, ixN_of, atI_of, sEq, twoStr, shaped_int, shaped_bool, shaped_none, shaped_str, shaped_il, shaped_it, eqv_il, eqv_it, eqv_int, eqv_str, viewK, view1, truthK, iterK, resK, retK, notK, andK, orK, oneK, tyK, mutK, rngK, Op.f, f1, f2, sIx, sAdd, sSub, sMul, sFdiv, sMod, sPow, sNeg, sLt, sLe, sGt, sGe, sLen, sTup, sLst, sInt, sAbs, sMin2, sMax2, sSl, sIsN, isNone, gcK, gcX, fitO, fitV, bindT, forGo, wipeE, List.map_cons, List.map_nil, List.replicate, List.length_cons, List.length_nil, List.getElem?_cons_zero, List.getElem?_cons_succ, List.set_cons_zero, List.set_cons_succ, List.cons_append, List.nil_append, List.append_nil, List.take, List.all_cons, List.all_nil, Bool.and_self, Bool.and_true, Bool.true_and, Option.bind_some, Option.bind, Option.some.injEq, frzL, et]
  rw [hK]; clear hK K
  simp [sx, sem, mkV, tOf, varK, startE, locK, intK, frzK, lstK, ixN_of, atI_of, sEq, twoStr, shaped_int, shaped_bool, shaped_none, shaped_str, shaped_il, shaped_it, eqv_il, eqv_it, eqv_int, eqv_str, viewK, view1, truthK, iterK, resK, retK, notK, andK, orK, oneK, tyK, mutK, rngK, Op.f, f1, f2, sIx, sAdd, sSub, sMul, sFdiv, sMod, sPow, sNeg, sLt, sLe, sGt, sGe, sLen, sTup, sLst, sInt, sAbs, sMin2, sMax2, sSl, sIsN, isNone, gcK, gcX, fitO, fitV, bindT, forGo, wipeE, List.map_cons, List.map_nil, List.replicate, List.length_cons, List.length_nil, List.getElem?_cons_zero, List.getElem?_cons_succ, List.set_cons_zero, List.set_cons_succ, List.cons_append, List.nil_append, List.append_nil, List.take, List.all_cons, List.all_nil, Bool.and_self, Bool.and_true, Bool.true_and, Option.bind_some, Option.bind, Option.some.injEq, frzL]
  refine ⟨by omega, ?_⟩
  obtain ⟨s, rfl⟩ := Int.eq_ofNat_of_zero_le q1
  refine lcGo_map (fun x => match x with
    | .int i => .str (nm0.getD ((s + t * i.toNat) % 12) "")
    | _ => .none) (by rw [rangeD_length]; have : m ≤ 12 := hm; exact Nat.le_trans this (by decide)) trivial (fun x hx A K K2 hA hK => ?_) ?_
  · obtain ⟨i, hi, rfl⟩ := rangeD_mem hx
    have e : ((s : Int) + (t : Int) * (i : Int)).fmod 12 = (((s + t * i) % 12 : Nat) : Int) := by
      rw [Int.fmod_eq_emod_of_nonneg _ (by omega)]; push_cast; simp
    have hlt : (s + t * i) % 12 < 12 := Nat.mod_lt _ (by omega)
    have ea : atI [PyData.str "a", PyData.str "ab", PyData.str "abc", PyData.str "insort", PyData.str "outer", PyData.str "ruler", PyData.str "tone", PyData.str "begins", PyData.str "sort", PyData.str "b", PyData.str "zzzzzzzz", PyData.str "x"] (((s + t * i) % 12 : Nat) : Int) = some (.str (nm0.getD ((s + t * i) % 12) "")) := by
      rw [DV.atI_nat]
      have h : ∀ j < 12, ([PyData.str "a", PyData.str "ab", PyData.str "abc", PyData.str "insort", PyData.str "outer", PyData.str "ruler", PyData.str "tone", PyData.str "begins", PyData.str "sort", PyData.str "b", PyData.str "zzzzzzzz", PyData.str "x"] : List D)[j]? = some (.str (nm0.getD j "")) := by
        intro j hj
        have : j = 0 ∨ j = 1 ∨ j = 2 ∨ j = 3 ∨ j = 4 ∨ j = 5 ∨ j = 6 ∨ j = 7 ∨ j = 8 ∨ j = 9 ∨ j = 10 ∨ j = 11 := by omega
        rcases this with rfl | rfl | rfl | rfl | rfl | rfl | rfl | rfl | rfl | rfl | rfl | rfl <;> rfl
      exact h _ hlt
    have hK : K (.str (nm0.getD ((s + t * ((0 : Int) + (i : Int)).toNat) % 12) "")) [fd a2 b c2] := hK
    have e0 : ((0 : Int) + (i : Int)).toNat = i := by omega
    rw [e0] at hK
    simp [sx, sem, mkV, tOf, varK, startE, locK, intK, frzK, lstK, ixN_of, atI_of, sEq, twoStr, shaped_int, shaped_bool, shaped_none, shaped_str, shaped_il, shaped_it, eqv_il, eqv_it, eqv_int, eqv_str, viewK, view1, truthK, iterK, resK, retK, notK, andK, orK, oneK, tyK, mutK, rngK, Op.f, f1, f2, sIx, sAdd, sSub, sMul, sFdiv, sMod, sPow, sNeg, sLt, sLe, sGt, sGe, sLen, sTup, sLst, sInt, sAbs, sMin2, sMax2, sSl, sIsN, isNone, gcK, gcX, fitO, fitV, bindT, forGo, wipeE, List.map_cons, List.map_nil, List.replicate, List.length_cons, List.length_nil, List.getElem?_cons_zero, List.getElem?_cons_succ, List.set_cons_zero, List.set_cons_succ, List.cons_append, List.nil_append, List.append_nil, List.take, List.all_cons, List.all_nil, Bool.and_self, Bool.and_true, Bool.true_and, Option.bind_some, Option.bind, Option.some.injEq, frzL]
    exact ⟨mulS (by omega) (by omega), _, by rw [e]; exact ea, hA, hK⟩
  · have hz : ((List.range m).map fun i => nm0.getD ((s + t * i) % 12) "").Nodup := by
      have := names_nd s t (by omega) ht
      have hs : (List.range m).Sublist (List.range 12) := by
        have e : List.range m = (List.range 12).take m := by rw [List.take_range]; congr 1; omega
        rw [e]; exact List.take_sublist _ _
      exact this.sublist (hs.map _)
    have hmem : ∀ z ∈ ((List.range m).map fun i => nm0.getD ((s + t * i) % 12) ""), z ∈ nm0 := fun z hz => by
      obtain ⟨i, _, rfl⟩ := List.mem_map.mp hz
      have h : ∀ j < 12, nm0.getD j "" ∈ nm0 := by decide +kernel
      exact h _ (Nat.mod_lt _ (by omega))
    have q := k _ a2 c2 (by rw [List.length_map, List.length_range]) hz hmem
    have eq : (rangeD 0 m).map (fun x => match x with
      | PyData.int i => PyData.str (nm0.getD ((s + t * i.toNat) % 12) "")
      | _ => PyData.none) = ((List.range m).map fun i => nm0.getD ((s + t * i) % 12) "").map PyData.str := by
      unfold rangeD
      rw [List.map_map, List.map_map]
      refine List.map_congr_left fun i _ => ?_
      have e0 : ((0 : Int) + (i : Int)).toNat = i := by omega
      show PyData.str (nm0.getD ((s + t * ((0 : Int) + (i : Int)).toNat) % 12) "") = _
      rw [e0]; rfl
    rw [eq]
    exact ⟨fun x hx => by obtain rfl := List.mem_singleton.mp hx; rfl, q⟩
def RSt (m : Nat) (b : Int) (env : DEnv) (μ : Store) : Prop := ∃ (a c : Int) (xs ys : List Int) (v4 v5 v6 : Option SV), xs.length = m ∧ ys.length = m ∧ (∀ x ∈ xs, 0 ≤ x) ∧ env = [some (.loc 0), some (.d (.int m)), some (.loc 1), some (.loc 2), v4, v5, v6] ∧ μ = [fd a b c, .lst (xs.map PyData.int), .lst (ys.map PyData.int)]
def RSt2 (m : Nat) (b : Int) (env : DEnv) (μ : Store) : Prop := ∃ (a c : Int) (xs ys : List Int) (v4 : Option SV) (w : Int) (n : Nat), n < m ∧ xs.length = m ∧ ys.length = m ∧ (∀ x ∈ xs, 0 ≤ x) ∧ env = [some (.loc 0), some (.d (.int m)), some (.loc 1), some (.loc 2), v4, some (.d (.int w)), some (.d (.int n))] ∧ μ = [fd a b c, .lst (xs.map PyData.int), .lst (ys.map PyData.int)]
theorem nn_set {xs : List Int} {n : Nat} {v : Int} (h : ∀ x ∈ xs, 0 ≤ x) (hv : 0 ≤ v) : ∀ x ∈ xs.set n v, 0 ≤ x := fun x hx => by
  rcases List.mem_or_eq_of_mem_set hx with h1 | h1
  · exact h x h1
  · rw [h1]; exact hv
theorem nn_get {xs : List Int} {n : Nat} (h : ∀ x ∈ xs, 0 ≤ x) : 0 ≤ xs.getD n 0 := by
  by_cases hn : n < xs.length
  · have : xs.getD n 0 = xs[n] := by simp [List.getD, List.getElem?_eq_getElem hn]
    rw [this]; exact h _ (List.getElem_mem hn)
  · have : xs.getD n 0 = 0 := by simp [List.getD, List.getElem?_eq_none (Nat.le_of_not_lt hn)]
    omega
theorem sem_l_rule : ∀ svs μ P PE, svs.length = 2 → sp_l_rule svs μ P PE → sx (fun x _ μ' => gcX μ.length μ' (PE x)) b_l_rule (startE N_l_rule svs) μ (fun _ μ' => gcK μ.length (.d .none) μ' P) (fun x μ' => gcK μ.length x μ' P) := by
  intro svs μ P PE hl h
  obtain ⟨a, b, c, m, rfl, rfl, hm1, hm2, k⟩ := h
  have zer : (rangeD 0 m).map (fun _ => PyData.int 0) = (List.replicate m (0 : Int)).map PyData.int := by
    unfold rangeD
    rw [List.map_map, List.map_replicate]
    exact List.map_const' .. |>.trans (by rw [List.length_range])
  unfold b_l_rule
  refine seq_step fun K hK => ?_
  simp [N_l_rule, sx, sem, mkV, tOf, varK, startE, locK, intK, frzK, lstK, ixN_of, atI_of, sEq, twoStr, shaped_int, shaped_bool, shaped_none, shaped_str, shaped_il, shaped_it, eqv_il, eqv_it, eqv_int, eqv_str, viewK, view1, truthK, iterK, resK, retK, notK, andK, orK, oneK, tyK, mutK, rngK, Op.f, f1, f2, sIx, sAdd, sSub, sMul, sFdiv, sMod, sPow, sNeg, sLt, sLe, sGt, sGe, sLen, sTup, sLst, sInt, sAbs, sMin2, sMax2, sSl, sIsN, isNone, gcK, gcX, fitO, fitV, bindT, forGo, wipeE, List.map_cons, List.map_nil, List.replicate, List.length_cons, List.length_nil, List.getElem?_cons_zero, List.getElem?_cons_succ, List.set_cons_zero, List.set_cons_succ, List.cons_append, List.nil_append, List.append_nil, List.take, List.all_cons, List.all_nil, Bool.and_self, Bool.and_true, Bool.true_and, Option.bind_some, Option.bind, Option.some.injEq]
  refine ⟨by omega, lcGo_map (fun _ => .int 0) (by rw [rangeD_length]; exact Nat.le_trans hm2 (by decide)) trivial (fun x hx A K K2 hA hK => ?_) ?_⟩
  · simp [sx, sem, mkV, tOf, varK, startE, locK, intK, frzK, lstK, ixN_of, atI_of, sEq, twoStr, shaped_int, shaped_bool, shaped_none, shaped_str, shaped_il, shaped_it, eqv_il, eqv_it, eqv_int, eqv_str, viewK, view1, truthK, iterK, resK, retK, notK, andK, orK, oneK, tyK, mutK, rngK, Op.f, f1, f2, sIx, sAdd, sSub, sMul, sFdiv, sMod, sPow, sNeg, sLt, sLe, sGt, sGe, sLen, sTup, sLst, sInt, sAbs, sMin2, sMax2, sSl, sIsN, isNone, gcK, gcX, fitO, fitV, bindT, forGo, wipeE, List.map_cons, List.map_nil, List.replicate, List.length_cons, List.length_nil, List.getElem?_cons_zero, List.getElem?_cons_succ, List.set_cons_zero, List.set_cons_succ, List.cons_append, List.nil_append, List.append_nil, List.take, List.all_cons, List.all_nil, Bool.and_self, Bool.and_true, Bool.true_and, Option.bind_some, Option.bind, Option.some.injEq]; exact ⟨hA, hK⟩
  rw [zer]
  simp [sx, sem, mkV, tOf, varK, startE, locK, intK, frzK, lstK, ixN_of, atI_of, sEq, twoStr, shaped_int, shaped_bool, shaped_none, shaped_str, shaped_il, shaped_it, eqv_il, eqv_it, eqv_int, eqv_str, viewK, view1, truthK, iterK, resK, retK, notK, andK, orK, oneK, tyK, mutK, rngK, Op.f, f1, f2, sIx, sAdd, sSub, sMul, sFdiv, sMod, sPow, sNeg, sLt, sLe, sGt, sGe, sLen, sTup, sLst, sInt, sAbs, sMin2, sMax2, sSl, sIsN, isNone, gcK, gcX, fitO, fitV, bindT, forGo, wipeE, List.map_cons, List.map_nil, List.replicate, List.length_cons, List.length_nil, List.getElem?_cons_zero, List.getElem?_cons_succ, List.set_cons_zero, List.set_cons_succ, List.cons_append, List.nil_append, List.append_nil, List.take, List.all_cons, List.all_nil, Bool.and_self, Bool.and_true, Bool.true_and, Option.bind_some, Option.bind, Option.some.injEq]
  rw [hK]; clear hK K
  refine seq_step fun K hK => ?_
  simp [sx, sem, mkV, tOf, varK, startE, locK, intK, frzK, lstK, ixN_of, atI_of, sEq, twoStr, shaped_int, shaped_bool, shaped_none, shaped_str, shaped_il, shaped_it, eqv_il, eqv_it, eqv_int, eqv_str, viewK, view1, truthK, iterK, resK, retK, notK, andK, orK, oneK, tyK, mutK, rngK, Op.f, f1, f2, sIx, sAdd, sSub, sMul, sFdiv, sMod, sPow, sNeg, sLt, sLe, sGt, sGe, sLen, sTup, sLst, sInt, sAbs, sMin2, sMax2, sSl, sIsN, isNone, gcK, gcX, fitO, fitV, bindT, forGo, wipeE, List.map_cons, List.map_nil, List.replicate, List.length_cons, List.length_nil, List.getElem?_cons_zero, List.getElem?_cons_succ, List.set_cons_zero, List.set_cons_succ, List.cons_append, List.nil_append, List.append_nil, List.take, List.all_cons, List.all_nil, Bool.and_self, Bool.and_true, Bool.true_and, Option.bind_some, Option.bind, Option.some.injEq]
  refine ⟨by omega, lcGo_map (fun _ => .int 0) (by rw [rangeD_length]; exact Nat.le_trans hm2 (by decide)) trivial (fun x hx A K K2 hA hK => ?_) ?_⟩
  · simp [sx, sem, mkV, tOf, varK, startE, locK, intK, frzK, lstK, ixN_of, atI_of, sEq, twoStr, shaped_int, shaped_bool, shaped_none, shaped_str, shaped_il, shaped_it, eqv_il, eqv_it, eqv_int, eqv_str, viewK, view1, truthK, iterK, resK, retK, notK, andK, orK, oneK, tyK, mutK, rngK, Op.f, f1, f2, sIx, sAdd, sSub, sMul, sFdiv, sMod, sPow, sNeg, sLt, sLe, sGt, sGe, sLen, sTup, sLst, sInt, sAbs, sMin2, sMax2, sSl, sIsN, isNone, gcK, gcX, fitO, fitV, bindT, forGo, wipeE, List.map_cons, List.map_nil, List.replicate, List.length_cons, List.length_nil, List.getElem?_cons_zero, List.getElem?_cons_succ, List.set_cons_zero, List.set_cons_succ, List.cons_append, List.nil_append, List.append_nil, List.take, List.all_cons, List.all_nil, Bool.and_self, Bool.and_true, Bool.true_and, Option.bind_some, Option.bind, Option.some.injEq]; exact ⟨hA, hK⟩
  rw [zer]
  simp [sx, sem, mkV, tOf, varK, startE, locK, intK, frzK, lstK, ixN_of, atI_of, sEq, twoStr, shaped_int, shaped_bool, shaped_none, shaped_str, shaped_il, shaped_it, eqv_il, eqv_it, eqv_int, eqv_str, viewK, view1, truthK, iterK, resK, retK, notK, andK, orK, oneK, tyK, mutK, rngK, Op.f, f1, f2, sIx, sAdd, sSub, sMul, sFdiv, sMod, sPow, sNeg, sLt, sLe, sGt, sGe, sLen, sTup, sLst, sInt, sAbs, sMin2, sMax2, sSl, sIsN, isNone, gcK, gcX, fitO, fitV, bindT, forGo, wipeE, List.map_cons, List.map_nil, List.replicate, List.length_cons, List.length_nil, List.getElem?_cons_zero, List.getElem?_cons_succ, List.set_cons_zero, List.set_cons_succ, List.cons_append, List.nil_append, List.append_nil, List.take, List.all_cons, List.all_nil, Bool.and_self, Bool.and_true, Bool.true_and, Option.bind_some, Option.bind, Option.some.injEq]
  rw [hK]; clear hK K
  refine seq_step fun K hK => ?_
  simp [sx, sem, mkV, tOf, varK, startE, locK, intK, frzK, lstK, ixN_of, atI_of, sEq, twoStr, shaped_int, shaped_bool, shaped_none, shaped_str, shaped_il, shaped_it, eqv_il, eqv_it, eqv_int, eqv_str, viewK, view1, truthK, iterK, resK, retK, notK, andK, orK, oneK, tyK, mutK, rngK, Op.f, f1, f2, sIx, sAdd, sSub, sMul, sFdiv, sMod, sPow, sNeg, sLt, sLe, sGt, sGe, sLen, sTup, sLst, sInt, sAbs, sMin2, sMax2, sSl, sIsN, isNone, gcK, gcX, fitO, fitV, bindT, forGo, wipeE, List.map_cons, List.map_nil, List.replicate, List.length_cons, List.length_nil, List.getElem?_cons_zero, List.getElem?_cons_succ, List.set_cons_zero, List.set_cons_succ, List.cons_append, List.nil_append, List.append_nil, List.take, List.all_cons, List.all_nil, Bool.and_self, Bool.and_true, Bool.true_and, Option.bind_some, Option.bind, Option.some.injEq]
  refine draw0 (by omega) (by omega) fun r1 a1 c1 q1 q2 => ?_
  simp [sx, sem, mkV, tOf, varK, startE, locK, intK, frzK, lstK, ixN_of, atI_of, sEq, twoStr, shaped_int, shaped_bool, shaped_none, shaped_str, shaped_il, shaped_it, eqv_il, eqv_it, eqv_int, eqv_str, viewK, view1, truthK, iterK, resK, retK, notK, andK, orK, oneK, tyK, mutK, rngK, Op.f, f1, f2, sIx, sAdd, sSub, sMul, sFdiv, sMod, sPow, sNeg, sLt, sLe, sGt, sGe, sLen, sTup, sLst, sInt, sAbs, sMin2, sMax2, sSl, sIsN, isNone, gcK, gcX, fitO, fitV, bindT, forGo, wipeE, List.map_cons, List.map_nil, List.replicate, List.length_cons, List.length_nil, List.getElem?_cons_zero, List.getElem?_cons_succ, List.set_cons_zero, List.set_cons_succ, List.cons_append, List.nil_append, List.append_nil, List.take, List.all_cons, List.all_nil, Bool.and_self, Bool.and_true, Bool.true_and, Option.bind_some, Option.bind, Option.some.injEq]
  refine ⟨by omega, by omega, ?_⟩
  refine forGo_inv (fun _ => RSt m b) ⟨a1, c1, List.replicate m 0, List.replicate m 0, _, _, _, by simp, by simp, by simp, rfl, by simp⟩ (fun _ _ _ _ _ => trivial) (fun i x env μ K2 hx h hk => ?_) (fun env μ h => ?_)
  · obtain ⟨a2, c2, xs, ys, v4, v5, v6, hx1, hy1, hn, rfl, rfl⟩ := h
    simp [sx, sem, mkV, tOf, varK, startE, locK, intK, frzK, lstK, ixN_of, atI_of, sEq, twoStr, shaped_int, shaped_bool, shaped_none, shaped_str, shaped_il, shaped_it, eqv_il, eqv_it, eqv_int, eqv_str, viewK, view1, truthK, iterK, resK, retK, notK, andK, orK, oneK, tyK, mutK, rngK, Op.f, f1, f2, sIx, sAdd, sSub, sMul, sFdiv, sMod, sPow, sNeg, sLt, sLe, sGt, sGe, sLen, sTup, sLst, sInt, sAbs, sMin2, sMax2, sSl, sIsN, isNone, gcK, gcX, fitO, fitV, bindT, forGo, wipeE, List.map_cons, List.map_nil, List.replicate, List.length_cons, List.length_nil, List.getElem?_cons_zero, List.getElem?_cons_succ, List.set_cons_zero, List.set_cons_succ, List.cons_append, List.nil_append, List.append_nil, List.take, List.all_cons, List.all_nil, Bool.and_self, Bool.and_true, Bool.true_and, Option.bind_some, Option.bind, Option.some.injEq]
    refine draw0 (by omega) (by omega) fun r2 a3 c3 q3 q4 => ?_
    obtain ⟨n, rfl⟩ := Int.eq_ofNat_of_zero_le q3
    have ea := at_getD (xs := xs) (n := n) (by omega)
    simp [sx, sem, mkV, tOf, varK, startE, locK, intK, frzK, lstK, ixN_of, atI_of, sEq, twoStr, shaped_int, shaped_bool, shaped_none, shaped_str, shaped_il, shaped_it, eqv_il, eqv_it, eqv_int, eqv_str, viewK, view1, truthK, iterK, resK, retK, notK, andK, orK, oneK, tyK, mutK, rngK, Op.f, f1, f2, sIx, sAdd, sSub, sMul, sFdiv, sMod, sPow, sNeg, sLt, sLe, sGt, sGe, sLen, sTup, sLst, sInt, sAbs, sMin2, sMax2, sSl, sIsN, isNone, gcK, gcX, fitO, fitV, bindT, forGo, wipeE, List.map_cons, List.map_nil, List.replicate, List.length_cons, List.length_nil, List.getElem?_cons_zero, List.getElem?_cons_succ, List.set_cons_zero, List.set_cons_succ, List.cons_append, List.nil_append, List.append_nil, List.take, List.all_cons, List.all_nil, Bool.and_self, Bool.and_true, Bool.true_and, Option.bind_some, Option.bind, Option.some.injEq, ea]
    refine draw0 (by omega) (by omega) fun r3 a4 c4 q5 q6 => ?_
    have ei : ixN xs.length (n : Int) = some n := ixN_nat (by omega)
    simp [sx, sem, mkV, tOf, varK, startE, locK, intK, frzK, lstK, ixN_of, atI_of, sEq, twoStr, shaped_int, shaped_bool, shaped_none, shaped_str, shaped_il, shaped_it, eqv_il, eqv_it, eqv_int, eqv_str, viewK, view1, truthK, iterK, resK, retK, notK, andK, orK, oneK, tyK, mutK, rngK, Op.f, f1, f2, sIx, sAdd, sSub, sMul, sFdiv, sMod, sPow, sNeg, sLt, sLe, sGt, sGe, sLen, sTup, sLst, sInt, sAbs, sMin2, sMax2, sSl, sIsN, isNone, gcK, gcX, fitO, fitV, bindT, forGo, wipeE, List.map_cons, List.map_nil, List.replicate, List.length_cons, List.length_nil, List.getElem?_cons_zero, List.getElem?_cons_succ, List.set_cons_zero, List.set_cons_succ, List.cons_append, List.nil_append, List.append_nil, List.take, List.all_cons, List.all_nil, Bool.and_self, Bool.and_true, Bool.true_and, Option.bind_some, Option.bind, Option.some.injEq, ei]
    refine hk _ _ ⟨a4, c4, xs.set n (xs.getD n 0 + 1 + r3), ys, _, _, _, by simp [hx1], hy1, nn_set hn (by have := nn_get (n := n) hn; omega), rfl, ?_⟩
    simp [List.map_set]
  rw [hK]; clear hK K
  obtain ⟨a2, c2, xs, ys, v4, v5, v6, hx1, hy1, hn, rfl, rfl⟩ := h
  refine seq_step fun K hK => ?_
  simp [sx, sem, mkV, tOf, varK, startE, locK, intK, frzK, lstK, ixN_of, atI_of, sEq, twoStr, shaped_int, shaped_bool, shaped_none, shaped_str, shaped_il, shaped_it, eqv_il, eqv_it, eqv_int, eqv_str, viewK, view1, truthK, iterK, resK, retK, notK, andK, orK, oneK, tyK, mutK, rngK, Op.f, f1, f2, sIx, sAdd, sSub, sMul, sFdiv, sMod, sPow, sNeg, sLt, sLe, sGt, sGe, sLen, sTup, sLst, sInt, sAbs, sMin2, sMax2, sSl, sIsN, isNone, gcK, gcX, fitO, fitV, bindT, forGo, wipeE, List.map_cons, List.map_nil, List.replicate, List.length_cons, List.length_nil, List.getElem?_cons_zero, List.getElem?_cons_succ, List.set_cons_zero, List.set_cons_succ, List.cons_append, List.nil_append, List.append_nil, List.take, List.all_cons, List.all_nil, Bool.and_self, Bool.and_true, Bool.true_and, Option.bind_some, Option.bind, Option.some.injEq]
  refine draw0 (by omega) (by omega) fun r2 a3 c3 q3 q4 => ?_
  simp [sx, sem, mkV, tOf, varK, startE, locK, intK, frzK, lstK, ixN_of, atI_of, sEq, twoStr, shaped_int, shaped_bool, shaped_none, shaped_str, shaped_il, shaped_it, eqv_il, eqv_it, eqv_int, eqv_str, viewK, view1, truthK, iterK, resK, retK, notK, andK, orK, oneK, tyK, mutK, rngK, Op.f, f1, f2, sIx, sAdd, sSub, sMul, sFdiv, sMod, sPow, sNeg, sLt, sLe, sGt, sGe, sLen, sTup, sLst, sInt, sAbs, sMin2, sMax2, sSl, sIsN, isNone, gcK, gcX, fitO, fitV, bindT, forGo, wipeE, List.map_cons, List.map_nil, List.replicate, List.length_cons, List.length_nil, List.getElem?_cons_zero, List.getElem?_cons_succ, List.set_cons_zero, List.set_cons_succ, List.cons_append, List.nil_append, List.append_nil, List.take, List.all_cons, List.all_nil, Bool.and_self, Bool.and_true, Bool.true_and, Option.bind_some, Option.bind, Option.some.injEq]
  refine ⟨by omega, by omega, ?_⟩
  refine forGo_inv (fun _ => RSt m b) ⟨a3, c3, xs, ys, _, _, _, hx1, hy1, hn, rfl, rfl⟩ (fun _ _ _ _ _ => trivial) (fun i x env μ K2 hx h hk => ?_) (fun env μ h => ?_)
  · obtain ⟨a2, c2, xs, ys, v4, v5, v6, hx1, hy1, hn, rfl, rfl⟩ := h
    simp [sx, sem, mkV, tOf, varK, startE, locK, intK, frzK, lstK, ixN_of, atI_of, sEq, twoStr, shaped_int, shaped_bool, shaped_none, shaped_str, shaped_il, shaped_it, eqv_il, eqv_it, eqv_int, eqv_str, viewK, view1, truthK, iterK, resK, retK, notK, andK, orK, oneK, tyK, mutK, rngK, Op.f, f1, f2, sIx, sAdd, sSub, sMul, sFdiv, sMod, sPow, sNeg, sLt, sLe, sGt, sGe, sLen, sTup, sLst, sInt, sAbs, sMin2, sMax2, sSl, sIsN, isNone, gcK, gcX, fitO, fitV, bindT, forGo, wipeE, List.map_cons, List.map_nil, List.replicate, List.length_cons, List.length_nil, List.getElem?_cons_zero, List.getElem?_cons_succ, List.set_cons_zero, List.set_cons_succ, List.cons_append, List.nil_append, List.append_nil, List.take, List.all_cons, List.all_nil, Bool.and_self, Bool.and_true, Bool.true_and, Option.bind_some, Option.bind, Option.some.injEq]
    refine draw0 (by omega) (by omega) fun r2 a3 c3 q3 q4 => ?_
    obtain ⟨n, rfl⟩ := Int.eq_ofNat_of_zero_le q3
    have ea := at_getD (xs := ys) (n := n) (by omega)
    simp [sx, sem, mkV, tOf, varK, startE, locK, intK, frzK, lstK, ixN_of, atI_of, sEq, twoStr, shaped_int, shaped_bool, shaped_none, shaped_str, shaped_il, shaped_it, eqv_il, eqv_it, eqv_int, eqv_str, viewK, view1, truthK, iterK, resK, retK, notK, andK, orK, oneK, tyK, mutK, rngK, Op.f, f1, f2, sIx, sAdd, sSub, sMul, sFdiv, sMod, sPow, sNeg, sLt, sLe, sGt, sGe, sLen, sTup, sLst, sInt, sAbs, sMin2, sMax2, sSl, sIsN, isNone, gcK, gcX, fitO, fitV, bindT, forGo, wipeE, List.map_cons, List.map_nil, List.replicate, List.length_cons, List.length_nil, List.getElem?_cons_zero, List.getElem?_cons_succ, List.set_cons_zero, List.set_cons_succ, List.cons_append, List.nil_append, List.append_nil, List.take, List.all_cons, List.all_nil, Bool.and_self, Bool.and_true, Bool.true_and, Option.bind_some, Option.bind, Option.some.injEq, ea]
    refine draw0 (by omega) (by omega) fun r3 a4 c4 q5 q6 => ?_
    have ei : ixN ys.length (n : Int) = some n := ixN_nat (by omega)
    simp [sx, sem, mkV, tOf, varK, startE, locK, intK, frzK, lstK, ixN_of, atI_of, sEq, twoStr, shaped_int, shaped_bool, shaped_none, shaped_str, shaped_il, shaped_it, eqv_il, eqv_it, eqv_int, eqv_str, viewK, view1, truthK, iterK, resK, retK, notK, andK, orK, oneK, tyK, mutK, rngK, Op.f, f1, f2, sIx, sAdd, sSub, sMul, sFdiv, sMod, sPow, sNeg, sLt, sLe, sGt, sGe, sLen, sTup, sLst, sInt, sAbs, sMin2, sMax2, sSl, sIsN, isNone, gcK, gcX, fitO, fitV, bindT, forGo, wipeE, List.map_cons, List.map_nil, List.replicate, List.length_cons, List.length_nil, List.getElem?_cons_zero, List.getElem?_cons_succ, List.set_cons_zero, List.set_cons_succ, List.cons_append, List.nil_append, List.append_nil, List.take, List.all_cons, List.all_nil, Bool.and_self, Bool.and_true, Bool.true_and, Option.bind_some, Option.bind, Option.some.injEq, ei]
    refine hk _ _ ⟨a4, c4, xs, ys.set n (ys.getD n 0 + 1 + r3), _, _, _, hx1, by simp [hy1], hn, rfl, ?_⟩
    simp [List.map_set]
  rw [hK]; clear hK K
  obtain ⟨a2, c2, xs, ys, v4, v5, v6, hx1, hy1, hn, rfl, rfl⟩ := h
  refine seq_step fun K hK => ?_
  simp [sx, sem, mkV, tOf, varK, startE, locK, intK, frzK, lstK, ixN_of, atI_of, sEq, twoStr, shaped_int, shaped_bool, shaped_none, shaped_str, shaped_il, shaped_it, eqv_il, eqv_it, eqv_int, eqv_str, viewK, view1, truthK, iterK, resK, retK, notK, andK, orK, oneK, tyK, mutK, rngK, Op.f, f1, f2, sIx, sAdd, sSub, sMul, sFdiv, sMod, sPow, sNeg, sLt, sLe, sGt, sGe, sLen, sTup, sLst, sInt, sAbs, sMin2, sMax2, sSl, sIsN, isNone, gcK, gcX, fitO, fitV, bindT, forGo, wipeE, List.map_cons, List.map_nil, List.replicate, List.length_cons, List.length_nil, List.getElem?_cons_zero, List.getElem?_cons_succ, List.set_cons_zero, List.set_cons_succ, List.cons_append, List.nil_append, List.append_nil, List.take, List.all_cons, List.all_nil, Bool.and_self, Bool.and_true, Bool.true_and, Option.bind_some, Option.bind, Option.some.injEq]
  refine draw0 (by omega) (by omega) fun r2 a3 c3 q3 q4 => ?_
  rw [hK]; clear hK K
  refine seq_step fun K hK => ?_
  simp [sx, sem, mkV, tOf, varK, startE, locK, intK, frzK, lstK, ixN_of, atI_of, sEq, twoStr, shaped_int, shaped_bool, shaped_none, shaped_str, shaped_il, shaped_it, eqv_il, eqv_it, eqv_int, eqv_str, viewK, view1, truthK, iterK, resK, retK, notK, andK, orK, oneK, tyK, mutK, rngK, Op.f, f1, f2, sIx, sAdd, sSub, sMul, sFdiv, sMod, sPow, sNeg, sLt, sLe, sGt, sGe, sLen, sTup, sLst, sInt, sAbs, sMin2, sMax2, sSl, sIsN, isNone, gcK, gcX, fitO, fitV, bindT, forGo, wipeE, List.map_cons, List.map_nil, List.replicate, List.length_cons, List.length_nil, List.getElem?_cons_zero, List.getElem?_cons_succ, List.set_cons_zero, List.set_cons_succ, List.cons_append, List.nil_append, List.append_nil, List.take, List.all_cons, List.all_nil, Bool.and_self, Bool.and_true, Bool.true_and, Option.bind_some, Option.bind, Option.some.injEq]
  refine draw0 (by omega) (by omega) fun r3 a4 c4 q5 q6 => ?_
  obtain ⟨n, rfl⟩ := Int.eq_ofNat_of_zero_le q5
  rw [hK]; clear hK K
  refine seq_cut (RSt2 m b) (fun K hK => ?_) fun env μ h => ?_
  · have ea := at_getD (xs := xs) (n := n) (by omega)
    have ei : ixN ys.length (n : Int) = some n := ixN_nat (by omega)
    simp [sx, sem, mkV, tOf, varK, startE, locK, intK, frzK, lstK, ixN_of, atI_of, sEq, twoStr, shaped_int, shaped_bool, shaped_none, shaped_str, shaped_il, shaped_it, eqv_il, eqv_it, eqv_int, eqv_str, viewK, view1, truthK, iterK, resK, retK, notK, andK, orK, oneK, tyK, mutK, rngK, Op.f, f1, f2, sIx, sAdd, sSub, sMul, sFdiv, sMod, sPow, sNeg, sLt, sLe, sGt, sGe, sLen, sTup, sLst, sInt, sAbs, sMin2, sMax2, sSl, sIsN, isNone, gcK, gcX, fitO, fitV, bindT, forGo, wipeE, List.map_cons, List.map_nil, List.replicate, List.length_cons, List.length_nil, List.getElem?_cons_zero, List.getElem?_cons_succ, List.set_cons_zero, List.set_cons_succ, List.cons_append, List.nil_append, List.append_nil, List.take, List.all_cons, List.all_nil, Bool.and_self, Bool.and_true, Bool.true_and, Option.bind_some, Option.bind, Option.some.injEq, ea, ei]
    split
    · refine hK _ _ ⟨a4, c4, xs, ys.set n (xs.getD n 0), _, _, n, by omega, hx1, by simp [hy1], hn, rfl, ?_⟩
      simp [List.map_set]
    · exact hK _ _ ⟨a4, c4, xs, ys, _, _, n, by omega, hx1, hy1, hn, rfl, rfl⟩
  obtain ⟨a2, c2, xs, ys, v4, w, n, hnm, hx1, hy1, hn, rfl, rfl⟩ := h
  refine seq_cut (RSt2 m b) (fun K hK => ?_) fun env μ h => ?_
  · have ei : ixN xs.length (n : Int) = some n := ixN_nat (by omega)
    simp [sx, sem, mkV, tOf, varK, startE, locK, intK, frzK, lstK, ixN_of, atI_of, sEq, twoStr, shaped_int, shaped_bool, shaped_none, shaped_str, shaped_il, shaped_it, eqv_il, eqv_it, eqv_int, eqv_str, viewK, view1, truthK, iterK, resK, retK, notK, andK, orK, oneK, tyK, mutK, rngK, Op.f, f1, f2, sIx, sAdd, sSub, sMul, sFdiv, sMod, sPow, sNeg, sLt, sLe, sGt, sGe, sLen, sTup, sLst, sInt, sAbs, sMin2, sMax2, sSl, sIsN, isNone, gcK, gcX, fitO, fitV, bindT, forGo, wipeE, List.map_cons, List.map_nil, List.replicate, List.length_cons, List.length_nil, List.getElem?_cons_zero, List.getElem?_cons_succ, List.set_cons_zero, List.set_cons_succ, List.cons_append, List.nil_append, List.append_nil, List.take, List.all_cons, List.all_nil, Bool.and_self, Bool.and_true, Bool.true_and, Option.bind_some, Option.bind, Option.some.injEq, ei]
    split
    · refine hK _ _ ⟨a2, c2, xs.set n 9, ys, _, _, n, by omega, by simp [hx1], hy1, nn_set hn (by omega), rfl, ?_⟩
      simp [List.map_set]
    · exact hK _ _ ⟨a2, c2, xs, ys, _, _, n, by omega, hx1, hy1, hn, rfl, rfl⟩
  obtain ⟨a2, c2, xs, ys, v4, w, n, hnm, hx1, hy1, hn, rfl, rfl⟩ := h
  refine seq_cut (RSt2 m b) (fun K hK => ?_) fun env μ h => ?_
  · have ea := at_getD (xs := xs) (n := n) (by omega)
    have eb := at_getD (xs := ys) (n := n) (by omega)
    have ei : ixN ys.length (n : Int) = some n := ixN_nat (by omega)
    simp [sx, sem, mkV, tOf, varK, startE, locK, intK, frzK, lstK, ixN_of, atI_of, sEq, twoStr, shaped_int, shaped_bool, shaped_none, shaped_str, shaped_il, shaped_it, eqv_il, eqv_it, eqv_int, eqv_str, viewK, view1, truthK, iterK, resK, retK, notK, andK, orK, oneK, tyK, mutK, rngK, Op.f, f1, f2, sIx, sAdd, sSub, sMul, sFdiv, sMod, sPow, sNeg, sLt, sLe, sGt, sGe, sLen, sTup, sLst, sInt, sAbs, sMin2, sMax2, sSl, sIsN, isNone, gcK, gcX, fitO, fitV, bindT, forGo, wipeE, List.map_cons, List.map_nil, List.replicate, List.length_cons, List.length_nil, List.getElem?_cons_zero, List.getElem?_cons_succ, List.set_cons_zero, List.set_cons_succ, List.cons_append, List.nil_append, List.append_nil, List.take, List.all_cons, List.all_nil, Bool.and_self, Bool.and_true, Bool.true_and, Option.bind_some, Option.bind, Option.some.injEq, ea, eb, ei, frzL]
    split
    · refine ⟨by decide, ?_⟩
      have key : ∃ z : Int, atI [PyData.int (ys[n]?.getD 0 + 1), PyData.int 0] (if xs[n]?.getD 0 = 9 then 1 else 0) = some (.int z) := by
        split
        · exact ⟨_, rfl⟩
        · exact ⟨_, rfl⟩
      obtain ⟨z, ez⟩ := key
      refine ⟨_, ez, hK _ _ ⟨a2, c2, xs, ys.set n z, _, _, n, by omega, hx1, by simp [hy1], hn, rfl, ?_⟩⟩
      simp [List.map_set]
    · exact hK _ _ ⟨a2, c2, xs, ys, _, _, n, by omega, hx1, hy1, hn, rfl, rfl⟩
  obtain ⟨a2, c2, xs, ys, v4, w, n, hnm, hx1, hy1, hn, rfl, rfl⟩ := h
  simp [sx, sem, mkV, tOf, varK, startE, locK, intK, frzK, lstK, ixN_of, atI_of, sEq, twoStr, shaped_int, shaped_bool, shaped_none, shaped_str, shaped_il, shaped_it, eqv_il, eqv_it, eqv_int, eqv_str, viewK, view1, truthK, iterK, resK, retK, notK, andK, orK, oneK, tyK, mutK, rngK, Op.f, f1, f2, sIx, sAdd, sSub, sMul, sFdiv, sMod, sPow, sNeg, sLt, sLe, sGt, sGe, sLen, sTup, sLst, sInt, sAbs, sMin2, sMax2, sSl, sIsN, isNone, gcK, gcX, fitO, fitV, bindT, forGo, wipeE, List.map_cons, List.map_nil, List.replicate, List.length_cons, List.length_nil, List.getElem?_cons_zero, List.getElem?_cons_succ, List.set_cons_zero, List.set_cons_succ, List.cons_append, List.nil_append, List.append_nil, List.take, List.all_cons, List.all_nil, Bool.and_self, Bool.and_true, Bool.true_and, Option.bind_some, Option.bind, Option.some.injEq, frzL]
  exact ⟨by decide, rfl, k xs ys a2 c2 hx1 hy1 hn⟩
theorem sem_l_pot : ∀ svs μ P PE, svs.length = 1 → sp_l_pot svs μ P PE → sx (fun x _ μ' => gcX μ.length μ' (PE x)) b_l_pot (startE N_l_pot svs) μ (fun _ μ' => gcK μ.length (.d .none) μ' P) (fun x μ' => gcK μ.length x μ' P) := by
  intro svs μ P PE hl h
  obtain ⟨a, b, c, rfl, rfl, k⟩ := h
  unfold b_l_pot
  refine seq_step fun K hK => ?_
  simp [N_l_pot, sx, sem, mkV, tOf, varK, startE, locK, intK, frzK, lstK, ixN_of, atI_of, sEq, twoStr, shaped_int, shaped_bool, shaped_none, shaped_str, shaped_il, shaped_it, eqv_il, eqv_it, eqv_int, eqv_str, viewK, view1, truthK, iterK, resK, retK, notK, andK, orK, oneK, tyK, mutK, rngK, Op.f, f1, f2, sIx, sAdd, sSub, sMul, sFdiv, sMod, sPow, sNeg, sLt, sLe, sGt, sGe, sLen, sTup, sLst, sInt, sAbs, sMin2, sMax2, sSl, sIsN, isNone, gcK, gcX, fitO, fitV, bindT, forGo, wipeE, List.map_cons, List.map_nil, List.replicate, List.length_cons, List.length_nil, List.getElem?_cons_zero, List.getElem?_cons_succ, List.set_cons_zero, List.set_cons_succ, List.cons_append, List.nil_append, List.append_nil, List.take, List.all_cons, List.all_nil, Bool.and_self, Bool.and_true, Bool.true_and, Option.bind_some, Option.bind, Option.some.injEq, frzL]
  refine ⟨by decide, draw0 (by omega) (by omega) fun r1 a1 c1 q1 q2 => ?_⟩
  have hm : ∃ m : Nat, 1 ≤ m ∧ m ≤ 8 ∧ atI [PyData.int 1, PyData.int 2, PyData.int 3, PyData.int 3, PyData.int 4, PyData.int 5, PyData.int 6, PyData.int 8] r1 = some (.int m) := by
    have : r1 = 0 ∨ r1 = 1 ∨ r1 = 2 ∨ r1 = 3 ∨ r1 = 4 ∨ r1 = 5 ∨ r1 = 6 ∨ r1 = 7 := by omega
    rcases this with rfl | rfl | rfl | rfl | rfl | rfl | rfl | rfl
    · exact ⟨1, by omega, by omega, rfl⟩
    · exact ⟨2, by omega, by omega, rfl⟩
    · exact ⟨3, by omega, by omega, rfl⟩
    · exact ⟨3, by omega, by omega, rfl⟩
    · exact ⟨4, by omega, by omega, rfl⟩
    · exact ⟨5, by omega, by omega, rfl⟩
    · exact ⟨6, by omega, by omega, rfl⟩
    · exact ⟨8, by omega, by omega, rfl⟩
  obtain ⟨m, m1, m8, em⟩ := hm
  simp [sx, sem, mkV, tOf, varK, startE, locK, intK, frzK, lstK, ixN_of, atI_of, sEq, twoStr, shaped_int, shaped_bool, shaped_none, shaped_str, shaped_il, shaped_it, eqv_il, eqv_it, eqv_int, eqv_str, viewK, view1, truthK, iterK, resK, retK, notK, andK, orK, oneK, tyK, mutK, rngK, Op.f, f1, f2, sIx, sAdd, sSub, sMul, sFdiv, sMod, sPow, sNeg, sLt, sLe, sGt, sGe, sLen, sTup, sLst, sInt, sAbs, sMin2, sMax2, sSl, sIsN, isNone, gcK, gcX, fitO, fitV, bindT, forGo, wipeE, List.map_cons, List.map_nil, List.replicate, List.length_cons, List.length_nil, List.getElem?_cons_zero, List.getElem?_cons_succ, List.set_cons_zero, List.set_cons_succ, List.cons_append, List.nil_append, List.append_nil, List.take, List.all_cons, List.all_nil, Bool.and_self, Bool.and_true, Bool.true_and, Option.bind_some, Option.bind, Option.some.injEq, em]
  rw [hK]; clear hK K
  refine seq_step fun K hK => ?_
  simp [sx, sem, mkV, tOf, varK, startE, locK, intK, frzK, lstK, ixN_of, atI_of, sEq, twoStr, shaped_int, shaped_bool, shaped_none, shaped_str, shaped_il, shaped_it, eqv_il, eqv_it, eqv_int, eqv_str, viewK, view1, truthK, iterK, resK, retK, notK, andK, orK, oneK, tyK, mutK, rngK, Op.f, f1, f2, sIx, sAdd, sSub, sMul, sFdiv, sMod, sPow, sNeg, sLt, sLe, sGt, sGe, sLen, sTup, sLst, sInt, sAbs, sMin2, sMax2, sSl, sIsN, isNone, gcK, gcX, fitO, fitV, bindT, forGo, wipeE, List.map_cons, List.map_nil, List.replicate, List.length_cons, List.length_nil, List.getElem?_cons_zero, List.getElem?_cons_succ, List.set_cons_zero, List.set_cons_succ, List.cons_append, List.nil_append, List.append_nil, List.take, List.all_cons, List.all_nil, Bool.and_self, Bool.and_true, Bool.true_and, Option.bind_some, Option.bind, Option.some.injEq]
  refine names0 (by omega) fun zs a2 c2 z1 z2 z3 => ?_
  simp [sx, sem, mkV, tOf, varK, startE, locK, intK, frzK, lstK, ixN_of, atI_of, sEq, twoStr, shaped_int, shaped_bool, shaped_none, shaped_str, shaped_il, shaped_it, eqv_il, eqv_it, eqv_int, eqv_str, viewK, view1, truthK, iterK, resK, retK, notK, andK, orK, oneK, tyK, mutK, rngK, Op.f, f1, f2, sIx, sAdd, sSub, sMul, sFdiv, sMod, sPow, sNeg, sLt, sLe, sGt, sGe, sLen, sTup, sLst, sInt, sAbs, sMin2, sMax2, sSl, sIsN, isNone, gcK, gcX, fitO, fitV, bindT, forGo, wipeE, List.map_cons, List.map_nil, List.replicate, List.length_cons, List.length_nil, List.getElem?_cons_zero, List.getElem?_cons_succ, List.set_cons_zero, List.set_cons_succ, List.cons_append, List.nil_append, List.append_nil, List.take, List.all_cons, List.all_nil, Bool.and_self, Bool.and_true, Bool.true_and, Option.bind_some, Option.bind, Option.some.injEq]
  rw [hK]; clear hK K
  refine seq_step fun K hK => ?_
  simp [sx, sem, mkV, tOf, varK, startE, locK, intK, frzK, lstK, ixN_of, atI_of, sEq, twoStr, shaped_int, shaped_bool, shaped_none, shaped_str, shaped_il, shaped_it, eqv_il, eqv_it, eqv_int, eqv_str, viewK, view1, truthK, iterK, resK, retK, notK, andK, orK, oneK, tyK, mutK, rngK, Op.f, f1, f2, sIx, sAdd, sSub, sMul, sFdiv, sMod, sPow, sNeg, sLt, sLe, sGt, sGe, sLen, sTup, sLst, sInt, sAbs, sMin2, sMax2, sSl, sIsN, isNone, gcK, gcX, fitO, fitV, bindT, forGo, wipeE, List.map_cons, List.map_nil, List.replicate, List.length_cons, List.length_nil, List.getElem?_cons_zero, List.getElem?_cons_succ, List.set_cons_zero, List.set_cons_succ, List.cons_append, List.nil_append, List.append_nil, List.take, List.all_cons, List.all_nil, Bool.and_self, Bool.and_true, Bool.true_and, Option.bind_some, Option.bind, Option.some.injEq, frzL]
  refine ⟨by decide, draw0 (by omega) (by omega) fun r3 a3 c3 q3 q4 => ?_⟩
  have hn : ∃ n : Nat, n ≤ 8 ∧ atI [PyData.int 0, PyData.int 1, PyData.int 2, PyData.int 2, PyData.int 3, PyData.int 4, PyData.int 5, PyData.int 8] r3 = some (.int n) := by
    have : r3 = 0 ∨ r3 = 1 ∨ r3 = 2 ∨ r3 = 3 ∨ r3 = 4 ∨ r3 = 5 ∨ r3 = 6 ∨ r3 = 7 := by omega
    rcases this with rfl | rfl | rfl | rfl | rfl | rfl | rfl | rfl
    · exact ⟨0, by omega, rfl⟩
    · exact ⟨1, by omega, rfl⟩
    · exact ⟨2, by omega, rfl⟩
    · exact ⟨2, by omega, rfl⟩
    · exact ⟨3, by omega, rfl⟩
    · exact ⟨4, by omega, rfl⟩
    · exact ⟨5, by omega, rfl⟩
    · exact ⟨8, by omega, rfl⟩
  obtain ⟨n, n8, en⟩ := hn
  simp [sx, sem, mkV, tOf, varK, startE, locK, intK, frzK, lstK, ixN_of, atI_of, sEq, twoStr, shaped_int, shaped_bool, shaped_none, shaped_str, shaped_il, shaped_it, eqv_il, eqv_it, eqv_int, eqv_str, viewK, view1, truthK, iterK, resK, retK, notK, andK, orK, oneK, tyK, mutK, rngK, Op.f, f1, f2, sIx, sAdd, sSub, sMul, sFdiv, sMod, sPow, sNeg, sLt, sLe, sGt, sGe, sLen, sTup, sLst, sInt, sAbs, sMin2, sMax2, sSl, sIsN, isNone, gcK, gcX, fitO, fitV, bindT, forGo, wipeE, List.map_cons, List.map_nil, List.replicate, List.length_cons, List.length_nil, List.getElem?_cons_zero, List.getElem?_cons_succ, List.set_cons_zero, List.set_cons_succ, List.cons_append, List.nil_append, List.append_nil, List.take, List.all_cons, List.all_nil, Bool.and_self, Bool.and_true, Bool.true_and, Option.bind_some, Option.bind, Option.some.injEq, en]
  refine ⟨by omega, ?_⟩
  refine lcGo_inv (fun i acc μ => ∃ (a c : Int) (rs : List (List Int × List Int)), rs.length = i ∧ acc = rs.map ruleD ∧ (∀ r ∈ rs, r.1.length = m ∧ r.2.length = m ∧ ∀ x ∈ r.1, 0 ≤ x) ∧ μ = [fd a b c]) ⟨a3, c3, [], rfl, rfl, by simp, rfl⟩ (fun _ _ _ _ _ => trivial) (fun i x acc μ K2 hx h hk => ?_) (fun acc μ h => ?_)
  · obtain ⟨a4, c4, rs, h1, rfl, h3, rfl⟩ := h
    simp [sx, sem, mkV, tOf, varK, startE, locK, intK, frzK, lstK, ixN_of, atI_of, sEq, twoStr, shaped_int, shaped_bool, shaped_none, shaped_str, shaped_il, shaped_it, eqv_il, eqv_it, eqv_int, eqv_str, viewK, view1, truthK, iterK, resK, retK, notK, andK, orK, oneK, tyK, mutK, rngK, Op.f, f1, f2, sIx, sAdd, sSub, sMul, sFdiv, sMod, sPow, sNeg, sLt, sLe, sGt, sGe, sLen, sTup, sLst, sInt, sAbs, sMin2, sMax2, sSl, sIsN, isNone, gcK, gcX, fitO, fitV, bindT, forGo, wipeE, List.map_cons, List.map_nil, List.replicate, List.length_cons, List.length_nil, List.getElem?_cons_zero, List.getElem?_cons_succ, List.set_cons_zero, List.set_cons_succ, List.cons_append, List.nil_append, List.append_nil, List.take, List.all_cons, List.all_nil, Bool.and_self, Bool.and_true, Bool.true_and, Option.bind_some, Option.bind, Option.some.injEq]
    refine rule0 (by omega) (by omega) fun xs ys a5 c5 x1 x2 x3 => ?_
    have hi := (List.getElem?_eq_some_iff.mp hx).1
    rw [rangeD_length] at hi
    simp [sx, sem, mkV, tOf, varK, startE, locK, intK, frzK, lstK, ixN_of, atI_of, sEq, twoStr, shaped_int, shaped_bool, shaped_none, shaped_str, shaped_il, shaped_it, eqv_il, eqv_it, eqv_int, eqv_str, viewK, view1, truthK, iterK, resK, retK, notK, andK, orK, oneK, tyK, mutK, rngK, Op.f, f1, f2, sIx, sAdd, sSub, sMul, sFdiv, sMod, sPow, sNeg, sLt, sLe, sGt, sGe, sLen, sTup, sLst, sInt, sAbs, sMin2, sMax2, sSl, sIsN, isNone, gcK, gcX, fitO, fitV, bindT, forGo, wipeE, List.map_cons, List.map_nil, List.replicate, List.length_cons, List.length_nil, List.getElem?_cons_zero, List.getElem?_cons_succ, List.set_cons_zero, List.set_cons_succ, List.cons_append, List.nil_append, List.append_nil, List.take, List.all_cons, List.all_nil, Bool.and_self, Bool.and_true, Bool.true_and, Option.bind_some, Option.bind, Option.some.injEq]
    refine ⟨by have : (8 : Nat) < sizeLine := by decide
               omega, hk _ _ ⟨a5, c5, rs ++ [(xs, ys)], by simp [h1], by simp, ?_, rfl⟩⟩
    intro r hr
    rcases List.mem_append.mp hr with hr | hr
    · exact h3 r hr
    · obtain rfl := List.mem_singleton.mp hr
      exact ⟨x1, x2, x3⟩
  obtain ⟨a4, c4, rs, h1, rfl, h3, rfl⟩ := h
  rw [rangeD_length] at h1
  rw [hK]; clear hK K
  refine seq_step fun K hK => ?_
  simp [sx, sem, mkV, tOf, varK, startE, locK, intK, frzK, lstK, ixN_of, atI_of, sEq, twoStr, shaped_int, shaped_bool, shaped_none, shaped_str, shaped_il, shaped_it, eqv_il, eqv_it, eqv_int, eqv_str, viewK, view1, truthK, iterK, resK, retK, notK, andK, orK, oneK, tyK, mutK, rngK, Op.f, f1, f2, sIx, sAdd, sSub, sMul, sFdiv, sMod, sPow, sNeg, sLt, sLe, sGt, sGe, sLen, sTup, sLst, sInt, sAbs, sMin2, sMax2, sSl, sIsN, isNone, gcK, gcX, fitO, fitV, bindT, forGo, wipeE, List.map_cons, List.map_nil, List.replicate, List.length_cons, List.length_nil, List.getElem?_cons_zero, List.getElem?_cons_succ, List.set_cons_zero, List.set_cons_succ, List.cons_append, List.nil_append, List.append_nil, List.take, List.all_cons, List.all_nil, Bool.and_self, Bool.and_true, Bool.true_and, Option.bind_some, Option.bind, Option.some.injEq, pListRg, sLrg]
  refine ⟨RgOk.of_le (by omega) (by omega) (by omega) (by omega), ?_⟩
  rw [hK]; clear hK K
  refine seq_step fun K hK => ?_
  simp [sx, sem, mkV, tOf, varK, startE, locK, intK, frzK, lstK, ixN_of, atI_of, sEq, twoStr, shaped_int, shaped_bool, shaped_none, shaped_str, shaped_il, shaped_it, eqv_il, eqv_it, eqv_int, eqv_str, viewK, view1, truthK, iterK, resK, retK, notK, andK, orK, oneK, tyK, mutK, rngK, Op.f, f1, f2, sIx, sAdd, sSub, sMul, sFdiv, sMod, sPow, sNeg, sLt, sLe, sGt, sGe, sLen, sTup, sLst, sInt, sAbs, sMin2, sMax2, sSl, sIsN, isNone, gcK, gcX, fitO, fitV, bindT, forGo, wipeE, List.map_cons, List.map_nil, List.replicate, List.length_cons, List.length_nil, List.getElem?_cons_zero, List.getElem?_cons_succ, List.set_cons_zero, List.set_cons_succ, List.cons_append, List.nil_append, List.append_nil, List.take, List.all_cons, List.all_nil, Bool.and_self, Bool.and_true, Bool.true_and, Option.bind_some, Option.bind, Option.some.injEq, frzL]
  rw [hK]; clear hK K
  refine seq_step fun K hK => ?_
  simp [sx, sem, mkV, tOf, varK, startE, locK, intK, frzK, lstK, ixN_of, atI_of, sEq, twoStr, shaped_int, shaped_bool, shaped_none, shaped_str, shaped_il, shaped_it, eqv_il, eqv_it, eqv_int, eqv_str, viewK, view1, truthK, iterK, resK, retK, notK, andK, orK, oneK, tyK, mutK, rngK, Op.f, f1, f2, sIx, sAdd, sSub, sMul, sFdiv, sMod, sPow, sNeg, sLt, sLe, sGt, sGe, sLen, sTup, sLst, sInt, sAbs, sMin2, sMax2, sSl, sIsN, isNone, gcK, gcX, fitO, fitV, bindT, forGo, wipeE, List.map_cons, List.map_nil, List.replicate, List.length_cons, List.length_nil, List.getElem?_cons_zero, List.getElem?_cons_succ, List.set_cons_zero, List.set_cons_succ, List.cons_append, List.nil_append, List.append_nil, List.take, List.all_cons, List.all_nil, Bool.and_self, Bool.and_true, Bool.true_and, Option.bind_some, Option.bind, Option.some.injEq, frzL]
  refine ⟨by decide, draw0 (by omega) (by omega) fun r4 a5 c5 q5 q6 => ?_⟩
  have hq : ∃ n : Nat, n ≤ 3 ∧ atI [PyData.int 0, PyData.int 1, PyData.int 2, PyData.int 2, PyData.int 3] r4 = some (.int n) := by
    have : r4 = 0 ∨ r4 = 1 ∨ r4 = 2 ∨ r4 = 3 ∨ r4 = 4 := by omega
    rcases this with rfl | rfl | rfl | rfl | rfl
    · exact ⟨0, by omega, rfl⟩
    · exact ⟨1, by omega, rfl⟩
    · exact ⟨2, by omega, rfl⟩
    · exact ⟨2, by omega, rfl⟩
    · exact ⟨3, by omega, rfl⟩
  obtain ⟨t, t3, et⟩ := hq
  simp [sx, sem, mkV, tOf, varK, startE, locK, intK, frzK, lstK, ixN_of, atI_of, sEq, twoStr, shaped_int, shaped_bool, shaped_none, shaped_str, shaped_il, shaped_it, eqv_il, eqv_it, eqv_int, eqv_str, viewK, view1, truthK, iterK, resK, retK, notK, andK, orK, oneK, tyK, mutK, rngK, Op.f, f1, f2, sIx, sAdd, sSub, sMul, sFdiv, sMod, sPow, sNeg, sLt, sLe, sGt, sGe, sLen, sTup, sLst, sInt, sAbs, sMin2, sMax2, sSl, sIsN, isNone, gcK, gcX, fitO, fitV, bindT, forGo, wipeE, List.map_cons, List.map_nil, List.replicate, List.length_cons, List.length_nil, List.getElem?_cons_zero, List.getElem?_cons_succ, List.set_cons_zero, List.set_cons_succ, List.cons_append, List.nil_append, List.append_nil, List.take, List.all_cons, List.all_nil, Bool.and_self, Bool.and_true, Bool.true_and, Option.bind_some, Option.bind, Option.some.injEq, et]
  have hw : (if t < m then (t : Int) else (m : Int)) = ((min t m : Nat) : Int) := by split <;> omega
  rw [hw]
  refine ⟨by omega, by omega, ?_⟩
  have rg : rangeD 0 m = (List.range m).map fun (n : Nat) => PyData.int n := by
    unfold rangeD
    exact List.map_congr_left fun i _ => by simp
  refine forGo_inv (fun i env μ => ∃ (a c : Int) (ls is : List Nat) (v6 : Option SV), ls.length + i = m ∧ is.length = i ∧ (∀ x ∈ ls, x < m) ∧ (∀ x ∈ is, x < m) ∧
    env = [some (.loc 0), some (.d (.int m)), some (.d (.tuple (zs.map PyData.str))), some (.d (.tuple (rs.map ruleD))), some (.loc 1), some (.loc 2), v6, none, none] ∧ μ = [fd a b c, .lst (ls.map fun (n : Nat) => PyData.int n), .lst (is.map fun (n : Nat) => PyData.int n)])
    ⟨a5, c5, List.range m, [], _, by simp, rfl, fun x hx => List.mem_range.mp hx, by simp, rfl, by rw [← rg]; rfl⟩ (fun _ _ _ _ _ => trivial) (fun i x env μ K2 hx h hk => ?_) (fun env μ h => ?_)
  · obtain ⟨a6, c6, ls, is, v6, l1, l2, l3, l4, rfl, rfl⟩ := h
    have hi := (List.getElem?_eq_some_iff.mp hx).1
    rw [rangeD_length] at hi
    simp [sx, sem, mkV, tOf, varK, startE, locK, intK, frzK, lstK, ixN_of, atI_of, sEq, twoStr, shaped_int, shaped_bool, shaped_none, shaped_str, shaped_il, shaped_it, eqv_il, eqv_it, eqv_int, eqv_str, viewK, view1, truthK, iterK, resK, retK, notK, andK, orK, oneK, tyK, mutK, rngK, Op.f, f1, f2, sIx, sAdd, sSub, sMul, sFdiv, sMod, sPow, sNeg, sLt, sLe, sGt, sGe, sLen, sTup, sLst, sInt, sAbs, sMin2, sMax2, sSl, sIsN, isNone, gcK, gcX, fitO, fitV, bindT, forGo, wipeE, List.map_cons, List.map_nil, List.replicate, List.length_cons, List.length_nil, List.getElem?_cons_zero, List.getElem?_cons_succ, List.set_cons_zero, List.set_cons_succ, List.cons_append, List.nil_append, List.append_nil, List.take, List.all_cons, List.all_nil, Bool.and_self, Bool.and_true, Bool.true_and, Option.bind_some, Option.bind, Option.some.injEq]
    refine draw0 (by omega) (by omega) fun r5 a7 c7 q7 q8 => ?_
    obtain ⟨j, rfl⟩ := Int.eq_ofNat_of_zero_le q7
    have hj : j < ls.length := by omega
    have hs : seqIndex? (j : Int) ls.length = some j := by
      have := seqIndex_of (k := (j : Int)) (n := ls.length) (by omega) (by omega)
      simpa using this
    simp [sx, sem, mkV, tOf, varK, startE, locK, intK, frzK, lstK, ixN_of, atI_of, sEq, twoStr, shaped_int, shaped_bool, shaped_none, shaped_str, shaped_il, shaped_it, eqv_il, eqv_it, eqv_int, eqv_str, viewK, view1, truthK, iterK, resK, retK, notK, andK, orK, oneK, tyK, mutK, rngK, Op.f, f1, f2, sIx, sAdd, sSub, sMul, sFdiv, sMod, sPow, sNeg, sLt, sLe, sGt, sGe, sLen, sTup, sLst, sInt, sAbs, sMin2, sMax2, sSl, sIsN, isNone, gcK, gcX, fitO, fitV, bindT, forGo, wipeE, List.map_cons, List.map_nil, List.replicate, List.length_cons, List.length_nil, List.getElem?_cons_zero, List.getElem?_cons_succ, List.set_cons_zero, List.set_cons_succ, List.cons_append, List.nil_append, List.append_nil, List.take, List.all_cons, List.all_nil, Bool.and_self, Bool.and_true, Bool.true_and, Option.bind_some, Option.bind, Option.some.injEq, hs, List.getElem?_eq_getElem hj]
    refine ⟨by omega, by have : (8 : Nat) < sizeLine := by decide
                         omega, hk _ _ ⟨a7, c7, ls.eraseIdx j, is ++ [ls[j]], _, by rw [List.length_eraseIdx_of_lt hj]; omega, by simp [l2], fun x hx => l3 x (List.mem_of_mem_eraseIdx hx), fun x hx => ?_, rfl, ?_⟩⟩
    · rcases List.mem_append.mp hx with hx | hx
      · exact l4 x hx
      · rw [List.mem_singleton.mp hx]; exact l3 _ (List.getElem_mem hj)
    · simp [map_erase]
  obtain ⟨a6, c6, ls, is, v6, l1, l2, l3, l4, rfl, rfl⟩ := h
  rw [rangeD_length] at l1 l2
  rw [hK]; clear hK K
  refine seq_step fun K hK => ?_
  simp [sx, sem, mkV, tOf, varK, startE, locK, intK, frzK, lstK, ixN_of, atI_of, sEq, twoStr, shaped_int, shaped_bool, shaped_none, shaped_str, shaped_il, shaped_it, eqv_il, eqv_it, eqv_int, eqv_str, viewK, view1, truthK, iterK, resK, retK, notK, andK, orK, oneK, tyK, mutK, rngK, Op.f, f1, f2, sIx, sAdd, sSub, sMul, sFdiv, sMod, sPow, sNeg, sLt, sLe, sGt, sGe, sLen, sTup, sLst, sInt, sAbs, sMin2, sMax2, sSl, sIsN, isNone, gcK, gcX, fitO, fitV, bindT, forGo, wipeE, List.map_cons, List.map_nil, List.replicate, List.length_cons, List.length_nil, List.getElem?_cons_zero, List.getElem?_cons_succ, List.set_cons_zero, List.set_cons_succ, List.cons_append, List.nil_append, List.append_nil, List.take, List.all_cons, List.all_nil, Bool.and_self, Bool.and_true, Bool.true_and, Option.bind_some, Option.bind, Option.some.injEq, frzL]
  refine lcGo_inv (fun i acc μ => ∃ (a c : Int) (bs : List Int), bs.length = i ∧ acc = bs.map PyData.int ∧ (∀ x ∈ bs, 0 ≤ x ∧ x < 100) ∧ μ = [fd a b c, .lst (ls.map fun (n : Nat) => PyData.int n), .lst (is.map fun (n : Nat) => PyData.int n)]) ⟨a6, c6, [], rfl, rfl, by simp, rfl⟩ (fun _ _ _ _ _ => trivial) (fun i x acc μ K2 hx h hk => ?_) (fun acc μ h => ?_)
  · obtain ⟨a7, c7, bs, b1, rfl, b3, rfl⟩ := h
    have hi := (List.getElem?_eq_some_iff.mp hx).1
    rw [List.length_map] at hi
    simp [sx, sem, mkV, tOf, varK, startE, locK, intK, frzK, lstK, ixN_of, atI_of, sEq, twoStr, shaped_int, shaped_bool, shaped_none, shaped_str, shaped_il, shaped_it, eqv_il, eqv_it, eqv_int, eqv_str, viewK, view1, truthK, iterK, resK, retK, notK, andK, orK, oneK, tyK, mutK, rngK, Op.f, f1, f2, sIx, sAdd, sSub, sMul, sFdiv, sMod, sPow, sNeg, sLt, sLe, sGt, sGe, sLen, sTup, sLst, sInt, sAbs, sMin2, sMax2, sSl, sIsN, isNone, gcK, gcX, fitO, fitV, bindT, forGo, wipeE, List.map_cons, List.map_nil, List.replicate, List.length_cons, List.length_nil, List.getElem?_cons_zero, List.getElem?_cons_succ, List.set_cons_zero, List.set_cons_succ, List.cons_append, List.nil_append, List.append_nil, List.take, List.all_cons, List.all_nil, Bool.and_self, Bool.and_true, Bool.true_and, Option.bind_some, Option.bind, Option.some.injEq, frzL]
    refine draw0 (by omega) (by omega) fun r5 a8 c8 q7 q8 => ?_
    simp [sx, sem, mkV, tOf, varK, startE, locK, intK, frzK, lstK, ixN_of, atI_of, sEq, twoStr, shaped_int, shaped_bool, shaped_none, shaped_str, shaped_il, shaped_it, eqv_il, eqv_it, eqv_int, eqv_str, viewK, view1, truthK, iterK, resK, retK, notK, andK, orK, oneK, tyK, mutK, rngK, Op.f, f1, f2, sIx, sAdd, sSub, sMul, sFdiv, sMod, sPow, sNeg, sLt, sLe, sGt, sGe, sLen, sTup, sLst, sInt, sAbs, sMin2, sMax2, sSl, sIsN, isNone, gcK, gcX, fitO, fitV, bindT, forGo, wipeE, List.map_cons, List.map_nil, List.replicate, List.length_cons, List.length_nil, List.getElem?_cons_zero, List.getElem?_cons_succ, List.set_cons_zero, List.set_cons_succ, List.cons_append, List.nil_append, List.append_nil, List.take, List.all_cons, List.all_nil, Bool.and_self, Bool.and_true, Bool.true_and, Option.bind_some, Option.bind, Option.some.injEq, frzL]
    refine ⟨by decide, draw0 (by omega) (by omega) fun r6 a9 c9 q9 q10 => ?_⟩
    have hz : ∃ z : Int, 0 ≤ z ∧ z < 100 ∧ atI [PyData.int 0, PyData.int 0, PyData.int 1, PyData.int 2, PyData.int 99, PyData.int r5] r6 = some (.int z) := by
      have : r6 = 0 ∨ r6 = 1 ∨ r6 = 2 ∨ r6 = 3 ∨ r6 = 4 ∨ r6 = 5 := by omega
      rcases this with rfl | rfl | rfl | rfl | rfl | rfl
      · exact ⟨0, by omega, by omega, rfl⟩
      · exact ⟨0, by omega, by omega, rfl⟩
      · exact ⟨1, by omega, by omega, rfl⟩
      · exact ⟨2, by omega, by omega, rfl⟩
      · exact ⟨99, by omega, by omega, rfl⟩
      · exact ⟨r5, by omega, by omega, rfl⟩
    obtain ⟨z, hz1, hz2, ez⟩ := hz
    simp [sx, sem, mkV, tOf, varK, startE, locK, intK, frzK, lstK, ixN_of, atI_of, sEq, twoStr, shaped_int, shaped_bool, shaped_none, shaped_str, shaped_il, shaped_it, eqv_il, eqv_it, eqv_int, eqv_str, viewK, view1, truthK, iterK, resK, retK, notK, andK, orK, oneK, tyK, mutK, rngK, Op.f, f1, f2, sIx, sAdd, sSub, sMul, sFdiv, sMod, sPow, sNeg, sLt, sLe, sGt, sGe, sLen, sTup, sLst, sInt, sAbs, sMin2, sMax2, sSl, sIsN, isNone, gcK, gcX, fitO, fitV, bindT, forGo, wipeE, List.map_cons, List.map_nil, List.replicate, List.length_cons, List.length_nil, List.getElem?_cons_zero, List.getElem?_cons_succ, List.set_cons_zero, List.set_cons_succ, List.cons_append, List.nil_append, List.append_nil, List.take, List.all_cons, List.all_nil, Bool.and_self, Bool.and_true, Bool.true_and, Option.bind_some, Option.bind, Option.some.injEq, ez]
    refine ⟨by have : (8 : Nat) < sizeLine := by decide
               omega, hk _ _ ⟨a9, c9, bs ++ [z], by simp [b1], by simp, fun x hx => ?_, rfl⟩⟩
    rcases List.mem_append.mp hx with hx | hx
    · exact b3 x hx
    · rw [List.mem_singleton.mp hx]; exact ⟨hz1, hz2⟩
  obtain ⟨a7, c7, bs, b1, rfl, b3, rfl⟩ := h
  rw [List.length_map] at b1
  rw [hK]; clear hK K
  simp [sx, sem, mkV, tOf, varK, startE, locK, intK, frzK, lstK, ixN_of, atI_of, sEq, twoStr, shaped_int, shaped_bool, shaped_none, shaped_str, shaped_il, shaped_it, eqv_il, eqv_it, eqv_int, eqv_str, viewK, view1, truthK, iterK, resK, retK, notK, andK, orK, oneK, tyK, mutK, rngK, Op.f, f1, f2, sIx, sAdd, sSub, sMul, sFdiv, sMod, sPow, sNeg, sLt, sLe, sGt, sGe, sLen, sTup, sLst, sInt, sAbs, sMin2, sMax2, sSl, sIsN, isNone, gcK, gcX, fitO, fitV, bindT, forGo, wipeE, List.map_cons, List.map_nil, List.replicate, List.length_cons, List.length_nil, List.getElem?_cons_zero, List.getElem?_cons_succ, List.set_cons_zero, List.set_cons_succ, List.cons_append, List.nil_append, List.append_nil, List.take, List.all_cons, List.all_nil, Bool.and_self, Bool.and_true, Bool.true_and, Option.bind_some, Option.bind, Option.some.injEq, frzL]
  refine draw0 (by omega) (by omega) fun r7 a8 c8 q7 q8 => ?_
  obtain ⟨an, rfl⟩ := Int.eq_ofNat_of_zero_le q7
  simp [sx, sem, mkV, tOf, varK, startE, locK, intK, frzK, lstK, ixN_of, atI_of, sEq, twoStr, shaped_int, shaped_bool, shaped_none, shaped_str, shaped_il, shaped_it, eqv_il, eqv_it, eqv_int, eqv_str, viewK, view1, truthK, iterK, resK, retK, notK, andK, orK, oneK, tyK, mutK, rngK, Op.f, f1, f2, sIx, sAdd, sSub, sMul, sFdiv, sMod, sPow, sNeg, sLt, sLe, sGt, sGe, sLen, sTup, sLst, sInt, sAbs, sMin2, sMax2, sSl, sIsN, isNone, gcK, gcX, fitO, fitV, bindT, forGo, wipeE, List.map_cons, List.map_nil, List.replicate, List.length_cons, List.length_nil, List.getElem?_cons_zero, List.getElem?_cons_succ, List.set_cons_zero, List.set_cons_succ, List.cons_append, List.nil_append, List.append_nil, List.take, List.all_cons, List.all_nil, Bool.and_self, Bool.and_true, Bool.true_and, Option.bind_some, Option.bind, Option.some.injEq, frzL]
  exact ⟨by decide, rfl, k ⟨zs, rs, is, bs, an⟩ a8 c8 ⟨by show 1 ≤ zs.length; omega, by show zs.length ≤ 8; omega, z2, z3, by show rs.length ≤ 8; omega, fun r hr => by show r.1.length = zs.length ∧ r.2.length = zs.length ∧ _; rw [z1]; exact h3 r hr, fun i hi => by show i < zs.length; rw [z1]; exact l4 i hi, by show is.length ≤ 8; omega, b1, b3, by show an < zs.length; omega⟩⟩
theorem sem_sort_called : ∀ svs μ P PE, svs.length = 2 → sp_sort_called svs μ P PE → sx (fun x _ μ' => gcX μ.length μ' (PE x)) b_sort_called (startE N_sort_called svs) μ (fun _ μ' => gcK μ.length (.d .none) μ' P) (fun x μ' => gcK μ.length x μ' P) := by
  intro svs μ P PE hl h
  obtain ⟨p, z, rfl, rfl, ok, hz, k1, k2⟩ := h
  unfold b_sort_called
  refine seq_step fun K hK => ?_
  simp [N_sort_called, PotD.d, sx, sem, mkV, tOf, varK, startE, locK, intK, frzK, lstK, ixN_of, atI_of, sEq, twoStr, shaped_int, shaped_bool, shaped_none, shaped_str, shaped_il, shaped_it, eqv_il, eqv_it, eqv_int, eqv_str, viewK, view1, truthK, iterK, resK, retK, notK, andK, orK, oneK, tyK, mutK, rngK, Op.f, f1, f2, sIx, sAdd, sSub, sMul, sFdiv, sMod, sPow, sNeg, sLt, sLe, sGt, sGe, sLen, sTup, sLst, sInt, sAbs, sMin2, sMax2, sSl, sIsN, isNone, gcK, gcX, fitO, fitV, bindT, forGo, wipeE, List.map_cons, List.map_nil, List.replicate, List.length_cons, List.length_nil, List.getElem?_cons_zero, List.getElem?_cons_succ, List.set_cons_zero, List.set_cons_succ, List.cons_append, List.nil_append, List.append_nil, List.take, List.all_cons, List.all_nil, Bool.and_self, Bool.and_true, Bool.true_and, Option.bind_some, Option.bind, Option.some.injEq, f2]
  refine (sIn_strs hz ok.strs ?_).1
  simp [sx, sem, mkV, tOf, varK, startE, locK, intK, frzK, lstK, ixN_of, atI_of, sEq, twoStr, shaped_int, shaped_bool, shaped_none, shaped_str, shaped_il, shaped_it, eqv_il, eqv_it, eqv_int, eqv_str, viewK, view1, truthK, iterK, resK, retK, notK, andK, orK, oneK, tyK, mutK, rngK, Op.f, f1, f2, sIx, sAdd, sSub, sMul, sFdiv, sMod, sPow, sNeg, sLt, sLe, sGt, sGe, sLen, sTup, sLst, sInt, sAbs, sMin2, sMax2, sSl, sIsN, isNone, gcK, gcX, fitO, fitV, bindT, forGo, wipeE, List.map_cons, List.map_nil, List.replicate, List.length_cons, List.length_nil, List.getElem?_cons_zero, List.getElem?_cons_succ, List.set_cons_zero, List.set_cons_succ, List.cons_append, List.nil_append, List.append_nil, List.take, List.all_cons, List.all_nil, Bool.and_self, Bool.and_true, Bool.true_and, Option.bind_some, Option.bind, Option.some.injEq]
  split
  · rename_i hm
    rw [hK]; clear hK K
    simp [sx, sem, mkV, tOf, varK, startE, locK, intK, frzK, lstK, ixN_of, atI_of, sEq, twoStr, shaped_int, shaped_bool, shaped_none, shaped_str, shaped_il, shaped_it, eqv_il, eqv_it, eqv_int, eqv_str, viewK, view1, truthK, iterK, resK, retK, notK, andK, orK, oneK, tyK, mutK, rngK, Op.f, f1, f2, sIx, sAdd, sSub, sMul, sFdiv, sMod, sPow, sNeg, sLt, sLe, sGt, sGe, sLen, sTup, sLst, sInt, sAbs, sMin2, sMax2, sSl, sIsN, isNone, gcK, gcX, fitO, fitV, bindT, forGo, wipeE, List.map_cons, List.map_nil, List.replicate, List.length_cons, List.length_nil, List.getElem?_cons_zero, List.getElem?_cons_succ, List.set_cons_zero, List.set_cons_succ, List.cons_append, List.nil_append, List.append_nil, List.take, List.all_cons, List.all_nil, Bool.and_self, Bool.and_true, Bool.true_and, Option.bind_some, Option.bind, Option.some.injEq, tyD, sTix, mTix]
    obtain ⟨j, hj, ej⟩ := List.mem_iff_getElem.mp hm
    refine ⟨p.sorts, rfl, j, by rw [List.getElem?_eq_getElem hj, ej], fun m hmj e => ?_, ?_⟩
    · obtain ⟨hm', em⟩ := List.getElem?_eq_some_iff.mp e
      have := (List.getElem_inj ok.nd).mp (em.trans ej.symm)
      omega
    · exact k2 j (by rw [List.getElem?_eq_getElem hj, ej])
  · rename_i hm
    exact k1 hm
theorem sem_inputs_of : ∀ svs μ P PE, svs.length = 1 → sp_inputs_of svs μ P PE → sx (fun x _ μ' => gcX μ.length μ' (PE x)) b_inputs_of (startE N_inputs_of svs) μ (fun _ μ' => gcK μ.length (.d .none) μ' P) (fun x μ' => gcK μ.length x μ' P) := by
  intro svs μ P PE hl h
  obtain ⟨p, rfl, rfl, k⟩ := h
  unfold b_inputs_of
  simp [N_inputs_of, PotD.d, sx, sem, mkV, tOf, varK, startE, locK, intK, frzK, lstK, ixN_of, atI_of, sEq, twoStr, shaped_int, shaped_bool, shaped_none, shaped_str, shaped_il, shaped_it, eqv_il, eqv_it, eqv_int, eqv_str, viewK, view1, truthK, iterK, resK, retK, notK, andK, orK, oneK, tyK, mutK, rngK, Op.f, f1, f2, sIx, sAdd, sSub, sMul, sFdiv, sMod, sPow, sNeg, sLt, sLe, sGt, sGe, sLen, sTup, sLst, sInt, sAbs, sMin2, sMax2, sSl, sIsN, isNone, gcK, gcX, fitO, fitV, bindT, forGo, wipeE, List.map_cons, List.map_nil, List.replicate, List.length_cons, List.length_nil, List.getElem?_cons_zero, List.getElem?_cons_succ, List.set_cons_zero, List.set_cons_succ, List.cons_append, List.nil_append, List.append_nil, List.take, List.all_cons, List.all_nil, Bool.and_self, Bool.and_true, Bool.true_and, Option.bind_some, Option.bind, Option.some.injEq]
  exact k
theorem sem_first_taker : ∀ svs μ P PE, svs.length = 1 → sp_first_taker svs μ P PE → sx (fun x _ μ' => gcX μ.length μ' (PE x)) b_first_taker (startE N_first_taker svs) μ (fun _ μ' => gcK μ.length (.d .none) μ' P) (fun x μ' => gcK μ.length x μ' P) := by
  intro svs μ P PE hl h
  obtain ⟨p, rfl, rfl, ok, k⟩ := h
  unfold b_first_taker
  refine seq_step fun K hK => ?_
  simp [N_first_taker, PotD.d, sx, sem, mkV, tOf, varK, startE, locK, intK, frzK, lstK, ixN_of, atI_of, sEq, twoStr, shaped_int, shaped_bool, shaped_none, shaped_str, shaped_il, shaped_it, eqv_il, eqv_it, eqv_int, eqv_str, viewK, view1, truthK, iterK, resK, retK, notK, andK, orK, oneK, tyK, mutK, rngK, Op.f, f1, f2, sIx, sAdd, sSub, sMul, sFdiv, sMod, sPow, sNeg, sLt, sLe, sGt, sGe, sLen, sTup, sLst, sInt, sAbs, sMin2, sMax2, sSl, sIsN, isNone, gcK, gcX, fitO, fitV, bindT, forGo, wipeE, List.map_cons, List.map_nil, List.replicate, List.length_cons, List.length_nil, List.getElem?_cons_zero, List.getElem?_cons_succ, List.set_cons_zero, List.set_cons_succ, List.cons_append, List.nil_append, List.append_nil, List.take, List.all_cons, List.all_nil, Bool.and_self, Bool.and_true, Bool.true_and, Option.bind_some, Option.bind, Option.some.injEq, pEnum, enumD, itemsOf]
  refine forGo_inv (fun i env μ => μ = [] ∧ (∀ j, j < i → ∀ r, p.rules[j]? = some r → ¬ 0 < r.1.getD p.answer 0) ∧ ∃ v1 v2 v3, env = [some (.d p.d), v1, v2, v3]) ⟨rfl, fun j hj => by omega, _, _, _, rfl⟩ (fun i env μ _ h => rfl) (fun i x env μ K2 hx h hk => ?_) (fun env μ h => ?_)
  · obtain ⟨rfl, hno, v1, v2, v3, rfl⟩ := h
    rw [List.getElem?_mapIdx, List.getElem?_map] at hx
    cases q : p.rules[i]? with
    | none => rw [q] at hx; cases hx
    | some r =>
      rw [q] at hx
      cases hx
      have hr := ok.row r (List.mem_of_getElem? q)
      have ea := at_getD (xs := r.1) (n := p.answer) (by rw [hr.1]; exact ok.ans)
      simp [PotD.d, ruleD, sx, sem, mkV, tOf, varK, startE, locK, intK, frzK, lstK, ixN_of, atI_of, sEq, twoStr, shaped_int, shaped_bool, shaped_none, shaped_str, shaped_il, shaped_it, eqv_il, eqv_it, eqv_int, eqv_str, viewK, view1, truthK, iterK, resK, retK, notK, andK, orK, oneK, tyK, mutK, rngK, Op.f, f1, f2, sIx, sAdd, sSub, sMul, sFdiv, sMod, sPow, sNeg, sLt, sLe, sGt, sGe, sLen, sTup, sLst, sInt, sAbs, sMin2, sMax2, sSl, sIsN, isNone, gcK, gcX, fitO, fitV, bindT, forGo, wipeE, List.map_cons, List.map_nil, List.replicate, List.length_cons, List.length_nil, List.getElem?_cons_zero, List.getElem?_cons_succ, List.set_cons_zero, List.set_cons_succ, List.cons_append, List.nil_append, List.append_nil, List.take, List.all_cons, List.all_nil, Bool.and_self, Bool.and_true, Bool.true_and, Option.bind_some, Option.bind, Option.some.injEq, ea]
      split
      · rename_i hp
        have e : p.rules.findIdx? (fun r => decide (0 < r.1.getD p.answer 0)) = some i := by
          rw [List.findIdx?_eq_some_iff_getElem]
          obtain ⟨hi, ei⟩ := List.getElem?_eq_some_iff.mp q
          refine ⟨hi, by rw [ei]; exact decide_eq_true (by simpa using hp), fun j hj => ?_⟩
          have := hno j hj p.rules[j] (List.getElem?_eq_getElem (by omega))
          simpa using this
        rw [e] at k
        exact k
      · rename_i hp
        refine hk _ _ ⟨rfl, fun j hj r' hr' => ?_, _, _, _, rfl⟩
        by_cases hji : j < i
        · exact hno j hji r' hr'
        · have : j = i := by omega
          subst this
          rw [q] at hr'; cases hr'
          simpa using hp
  · obtain ⟨rfl, hno, v1, v2, v3, rfl⟩ := h
    rw [hK]; clear hK K
    have e : p.rules.findIdx? (fun r => decide (0 < r.1.getD p.answer 0)) = none := by
      rw [List.findIdx?_eq_none_iff]
      intro r hr
      obtain ⟨j, hj, ej⟩ := List.mem_iff_getElem.mp hr
      have := hno j (by simpa using hj) r (by rw [List.getElem?_eq_getElem hj, ej])
      simpa using this
    rw [e] at k
    simp [sx, sem, mkV, tOf, varK, startE, locK, intK, frzK, lstK, ixN_of, atI_of, sEq, twoStr, shaped_int, shaped_bool, shaped_none, shaped_str, shaped_il, shaped_it, eqv_il, eqv_it, eqv_int, eqv_str, viewK, view1, truthK, iterK, resK, retK, notK, andK, orK, oneK, tyK, mutK, rngK, Op.f, f1, f2, sIx, sAdd, sSub, sMul, sFdiv, sMod, sPow, sNeg, sLt, sLe, sGt, sGe, sLen, sTup, sLst, sInt, sAbs, sMin2, sMax2, sSl, sIsN, isNone, gcK, gcX, fitO, fitV, bindT, forGo, wipeE, List.map_cons, List.map_nil, List.replicate, List.length_cons, List.length_nil, List.getElem?_cons_zero, List.getElem?_cons_succ, List.set_cons_zero, List.set_cons_succ, List.cons_append, List.nil_append, List.append_nil, List.take, List.all_cons, List.all_nil, Bool.and_self, Bool.and_true, Bool.true_and, Option.bind_some, Option.bind, Option.some.injEq]
    exact k
theorem sem_beginning : ∀ svs μ P PE, svs.length = 2 → sp_beginning svs μ P PE → sx (fun x _ μ' => gcX μ.length μ' (PE x)) b_beginning (startE N_beginning svs) μ (fun _ μ' => gcK μ.length (.d .none) μ' P) (fun x μ' => gcK μ.length x μ' P) := by
  intro svs μ P PE hl h
  obtain ⟨p, am, rfl, rfl, ok, hal, k⟩ := h
  unfold b_beginning
  refine seq_step fun K hK => ?_
  simp [N_beginning, PotD.d, sx, sem, mkV, tOf, varK, startE, locK, intK, frzK, lstK, ixN_of, atI_of, sEq, twoStr, shaped_int, shaped_bool, shaped_none, shaped_str, shaped_il, shaped_it, eqv_il, eqv_it, eqv_int, eqv_str, viewK, view1, truthK, iterK, resK, retK, notK, andK, orK, oneK, tyK, mutK, rngK, Op.f, f1, f2, sIx, sAdd, sSub, sMul, sFdiv, sMod, sPow, sNeg, sLt, sLe, sGt, sGe, sLen, sTup, sLst, sInt, sAbs, sMin2, sMax2, sSl, sIsN, isNone, gcK, gcX, fitO, fitV, bindT, forGo, wipeE, List.map_cons, List.map_nil, List.replicate, List.length_cons, List.length_nil, List.getElem?_cons_zero, List.getElem?_cons_succ, List.set_cons_zero, List.set_cons_succ, List.cons_append, List.nil_append, List.append_nil, List.take, List.all_cons, List.all_nil, Bool.and_self, Bool.and_true, Bool.true_and, Option.bind_some, Option.bind, Option.some.injEq]
  rw [hK]; clear hK K
  refine seq_step fun K hK => ?_
  simp [N_beginning, PotD.d, sx, sem, mkV, tOf, varK, startE, locK, intK, frzK, lstK, ixN_of, atI_of, sEq, twoStr, shaped_int, shaped_bool, shaped_none, shaped_str, shaped_il, shaped_it, eqv_il, eqv_it, eqv_int, eqv_str, viewK, view1, truthK, iterK, resK, retK, notK, andK, orK, oneK, tyK, mutK, rngK, Op.f, f1, f2, sIx, sAdd, sSub, sMul, sFdiv, sMod, sPow, sNeg, sLt, sLe, sGt, sGe, sLen, sTup, sLst, sInt, sAbs, sMin2, sMax2, sSl, sIsN, isNone, gcK, gcX, fitO, fitV, bindT, forGo, wipeE, List.map_cons, List.map_nil, List.replicate, List.length_cons, List.length_nil, List.getElem?_cons_zero, List.getElem?_cons_succ, List.set_cons_zero, List.set_cons_succ, List.cons_append, List.nil_append, List.append_nil, List.take, List.all_cons, List.all_nil, Bool.and_self, Bool.and_true, Bool.true_and, Option.bind_some, Option.bind, Option.some.injEq, pZip, zipD, itemsOf]
  have hrow : ∀ i, ((p.inputs.zip am).take i).foldl addAt p.begin = ((p.inputs.zip am).take i).foldl addAt p.begin ∧ (((p.inputs.zip am).take i).foldl addAt p.begin).length = p.begin.length := fun i => by
    refine ⟨rfl, ?_⟩
    generalize (p.inputs.zip am).take i = l
    have go : ∀ (l : List (Nat × Int)) (row : List Int), (l.foldl addAt row).length = row.length := by
      intro l
      induction l with
      | nil => intro row; rfl
      | cons q l ih => intro row; rw [List.foldl_cons, ih]; simp [addAt]
    exact go l _
  refine ⟨_, ⟨_, _, ⟨rfl, rfl⟩, _, rfl, _, rfl, rfl⟩, ?_⟩
  refine forGo_inv (fun i env μ => μ = [MO.lst ((((p.inputs.zip am).take i).foldl addAt p.begin).map PyData.int)] ∧ ∃ v3 v4, env = [some (.d p.d), some (.d (.tuple (am.map PyData.int))), some (.loc 0), v3, v4]) ⟨rfl, _, _, rfl⟩ (fun i env μ _ h => rfl) (fun i x env μ K2 hx h hk => ?_) (fun env μ h => ?_)
  · obtain ⟨rfl, v3, v4, rfl⟩ := h
    rw [List.getElem?_zipWith, List.getElem?_map, List.getElem?_map] at hx
    cases q1 : p.inputs[i]? with
    | none => rw [q1] at hx; cases am[i]? <;> cases hx
    | some s =>
      cases q2 : am[i]? with
      | none => rw [q1, q2] at hx; cases hx
      | some m =>
        rw [q1, q2] at hx
        cases hx
        have hs := ok.inp s (List.mem_of_getElem? q1)
        have hL := (hrow i).2
        have ea := at_getD (xs := ((p.inputs.zip am).take i).foldl addAt p.begin) (n := s) (by rw [hL, ok.bgl]; exact hs)
        have ei : ixN ((((p.inputs.zip am).take i).foldl addAt p.begin).map PyData.int).length (s : Int) = some s := ixN_nat (by rw [List.length_map, hL, ok.bgl]; exact hs)
        rw [List.length_map] at ei
        simp [sx, sem, mkV, tOf, varK, startE, locK, intK, frzK, lstK, ixN_of, atI_of, sEq, twoStr, shaped_int, shaped_bool, shaped_none, shaped_str, shaped_il, shaped_it, eqv_il, eqv_it, eqv_int, eqv_str, viewK, view1, truthK, iterK, resK, retK, notK, andK, orK, oneK, tyK, mutK, rngK, Op.f, f1, f2, sIx, sAdd, sSub, sMul, sFdiv, sMod, sPow, sNeg, sLt, sLe, sGt, sGe, sLen, sTup, sLst, sInt, sAbs, sMin2, sMax2, sSl, sIsN, isNone, gcK, gcX, fitO, fitV, bindT, forGo, wipeE, List.map_cons, List.map_nil, List.replicate, List.length_cons, List.length_nil, List.getElem?_cons_zero, List.getElem?_cons_succ, List.set_cons_zero, List.set_cons_succ, List.cons_append, List.nil_append, List.append_nil, List.take, List.all_cons, List.all_nil, Bool.and_self, Bool.and_true, Bool.true_and, Option.bind_some, Option.bind, Option.some.injEq, ea, ei]
        refine hk _ _ ⟨?_, _, _, rfl⟩
        have hz : (p.inputs.zip am)[i]? = some (s, m) := by rw [List.getElem?_zip_eq_some]; exact ⟨q1, q2⟩
        rw [List.take_add_one, hz]
        simp [addAt, List.map_set]
  · obtain ⟨rfl, v3, v4, rfl⟩ := h
    rw [hK]; clear hK K
    simp [sx, sem, mkV, tOf, varK, startE, locK, intK, frzK, lstK, ixN_of, atI_of, sEq, twoStr, shaped_int, shaped_bool, shaped_none, shaped_str, shaped_il, shaped_it, eqv_il, eqv_it, eqv_int, eqv_str, viewK, view1, truthK, iterK, resK, retK, notK, andK, orK, oneK, tyK, mutK, rngK, Op.f, f1, f2, sIx, sAdd, sSub, sMul, sFdiv, sMod, sPow, sNeg, sLt, sLe, sGt, sGe, sLen, sTup, sLst, sInt, sAbs, sMin2, sMax2, sSl, sIsN, isNone, gcK, gcX, fitO, fitV, bindT, forGo, wipeE, List.map_cons, List.map_nil, List.replicate, List.length_cons, List.length_nil, List.getElem?_cons_zero, List.getElem?_cons_succ, List.set_cons_zero, List.set_cons_succ, List.cons_append, List.nil_append, List.append_nil, List.take, List.all_cons, List.all_nil, Bool.and_self, Bool.and_true, Bool.true_and, Option.bind_some, Option.bind, Option.some.injEq]
    rw [List.take_of_length_le (by simp)]
    exact k
def envR (p : PotD) (am : List Int) (v2 v3 v4 v5 v11 v12 v13 : Option SV) : DEnv := [some (.d p.d), some (.d (.tuple (am.map PyData.int))), v2, v3, v4, v5, some (.d (.tuple (p.sorts.map PyData.str))), some (.d (.tuple (p.rules.map ruleD))), some (.d (.tuple (p.inputs.map fun (n : Nat) => PyData.int n))), some (.d (.tuple (p.begin.map PyData.int))), some (.d (.int p.answer)), v11, v12, v13]
/-- what a name is due -/
def dueD (zs : List Str) (z : Str) : D := match zs.findIdx? (fun y => decide (y = z)) with
  | some j => .int j
  | none => .none
theorem due_some {zs : List Str} {z : Str} {j : Nat} (nd : zs.Nodup) (h : zs[j]? = some z) : dueD zs z = .int j := by
  obtain ⟨hj, ej⟩ := List.getElem?_eq_some_iff.mp h
  have e : zs.findIdx? (fun y => decide (y = z)) = some j := by
    rw [List.findIdx?_eq_some_iff_getElem]
    refine ⟨hj, decide_eq_true ej, fun i hi => ?_⟩
    have : ¬ zs[i] = z := fun e => by
      have := (List.getElem_inj nd).mp (e.trans ej.symm)
      omega
    simp [this]
  unfold dueD
  rw [e]
theorem due_none {zs : List Str} {z : Str} (h : z ∉ zs) : dueD zs z = .none := by
  have e : zs.findIdx? (fun y => decide (y = z)) = none := by
    rw [List.findIdx?_eq_none_iff]
    intro y hy
    have : ¬ y = z := fun e => h (e ▸ hy)
    simp [this]
  unfold dueD
  rw [e]
theorem call_sort {p : PotD} {z : Str} {μ : Store} {P : SV → Store → Prop} {PE : Exn → Store → Prop} (ok : p.ok) (hz : PyData.strOk z = true) (k : P (.d (dueD p.sorts z)) μ) : bigSp sp_sort_called [.d p.d, .d (.str z)] μ P PE :=
  big_in [] [.d p.d, .d (.str z)] [] (by decide) rfl rfl ⟨p, z, rfl, rfl, ok, hz, fun h => by
    rw [due_none h] at k
    show P (.d .none) (μ ++ [])
    rw [List.append_nil]; exact k, fun j h => by
    rw [due_some ok.nd h] at k
    show P (.d (.int j)) (μ ++ [])
    rw [List.append_nil]; exact k⟩
def takeD (p : PotD) : D := match p.rules.findIdx? (fun r => decide (0 < r.1.getD p.answer 0)) with
  | some i => .int i
  | none => .none
theorem call_taker {p : PotD} {μ : Store} {P : SV → Store → Prop} {PE : Exn → Store → Prop} (ok : p.ok) (k : P (.d (takeD p)) μ) : bigSp sp_first_taker [.d p.d] μ P PE :=
  big_in [] [.d p.d] [] (by decide) rfl rfl ⟨p, rfl, rfl, ok, by
    show P (.d (takeD p)) (μ ++ [])
    rw [List.append_nil]; exact k⟩
theorem call_inputs {p : PotD} {μ : Store} {P : SV → Store → Prop} {PE : Exn → Store → Prop} (k : P (.d (.int p.inputs.length)) μ) : bigSp sp_inputs_of [.d p.d] μ P PE :=
  big_in [] [.d p.d] [] (by decide) rfl rfl ⟨p, rfl, rfl, by
    show P (.d (.int p.inputs.length)) (μ ++ [])
    rw [List.append_nil]; exact k⟩
theorem call_begin {p : PotD} {am : List Int} {μ : Store} {P : SV → Store → Prop} {PE : Exn → Store → Prop} (ok : p.ok) (hl : am.length = p.inputs.length) (k : P (.d (.tuple (((p.inputs.zip am).foldl addAt p.begin).map PyData.int))) μ) : bigSp sp_beginning [.d p.d, .d (.tuple (am.map PyData.int))] μ P PE :=
  big_in [] [.d p.d, .d (.tuple (am.map PyData.int))] [] (by decide) rfl rfl ⟨p, am, rfl, rfl, ok, hl, by
    show P (.d (.tuple _)) (μ ++ [])
    rw [List.append_nil]; exact k⟩
theorem repr_due {zs : List Str} {z : Str} {P : Bool → D → Prop} (hl : zs.length ≤ 1000) (k : P false (.str (PyData.shown (dueD zs z)))) : sRepr (dueD zs z) P := by
  by_cases h : z ∈ zs
  · obtain ⟨j, hj, ej⟩ := List.mem_iff_getElem.mp h
    unfold dueD at k ⊢
    split
    · rename_i i e
      rw [e] at k
      have hi : i < zs.length := (List.findIdx?_eq_some_iff_getElem.mp e).1
      exact sRepr_int (by have : ((i : Int)).natAbs = i := rfl
                          rw [this]; omega) k
    · rename_i e
      rw [e] at k
      exact sRepr_none k
  · rw [due_none h] at k ⊢
    exact sRepr_none k
theorem range_at {n i : Nat} (h : i < n) : ∃ rest, List.range n = List.range i ++ i :: rest := by
  obtain ⟨k, rfl⟩ : ∃ k, n = i + (k + 1) := ⟨n - i - 1, by omega⟩
  rw [List.range_add, List.range_succ_eq_map, List.map_cons]
  exact ⟨_, rfl⟩
theorem rangeD_nat (n : Nat) : rangeD 0 n = (List.range n).map fun (i : Nat) => PyData.int i := by
  unfold rangeD
  exact List.map_congr_left fun i _ => by simp
def takeF (p : PotD) : D → Option D := fun x => match x with
  | .int i => if (p.rules.getD i.toNat ([], [])).1.getD p.answer 0 = 0 then none else some (.int i)
  | _ => none
theorem takers_head {p : PotD} (ok : p.ok) : ((rangeD 0 p.rules.length).filterMap (takeF p) ++ [PyData.none])[0]? = some (takeD p) := by
  have val : ∀ i, i < p.rules.length → (p.rules.getD i ([], [])) = p.rules[i]! := fun i hi => by simp [List.getD, hi]
  have nn : ∀ i (hi : i < p.rules.length), 0 ≤ p.rules[i].1.getD p.answer 0 := fun i hi => by
    have h := (ok.row p.rules[i] (List.getElem_mem hi)).2.2
    by_cases hn : p.answer < p.rules[i].1.length
    · have e : p.rules[i].1.getD p.answer 0 = p.rules[i].1[p.answer] := by simp [List.getD, List.getElem?_eq_getElem hn]
      rw [e]; exact h _ (List.getElem_mem hn)
    · have e : p.rules[i].1.getD p.answer 0 = 0 := by simp [List.getD, List.getElem?_eq_none (Nat.le_of_not_lt hn)]
      omega
  have get : ∀ i (hi : i < p.rules.length), p.rules.getD i ([], []) = p.rules[i] := fun i hi => by simp [List.getD, List.getElem?_eq_getElem hi]
  rw [rangeD_nat, List.filterMap_map]
  unfold takeD
  split
  · rename_i i e
    obtain ⟨hi, h1, h2⟩ := List.findIdx?_eq_some_iff_getElem.mp e
    obtain ⟨rest, er⟩ := range_at hi
    rw [er, List.filterMap_append]
    have z : (List.range i).filterMap (takeF p ∘ fun (i : Nat) => PyData.int i) = [] := by
      rw [List.filterMap_eq_nil_iff]
      intro j hj
      have hj := List.mem_range.mp hj
      have := h2 j hj
      have n0 := nn j (by omega)
      have v0 : p.rules[j].1.getD p.answer 0 = 0 := by
        have : ¬ 0 < p.rules[j].1.getD p.answer 0 := by simpa using this
        omega
      simp [takeF, List.getD, List.getElem?_eq_getElem (show j < p.rules.length by omega)]
      simpa [List.getD] using v0
    rw [z]
    have v1 : ¬ p.rules[i].1.getD p.answer 0 = 0 := by
      have : 0 < p.rules[i].1.getD p.answer 0 := by simpa using h1
      omega
    have c : (takeF p ∘ fun (i : Nat) => PyData.int i) i = some (.int i) := by
      simp [takeF, List.getD, List.getElem?_eq_getElem hi]
      simpa [List.getD] using v1
    rw [List.filterMap_cons, c]
    rfl
  · rename_i e
    have z : (List.range p.rules.length).filterMap (takeF p ∘ fun (i : Nat) => PyData.int i) = [] := by
      rw [List.filterMap_eq_nil_iff]
      intro j hj
      have hj := List.mem_range.mp hj
      have h := List.findIdx?_eq_none_iff.mp e p.rules[j] (List.getElem_mem hj)
      have n0 := nn j hj
      have v0 : p.rules[j].1.getD p.answer 0 = 0 := by
        have : ¬ 0 < p.rules[j].1.getD p.answer 0 := by simpa using h
        omega
      simp [takeF, List.getD, List.getElem?_eq_getElem hj]
      simpa [List.getD] using v0
    rw [z]; rfl
theorem fm_range {α : Type} (l : List α) (d : α) (g : α → Option D) : (rangeD 0 l.length).filterMap (fun x => match x with
    | .int i => g (l.getD i.toNat d)
    | _ => none) = l.filterMap g := by
  rw [rangeD_nat, List.filterMap_map]
  have e : l = (List.range l.length).map fun i => l.getD i d := by
    refine List.ext_getElem? fun i => ?_
    rw [List.getElem?_map]
    by_cases hi : i < l.length
    · rw [List.getElem?_range hi, List.getElem?_eq_getElem hi]
      simp [List.getD, List.getElem?_eq_getElem hi]
    · rw [List.getElem?_eq_none (by omega), List.getElem?_eq_none (by simpa using hi)]; rfl
  conv => rhs; rw [e, List.filterMap_map]
  rfl
def tot (l : List (Nat × Int)) (s : Nat) : Int := ((l.filter fun q => decide (q.1 = s)).map (·.2)).sum
theorem fm_tot (l : List (Nat × Int)) (s : Nat) : l.filterMap (fun q => if q.1 = s then some (PyData.int q.2) else none) = ((l.filter fun q => decide (q.1 = s)).map (·.2)).map PyData.int := by
  induction l with
  | nil => rfl
  | cons q l ih =>
    by_cases h : q.1 = s
    · simp [List.filterMap_cons, List.filter_cons, h, ih]
    · simp [List.filterMap_cons, List.filter_cons, h, ih]
def dueF (l : List (Nat × Int)) (i : Nat) : D → Option D := fun x => match x with
  | .int k => (fun q : Nat × Int => if q.1 = i then some (PyData.int q.2) else none) (l.getD k.toNat (0, 0))
  | _ => none
theorem fm_due (l : List (Nat × Int)) (i : Nat) : (rangeD 0 l.length).filterMap (dueF l i) = ((l.filter fun q => decide (q.1 = i)).map (·.2)).map PyData.int := by
  rw [← fm_tot]
  exact fm_range l (0, 0) fun q => if q.1 = i then some (PyData.int q.2) else none
theorem add_get : ∀ (l : List (Nat × Int)) (row : List Int) (s : Nat), s < row.length → (l.foldl addAt row).getD s 0 = row.getD s 0 + tot l s ∧ (l.foldl addAt row).length = row.length
  | [], row, s, _ => ⟨by simp [tot], rfl⟩
  | q :: l, row, s, h => by
    have hl : (addAt row q).length = row.length := by simp [addAt]
    obtain ⟨h1, h2⟩ := add_get l (addAt row q) s (by rw [hl]; exact h)
    refine ⟨?_, by rw [List.foldl_cons, h2, hl]⟩
    rw [List.foldl_cons, h1]
    by_cases e : q.1 = s
    · have : (addAt row q).getD s 0 = row.getD s 0 + q.2 := by
        simp [addAt, List.getD, e, List.getElem?_set_self h]
      rw [this]
      simp [tot, List.filter_cons, e]
      omega
    · have : (addAt row q).getD s 0 = row.getD s 0 := by
        simp [addAt, List.getD, List.getElem?_set_ne e]
      rw [this]
      simp [tot, List.filter_cons, e]
theorem add_all (l : List (Nat × Int)) (row : List Int) : l.foldl addAt row = (List.range row.length).map fun s => row.getD s 0 + tot l s := by
  by_cases h0 : row.length = 0
  · have : row = [] := List.eq_nil_of_length_eq_zero h0
    subst this
    have hl : ∀ l : List (Nat × Int), l.foldl addAt [] = [] := by
      intro l
      induction l with
      | nil => rfl
      | cons q l ih => rw [List.foldl_cons]; simpa [addAt] using ih
    rw [hl]; rfl
  · have hL : (l.foldl addAt row).length = row.length := (add_get l row 0 (by omega)).2
    refine List.ext_getElem? fun i => ?_
    by_cases hi : i < row.length
    · have h1 := (add_get l row i hi).1
      rw [List.getElem?_map, List.getElem?_range hi, List.getElem?_eq_getElem (by omega)]
      have : (l.foldl addAt row).getD i 0 = (l.foldl addAt row)[i]'(by omega) := by
        simp [List.getD, List.getElem?_eq_getElem (show i < (l.foldl addAt row).length by omega)]
      rw [← this, h1]; rfl
    · rw [List.getElem?_eq_none (by omega), List.getElem?_eq_none (by simpa using hi)]
theorem sum_b : ∀ (l : List Int) (b : Int), (∀ x ∈ l, 0 ≤ x ∧ x ≤ b) → 0 ≤ l.sum ∧ l.sum ≤ b * l.length
  | [], b, _ => by simp
  | x :: l, b, h => by
    obtain ⟨h1, h2⟩ := sum_b l b fun y hy => h y (List.mem_cons_of_mem _ hy)
    have := h x (List.mem_cons_self ..)
    rw [List.sum_cons, List.length_cons]
    refine ⟨by omega, ?_⟩
    have e : b * ((l.length + 1 : Nat) : Int) = b * l.length + b := by
      push_cast; rw [Int.mul_add]; omega
    omega
theorem repr_take {p : PotD} {P : Bool → D → Prop} (ok : p.ok) (k : P false (.str (PyData.shown (takeD p)))) : sRepr (takeD p) P := by
  unfold takeD at k ⊢
  split
  · rename_i i e
    rw [e] at k
    have hi : i < p.rules.length := (List.findIdx?_eq_some_iff_getElem.mp e).1
    have := ok.rl
    exact sRepr_int (by have : ((i : Int)).natAbs = i := rfl
                        rw [this]; omega) k
  · rename_i e
    rw [e] at k
    exact sRepr_none k
theorem sem_l_right : ∀ svs μ P PE, svs.length = 2 → sp_l_right svs μ P PE → sx (fun x _ μ' => gcX μ.length μ' (PE x)) b_l_right (startE N_l_right svs) μ (fun _ μ' => gcK μ.length (.d .none) μ' P) (fun x μ' => gcK μ.length x μ' P) := by
  intro svs μ P PE hl h
  obtain ⟨p, am, rfl, rfl, ok, hal, ham, k⟩ := h
  unfold b_l_right
  refine seq_step fun K hK => ?_
  simp [N_l_right, PotD.d, sx, sem, mkV, tOf, varK, startE, locK, intK, frzK, lstK, ixN_of, atI_of, sEq, twoStr, shaped_int, shaped_bool, shaped_none, shaped_str, shaped_il, shaped_it, eqv_il, eqv_it, eqv_int, eqv_str, viewK, view1, truthK, iterK, resK, retK, notK, andK, orK, oneK, tyK, mutK, rngK, Op.f, f1, f2, sIx, sAdd, sSub, sMul, sFdiv, sMod, sPow, sNeg, sLt, sLe, sGt, sGe, sLen, sTup, sLst, sInt, sAbs, sMin2, sMax2, sSl, sIsN, isNone, gcK, gcX, fitO, fitV, bindT, forGo, wipeE, List.map_cons, List.map_nil, List.replicate, List.length_cons, List.length_nil, List.getElem?_cons_zero, List.getElem?_cons_succ, List.set_cons_zero, List.set_cons_succ, List.cons_append, List.nil_append, List.append_nil, List.take, List.all_cons, List.all_nil, Bool.and_self, Bool.and_true, Bool.true_and, Option.bind_some, Option.bind, Option.some.injEq]
  rw [hK]; clear hK K
  refine seq_step fun K hK => ?_
  simp [sx, sem, mkV, tOf, varK, startE, locK, intK, frzK, lstK, ixN_of, atI_of, sEq, twoStr, shaped_int, shaped_bool, shaped_none, shaped_str, shaped_il, shaped_it, eqv_il, eqv_it, eqv_int, eqv_str, viewK, view1, truthK, iterK, resK, retK, notK, andK, orK, oneK, tyK, mutK, rngK, Op.f, f1, f2, sIx, sAdd, sSub, sMul, sFdiv, sMod, sPow, sNeg, sLt, sLe, sGt, sGe, sLen, sTup, sLst, sInt, sAbs, sMin2, sMax2, sSl, sIsN, isNone, gcK, gcX, fitO, fitV, bindT, forGo, wipeE, List.map_cons, List.map_nil, List.replicate, List.length_cons, List.length_nil, List.getElem?_cons_zero, List.getElem?_cons_succ, List.set_cons_zero, List.set_cons_succ, List.cons_append, List.nil_append, List.append_nil, List.take, List.all_cons, List.all_nil, Bool.and_self, Bool.and_true, Bool.true_and, Option.bind_some, Option.bind, Option.some.injEq, frzL]
  refine ⟨by decide, by rw [show sizeLine = 16777216 from rfl]; have := ok.few; omega, ?_⟩
  refine forGo_inv (fun i env μ => ∃ v2 v4 v11, μ = [] ∧ env = envR p am v2 none v4 none v11 none none) ⟨_, _, _, rfl, rfl⟩ (fun _ _ _ _ _ => trivial) (fun i x env μ K2 hx h hk => ?_) (fun env μ h => ?_)
  · obtain ⟨v2, v4, v11, rfl, rfl⟩ := h
    have hz : ∃ z, x = .str z ∧ PyData.strOk z = true := by
      have hm := List.mem_of_getElem? hx
      rcases List.mem_append.mp hm with hm | hm
      · obtain ⟨z, hz, rfl⟩ := List.mem_map.mp hm
        exact ⟨z, rfl, ok.strs z hz⟩
      · have : ∀ y ∈ [PyData.str "a", PyData.str "sort", PyData.str "y", PyData.str "", PyData.str "to", PyData.str "abcd", PyData.str "Sort", PyData.str "ab c"], ∃ z, y = .str z ∧ PyData.strOk z = true := by
          intro y hy
          simp only [List.mem_cons, List.not_mem_nil, or_false] at hy
          rcases hy with rfl | rfl | rfl | rfl | rfl | rfl | rfl | rfl <;> exact ⟨_, rfl, by decide +kernel⟩
        exact this x hm
    obtain ⟨z, rfl, hz⟩ := hz
    simp [envR, sx, sem, mkV, tOf, varK, startE, locK, intK, frzK, lstK, ixN_of, atI_of, sEq, twoStr, shaped_int, shaped_bool, shaped_none, shaped_str, shaped_il, shaped_it, eqv_il, eqv_it, eqv_int, eqv_str, viewK, view1, truthK, iterK, resK, retK, notK, andK, orK, oneK, tyK, mutK, rngK, Op.f, f1, f2, sIx, sAdd, sSub, sMul, sFdiv, sMod, sPow, sNeg, sLt, sLe, sGt, sGe, sLen, sTup, sLst, sInt, sAbs, sMin2, sMax2, sSl, sIsN, isNone, gcK, gcX, fitO, fitV, bindT, forGo, wipeE, List.map_cons, List.map_nil, List.replicate, List.length_cons, List.length_nil, List.getElem?_cons_zero, List.getElem?_cons_succ, List.set_cons_zero, List.set_cons_succ, List.cons_append, List.nil_append, List.append_nil, List.take, List.all_cons, List.all_nil, Bool.and_self, Bool.and_true, Bool.true_and, Option.bind_some, Option.bind, Option.some.injEq]
    refine ⟨by have := ok.few; omega, ?_⟩
    refine forGo_inv (fun i env μ => ∃ v11, μ = [] ∧ ((∀ j, j < i → p.sorts[j]? ≠ some z) ∧ env = envR p am (some (.d (.str z))) none (some (.d .none)) none v11 none none ∨ ∃ j, j < i ∧ p.sorts[j]? = some z ∧ env = envR p am (some (.d (.str z))) none (some (.d (.int j))) none v11 none none)) ⟨_, rfl, .inl ⟨fun j hj => by omega, rfl⟩⟩ (fun _ _ _ _ _ => trivial) (fun i x env μ K3 hx h hk3 => ?_) (fun env μ h => ?_)
    · obtain ⟨hi, rfl⟩ := rangeD_get hx
      have hi : i < p.sorts.length := by simpa using hi
      have ea : atI (p.sorts.map PyData.str) (i : Int) = some (.str p.sorts[i]) := by
        rw [DV.atI_nat, List.getElem?_map, List.getElem?_eq_getElem hi]; rfl
      obtain ⟨v11, rfl, ⟨hno, rfl⟩ | ⟨j, hj, ej, rfl⟩⟩ := h
      · simp [envR, sx, sem, mkV, tOf, varK, startE, locK, intK, frzK, lstK, ixN_of, atI_of, sEq, twoStr, shaped_int, shaped_bool, shaped_none, shaped_str, shaped_il, shaped_it, eqv_il, eqv_it, eqv_int, eqv_str, viewK, view1, truthK, iterK, resK, retK, notK, andK, orK, oneK, tyK, mutK, rngK, Op.f, f1, f2, sIx, sAdd, sSub, sMul, sFdiv, sMod, sPow, sNeg, sLt, sLe, sGt, sGe, sLen, sTup, sLst, sInt, sAbs, sMin2, sMax2, sSl, sIsN, isNone, gcK, gcX, fitO, fitV, bindT, forGo, wipeE, List.map_cons, List.map_nil, List.replicate, List.length_cons, List.length_nil, List.getElem?_cons_zero, List.getElem?_cons_succ, List.set_cons_zero, List.set_cons_succ, List.cons_append, List.nil_append, List.append_nil, List.take, List.all_cons, List.all_nil, Bool.and_self, Bool.and_true, Bool.true_and, Option.bind_some, Option.bind, Option.some.injEq, ea]
        split
        · rename_i e
          exact hk3 _ _ ⟨_, rfl, .inr ⟨i, by omega, by rw [List.getElem?_eq_getElem hi, e], rfl⟩⟩
        · rename_i e
          refine hk3 _ _ ⟨_, rfl, .inl ⟨fun j hj => ?_, rfl⟩⟩
          by_cases hji : j < i
          · exact hno j hji
          · have : j = i := by omega
            subst this
            rw [List.getElem?_eq_getElem hi]
            exact fun q => e (Option.some.inj q)
      · simp [envR, sx, sem, mkV, tOf, varK, startE, locK, intK, frzK, lstK, ixN_of, atI_of, sEq, twoStr, shaped_int, shaped_bool, shaped_none, shaped_str, shaped_il, shaped_it, eqv_il, eqv_it, eqv_int, eqv_str, viewK, view1, truthK, iterK, resK, retK, notK, andK, orK, oneK, tyK, mutK, rngK, Op.f, f1, f2, sIx, sAdd, sSub, sMul, sFdiv, sMod, sPow, sNeg, sLt, sLe, sGt, sGe, sLen, sTup, sLst, sInt, sAbs, sMin2, sMax2, sSl, sIsN, isNone, gcK, gcX, fitO, fitV, bindT, forGo, wipeE, List.map_cons, List.map_nil, List.replicate, List.length_cons, List.length_nil, List.getElem?_cons_zero, List.getElem?_cons_succ, List.set_cons_zero, List.set_cons_succ, List.cons_append, List.nil_append, List.append_nil, List.take, List.all_cons, List.all_nil, Bool.and_self, Bool.and_true, Bool.true_and, Option.bind_some, Option.bind, Option.some.injEq, ea]
        split
        · rename_i e
          exact hk3 _ _ ⟨_, rfl, .inr ⟨i, by omega, by rw [List.getElem?_eq_getElem hi, e], rfl⟩⟩
        · exact hk3 _ _ ⟨_, rfl, .inr ⟨j, by omega, ej, rfl⟩⟩
    · obtain ⟨v11, rfl, h⟩ := h
      have hd : env = envR p am (some (.d (.str z))) none (some (.d (dueD p.sorts z))) none v11 none none := by
        rcases h with ⟨hno, rfl⟩ | ⟨j, hj, ej, rfl⟩
        · rw [due_none]
          intro hm
          obtain ⟨j, hj, ej⟩ := List.mem_iff_getElem.mp hm
          exact hno j (by rw [rangeD_length]; simpa using hj) (by rw [List.getElem?_eq_getElem hj, ej])
        · rw [due_some ok.nd ej]
      subst hd
      simp [envR, sx, sem, mkV, tOf, varK, startE, locK, intK, frzK, lstK, ixN_of, atI_of, sEq, twoStr, shaped_int, shaped_bool, shaped_none, shaped_str, shaped_il, shaped_it, eqv_il, eqv_it, eqv_int, eqv_str, viewK, view1, truthK, iterK, resK, retK, notK, andK, orK, oneK, tyK, mutK, rngK, Op.f, f1, f2, sIx, sAdd, sSub, sMul, sFdiv, sMod, sPow, sNeg, sLt, sLe, sGt, sGe, sLen, sTup, sLst, sInt, sAbs, sMin2, sMax2, sSl, sIsN, isNone, gcK, gcX, fitO, fitV, bindT, forGo, wipeE, List.map_cons, List.map_nil, List.replicate, List.length_cons, List.length_nil, List.getElem?_cons_zero, List.getElem?_cons_succ, List.set_cons_zero, List.set_cons_succ, List.cons_append, List.nil_append, List.append_nil, List.take, List.all_cons, List.all_nil, Bool.and_self, Bool.and_true, Bool.true_and, Option.bind_some, Option.bind, Option.some.injEq]
      refine call_sort ok hz ?_
      simp [sx, sem, mkV, tOf, varK, startE, locK, intK, frzK, lstK, ixN_of, atI_of, sEq, twoStr, shaped_int, shaped_bool, shaped_none, shaped_str, shaped_il, shaped_it, eqv_il, eqv_it, eqv_int, eqv_str, viewK, view1, truthK, iterK, resK, retK, notK, andK, orK, oneK, tyK, mutK, rngK, Op.f, f1, f2, sIx, sAdd, sSub, sMul, sFdiv, sMod, sPow, sNeg, sLt, sLe, sGt, sGe, sLen, sTup, sLst, sInt, sAbs, sMin2, sMax2, sSl, sIsN, isNone, gcK, gcX, fitO, fitV, bindT, forGo, wipeE, List.map_cons, List.map_nil, List.replicate, List.length_cons, List.length_nil, List.getElem?_cons_zero, List.getElem?_cons_succ, List.set_cons_zero, List.set_cons_succ, List.cons_append, List.nil_append, List.append_nil, List.take, List.all_cons, List.all_nil, Bool.and_self, Bool.and_true, Bool.true_and, Option.bind_some, Option.bind, Option.some.injEq]
      refine repr_due (by have := ok.few; omega) ?_
      simp [sx, sem, mkV, tOf, varK, startE, locK, intK, frzK, lstK, ixN_of, atI_of, sEq, twoStr, shaped_int, shaped_bool, shaped_none, shaped_str, shaped_il, shaped_it, eqv_il, eqv_it, eqv_int, eqv_str, viewK, view1, truthK, iterK, resK, retK, notK, andK, orK, oneK, tyK, mutK, rngK, Op.f, f1, f2, sIx, sAdd, sSub, sMul, sFdiv, sMod, sPow, sNeg, sLt, sLe, sGt, sGe, sLen, sTup, sLst, sInt, sAbs, sMin2, sMax2, sSl, sIsN, isNone, gcK, gcX, fitO, fitV, bindT, forGo, wipeE, List.map_cons, List.map_nil, List.replicate, List.length_cons, List.length_nil, List.getElem?_cons_zero, List.getElem?_cons_succ, List.set_cons_zero, List.set_cons_succ, List.cons_append, List.nil_append, List.append_nil, List.take, List.all_cons, List.all_nil, Bool.and_self, Bool.and_true, Bool.true_and, Option.bind_some, Option.bind, Option.some.injEq]
      refine repr_due (by have := ok.few; omega) ?_
      simp [sx, sem, mkV, tOf, varK, startE, locK, intK, frzK, lstK, ixN_of, atI_of, sEq, twoStr, shaped_int, shaped_bool, shaped_none, shaped_str, shaped_il, shaped_it, eqv_il, eqv_it, eqv_int, eqv_str, viewK, view1, truthK, iterK, resK, retK, notK, andK, orK, oneK, tyK, mutK, rngK, Op.f, f1, f2, sIx, sAdd, sSub, sMul, sFdiv, sMod, sPow, sNeg, sLt, sLe, sGt, sGe, sLen, sTup, sLst, sInt, sAbs, sMin2, sMax2, sSl, sIsN, isNone, gcK, gcX, fitO, fitV, bindT, forGo, wipeE, List.map_cons, List.map_nil, List.replicate, List.length_cons, List.length_nil, List.getElem?_cons_zero, List.getElem?_cons_succ, List.set_cons_zero, List.set_cons_succ, List.cons_append, List.nil_append, List.append_nil, List.take, List.all_cons, List.all_nil, Bool.and_self, Bool.and_true, Bool.true_and, Option.bind_some, Option.bind, Option.some.injEq]
      exact hk _ _ ⟨_, _, _, rfl, rfl⟩
  obtain ⟨v2, v4, v11, rfl, rfl⟩ := h
  rw [hK]; clear hK K
  refine seq_step fun K hK => ?_
  simp [envR, sx, sem, mkV, tOf, varK, startE, locK, intK, frzK, lstK, ixN_of, atI_of, sEq, twoStr, shaped_int, shaped_bool, shaped_none, shaped_str, shaped_il, shaped_it, eqv_il, eqv_it, eqv_int, eqv_str, viewK, view1, truthK, iterK, resK, retK, notK, andK, orK, oneK, tyK, mutK, rngK, Op.f, f1, f2, sIx, sAdd, sSub, sMul, sFdiv, sMod, sPow, sNeg, sLt, sLe, sGt, sGe, sLen, sTup, sLst, sInt, sAbs, sMin2, sMax2, sSl, sIsN, isNone, gcK, gcX, fitO, fitV, bindT, forGo, wipeE, List.map_cons, List.map_nil, List.replicate, List.length_cons, List.length_nil, List.getElem?_cons_zero, List.getElem?_cons_succ, List.set_cons_zero, List.set_cons_succ, List.cons_append, List.nil_append, List.append_nil, List.take, List.all_cons, List.all_nil, Bool.and_self, Bool.and_true, Bool.true_and, Option.bind_some, Option.bind, Option.some.injEq, frzL]
  refine ⟨by have := ok.rl; omega, ?_⟩
  refine lcGo_fm (takeF p) (by rw [rangeD_length, show sizeLine = 16777216 from rfl]; have := ok.rl; omega) trivial (fun x hx A K1 K2 hA h1 h2 => ?_) ?_
  · obtain ⟨i, hi, rfl⟩ := rangeD_mem hx
    have er : atI (p.rules.map ruleD) (i : Int) = some (ruleD p.rules[i]) := by
      rw [DV.atI_nat, List.getElem?_map, List.getElem?_eq_getElem hi]; rfl
    have hr := ok.row p.rules[i] (List.getElem_mem hi)
    have ea := at_getD (xs := p.rules[i].1) (n := p.answer) (by rw [hr.1]; exact ok.ans)
    have hf : takeF p (.int (0 + (i : Int))) = if p.rules[i].1.getD p.answer 0 = 0 then none else some (.int (0 + (i : Int))) := by
      simp [takeF, List.getD, List.getElem?_eq_getElem hi]
    rw [hf] at h1 h2
    simp [sx, sem, mkV, tOf, varK, startE, locK, intK, frzK, lstK, ixN_of, atI_of, sEq, twoStr, shaped_int, shaped_bool, shaped_none, shaped_str, shaped_il, shaped_it, eqv_il, eqv_it, eqv_int, eqv_str, viewK, view1, truthK, iterK, resK, retK, notK, andK, orK, oneK, tyK, mutK, rngK, Op.f, f1, f2, sIx, sAdd, sSub, sMul, sFdiv, sMod, sPow, sNeg, sLt, sLe, sGt, sGe, sLen, sTup, sLst, sInt, sAbs, sMin2, sMax2, sSl, sIsN, isNone, gcK, gcX, fitO, fitV, bindT, forGo, wipeE, List.map_cons, List.map_nil, List.replicate, List.length_cons, List.length_nil, List.getElem?_cons_zero, List.getElem?_cons_succ, List.set_cons_zero, List.set_cons_succ, List.cons_append, List.nil_append, List.append_nil, List.take, List.all_cons, List.all_nil, Bool.and_self, Bool.and_true, Bool.true_and, Option.bind_some, Option.bind, Option.some.injEq, er, ruleD, ea]
    split
    · rename_i e
      exact h2 (if_pos (by simpa [List.getD] using e))
    · rename_i e
      refine ⟨hA, h1 _ ?_⟩
      rw [if_neg (by simpa [List.getD] using e)]
      simp
  have tl : (List.filterMap (takeF p) (rangeD 0 p.rules.length)).length ≤ 8 := by
    have := List.length_filterMap_le (takeF p) (rangeD 0 p.rules.length)
    rw [rangeD_length] at this
    have := ok.rl
    simp at *
    omega
  refine ⟨by decide, by rw [show sizeLine = 16777216 from rfl]; omega, ?_⟩
  rw [hK]; clear hK K
  refine seq_step fun K hK => ?_
  have th : ∀ h, ((rangeD 0 p.rules.length).filterMap (takeF p) ++ [PyData.none])[0]'h = takeD p := fun h => by
    have := takers_head ok
    rw [List.getElem?_eq_getElem h] at this
    exact Option.some.inj this
  simp [sx, sem, mkV, tOf, varK, startE, locK, intK, frzK, lstK, ixN_of, atI_of, sEq, twoStr, shaped_int, shaped_bool, shaped_none, shaped_str, shaped_il, shaped_it, eqv_il, eqv_it, eqv_int, eqv_str, viewK, view1, truthK, iterK, resK, retK, notK, andK, orK, oneK, tyK, mutK, rngK, Op.f, f1, f2, sIx, sAdd, sSub, sMul, sFdiv, sMod, sPow, sNeg, sLt, sLe, sGt, sGe, sLen, sTup, sLst, sInt, sAbs, sMin2, sMax2, sSl, sIsN, isNone, gcK, gcX, fitO, fitV, bindT, forGo, wipeE, List.map_cons, List.map_nil, List.replicate, List.length_cons, List.length_nil, List.getElem?_cons_zero, List.getElem?_cons_succ, List.set_cons_zero, List.set_cons_succ, List.cons_append, List.nil_append, List.append_nil, List.take, List.all_cons, List.all_nil, Bool.and_self, Bool.and_true, Bool.true_and, Option.bind_some, Option.bind, Option.some.injEq, th]
  refine call_taker ok ?_
  simp [sx, sem, mkV, tOf, varK, startE, locK, intK, frzK, lstK, ixN_of, atI_of, sEq, twoStr, shaped_int, shaped_bool, shaped_none, shaped_str, shaped_il, shaped_it, eqv_il, eqv_it, eqv_int, eqv_str, viewK, view1, truthK, iterK, resK, retK, notK, andK, orK, oneK, tyK, mutK, rngK, Op.f, f1, f2, sIx, sAdd, sSub, sMul, sFdiv, sMod, sPow, sNeg, sLt, sLe, sGt, sGe, sLen, sTup, sLst, sInt, sAbs, sMin2, sMax2, sSl, sIsN, isNone, gcK, gcX, fitO, fitV, bindT, forGo, wipeE, List.map_cons, List.map_nil, List.replicate, List.length_cons, List.length_nil, List.getElem?_cons_zero, List.getElem?_cons_succ, List.set_cons_zero, List.set_cons_succ, List.cons_append, List.nil_append, List.append_nil, List.take, List.all_cons, List.all_nil, Bool.and_self, Bool.and_true, Bool.true_and, Option.bind_some, Option.bind, Option.some.injEq, th]
  refine repr_take ok ?_
  simp [sx, sem, mkV, tOf, varK, startE, locK, intK, frzK, lstK, ixN_of, atI_of, sEq, twoStr, shaped_int, shaped_bool, shaped_none, shaped_str, shaped_il, shaped_it, eqv_il, eqv_it, eqv_int, eqv_str, viewK, view1, truthK, iterK, resK, retK, notK, andK, orK, oneK, tyK, mutK, rngK, Op.f, f1, f2, sIx, sAdd, sSub, sMul, sFdiv, sMod, sPow, sNeg, sLt, sLe, sGt, sGe, sLen, sTup, sLst, sInt, sAbs, sMin2, sMax2, sSl, sIsN, isNone, gcK, gcX, fitO, fitV, bindT, forGo, wipeE, List.map_cons, List.map_nil, List.replicate, List.length_cons, List.length_nil, List.getElem?_cons_zero, List.getElem?_cons_succ, List.set_cons_zero, List.set_cons_succ, List.cons_append, List.nil_append, List.append_nil, List.take, List.all_cons, List.all_nil, Bool.and_self, Bool.and_true, Bool.true_and, Option.bind_some, Option.bind, Option.some.injEq, th]
  refine repr_take ok ?_
  simp [sx, sem, mkV, tOf, varK, startE, locK, intK, frzK, lstK, ixN_of, atI_of, sEq, twoStr, shaped_int, shaped_bool, shaped_none, shaped_str, shaped_il, shaped_it, eqv_il, eqv_it, eqv_int, eqv_str, viewK, view1, truthK, iterK, resK, retK, notK, andK, orK, oneK, tyK, mutK, rngK, Op.f, f1, f2, sIx, sAdd, sSub, sMul, sFdiv, sMod, sPow, sNeg, sLt, sLe, sGt, sGe, sLen, sTup, sLst, sInt, sAbs, sMin2, sMax2, sSl, sIsN, isNone, gcK, gcX, fitO, fitV, bindT, forGo, wipeE, List.map_cons, List.map_nil, List.replicate, List.length_cons, List.length_nil, List.getElem?_cons_zero, List.getElem?_cons_succ, List.set_cons_zero, List.set_cons_succ, List.cons_append, List.nil_append, List.append_nil, List.take, List.all_cons, List.all_nil, Bool.and_self, Bool.and_true, Bool.true_and, Option.bind_some, Option.bind, Option.some.injEq]
  refine call_inputs ?_
  simp [sx, sem, mkV, tOf, varK, startE, locK, intK, frzK, lstK, ixN_of, atI_of, sEq, twoStr, shaped_int, shaped_bool, shaped_none, shaped_str, shaped_il, shaped_it, eqv_il, eqv_it, eqv_int, eqv_str, viewK, view1, truthK, iterK, resK, retK, notK, andK, orK, oneK, tyK, mutK, rngK, Op.f, f1, f2, sIx, sAdd, sSub, sMul, sFdiv, sMod, sPow, sNeg, sLt, sLe, sGt, sGe, sLen, sTup, sLst, sInt, sAbs, sMin2, sMax2, sSl, sIsN, isNone, gcK, gcX, fitO, fitV, bindT, forGo, wipeE, List.map_cons, List.map_nil, List.replicate, List.length_cons, List.length_nil, List.getElem?_cons_zero, List.getElem?_cons_succ, List.set_cons_zero, List.set_cons_succ, List.cons_append, List.nil_append, List.append_nil, List.take, List.all_cons, List.all_nil, Bool.and_self, Bool.and_true, Bool.true_and, Option.bind_some, Option.bind, Option.some.injEq]
  have hi8 := ok.inl
  refine sRepr_int (by rw [Int.natAbs_natCast]; omega) ?_
  simp [sx, sem, mkV, tOf, varK, startE, locK, intK, frzK, lstK, ixN_of, atI_of, sEq, twoStr, shaped_int, shaped_bool, shaped_none, shaped_str, shaped_il, shaped_it, eqv_il, eqv_it, eqv_int, eqv_str, viewK, view1, truthK, iterK, resK, retK, notK, andK, orK, oneK, tyK, mutK, rngK, Op.f, f1, f2, sIx, sAdd, sSub, sMul, sFdiv, sMod, sPow, sNeg, sLt, sLe, sGt, sGe, sLen, sTup, sLst, sInt, sAbs, sMin2, sMax2, sSl, sIsN, isNone, gcK, gcX, fitO, fitV, bindT, forGo, wipeE, List.map_cons, List.map_nil, List.replicate, List.length_cons, List.length_nil, List.getElem?_cons_zero, List.getElem?_cons_succ, List.set_cons_zero, List.set_cons_succ, List.cons_append, List.nil_append, List.append_nil, List.take, List.all_cons, List.all_nil, Bool.and_self, Bool.and_true, Bool.true_and, Option.bind_some, Option.bind, Option.some.injEq]
  refine sRepr_int (by rw [Int.natAbs_natCast]; omega) ?_
  simp [sx, sem, mkV, tOf, varK, startE, locK, intK, frzK, lstK, ixN_of, atI_of, sEq, twoStr, shaped_int, shaped_bool, shaped_none, shaped_str, shaped_il, shaped_it, eqv_il, eqv_it, eqv_int, eqv_str, viewK, view1, truthK, iterK, resK, retK, notK, andK, orK, oneK, tyK, mutK, rngK, Op.f, f1, f2, sIx, sAdd, sSub, sMul, sFdiv, sMod, sPow, sNeg, sLt, sLe, sGt, sGe, sLen, sTup, sLst, sInt, sAbs, sMin2, sMax2, sSl, sIsN, isNone, gcK, gcX, fitO, fitV, bindT, forGo, wipeE, List.map_cons, List.map_nil, List.replicate, List.length_cons, List.length_nil, List.getElem?_cons_zero, List.getElem?_cons_succ, List.set_cons_zero, List.set_cons_succ, List.cons_append, List.nil_append, List.append_nil, List.take, List.all_cons, List.all_nil, Bool.and_self, Bool.and_true, Bool.true_and, Option.bind_some, Option.bind, Option.some.injEq]
  rw [hK]; clear hK K
  refine seq_step fun K hK => ?_
  simp [sx, sem, mkV, tOf, varK, startE, locK, intK, frzK, lstK, ixN_of, atI_of, sEq, twoStr, shaped_int, shaped_bool, shaped_none, shaped_str, shaped_il, shaped_it, eqv_il, eqv_it, eqv_int, eqv_str, viewK, view1, truthK, iterK, resK, retK, notK, andK, orK, oneK, tyK, mutK, rngK, Op.f, f1, f2, sIx, sAdd, sSub, sMul, sFdiv, sMod, sPow, sNeg, sLt, sLe, sGt, sGe, sLen, sTup, sLst, sInt, sAbs, sMin2, sMax2, sSl, sIsN, isNone, gcK, gcX, fitO, fitV, bindT, forGo, wipeE, List.map_cons, List.map_nil, List.replicate, List.length_cons, List.length_nil, List.getElem?_cons_zero, List.getElem?_cons_succ, List.set_cons_zero, List.set_cons_succ, List.cons_append, List.nil_append, List.append_nil, List.take, List.all_cons, List.all_nil, Bool.and_self, Bool.and_true, Bool.true_and, Option.bind_some, Option.bind, Option.some.injEq, frzL]
  first | (refine ⟨by decide, ?_⟩; rw [hK]) | rw [hK]
  clear hK K
  refine seq_step fun K hK => ?_
  simp [sx, sem, mkV, tOf, varK, startE, locK, intK, frzK, lstK, ixN_of, atI_of, sEq, twoStr, shaped_int, shaped_bool, shaped_none, shaped_str, shaped_il, shaped_it, eqv_il, eqv_it, eqv_int, eqv_str, viewK, view1, truthK, iterK, resK, retK, notK, andK, orK, oneK, tyK, mutK, rngK, Op.f, f1, f2, sIx, sAdd, sSub, sMul, sFdiv, sMod, sPow, sNeg, sLt, sLe, sGt, sGe, sLen, sTup, sLst, sInt, sAbs, sMin2, sMax2, sSl, sIsN, isNone, gcK, gcX, fitO, fitV, bindT, forGo, wipeE, List.map_cons, List.map_nil, List.replicate, List.length_cons, List.length_nil, List.getElem?_cons_zero, List.getElem?_cons_succ, List.set_cons_zero, List.set_cons_succ, List.cons_append, List.nil_append, List.append_nil, List.take, List.all_cons, List.all_nil, Bool.and_self, Bool.and_true, Bool.true_and, Option.bind_some, Option.bind, Option.some.injEq, frzL]
  have h8 := ok.few
  refine ⟨by omega, ?_⟩
  have hzl : (p.inputs.zip am).length = p.inputs.length := by rw [List.length_zip, hal]; simp
  refine forGo_inv (fun i env μ => μ = [MO.lst (((List.range i).map fun s => p.begin.getD s 0 + tot (p.inputs.zip am) s).map PyData.int)] ∧ ∃ v2 v3 v5 v11 v12 v13, env = [some (SV.d p.d), some (SV.d (PyData.tuple (List.map PyData.int am))), v2, v3, some (.loc 0), v5, some (SV.d (PyData.tuple (List.map PyData.str p.sorts))), some (SV.d (PyData.tuple (List.map ruleD p.rules))), some (SV.d (PyData.tuple (List.map (fun (n : Nat) => PyData.int n) p.inputs))), some (SV.d (PyData.tuple (List.map PyData.int p.begin))), some (SV.d (PyData.int p.answer)), v11, v12, v13]) ⟨rfl, _, _, _, _, _, _, rfl⟩ (fun _ _ _ _ _ => trivial) (fun i x env μ K2 hx h hk => ?_) (fun env μ h => ?_)
  · obtain ⟨rfl, v2, v3, v5, v11, v12, v13, rfl⟩ := h
    obtain ⟨hi, rfl⟩ := rangeD_get hx
    have hi : i < p.sorts.length := by simpa using hi
    simp [sx, sem, mkV, tOf, varK, startE, locK, intK, frzK, lstK, ixN_of, atI_of, sEq, twoStr, shaped_int, shaped_bool, shaped_none, shaped_str, shaped_il, shaped_it, eqv_il, eqv_it, eqv_int, eqv_str, viewK, view1, truthK, iterK, resK, retK, notK, andK, orK, oneK, tyK, mutK, rngK, Op.f, f1, f2, sIx, sAdd, sSub, sMul, sFdiv, sMod, sPow, sNeg, sLt, sLe, sGt, sGe, sLen, sTup, sLst, sInt, sAbs, sMin2, sMax2, sSl, sIsN, isNone, gcK, gcX, fitO, fitV, bindT, forGo, wipeE, List.map_cons, List.map_nil, List.replicate, List.length_cons, List.length_nil, List.getElem?_cons_zero, List.getElem?_cons_succ, List.set_cons_zero, List.set_cons_succ, List.cons_append, List.nil_append, List.append_nil, List.take, List.all_cons, List.all_nil, Bool.and_self, Bool.and_true, Bool.true_and, Option.bind_some, Option.bind, Option.some.injEq, frzL]
    refine ⟨by omega, ?_⟩
    refine lcGo_fm (dueF (p.inputs.zip am) i) (by rw [rangeD_length, show sizeLine = 16777216 from rfl]; have := ok.inl; omega) trivial (fun x hx A K1 K2 hA h1 h2 => ?_) ?_
    · obtain ⟨j, hj, rfl⟩ := rangeD_mem hx
      have hj2 : j < am.length := by omega
      have ei : atI (p.inputs.map fun (n : Nat) => PyData.int n) (j : Int) = some (.int p.inputs[j]) := by
        rw [DV.atI_nat, List.getElem?_map, List.getElem?_eq_getElem hj]; rfl
      have em : atI (am.map PyData.int) (j : Int) = some (.int am[j]) := by
        rw [DV.atI_nat, List.getElem?_map, List.getElem?_eq_getElem hj2]; rfl
      have hf : dueF (p.inputs.zip am) i (.int (0 + (j : Int))) = if p.inputs[j] = i then some (.int am[j]) else none := by
        simp [dueF, List.getD, List.getElem?_eq_getElem (show j < (p.inputs.zip am).length by omega)]
      rw [hf] at h1 h2
      simp [tOf, sx, sem, mkV, tOf, varK, startE, locK, intK, frzK, lstK, ixN_of, atI_of, sEq, twoStr, shaped_int, shaped_bool, shaped_none, shaped_str, shaped_il, shaped_it, eqv_il, eqv_it, eqv_int, eqv_str, viewK, view1, truthK, iterK, resK, retK, notK, andK, orK, oneK, tyK, mutK, rngK, Op.f, f1, f2, sIx, sAdd, sSub, sMul, sFdiv, sMod, sPow, sNeg, sLt, sLe, sGt, sGe, sLen, sTup, sLst, sInt, sAbs, sMin2, sMax2, sSl, sIsN, isNone, gcK, gcX, fitO, fitV, bindT, forGo, wipeE, List.map_cons, List.map_nil, List.replicate, List.length_cons, List.length_nil, List.getElem?_cons_zero, List.getElem?_cons_succ, List.set_cons_zero, List.set_cons_succ, List.cons_append, List.nil_append, List.append_nil, List.take, List.all_cons, List.all_nil, Bool.and_self, Bool.and_true, Bool.true_and, Option.bind_some, Option.bind, Option.some.injEq, ei, em, eqv_int, shaped_int]
      split
      · exact ⟨hA, h1 _ (if_pos (by omega))⟩
      · exact h2 (if_neg (by omega))
    · refine ⟨⟨_, rfl⟩, .int (p.begin.getD i 0), at_getD (by rw [ok.bgl]; exact hi), ((p.inputs.zip am).filter fun q => decide (q.1 = i)).map (·.2), ?_, ?_⟩
      · have e := fm_due (p.inputs.zip am) i
        rw [hzl] at e
        exact congrArg some e
      · simp [sx, sem, mkV, tOf, varK, startE, locK, intK, frzK, lstK, ixN_of, atI_of, sEq, twoStr, shaped_int, shaped_bool, shaped_none, shaped_str, shaped_il, shaped_it, eqv_il, eqv_it, eqv_int, eqv_str, viewK, view1, truthK, iterK, resK, retK, notK, andK, orK, oneK, tyK, mutK, rngK, Op.f, f1, f2, sIx, sAdd, sSub, sMul, sFdiv, sMod, sPow, sNeg, sLt, sLe, sGt, sGe, sLen, sTup, sLst, sInt, sAbs, sMin2, sMax2, sSl, sIsN, isNone, gcK, gcX, fitO, fitV, bindT, forGo, wipeE, List.map_cons, List.map_nil, List.replicate, List.length_cons, List.length_nil, List.getElem?_cons_zero, List.getElem?_cons_succ, List.set_cons_zero, List.set_cons_succ, List.cons_append, List.nil_append, List.append_nil, List.take, List.all_cons, List.all_nil, Bool.and_self, Bool.and_true, Bool.true_and, Option.bind_some, Option.bind, Option.some.injEq]
        refine ⟨by rw [show sizeLine = 16777216 from rfl]; omega, hk _ _ ⟨?_, _, _, _, _, _, _, rfl⟩⟩
        rw [List.range_succ]
        simp [tot]
  · obtain ⟨rfl, v2, v3, v5, v11, v12, v13, rfl⟩ := h
    rw [hK]; clear hK K
    have hb : ∀ n ∈ (List.range p.sorts.length).map (fun s => p.begin[s]?.getD 0 + tot (p.inputs.zip am) s), n.natAbs < 10 ^ 18 := by
      intro n hn
      obtain ⟨s, hs, rfl⟩ := List.mem_map.mp hn
      have hs := List.mem_range.mp hs
      have h1 := sum_b (((p.inputs.zip am).filter fun q => decide (q.1 = s)).map (·.2)) 1000000000000 fun x hx => by
        obtain ⟨q, hq, rfl⟩ := List.mem_map.mp hx
        exact ham _ (List.of_mem_zip (List.mem_filter.mp hq).1).2
      have h2 : (((p.inputs.zip am).filter fun q => decide (q.1 = s)).map (·.2)).length ≤ 8 := by
        rw [List.length_map]
        have := List.length_filter_le (fun q : Nat × Int => decide (q.1 = s)) (p.inputs.zip am)
        omega
      have h3 : 0 ≤ p.begin[s]?.getD 0 ∧ p.begin[s]?.getD 0 < 100 := by
        have hs2 : s < p.begin.length := by rw [ok.bgl]; exact hs
        rw [List.getElem?_eq_getElem hs2]
        exact ok.bg _ (List.getElem_mem hs2)
      unfold tot
      generalize (((p.inputs.zip am).filter fun q => decide (q.1 = s)).map (·.2)).sum = t at *
      generalize (((p.inputs.zip am).filter fun q => decide (q.1 = s)).map (·.2)).length = l at *
      generalize p.begin[s]?.getD 0 = b at *
      have : (1000000000000 : Int) * l ≤ 1000000000000 * 8 := by omega
      omega
    simp [sx, sem, mkV, tOf, varK, startE, locK, intK, frzK, lstK, ixN_of, atI_of, sEq, twoStr, shaped_int, shaped_bool, shaped_none, shaped_str, shaped_il, shaped_it, eqv_il, eqv_it, eqv_int, eqv_str, viewK, view1, truthK, iterK, resK, retK, notK, andK, orK, oneK, tyK, mutK, rngK, Op.f, f1, f2, sIx, sAdd, sSub, sMul, sFdiv, sMod, sPow, sNeg, sLt, sLe, sGt, sGe, sLen, sTup, sLst, sInt, sAbs, sMin2, sMax2, sSl, sIsN, isNone, gcK, gcX, fitO, fitV, bindT, forGo, wipeE, List.map_cons, List.map_nil, List.replicate, List.length_cons, List.length_nil, List.getElem?_cons_zero, List.getElem?_cons_succ, List.set_cons_zero, List.set_cons_succ, List.cons_append, List.nil_append, List.append_nil, List.take, List.all_cons, List.all_nil, Bool.and_self, Bool.and_true, Bool.true_and, Option.bind_some, Option.bind, Option.some.injEq, frzL]
    refine call_begin ok hal ?_
    rw [add_all, ok.bgl]
    simp [sx, sem, mkV, tOf, varK, startE, locK, intK, frzK, lstK, ixN_of, atI_of, sEq, twoStr, shaped_int, shaped_bool, shaped_none, shaped_str, shaped_il, shaped_it, eqv_il, eqv_it, eqv_int, eqv_str, viewK, view1, truthK, iterK, resK, retK, notK, andK, orK, oneK, tyK, mutK, rngK, Op.f, f1, f2, sIx, sAdd, sSub, sMul, sFdiv, sMod, sPow, sNeg, sLt, sLe, sGt, sGe, sLen, sTup, sLst, sInt, sAbs, sMin2, sMax2, sSl, sIsN, isNone, gcK, gcX, fitO, fitV, bindT, forGo, wipeE, List.map_cons, List.map_nil, List.replicate, List.length_cons, List.length_nil, List.getElem?_cons_zero, List.getElem?_cons_succ, List.set_cons_zero, List.set_cons_succ, List.cons_append, List.nil_append, List.append_nil, List.take, List.all_cons, List.all_nil, Bool.and_self, Bool.and_true, Bool.true_and, Option.bind_some, Option.bind, Option.some.injEq, frzL]
    rw [rangeD_length, ← List.map_map]
    refine sRepr_ints (by simp; omega) hb ?_
    simp [sx, sem, mkV, tOf, varK, startE, locK, intK, frzK, lstK, ixN_of, atI_of, sEq, twoStr, shaped_int, shaped_bool, shaped_none, shaped_str, shaped_il, shaped_it, eqv_il, eqv_it, eqv_int, eqv_str, viewK, view1, truthK, iterK, resK, retK, notK, andK, orK, oneK, tyK, mutK, rngK, Op.f, f1, f2, sIx, sAdd, sSub, sMul, sFdiv, sMod, sPow, sNeg, sLt, sLe, sGt, sGe, sLen, sTup, sLst, sInt, sAbs, sMin2, sMax2, sSl, sIsN, isNone, gcK, gcX, fitO, fitV, bindT, forGo, wipeE, List.map_cons, List.map_nil, List.replicate, List.length_cons, List.length_nil, List.getElem?_cons_zero, List.getElem?_cons_succ, List.set_cons_zero, List.set_cons_succ, List.cons_append, List.nil_append, List.append_nil, List.take, List.all_cons, List.all_nil, Bool.and_self, Bool.and_true, Bool.true_and, Option.bind_some, Option.bind, Option.some.injEq, frzL]
    rw [← List.map_map]
    refine sRepr_ints (by simp; omega) hb ?_
    simp [sx, sem, mkV, tOf, varK, startE, locK, intK, frzK, lstK, ixN_of, atI_of, sEq, twoStr, shaped_int, shaped_bool, shaped_none, shaped_str, shaped_il, shaped_it, eqv_il, eqv_it, eqv_int, eqv_str, viewK, view1, truthK, iterK, resK, retK, notK, andK, orK, oneK, tyK, mutK, rngK, Op.f, f1, f2, sIx, sAdd, sSub, sMul, sFdiv, sMod, sPow, sNeg, sLt, sLe, sGt, sGe, sLen, sTup, sLst, sInt, sAbs, sMin2, sMax2, sSl, sIsN, isNone, gcK, gcX, fitO, fitV, bindT, forGo, wipeE, List.map_cons, List.map_nil, List.replicate, List.length_cons, List.length_nil, List.getElem?_cons_zero, List.getElem?_cons_succ, List.set_cons_zero, List.set_cons_succ, List.cons_append, List.nil_append, List.append_nil, List.take, List.all_cons, List.all_nil, Bool.and_self, Bool.and_true, Bool.true_and, Option.bind_some, Option.bind, Option.some.injEq, frzL, eqv_str, shaped_str]
    exact k
theorem feed_l {ns : List Int} {kk : Nat} {x : MO} {fs : Store} {P : SV → Store → Prop} {PE : Exn → Store → Prop} (h1 : kk < 1000) (h2 : ns.length < 1000) (k : ∀ a b : Int, P (.loc (fs.length + 1)) (x :: (fs ++ [fd a b 0]))) : bigSp sp_l_feed [.d (.list (ns.map PyData.int)), .d (.int kk)] (x :: fs) P PE :=
  big_in [] [.d (.list (ns.map PyData.int)), .d (.int kk)] [] (by decide) rfl rfl ⟨ns, kk, rfl, rfl, h1, h2, fun a b => k a b⟩
theorem hx_l {x y : MO} {fs : Store} : (x :: (fs ++ [y]))[fs.length + 1]? = some y := by simp
theorem pot_l {a b c : Int} {x : MO} {fs : Store} {P : SV → Store → Prop} {PE : Exn → Store → Prop} (k : ∀ (p : PotD) (a' c' : Int), p.ok → P (.d p.d) (x :: (fs ++ [fd a' b c']))) : bigSp sp_l_pot [.loc (fs.length + 1)] (x :: (fs ++ [fd a b c])) P PE :=
  big_in [fs.length + 1] [.loc 0] [fd a b c] (by simp) rfl (by
    show [(x :: (fs ++ [fd a b c]))[fs.length + 1]?] = [some (fd a b c)]
    rw [hx_l]) ⟨a, b, c, rfl, rfl, fun p a' c' hp => by
    have e := putB_last (μ := x :: fs) (x := fd a b c) (y := fd a' b c')
    show P (.d p.d) (putB ((x :: fs) ++ [fd a b c]) [(x :: fs).length] [fd a' b c'])
    rw [e]; exact k p a' c' hp⟩
theorem draw_l {a b c many : Int} {x : MO} {fs : Store} {P : SV → Store → Prop} {PE : Exn → Store → Prop} (h0 : 0 < many) (h1 : many < 1073741824) (k : ∀ r a' c' : Int, 0 ≤ r → r < many → P (.d (.int r)) (x :: (fs ++ [fd a' b c']))) : bigSp sp_l_draw [.loc (fs.length + 1), .d (.int many)] (x :: (fs ++ [fd a b c])) P PE :=
  big_in [fs.length + 1] [.loc 0, .d (.int many)] [fd a b c] (by simp) rfl (by
    show [(x :: (fs ++ [fd a b c]))[fs.length + 1]?] = [some (fd a b c)]
    rw [hx_l]) ⟨a, b, c, many, rfl, rfl, h0, h1, fun r a' c' q1 q2 => by
    have e := putB_last (μ := x :: fs) (x := fd a b c) (y := fd a' b c')
    show P (.d (.int r)) (putB ((x :: fs) ++ [fd a b c]) [(x :: fs).length] [fd a' b c'])
    rw [e]; exact k r a' c' q1 q2⟩
theorem right_l {p : PotD} {am : List Int} {μ : Store} {P : SV → Store → Prop} {PE : Exn → Store → Prop} (ok : p.ok) (h1 : am.length = p.inputs.length) (h2 : ∀ x ∈ am, 0 ≤ x ∧ x ≤ 1000000000000) (k : P (.d (.bool true)) μ) : bigSp sp_l_right [.d p.d, .d (.tuple (am.map PyData.int))] μ P PE :=
  big_in [] [.d p.d, .d (.tuple (am.map PyData.int))] [] (by decide) rfl rfl ⟨p, am, rfl, rfl, ok, h1, h2, by
    show P (.d (.bool true)) (μ ++ [])
    rw [List.append_nil]; exact k⟩
def pairT (q : PotD × List Int) : D := .tuple [q.1.d, .tuple (q.2.map PyData.int)]
def Good (q : PotD × List Int) : Prop := q.1.ok ∧ q.2.length = q.1.inputs.length ∧ ∀ x ∈ q.2, 0 ≤ x ∧ x ≤ 1000000000000
theorem sem_law : ∀ svs μ P PE, svs.length = 1 → sp_law svs μ P PE → sx (fun x _ μ' => gcX μ.length μ' (PE x)) b_law (startE N_law svs) μ (fun _ μ' => gcK μ.length (.d .none) μ' P) (fun x μ' => gcK μ.length x μ' P) := by
  intro svs μ P PE hl h
  obtain ⟨⟨ns, hn, rfl, rfl⟩, k⟩ := h
  have p12 : CPow 10 12 := ⟨by decide, by decide, by decide⟩
  unfold b_law
  refine seq_step fun K hK => ?_
  simp [N_law, sx, sem, mkV, tOf, varK, startE, locK, intK, frzK, lstK, ixN_of, atI_of, sEq, twoStr, shaped_int, shaped_bool, shaped_none, shaped_str, shaped_il, shaped_it, eqv_il, eqv_it, eqv_int, eqv_str, viewK, view1, truthK, iterK, resK, retK, notK, andK, orK, oneK, tyK, mutK, rngK, Op.f, f1, f2, sIx, sAdd, sSub, sMul, sFdiv, sMod, sPow, sNeg, sLt, sLe, sGt, sGe, sLen, sTup, sLst, sInt, sAbs, sMin2, sMax2, sSl, sIsN, isNone, gcK, gcX, fitO, fitV, bindT, forGo, wipeE, List.map_cons, List.map_nil, List.replicate, List.length_cons, List.length_nil, List.getElem?_cons_zero, List.getElem?_cons_succ, List.set_cons_zero, List.set_cons_succ, List.cons_append, List.nil_append, List.append_nil, List.take, List.all_cons, List.all_nil, Bool.and_self, Bool.and_true, Bool.true_and, Option.bind_some, Option.bind, Option.some.injEq, frzL]
  first | (refine ⟨by decide, ?_⟩; rw [hK]) | rw [hK]
  clear hK K
  refine seq_step fun K hK => ?_
  simp [sx, sem, mkV, tOf, varK, startE, locK, intK, frzK, lstK, ixN_of, atI_of, sEq, twoStr, shaped_int, shaped_bool, shaped_none, shaped_str, shaped_il, shaped_it, eqv_il, eqv_it, eqv_int, eqv_str, viewK, view1, truthK, iterK, resK, retK, notK, andK, orK, oneK, tyK, mutK, rngK, Op.f, f1, f2, sIx, sAdd, sSub, sMul, sFdiv, sMod, sPow, sNeg, sLt, sLe, sGt, sGe, sLen, sTup, sLst, sInt, sAbs, sMin2, sMax2, sSl, sIsN, isNone, gcK, gcX, fitO, fitV, bindT, forGo, wipeE, List.map_cons, List.map_nil, List.replicate, List.length_cons, List.length_nil, List.getElem?_cons_zero, List.getElem?_cons_succ, List.set_cons_zero, List.set_cons_succ, List.cons_append, List.nil_append, List.append_nil, List.take, List.all_cons, List.all_nil, Bool.and_self, Bool.and_true, Bool.true_and, Option.bind_some, Option.bind, Option.some.injEq, frzL]
  refine forGo_inv (fun i env μ => ∃ (ps : List (PotD × List Int)) (fs : Store) (v2 v3 v4 v5 v6 : Option SV), ps.length = i ∧ (∀ q ∈ ps, Good q) ∧ μ = MO.lst (ps.map pairT) :: fs ∧ env = [some (.d (.list (ns.map PyData.int))), some (.loc 0), v2, v3, v4, v5, v6]) ⟨[], [], _, _, _, _, _, rfl, by simp, rfl, rfl⟩ (fun _ _ _ _ _ => trivial) (fun i x env μ K2 hx h hk => ?_) (fun env μ h => ?_)
  · obtain ⟨ps, fs, v2, v3, v4, v5, v6, rfl, hg, rfl, rfl⟩ := h
    obtain ⟨hi, rfl⟩ := rangeD_get hx
    simp [sx, sem, mkV, tOf, varK, startE, locK, intK, frzK, lstK, ixN_of, atI_of, sEq, twoStr, shaped_int, shaped_bool, shaped_none, shaped_str, shaped_il, shaped_it, eqv_il, eqv_it, eqv_int, eqv_str, viewK, view1, truthK, iterK, resK, retK, notK, andK, orK, oneK, tyK, mutK, rngK, Op.f, f1, f2, sIx, sAdd, sSub, sMul, sFdiv, sMod, sPow, sNeg, sLt, sLe, sGt, sGe, sLen, sTup, sLst, sInt, sAbs, sMin2, sMax2, sSl, sIsN, isNone, gcK, gcX, fitO, fitV, bindT, forGo, wipeE, List.map_cons, List.map_nil, List.replicate, List.length_cons, List.length_nil, List.getElem?_cons_zero, List.getElem?_cons_succ, List.set_cons_zero, List.set_cons_succ, List.cons_append, List.nil_append, List.append_nil, List.take, List.all_cons, List.all_nil, Bool.and_self, Bool.and_true, Bool.true_and, Option.bind_some, Option.bind, Option.some.injEq, frzL]
    refine feed_l (by omega) (by omega) fun a b => ?_
    refine pot_l fun p a1 c1 hp => ?_
    simp [PotD.d, sx, sem, mkV, tOf, varK, startE, locK, intK, frzK, lstK, ixN_of, atI_of, sEq, twoStr, shaped_int, shaped_bool, shaped_none, shaped_str, shaped_il, shaped_it, eqv_il, eqv_it, eqv_int, eqv_str, viewK, view1, truthK, iterK, resK, retK, notK, andK, orK, oneK, tyK, mutK, rngK, Op.f, f1, f2, sIx, sAdd, sSub, sMul, sFdiv, sMod, sPow, sNeg, sLt, sLe, sGt, sGe, sLen, sTup, sLst, sInt, sAbs, sMin2, sMax2, sSl, sIsN, isNone, gcK, gcX, fitO, fitV, bindT, forGo, wipeE, List.map_cons, List.map_nil, List.replicate, List.length_cons, List.length_nil, List.getElem?_cons_zero, List.getElem?_cons_succ, List.set_cons_zero, List.set_cons_succ, List.cons_append, List.nil_append, List.append_nil, List.take, List.all_cons, List.all_nil, Bool.and_self, Bool.and_true, Bool.true_and, Option.bind_some, Option.bind, Option.some.injEq, frzL]
    refine lcGo_inv (fun i acc μ => ∃ (a c : Int) (am : List Int), am.length = i ∧ acc = am.map PyData.int ∧ (∀ x ∈ am, 0 ≤ x ∧ x ≤ 1000000000000) ∧ μ = MO.lst (ps.map pairT) :: (fs ++ [fd a b c])) ⟨a1, c1, [], rfl, rfl, by simp, rfl⟩ (fun _ _ _ _ _ => trivial) (fun i x acc μ K3 hx h hk3 => ?_) (fun acc μ h => ?_)
    · obtain ⟨a2, c2, am, b1, rfl, b3, rfl⟩ := h
      have hj := (List.getElem?_eq_some_iff.mp hx).1
      rw [List.length_map] at hj
      have h8 := hp.inl
      simp [sx, sem, mkV, tOf, varK, startE, locK, intK, frzK, lstK, ixN_of, atI_of, sEq, twoStr, shaped_int, shaped_bool, shaped_none, shaped_str, shaped_il, shaped_it, eqv_il, eqv_it, eqv_int, eqv_str, viewK, view1, truthK, iterK, resK, retK, notK, andK, orK, oneK, tyK, mutK, rngK, Op.f, f1, f2, sIx, sAdd, sSub, sMul, sFdiv, sMod, sPow, sNeg, sLt, sLe, sGt, sGe, sLen, sTup, sLst, sInt, sAbs, sMin2, sMax2, sSl, sIsN, isNone, gcK, gcX, fitO, fitV, bindT, forGo, wipeE, List.map_cons, List.map_nil, List.replicate, List.length_cons, List.length_nil, List.getElem?_cons_zero, List.getElem?_cons_succ, List.set_cons_zero, List.set_cons_succ, List.cons_append, List.nil_append, List.append_nil, List.take, List.all_cons, List.all_nil, Bool.and_self, Bool.and_true, Bool.true_and, Option.bind_some, Option.bind, Option.some.injEq, frzL, p12]
      refine draw_l (by omega) (by omega) fun r5 a3 c3 q7 q8 => ?_
      simp [sx, sem, mkV, tOf, varK, startE, locK, intK, frzK, lstK, ixN_of, atI_of, sEq, twoStr, shaped_int, shaped_bool, shaped_none, shaped_str, shaped_il, shaped_it, eqv_il, eqv_it, eqv_int, eqv_str, viewK, view1, truthK, iterK, resK, retK, notK, andK, orK, oneK, tyK, mutK, rngK, Op.f, f1, f2, sIx, sAdd, sSub, sMul, sFdiv, sMod, sPow, sNeg, sLt, sLe, sGt, sGe, sLen, sTup, sLst, sInt, sAbs, sMin2, sMax2, sSl, sIsN, isNone, gcK, gcX, fitO, fitV, bindT, forGo, wipeE, List.map_cons, List.map_nil, List.replicate, List.length_cons, List.length_nil, List.getElem?_cons_zero, List.getElem?_cons_succ, List.set_cons_zero, List.set_cons_succ, List.cons_append, List.nil_append, List.append_nil, List.take, List.all_cons, List.all_nil, Bool.and_self, Bool.and_true, Bool.true_and, Option.bind_some, Option.bind, Option.some.injEq, frzL]
      refine ⟨by decide, draw_l (by omega) (by omega) fun r6 a4 c4 q9 q10 => ?_⟩
      have hz : ∃ z : Int, 0 ≤ z ∧ z ≤ 1000000000000 ∧ atI [PyData.int 0, PyData.int 1, PyData.int 1000000000000, PyData.int r5] r6 = some (.int z) := by
        have : r6 = 0 ∨ r6 = 1 ∨ r6 = 2 ∨ r6 = 3 := by omega
        rcases this with rfl | rfl | rfl | rfl
        · exact ⟨0, by omega, by omega, rfl⟩
        · exact ⟨1, by omega, by omega, rfl⟩
        · exact ⟨1000000000000, by omega, by omega, rfl⟩
        · exact ⟨r5, by omega, by omega, rfl⟩
      obtain ⟨z, hz1, hz2, ez⟩ := hz
      simp [sx, sem, mkV, tOf, varK, startE, locK, intK, frzK, lstK, ixN_of, atI_of, sEq, twoStr, shaped_int, shaped_bool, shaped_none, shaped_str, shaped_il, shaped_it, eqv_il, eqv_it, eqv_int, eqv_str, viewK, view1, truthK, iterK, resK, retK, notK, andK, orK, oneK, tyK, mutK, rngK, Op.f, f1, f2, sIx, sAdd, sSub, sMul, sFdiv, sMod, sPow, sNeg, sLt, sLe, sGt, sGe, sLen, sTup, sLst, sInt, sAbs, sMin2, sMax2, sSl, sIsN, isNone, gcK, gcX, fitO, fitV, bindT, forGo, wipeE, List.map_cons, List.map_nil, List.replicate, List.length_cons, List.length_nil, List.getElem?_cons_zero, List.getElem?_cons_succ, List.set_cons_zero, List.set_cons_succ, List.cons_append, List.nil_append, List.append_nil, List.take, List.all_cons, List.all_nil, Bool.and_self, Bool.and_true, Bool.true_and, Option.bind_some, Option.bind, Option.some.injEq, ez]
      refine ⟨by rw [show sizeLine = 16777216 from rfl]; omega, hk3 _ _ ⟨a4, c4, am ++ [z], by simp [b1], by simp, fun x hx => ?_, rfl⟩⟩
      rcases List.mem_append.mp hx with hx | hx
      · exact b3 x hx
      · rw [List.mem_singleton.mp hx]; exact ⟨hz1, hz2⟩
    · obtain ⟨a2, c2, am, b1, rfl, b3, rfl⟩ := h
      rw [List.length_map] at b1
      simp [sx, sem, mkV, tOf, varK, startE, locK, intK, frzK, lstK, ixN_of, atI_of, sEq, twoStr, shaped_int, shaped_bool, shaped_none, shaped_str, shaped_il, shaped_it, eqv_il, eqv_it, eqv_int, eqv_str, viewK, view1, truthK, iterK, resK, retK, notK, andK, orK, oneK, tyK, mutK, rngK, Op.f, f1, f2, sIx, sAdd, sSub, sMul, sFdiv, sMod, sPow, sNeg, sLt, sLe, sGt, sGe, sLen, sTup, sLst, sInt, sAbs, sMin2, sMax2, sSl, sIsN, isNone, gcK, gcX, fitO, fitV, bindT, forGo, wipeE, List.map_cons, List.map_nil, List.replicate, List.length_cons, List.length_nil, List.getElem?_cons_zero, List.getElem?_cons_succ, List.set_cons_zero, List.set_cons_succ, List.cons_append, List.nil_append, List.append_nil, List.take, List.all_cons, List.all_nil, Bool.and_self, Bool.and_true, Bool.true_and, Option.bind_some, Option.bind, Option.some.injEq]
      refine ⟨by decide, by rw [show sizeLine = 16777216 from rfl]; omega, hk _ _ ⟨ps ++ [(p, am)], fs ++ [fd a2 b c2], _, _, _, _, _, by simp, fun q hq => ?_, ?_, rfl⟩⟩
      · rcases List.mem_append.mp hq with hq | hq
        · exact hg q hq
        · rw [List.mem_singleton.mp hq]; exact ⟨hp, b1, b3⟩
      · simp [pairT, PotD.d]
  obtain ⟨ps, fs, v2, v3, v4, v5, v6, hps, hg, rfl, rfl⟩ := h
  rw [hK]; clear hK K
  refine seq_step fun K hK => ?_
  simp [sx, sem, mkV, tOf, varK, startE, locK, intK, frzK, lstK, ixN_of, atI_of, sEq, twoStr, shaped_int, shaped_bool, shaped_none, shaped_str, shaped_il, shaped_it, eqv_il, eqv_it, eqv_int, eqv_str, viewK, view1, truthK, iterK, resK, retK, notK, andK, orK, oneK, tyK, mutK, rngK, Op.f, f1, f2, sIx, sAdd, sSub, sMul, sFdiv, sMod, sPow, sNeg, sLt, sLe, sGt, sGe, sLen, sTup, sLst, sInt, sAbs, sMin2, sMax2, sSl, sIsN, isNone, gcK, gcX, fitO, fitV, bindT, forGo, wipeE, List.map_cons, List.map_nil, List.replicate, List.length_cons, List.length_nil, List.getElem?_cons_zero, List.getElem?_cons_succ, List.set_cons_zero, List.set_cons_succ, List.cons_append, List.nil_append, List.append_nil, List.take, List.all_cons, List.all_nil, Bool.and_self, Bool.and_true, Bool.true_and, Option.bind_some, Option.bind, Option.some.injEq, frzL, pRev, sRev]
  rw [rangeD_length] at hps
  have hps : ps.length = 8 := by simpa using hps
  refine ⟨by rw [show sizeLine = 16777216 from rfl]; omega, ?_⟩
  refine forGo_inv (fun i env μ => μ = MO.lst (ps.map pairT) :: fs ∧ ∃ v2 v3 v4 v5 v6, env = [some (.d (.list (ns.map PyData.int))), some (.loc 0), v2, v3, v4, v5, v6]) ⟨rfl, _, _, _, _, _, rfl⟩ (fun _ _ _ _ _ => trivial) (fun i x env μ K2 hx h hk => ?_) (fun env μ h => ?_)
  · obtain ⟨rfl, v2, v3, v4, v5, v6, rfl⟩ := h
    have hm : ∃ q ∈ ps, pairT q = x := by
      have hm := List.mem_of_getElem? hx
      rcases List.mem_append.mp hm with hm | hm
      · exact List.mem_map.mp hm
      · exact List.mem_map.mp (List.mem_reverse.mp hm)
    obtain ⟨q, hq, rfl⟩ := hm
    obtain ⟨g1, g2, g3⟩ := hg q hq
    simp [pairT, sx, sem, mkV, tOf, varK, startE, locK, intK, frzK, lstK, ixN_of, atI_of, sEq, twoStr, shaped_int, shaped_bool, shaped_none, shaped_str, shaped_il, shaped_it, eqv_il, eqv_it, eqv_int, eqv_str, viewK, view1, truthK, iterK, resK, retK, notK, andK, orK, oneK, tyK, mutK, rngK, Op.f, f1, f2, sIx, sAdd, sSub, sMul, sFdiv, sMod, sPow, sNeg, sLt, sLe, sGt, sGe, sLen, sTup, sLst, sInt, sAbs, sMin2, sMax2, sSl, sIsN, isNone, gcK, gcX, fitO, fitV, bindT, forGo, wipeE, List.map_cons, List.map_nil, List.replicate, List.length_cons, List.length_nil, List.getElem?_cons_zero, List.getElem?_cons_succ, List.set_cons_zero, List.set_cons_succ, List.cons_append, List.nil_append, List.append_nil, List.take, List.all_cons, List.all_nil, Bool.and_self, Bool.and_true, Bool.true_and, Option.bind_some, Option.bind, Option.some.injEq]
    refine right_l g1 g2 g3 ?_
    simp [sx, sem, mkV, tOf, varK, startE, locK, intK, frzK, lstK, ixN_of, atI_of, sEq, twoStr, shaped_int, shaped_bool, shaped_none, shaped_str, shaped_il, shaped_it, eqv_il, eqv_it, eqv_int, eqv_str, viewK, view1, truthK, iterK, resK, retK, notK, andK, orK, oneK, tyK, mutK, rngK, Op.f, f1, f2, sIx, sAdd, sSub, sMul, sFdiv, sMod, sPow, sNeg, sLt, sLe, sGt, sGe, sLen, sTup, sLst, sInt, sAbs, sMin2, sMax2, sSl, sIsN, isNone, gcK, gcX, fitO, fitV, bindT, forGo, wipeE, List.map_cons, List.map_nil, List.replicate, List.length_cons, List.length_nil, List.getElem?_cons_zero, List.getElem?_cons_succ, List.set_cons_zero, List.set_cons_succ, List.cons_append, List.nil_append, List.append_nil, List.take, List.all_cons, List.all_nil, Bool.and_self, Bool.and_true, Bool.true_and, Option.bind_some, Option.bind, Option.some.injEq]
    exact hk _ _ ⟨rfl, _, _, _, _, _, rfl⟩
  · obtain ⟨rfl, v2, v3, v4, v5, v6, rfl⟩ := h
    rw [hK]; clear hK K
    simp [sx, sem, mkV, tOf, varK, startE, locK, intK, frzK, lstK, ixN_of, atI_of, sEq, twoStr, shaped_int, shaped_bool, shaped_none, shaped_str, shaped_il, shaped_it, eqv_il, eqv_it, eqv_int, eqv_str, viewK, view1, truthK, iterK, resK, retK, notK, andK, orK, oneK, tyK, mutK, rngK, Op.f, f1, f2, sIx, sAdd, sSub, sMul, sFdiv, sMod, sPow, sNeg, sLt, sLe, sGt, sGe, sLen, sTup, sLst, sInt, sAbs, sMin2, sMax2, sSl, sIsN, isNone, gcK, gcX, fitO, fitV, bindT, forGo, wipeE, List.map_cons, List.map_nil, List.replicate, List.length_cons, List.length_nil, List.getElem?_cons_zero, List.getElem?_cons_succ, List.set_cons_zero, List.set_cons_succ, List.cons_append, List.nil_append, List.append_nil, List.take, List.all_cons, List.all_nil, Bool.and_self, Bool.and_true, Bool.true_and, Option.bind_some, Option.bind, Option.some.injEq]
    exact k
end Lk02
set_option Elab.async false
set_option linter.all false
set_option maxRecDepth 100000
set_option maxHeartbeats 0
namespace Lk02
open PySem PySem.Spec PyProof.Rows L2 DV
section
variable {P : Program} {w : World} {K : PySem.W.Frag} {h : Heap} {mg : Str → Option Value}
theorem frees (X : K.In h) (G : h.Ns mainGlobals mg) (c : SaysX cs fa fn K) : ∀ x ∈ allB, mg x = none := by
  intro x hx
  have hm : He.Fa.free x ∈ fa := List.mem_append_right _ (List.mem_map.mpr ⟨x, hx, rfl⟩)
  have e : (fa.all fun f => f.ok K) = true := (He.ba (show ((fa.all fun f => f.ok K) && fn.all fun d => d.ok K) = true from congrArg (fun z : He.AlD => z.1) c.d)).1
  exact He.free_ok X G (List.all_eq_true.mp e _ hm)
theorem glos (c : SaysX cs fa fn K) (x : Str) (hx : x ∈ allF) : (He.Fa.glo x).ok K = true := by
  have hm : He.Fa.glo x ∈ fa := List.mem_append_left _ (List.mem_map.mpr ⟨x, hx, rfl⟩)
  have e : (fa.all fun f => f.ok K) = true := (He.ba (show ((fa.all fun f => f.ok K) && fn.all fun d => d.ok K) = true from congrArg (fun z : He.AlD => z.1) c.d)).1
  exact List.all_eq_true.mp e _ hm
end
theorem facts {P : Program} {w : World} {K : PySem.W.Frag} {h : Heap} {mg : Str → Option Value} {f : Addr} (X : K.In h) (G : h.Ns mainGlobals mg) (hfa : mg ("law" : Str) = some (.ref f)) (c : SaysX cs fa fn K) :
    ∃ fd : FuncData, (∀ (s : Shared) (v : Value), BindsTo s fd ⟨[v], []⟩ [("_law_script", v)]) ∧ ∀ base : Heap, K.In base → base.Ns mainGlobals mg → FnG ⟨P, w, K, mg, base⟩ 4 f fd ["_law_script"] (lift ⟨P, w, K, mg, base⟩ 1 sp_law) := by
  have hfr := frees X G c
  obtain ⟨fd0, F0⟩ := c.d.def_ 0 (d := d_sort_called) rfl
  obtain ⟨fd1, F1⟩ := c.d.def_ 1 (d := d_inputs_of) rfl
  obtain ⟨fd2, F2⟩ := c.d.def_ 2 (d := d_first_taker) rfl
  obtain ⟨fd3, F3⟩ := c.d.def_ 3 (d := d_beginning) rfl
  obtain ⟨fd4, F4⟩ := c.d.def_ 4 (d := d_l_feed) rfl
  obtain ⟨fd5, F5⟩ := c.d.def_ 5 (d := d_l_draw) rfl
  obtain ⟨fd6, F6⟩ := c.d.def_ 6 (d := d_l_names) rfl
  obtain ⟨fd7, F7⟩ := c.d.def_ 7 (d := d_l_rule) rfl
  obtain ⟨fd8, F8⟩ := c.d.def_ 8 (d := d_l_pot) rfl
  obtain ⟨fd9, F9⟩ := c.d.def_ 9 (d := d_l_right) rfl
  obtain ⟨fd10, F10⟩ := c.d.def_ 10 (d := d_law) rfl
  have e := hfa.symm.trans (He.glo_ok X G (glos c "law" (by decide +kernel)))
  cases e
  have bl := FunD.bindsA (ps := ["_law_script"]) F10 fun _ _ _ _ _ _ us hl => match us, hl with | [_], _ => rfl
  refine ⟨fd10, fun s v => bl s [v] rfl, fun base hK hN => ?_⟩
  have h_sort_called : FnG ⟨P, w, K, mg, base⟩ 1 (He.ga K "sort_called") fd0 ["pot", "name"] (lift ⟨P, w, K, mg, base⟩ 2 sp_sort_called) := fnG_of F0 sc_sort_called (fun x hx => hfr x (sub_sort_called x hx)) ck_sort_called (by unfold b_sort_called; simp only [ndS, nd]; repeat' (first | trivial | assumption | apply And.intro)) sem_sort_called
  have k_sort_called : Known ⟨P, w, K, mg, base⟩ "sort_called" 1 2 (bigSp sp_sort_called) := known_of X G h_sort_called (glos c "sort_called" (by decide +kernel)) F0.kp (F0.bindsN fun _ _ _ _ _ _ us hl => match us, hl with | [_, _], _ => rfl)
  have h_inputs_of : FnG ⟨P, w, K, mg, base⟩ 1 (He.ga K "inputs_of") fd1 ["pot"] (lift ⟨P, w, K, mg, base⟩ 1 sp_inputs_of) := fnG_of F1 sc_inputs_of (fun x hx => hfr x (sub_inputs_of x hx)) ck_inputs_of (by unfold b_inputs_of; simp only [ndS, nd]; repeat' (first | trivial | assumption | apply And.intro)) sem_inputs_of
  have k_inputs_of : Known ⟨P, w, K, mg, base⟩ "inputs_of" 1 1 (bigSp sp_inputs_of) := known_of X G h_inputs_of (glos c "inputs_of" (by decide +kernel)) F1.kp (F1.bindsN fun _ _ _ _ _ _ us hl => match us, hl with | [_], _ => rfl)
  have h_first_taker : FnG ⟨P, w, K, mg, base⟩ 1 (He.ga K "first_taker") fd2 ["pot"] (lift ⟨P, w, K, mg, base⟩ 1 sp_first_taker) := fnG_of F2 sc_first_taker (fun x hx => hfr x (sub_first_taker x hx)) ck_first_taker (by unfold b_first_taker; simp only [ndS, nd]; repeat' (first | trivial | assumption | apply And.intro)) sem_first_taker
  have k_first_taker : Known ⟨P, w, K, mg, base⟩ "first_taker" 1 1 (bigSp sp_first_taker) := known_of X G h_first_taker (glos c "first_taker" (by decide +kernel)) F2.kp (F2.bindsN fun _ _ _ _ _ _ us hl => match us, hl with | [_], _ => rfl)
  have h_beginning : FnG ⟨P, w, K, mg, base⟩ 1 (He.ga K "beginning") fd3 ["pot", "amounts"] (lift ⟨P, w, K, mg, base⟩ 2 sp_beginning) := fnG_of F3 sc_beginning (fun x hx => hfr x (sub_beginning x hx)) ck_beginning (by unfold b_beginning; simp only [ndS, nd]; repeat' (first | trivial | assumption | apply And.intro)) sem_beginning
  have k_beginning : Known ⟨P, w, K, mg, base⟩ "beginning" 1 2 (bigSp sp_beginning) := known_of X G h_beginning (glos c "beginning" (by decide +kernel)) F3.kp (F3.bindsN fun _ _ _ _ _ _ us hl => match us, hl with | [_, _], _ => rfl)
  have h_l_feed : FnG ⟨P, w, K, mg, base⟩ 1 (He.ga K "_law_feed") fd4 ["_law_script", "_law_k"] (lift ⟨P, w, K, mg, base⟩ 2 sp_l_feed) := fnG_of F4 sc_l_feed (fun x hx => hfr x (sub_l_feed x hx)) ck_l_feed (by unfold b_l_feed; simp only [ndS, nd]; repeat' (first | trivial | assumption | apply And.intro)) sem_l_feed
  have k_l_feed : Known ⟨P, w, K, mg, base⟩ "_law_feed" 1 2 (bigSp sp_l_feed) := known_of X G h_l_feed (glos c "_law_feed" (by decide +kernel)) F4.kp (F4.bindsN fun _ _ _ _ _ _ us hl => match us, hl with | [_, _], _ => rfl)
  have h_l_draw : FnG ⟨P, w, K, mg, base⟩ 1 (He.ga K "_law_draw") fd5 ["_law_feed_here", "_law_many"] (lift ⟨P, w, K, mg, base⟩ 2 sp_l_draw) := fnG_of F5 sc_l_draw (fun x hx => hfr x (sub_l_draw x hx)) ck_l_draw (by unfold b_l_draw; simp only [ndS, nd]; repeat' (first | trivial | assumption | apply And.intro)) sem_l_draw
  have k_l_draw : Known ⟨P, w, K, mg, base⟩ "_law_draw" 1 2 (bigSp sp_l_draw) := known_of X G h_l_draw (glos c "_law_draw" (by decide +kernel)) F5.kp (F5.bindsN fun _ _ _ _ _ _ us hl => match us, hl with | [_, _], _ => rfl)
  have h_l_names : FnG ⟨P, w, K, mg, base⟩ 2 (He.ga K "_law_names") fd6 ["_law_feed_here", "_law_many"] (lift ⟨P, w, K, mg, base⟩ 2 sp_l_names) := fnG_of F6 sc_l_names (fun x hx => hfr x (sub_l_names x hx)) ck_l_names (by unfold b_l_names; simp only [ndS, nd]; repeat' (first | trivial | assumption | apply And.intro)) sem_l_names
  have k_l_names : Known ⟨P, w, K, mg, base⟩ "_law_names" 2 2 (bigSp sp_l_names) := known_of X G h_l_names (glos c "_law_names" (by decide +kernel)) F6.kp (F6.bindsN fun _ _ _ _ _ _ us hl => match us, hl with | [_, _], _ => rfl)
  have h_l_rule : FnG ⟨P, w, K, mg, base⟩ 2 (He.ga K "_law_rule") fd7 ["_law_feed_here", "_law_many"] (lift ⟨P, w, K, mg, base⟩ 2 sp_l_rule) := fnG_of F7 sc_l_rule (fun x hx => hfr x (sub_l_rule x hx)) ck_l_rule (by unfold b_l_rule; simp only [ndS, nd]; repeat' (first | trivial | assumption | apply And.intro)) sem_l_rule
  have k_l_rule : Known ⟨P, w, K, mg, base⟩ "_law_rule" 2 2 (bigSp sp_l_rule) := known_of X G h_l_rule (glos c "_law_rule" (by decide +kernel)) F7.kp (F7.bindsN fun _ _ _ _ _ _ us hl => match us, hl with | [_, _], _ => rfl)
  have h_l_pot : FnG ⟨P, w, K, mg, base⟩ 3 (He.ga K "_law_pot") fd8 ["_law_feed_here"] (lift ⟨P, w, K, mg, base⟩ 1 sp_l_pot) := fnG_of F8 sc_l_pot (fun x hx => hfr x (sub_l_pot x hx)) ck_l_pot (by unfold b_l_pot; simp only [ndS, nd]; repeat' (first | trivial | assumption | apply And.intro)) sem_l_pot
  have k_l_pot : Known ⟨P, w, K, mg, base⟩ "_law_pot" 3 1 (bigSp sp_l_pot) := known_of X G h_l_pot (glos c "_law_pot" (by decide +kernel)) F8.kp (F8.bindsN fun _ _ _ _ _ _ us hl => match us, hl with | [_], _ => rfl)
  have h_l_right : FnG ⟨P, w, K, mg, base⟩ 2 (He.ga K "_law_right") fd9 ["_law_pot_here", "_law_amounts"] (lift ⟨P, w, K, mg, base⟩ 2 sp_l_right) := fnG_of F9 sc_l_right (fun x hx => hfr x (sub_l_right x hx)) ck_l_right (by unfold b_l_right; simp only [ndS, nd]; repeat' (first | trivial | assumption | apply And.intro)) sem_l_right
  have k_l_right : Known ⟨P, w, K, mg, base⟩ "_law_right" 2 2 (bigSp sp_l_right) := known_of X G h_l_right (glos c "_law_right" (by decide +kernel)) F9.kp (F9.bindsN fun _ _ _ _ _ _ us hl => match us, hl with | [_, _], _ => rfl)
  have h_law : FnG ⟨P, w, K, mg, base⟩ 4 (He.ga K "law") fd10 ["_law_script"] (lift ⟨P, w, K, mg, base⟩ 1 sp_law) := fnG_of F10 sc_law (fun x hx => hfr x (sub_law x hx)) ck_law (by unfold b_law; simp only [ndS, nd]; repeat' (first | trivial | assumption | apply And.intro)) sem_law
  exact h_law
def loose0 : List Str := ["__name__", "sort_called", "inputs_of", "first_taker", "beginning", "_law_feed", "_law_draw", "_law_names", "_law_rule", "_law_pot", "_law_right"]
def loose : List Str := loose0
abbrev R : PySem.W.OpenRow := PySem.W.OpenLaw.row PySem.Challenge.rw_dropsums_k02_asked_of_pots
abbrev hk : PySem.W.Hook := hookX 5 cs fa fn
def ob (s : PySem.W.SharedT) : AlX := obsXG 5 cs fa fn (HandSHeadRun.getT s)
theorem ob_eq (s : PySem.W.SharedT) : ob s = hk.obs s.abs := obsXG_eq (HandSHeadRun.getT_eq s)
theorem run (w : World) : HandSHeadRun.RunEq R (PySem.W.view R.prog [12]) hk ob 4000 loose w := by
  intro os
  kernel_rfl
end Lk02
open PySem PySem.W PySem.Calls PyProof.Rows
theorem PySem.Challenge.cw_dropsums_k02_asked_of_pots_holds : PySem.Challenge.rw_dropsums_k02_asked_of_pots.Holds := by
  w_on; o_law
  refine HandSHeadRun.head_any (r := OpenLaw.row PySem.Challenge.rw_dropsums_k02_asked_of_pots) (q := view (OpenLaw.row PySem.Challenge.rw_dropsums_k02_asked_of_pots).prog [12]) (H := Lk02.hk) (ob := Lk02.ob) (M := 4000) (loose := Lk02.loose) (d := HandSHeadRun.topDef (OpenLaw.row PySem.Challenge.rw_dropsums_k02_asked_of_pots).prog 12) (kwd := []) Lk02.ob_eq
    (by kernel_rfl) (fun s => by kernel_rfl) Lk02.run (by kernel_rfl) (by kernel_rfl) (by kernel_rfl) (by rfl) (by first | assumption | decide +kernel) (by decide +kernel) ⟨rfl, rfl, rfl, rfl, rfl, by decide +kernel⟩ ?hw ?hc
  case hw => w_witness2
  case hc =>
    refine DV.walk_G (l := PySem.Challenge.rw_dropsums_k02_asked_of_pots) (n := 63) (k := 4) (x := "_law_script") (dsp := Lk02.sp_law) rfl (by decide) (by kernel_rfl) ⟨rfl, by decide, by decide⟩ ?F Lk02.law_sp
    intro w mg fa h Y G hmg0
    obtain ⟨K, KX, c⟩ := Y
    have hmg : mg ("law" : PySem.Str) = some (.ref fa) := by
      have e : (HandSHeadRun.topDef (OpenLaw.row PySem.Challenge.rw_dropsums_k02_asked_of_pots).prog 12).name = ("law" : PySem.Str) := by kernel_rfl
      rw [← e]
      exact hmg0
    obtain ⟨fd, hb, hF⟩ := Lk02.facts (P := (PySem.Challenge.rw_dropsums_k02_asked_of_pots).prog) (w := w) KX G hmg c
    exact ⟨K, fd, KX, hb, hF⟩
