import PyProof.Rows.All
import Wide.All
import OpenK.AllK
import Wide.FinOn
import HandS.ForMost
import HandS.ForExc
import KE.SortData
import HandS.Lambda
import PyProof.ReprReads
import HandS.Flow
import HandS.IsInst
import KE.LtData
import HandS.Dict
import HandS.More
import HandS.TupMul
import HandS.Wide
import HandS.Style
import PyProof.EqLayable
import PyProof.P3In
import KE.KTupSum
import KE.GoesEnum
import PyProof.ReprRoads
import PyProof.CallFns
import KE.KDflt
import HandS.ExcIs
import HandS.EndTab
import HandS.HeadHook4
import HandS.Head2
import HandS.HeadEnd
import KE.OsSorts
import KE.DataMinMax
import HandS.Conv
import HandS.Deep
import HandS.SetFor
import KE.KRevSl
import HandS.ExcValue
import PyProof.ReprLoop
import PySem.Challenge.RW_airfield_k82_whole_sharings_of_doors_or
set_option Elab.async false
set_option linter.all false
set_option maxRecDepth 100000
set_option maxHeartbeats 2000000
/-! D: values without addresses; what an expression is worth is a plain function of the frame's values and of the one drawing hand -/
namespace DL
open PySem PySem.Spec PyProof.Rows L2

abbrev D := PyData
def keyD : Key → D
  | .inl i => .int i
  | .inr s => .str s

mutual
/-- v stands for d, by objects that never change again (F) -/
inductive Rep (K : PySem.W.Frag) (F : Hp) : V → D → Prop
  | non : Rep K F .non .none
  | bl (b : Bool) : Rep K F (.bl b) (.bool b)
  | int (i : Int) : Rep K F (.int i) (.int i)
  | str (x : Str) : Rep K F (.str x) (.str x)
  | lst {a : Addr} {xs : List V} {ds : List D} : F a = some (.lst xs) → Reps K F xs ds → Rep K F (.ref a) (.list ds)
  | tup {a : Addr} {xs : List V} {ds : List D} : SqT K F a xs → Reps K F xs ds → Rep K F (.ref a) (.tuple ds)
  | dK {a : Addr} {kvs : List (Key × V)} {ds : List D} : F a = some (.dK kvs) → Reps K F (kvs.map (·.2)) ds → Rep K F (.ref a) (.dict ((kvs.map fun p => keyD p.1).zip ds))
  | dT {a : Addr} {kvs : List (List Key × V)} {ds : List D} : F a = some (.dT kvs) → Reps K F (kvs.map (·.2)) ds → Rep K F (.ref a) (.dict ((kvs.map fun p => PyData.tuple (p.1.map keyD)).zip ds))
inductive Reps (K : PySem.W.Frag) (F : Hp) : List V → List D → Prop
  | nil : Reps K F [] []
  | cons {v : V} {vs : List V} {d : D} {ds : List D} : Rep K F v d → Reps K F vs ds → Reps K F (v :: vs) (d :: ds)
end

def Sub (F H : Hp) : Prop := ∀ b o, F b = some o → H b = some o
theorem Sub.refl (F : Hp) : Sub F F := fun _ _ h => h
theorem Sub.trans {F G H : Hp} (a : Sub F G) (b : Sub G H) : Sub F H := fun c o h => b c o (a c o h)
theorem Sub.free {F H : Hp} (s : Sub F H) {p : Addr} (n : H p = none) : F p = none := by
  cases q : F p with
  | none => rfl
  | some o => rw [s p o q] at n; cases n
theorem Sub.sqT {K : PySem.W.Frag} {F H : Hp} (s : Sub F H) {a : Addr} {xs : List V} (h : SqT K F a xs) : SqT K H a xs := by
  rcases h with (h | ⟨o, h⟩) | h
  · exact .inl (.inl (s _ _ h))
  · exact .inl (.inr ⟨o, s _ _ h⟩)
  · exact .inr h
theorem Sub.sqL {K : PySem.W.Frag} {F H : Hp} (s : Sub F H) {a : Addr} {xs : List V} (h : SqL K F a xs) : SqL K H a xs := by
  rcases h with (h | ⟨o, h⟩) | h
  · exact .inl (.inl (s _ _ h))
  · exact .inl (.inr ⟨o, s _ _ h⟩)
  · exact .inr h
section
variable {K : PySem.W.Frag} {F F' : Hp}
theorem Rep.mono (s : Sub F F') {v : V} {d : D} (h : Rep K F v d) : Rep K F' v d :=
  Rep.rec (motive_1 := fun v d _ => Rep K F' v d) (motive_2 := fun vs ds _ => Reps K F' vs ds)
    .non (fun b => .bl b) (fun i => .int i) (fun x => .str x) (fun h _ r => .lst (s _ _ h) r) (fun h _ r => .tup (s.sqT h) r) (fun h _ r => .dK (s _ _ h) r) (fun h _ r => .dT (s _ _ h) r)
    .nil (fun _ _ r q => .cons r q) h
theorem Reps.mono (s : Sub F F') {vs : List V} {ds : List D} (h : Reps K F vs ds) : Reps K F' vs ds :=
  Reps.rec (motive_1 := fun v d _ => Rep K F' v d) (motive_2 := fun vs ds _ => Reps K F' vs ds)
    .non (fun b => .bl b) (fun i => .int i) (fun x => .str x) (fun h _ r => .lst (s _ _ h) r) (fun h _ r => .tup (s.sqT h) r) (fun h _ r => .dK (s _ _ h) r) (fun h _ r => .dT (s _ _ h) r)
    .nil (fun _ _ r q => .cons r q) h
theorem Reps.length {vs : List V} {ds : List D} (h : Reps K F vs ds) : vs.length = ds.length := by
  induction vs generalizing ds with
  | nil => cases h; rfl
  | cons v vs ih =>
    cases h with
    | cons h1 h2 => simp [ih h2]
theorem Reps.append {vs ws : List V} {ds es : List D} (h : Reps K F vs ds) (k : Reps K F ws es) : Reps K F (vs ++ ws) (ds ++ es) := by
  induction vs generalizing ds with
  | nil => cases h; exact k
  | cons v vs ih =>
    cases h with
    | cons h1 h2 => exact .cons h1 (ih h2)
theorem Reps.get {vs : List V} {ds : List D} (h : Reps K F vs ds) {i : Nat} {d : D} (e : ds[i]? = some d) : ∃ v, vs[i]? = some v ∧ Rep K F v d := by
  induction vs generalizing ds i with
  | nil => cases h; simp at e
  | cons v vs ih =>
    cases h with
    | cons h1 h2 =>
      cases i with
      | zero => simp at e; subst e; exact ⟨v, by simp, h1⟩
      | succ i => simpa using ih h2 (by simpa using e)
theorem Reps.getV {vs : List V} {ds : List D} (h : Reps K F vs ds) {i : Nat} {v : V} (e : vs[i]? = some v) : ∃ d, ds[i]? = some d ∧ Rep K F v d := by
  induction vs generalizing ds i with
  | nil => simp at e
  | cons w vs ih =>
    cases h with
    | cons h1 h2 =>
      cases i with
      | zero => simp at e; subst e; exact ⟨_, by simp, h1⟩
      | succ i => simpa using ih h2 (by simpa using e)
theorem Reps.take {vs : List V} {ds : List D} (h : Reps K F vs ds) (n : Nat) : Reps K F (vs.take n) (ds.take n) := by
  induction n generalizing vs ds with
  | zero => simpa using Reps.nil
  | succ n ih =>
    cases h with
    | nil => simpa using Reps.nil
    | cons h1 h2 => simpa using Reps.cons h1 (ih h2)
theorem Reps.drop {vs : List V} {ds : List D} (h : Reps K F vs ds) (n : Nat) : Reps K F (vs.drop n) (ds.drop n) := by
  induction n generalizing vs ds with
  | zero => simpa using h
  | succ n ih =>
    cases h with
    | nil => simpa using Reps.nil
    | cons h1 h2 => simpa using ih h2
theorem Reps.set {vs : List V} {ds : List D} (h : Reps K F vs ds) {v : V} {d : D} (r : Rep K F v d) (n : Nat) : Reps K F (vs.set n v) (ds.set n d) := by
  induction n generalizing vs ds with
  | zero =>
    cases h with
    | nil => exact .nil
    | cons h1 h2 => exact .cons r h2
  | succ n ih =>
    cases h with
    | nil => exact .nil
    | cons h1 h2 => exact .cons h1 (ih h2)
theorem Reps.replicate {v : V} {d : D} (r : Rep K F v d) : ∀ n : Nat, Reps K F (List.replicate n v) (List.replicate n d)
  | 0 => .nil
  | n + 1 => by rw [List.replicate_succ, List.replicate_succ]; exact .cons r (Reps.replicate r n)
theorem Reps.flat {vs : List V} {ds : List D} (h : Reps K F vs ds) : ∀ n : Nat, Reps K F (List.replicate n vs).flatten (List.replicate n ds).flatten
  | 0 => .nil
  | n + 1 => by
    rw [List.replicate_succ, List.replicate_succ, List.flatten_cons, List.flatten_cons]
    exact h.append (Reps.flat h n)
theorem Reps.reverse {vs : List V} {ds : List D} (h : Reps K F vs ds) : Reps K F vs.reverse ds.reverse := by
  induction vs generalizing ds with
  | nil => cases h; exact .nil
  | cons v vs ih =>
    cases h with
    | cons h1 h2 => rw [List.reverse_cons, List.reverse_cons]; exact (ih h2).append (.cons h1 .nil)
theorem Reps.eraseIdx {vs : List V} {ds : List D} (h : Reps K F vs ds) (n : Nat) : Reps K F (vs.eraseIdx n) (ds.eraseIdx n) := by
  induction n generalizing vs ds with
  | zero =>
    cases h with
    | nil => exact .nil
    | cons h1 h2 => exact h2
  | succ n ih =>
    cases h with
    | nil => exact .nil
    | cons h1 h2 => exact .cons h1 (ih h2)
theorem Reps.dropLast {vs : List V} {ds : List D} (h : Reps K F vs ds) : Reps K F vs.dropLast ds.dropLast := by
  rw [List.dropLast_eq_take, List.dropLast_eq_take, h.length]
  exact h.take _
end
/-- the ints of a row -/
theorem Reps.ints {K : PySem.W.Frag} {F : Hp} : ∀ {vs : List V} {ns : List Int}, Reps K F vs (ns.map PyData.int) → vs = ns.map V.int
  | [], [], _ => rfl
  | [], _ :: _, h => by cases h
  | _ :: _, [], h => by cases h
  | v :: vs, n :: ns, h => by
    cases h with
    | cons h1 h2 =>
      cases h1
      rw [Reps.ints h2]
      rfl
theorem Reps.bools {K : PySem.W.Frag} {F : Hp} : ∀ {vs : List V} {ns : List Bool}, Reps K F vs (ns.map PyData.bool) → vs = ns.map V.bl
  | [], [], _ => rfl
  | [], _ :: _, h => by cases h
  | _ :: _, [], h => by cases h
  | v :: vs, n :: ns, h => by
    cases h with
    | cons h1 h2 =>
      cases h1
      rw [Reps.bools h2]
      rfl
theorem Reps.strs {K : PySem.W.Frag} {F : Hp} : ∀ {vs : List V} {ns : List Str}, Reps K F vs (ns.map PyData.str) → vs = ns.map V.str
  | [], [], _ => rfl
  | [], _ :: _, h => by cases h
  | _ :: _, [], h => by cases h
  | v :: vs, n :: ns, h => by
    cases h with
    | cons h1 h2 =>
      cases h1
      rw [Reps.strs h2]
      rfl
theorem Reps.ofInts {K : PySem.W.Frag} {F : Hp} : ∀ (ns : List Int), Reps K F (ns.map V.int) (ns.map PyData.int)
  | [] => .nil
  | n :: ns => .cons (.int n) (Reps.ofInts ns)

/-! ### data without dicts: the library's own -/
mutual
def flatD : D → Bool
  | .none => true
  | .bool _ => true
  | .int _ => true
  | .str _ => true
  | .list xs => flatDs xs
  | .tuple xs => flatDs xs
  | .dict _ => false
def flatDs : List D → Bool
  | [] => true
  | d :: ds => flatD d && flatDs ds
end
mutual
theorem Rep.dp {K : PySem.W.Frag} {F H : Hp} (s : Sub F H) : ∀ (d : D) (v : V), flatD d = true → Rep K F v d → Dp K H v d
  | .none, _, _, h => by cases h; exact .non
  | .bool b, _, _, h => by cases h; exact .bl b
  | .int i, _, _, h => by cases h; exact .int i
  | .str x, _, _, h => by cases h; exact .str x
  | .list ds, _, f, h => by
    cases h with
    | lst h1 h2 => exact .lst (.inl (.inl (s _ _ h1))) (Reps.dp s ds _ (by simpa [flatD] using f) h2)
  | .tuple ds, _, f, h => by
    cases h with
    | tup h1 h2 => exact .tup (s.sqT h1) (Reps.dp s ds _ (by simpa [flatD] using f) h2)
  | .dict _, _, f, _ => by simp [flatD] at f
theorem Reps.dp {K : PySem.W.Frag} {F H : Hp} (s : Sub F H) : ∀ (ds : List D) (vs : List V), flatDs ds = true → Reps K F vs ds → DpAll K H vs ds
  | [], _, _, h => by cases h; exact .nil
  | d :: ds, _, f, h => by
    simp only [flatDs, Bool.and_eq_true] at f
    cases h with
    | cons h1 h2 => exact .cons (Rep.dp s d _ f.1 h1) (Reps.dp s ds _ f.2 h2)
end

/-! ### the drawing hand -/
structure G where
  cells : List Int
  i : Int
  big : Int
  mix : Int
  n : Int
def HandAt (F₀ H : Hp) (a c : Addr) (g : G) : Prop :=
  H a = some (.lst [.ref c, .int g.i, .int g.big, .int g.mix, .int g.n]) ∧ F₀ c = some (.lst (g.cells.map V.int))

/-! ### the frame's values -/
inductive Sl where
  | un
  | dat (d : D)
  | own (ds : List D)
  | hand
  | fn (nm : Str)
  | scr (ns : List Int)
  | ownd (tk : Bool) (kvs : List (D × D))
def isOwn : Sl → Bool
  | .own _ => true
  | .ownd _ _ => true
  | _ => false
def NoO (σ : L2.St) (env : List Sl) (p : Addr) : Prop := ∀ (i : Nat) (sl : Sl), env[i]? = some sl → isOwn sl = true → σ[i]? ≠ some (some (.ref p))

def notT (o : HO) : Prop := ∀ ps, o ≠ .tbl ps
/-- from F, H to F', H': only the hand, the tables change; what is new in F was not tracked -/
structure Grow (ha : Option Addr) (F H F' H' : Hp) : Prop where
  keep : ∀ b o, H b = some o → ha ≠ some b → notT o → H' b = some o
  frz : Sub F F'
  new : ∀ b, F b = none → F' b ≠ none → H b = none
  there : ∀ b, H' b = none → H b = none
theorem Grow.refl (ha : Option Addr) (F H : Hp) : Grow ha F H F H := ⟨fun _ _ h _ _ => h, Sub.refl _, fun _ h n => absurd h n, fun _ h => h⟩
theorem Grow.trans {ha : Option Addr} {F H F1 H1 F2 H2 : Hp} (a : Grow ha F H F1 H1) (b : Grow ha F1 H1 F2 H2) : Grow ha F H F2 H2 where
  keep := fun c o h n t => b.keep c o (a.keep c o h n t) n t
  frz := a.frz.trans b.frz
  new := fun c h n => by
    cases q : F1 c with
    | none => exact a.there c (b.new c q n)
    | some o => exact a.new c h (by rw [q]; simp)
  there := fun c h => a.there c (b.there c h)

/-- what a body is read by: the written part, the tables of code, the heap and the frozen part at the entry, the hand's place -/
structure Cz where
  K : PySem.W.Frag
  mg : Str → Option Value
  T : List (Addr × Str)
  F₀ : Hp
  H₀ : Hp
  ha : Option Addr
  hc : Addr

/-- a dict that may still change, by its keys and values -/
def DicAt (K : PySem.W.Frag) (F : Hp) (b : Bool) (o : HO) (kvs : List (D × D)) : Prop := match b with
  | false => ∃ kk : List (Key × V), o = .dK kk ∧ kvs.map (·.1) = kk.map (fun p => keyD p.1) ∧ Reps K F (kk.map (·.2)) (kvs.map (·.2))
  | true => ∃ kt : List (List Key × V), o = .dT kt ∧ kvs.map (·.1) = kt.map (fun p => PyData.tuple (p.1.map keyD)) ∧ Reps K F (kt.map (·.2)) (kvs.map (·.2))
theorem DicAt.mono {K : PySem.W.Frag} {F F' : Hp} {b : Bool} {o : HO} {kvs : List (D × D)} (h : DicAt K F b o kvs) (s : Sub F F') : DicAt K F' b o kvs := by
  cases b with
  | false => obtain ⟨kk, a, b, c⟩ := h; exact ⟨kk, a, b, c.mono s⟩
  | true => obtain ⟨kk, a, b, c⟩ := h; exact ⟨kk, a, b, c.mono s⟩
/-- what own things are -/
def OwnHO (o : HO) : Prop := (∃ xs, o = .lst xs) ∨ (∃ k, o = .dK k) ∨ ∃ k, o = .dT k
theorem DicAt.own {K : PySem.W.Frag} {F : Hp} {b : Bool} {o : HO} {kvs : List (D × D)} (h : DicAt K F b o kvs) : OwnHO o := by
  cases b with
  | false => obtain ⟨kk, a, _⟩ := h; exact .inr (.inl ⟨kk, a⟩)
  | true => obtain ⟨kk, a, _⟩ := h; exact .inr (.inr ⟨kk, a⟩)
theorem OwnHO.notT {o : HO} (h : OwnHO o) : notT o := by
  rcases h with ⟨_, rfl⟩ | ⟨_, rfl⟩ | ⟨_, rfl⟩ <;> exact fun ps z => by cases z
theorem OwnHO.notC {o : HO} (h : OwnHO o) {c : Addr} {n : Str} : o ≠ LamX.CodeO c n := by
  rcases h with ⟨_, rfl⟩ | ⟨_, rfl⟩ | ⟨_, rfl⟩ <;> exact fun z => by unfold LamX.CodeO at z; cases z
theorem OwnHO.notE {o : HO} (h : OwnHO o) (φ : Heap → Prop) : o ≠ .ext φ := by
  rcases h with ⟨_, rfl⟩ | ⟨_, rfl⟩ | ⟨_, rfl⟩ <;> exact fun z => by cases z
def SlotOK (C : Cz) (F H : Hp) : Sl → Option V → Prop
  | .un, _ => True
  | .dat d, x => ∃ v, x = some v ∧ Rep C.K F v d
  | .own ds, x => ∃ a vs, x = some (.ref a) ∧ F a = none ∧ C.H₀ a = none ∧ H a = some (.lst vs) ∧ Reps C.K F vs ds
  | .hand, x => ∃ a, x = some (.ref a) ∧ C.ha = some a
  | .fn nm, x => ∃ a, x = some (.ref a) ∧ C.mg nm = some (.ref a)
  | .scr ns, x => ∃ a, x = some (.ref a) ∧ SqL C.K F a (ns.map V.int)
  | .ownd b kvs, x => ∃ a o, x = some (.ref a) ∧ F a = none ∧ C.H₀ a = none ∧ H a = some o ∧ DicAt C.K F b o kvs
theorem SlotOK.own {C : Cz} {F H : Hp} {sl : Sl} {x : Option V} (h : SlotOK C F H sl x) (e : isOwn sl = true) : ∃ a o, x = some (.ref a) ∧ F a = none ∧ C.H₀ a = none ∧ H a = some o ∧ OwnHO o := by
  cases sl with
  | own ds => obtain ⟨a, vs, h1, h2, h3, h4, _⟩ := h; exact ⟨a, _, h1, h2, h3, h4, .inl ⟨_, rfl⟩⟩
  | ownd b kvs => obtain ⟨a, o, h1, h2, h3, h4, h5⟩ := h; exact ⟨a, o, h1, h2, h3, h4, h5.own⟩
  | _ => cases e

/-- the code tables stand where all but lists stays -/
theorem tabs_stay {T : List (Addr × Str)} {H H' : Hp} (t : LamX.Tabs T H) (e : ∀ b o, H b = some o → (∀ xs, o ≠ .lst xs) → H' b = some o) : LamX.Tabs T H' := fun p hp => by
  obtain ⟨ps, h1, h2, h3⟩ := t p hp
  refine ⟨ps, e _ _ h1 (fun xs z => by cases z), h2, fun pos cv hc => ?_⟩
  obtain ⟨c, e1, e2⟩ := h3 pos cv hc
  exact ⟨c, e1, e _ _ e2 (fun xs z => by unfold LamX.CodeO at z; cases z)⟩

structure SOK (C : Cz) (F H : Hp) (σ : L2.St) (env : List Sl) (g : G) : Prop where
  grow : Grow C.ha C.F₀ C.H₀ F H
  sub : Sub F H
  ntb : ∀ b o, F b = some o → notT o
  tabs : LamX.Tabs C.T H
  hand : ∀ a, C.ha = some a → F a = none ∧ HandAt C.F₀ H a C.hc g ∧ C.H₀ a ≠ none
  len : env.length = σ.length
  slot : ∀ (i : Nat) (sl : Sl), env[i]? = some sl → ∃ x : Option V, σ[i]? = some x ∧ SlotOK C F H sl x
  apart : ∀ (i j : Nat) (a : Addr) (sl sl' : Sl), env[i]? = some sl → env[j]? = some sl' → isOwn sl = true → isOwn sl' = true → σ[i]? = some (some (.ref a)) → σ[j]? = some (some (.ref a)) → i = j

/-! ### outcomes -/
inductive Out (α : Type) where
  | ok (a : α) (g : G)
  | err (c : Str) (g : G)
  | stuck
def Out.bind {α β : Type} : Out α → (α → G → Out β) → Out β
  | .ok a g, k => k a g
  | .err c g, _ => .err c g
  | .stuck, _ => .stuck
def Out.of {α : Type} : Option α → G → Out α
  | some a, g => .ok a g
  | none, _ => .stuck
abbrev EM (α : Type) := List Sl → G → Out α
/-- an error of the class named c leaves -/
def Er (C : Cz) (E : XK) (c : Str) (H : Hp) : Prop := ∀ A, C.mg c = some (.ref A) → E (.ref A) none H
end DL

set_option Elab.async false
set_option linter.all false
set_option maxRecDepth 100000
set_option maxHeartbeats 2000000
namespace DL
open PySem PySem.Spec PyProof.Rows L2

/-! ### state steps -/
/-- objects are laid, some of them frozen at once -/
structure Laid (F H F' H' : Hp) : Prop where
  keep : Sub H H'
  frz : Sub F F'
  sub : Sub F' H'
  new : ∀ b, F b = none → F' b ≠ none → H b = none
  ntb : ∀ b o, F b = none → F' b = some o → notT o
theorem Laid.refl {F H : Hp} (s : Sub F H) : Laid F H F H := ⟨Sub.refl _, Sub.refl _, s, fun _ h n => absurd h n, fun _ _ h e => by rw [h] at e; cases e⟩
theorem sub_upd {H : Hp} {p : Addr} {o : HO} (n : H p = none) : Sub H (upd H p o) := fun b u e => by rw [upd_ne (ne_of_none e n)]; exact e
theorem Laid.one {F H : Hp} (s : Sub F H) {p : Addr} {o : HO} (n : H p = none) (t : notT o) : Laid F H (upd F p o) (upd H p o) where
  keep := sub_upd n
  frz := sub_upd (s.free n)
  sub := fun b u e => by
    by_cases h : b = p
    · subst h; rw [upd_same] at e ⊢; exact e
    · rw [upd_ne h] at e ⊢; exact s _ _ e
  new := fun b h k => by
    by_cases e : b = p
    · subst e; exact n
    · rw [upd_ne e] at k; exact absurd h k
  ntb := fun b u h e => by
    by_cases k : b = p
    · subst k; rw [upd_same] at e; cases e; exact t
    · rw [upd_ne k, h] at e; cases e
theorem Laid.trans {F H F1 H1 F2 H2 : Hp} (a : Laid F H F1 H1) (b : Laid F1 H1 F2 H2) : Laid F H F2 H2 where
  keep := a.keep.trans b.keep
  frz := a.frz.trans b.frz
  sub := b.sub
  new := fun c h n => by
    cases q : F1 c with
    | none => exact a.keep.free (b.new c q n)
    | some o => exact a.new c h (by rw [q]; simp)
  ntb := fun c o h e => by
    cases q : F1 c with
    | none => exact b.ntb c o q e
    | some u =>
      have := b.frz _ _ q
      rw [this] at e; cases e
      exact a.ntb c _ h q
theorem Laid.grow {ha : Option Addr} {F H F' H' : Hp} (l : Laid F H F' H') : Grow ha F H F' H' := ⟨fun b o h _ _ => l.keep b o h, l.frz, l.new, fun b h => l.keep.free h⟩

section
variable {C : Cz} {F H F' H' : Hp} {σ : L2.St} {env : List Sl} {g : G}
theorem SOK.laid (S : SOK C F H σ env g) (l : Laid F H F' H') : SOK C F' H' σ env g where
  grow := S.grow.trans l.grow
  sub := l.sub
  ntb := fun b o e => by
    cases q : F b with
    | none => exact l.ntb b o q e
    | some u =>
      have := l.frz _ _ q
      rw [this] at e; cases e
      exact S.ntb b _ q
  tabs := S.tabs.ext l.keep
  hand := fun a e => by
    obtain ⟨h1, ⟨h2, h3⟩, h4⟩ := S.hand a e
    refine ⟨?_, ⟨l.keep _ _ h2, h3⟩, h4⟩
    cases q : F' a with
    | none => rfl
    | some o =>
      have z := l.new a h1 (by rw [q]; simp)
      rw [h2] at z; cases z
  len := S.len
  slot := fun i sl e => by
    obtain ⟨x, h1, h2⟩ := S.slot i sl e
    refine ⟨x, h1, ?_⟩
    cases sl with
    | un => trivial
    | dat d => obtain ⟨v, h3, h4⟩ := h2; exact ⟨v, h3, h4.mono l.frz⟩
    | own ds =>
      obtain ⟨a, vs, h3, h4, h5, h6, h7⟩ := h2
      refine ⟨a, vs, h3, ?_, h5, l.keep _ _ h6, h7.mono l.frz⟩
      cases q : F' a with
      | none => rfl
      | some o =>
        have z := l.new a h4 (by rw [q]; simp)
        rw [h6] at z; cases z
    | hand => exact h2
    | fn a => exact h2
    | scr ns => obtain ⟨b, k1, k2⟩ := h2; exact ⟨b, k1, Sub.sqL l.frz k2⟩
    | ownd _ kvs =>
      obtain ⟨a, o, h3, h4, h5, h6, h7⟩ := h2
      refine ⟨a, o, h3, ?_, h5, l.keep _ _ h6, h7.mono l.frz⟩
      cases q : F' a with
      | none => rfl
      | some o =>
        have z := l.new a h4 (by rw [q]; simp)
        rw [h6] at z; cases z
  apart := S.apart
end

/-! ### what an outcome asks -/
def Run {α β : Type} (C : Cz) (E : XK) (R : Hp → β → α → Prop) (F H : Hp) (σ : L2.St) (env : List Sl) (o : Out α) (Q : β → Hp → Prop) : Prop :=
  match o with
  | .ok d g => ∀ F' H' v, SOK C F' H' σ env g → Grow C.ha F H F' H' → R F' v d → Q v H'
  | .err c g => ∀ F' H', SOK C F' H' σ env g → Grow C.ha F H F' H' → Er C E c H'
  | .stuck => False
def tM {α β : Type} (C : Cz) (E : XK) (R : Hp → β → α → Prop) (f : EM α) : L2.St → Hp → (β → Hp → Prop) → Prop := fun σ H Q =>
  ∃ F env g, SOK C F H σ env g ∧ Run C E R F H σ env (f env g) Q
section
variable {α β γ δ : Type} {C : Cz} {E : XK} {R : Hp → β → α → Prop} {R2 : Hp → δ → γ → Prop} {F H F1 H1 : Hp} {σ : L2.St} {env : List Sl} {g : G} {o : Out α}
theorem Run.imp {Q Q' : β → Hp → Prop} (h : Run C E R F H σ env o Q) (q : ∀ v H, Q v H → Q' v H) : Run C E R F H σ env o Q' := by
  cases o with
  | ok d g => exact fun F' H' v s gr r => q _ _ (h F' H' v s gr r)
  | err c g => exact h
  | stuck => exact h
theorem Run.shift {Q : β → Hp → Prop} (gr : Grow C.ha F H F1 H1) (h : Run C E R F H σ env o Q) : Run C E R F1 H1 σ env o Q := by
  cases o with
  | ok d g => exact fun F' H' v s gr' r => h F' H' v s (gr.trans gr') r
  | err c g => exact fun F' H' s gr' => h F' H' s (gr.trans gr')
  | stuck => exact h
/-- the first part, then what follows it -/
theorem Run.bind {k : α → G → Out γ} {Q : δ → Hp → Prop} (h : Run C E R2 F H σ env (o.bind k) Q) :
    Run C E R F H σ env o fun v H1 => ∃ F1 d g1, SOK C F1 H1 σ env g1 ∧ Grow C.ha F H F1 H1 ∧ R F1 v d ∧ Run C E R2 F1 H1 σ env (k d g1) Q := by
  cases o with
  | ok d g => exact fun F' H' v s gr r => ⟨F', d, g, s, gr, r, h.shift gr⟩
  | err c g => exact h
  | stuck => exact h
theorem Run.of {x : Option α} {Q : β → Hp → Prop} (S : SOK C F H σ env g) (h : Run C E R F H σ env (Out.of x g) Q) : ∃ d, x = some d ∧ ∀ F' H' v, Laid F H F' H' → R F' v d → Q v H' := by
  cases x with
  | none => exact (show False from h).elim
  | some d => exact ⟨d, rfl, fun F' H' v l r => h F' H' v (S.laid l) l.grow r⟩
theorem Run.val {d : α} {Q : β → Hp → Prop} (S : SOK C F H σ env g) (h : Run C E R F H σ env (.ok d g) Q) : ∀ F' H' v, Laid F H F' H' → R F' v d → Q v H' := fun F' H' v l r => h F' H' v (S.laid l) l.grow r
end

/-! ### ties of a context and what a body is read by -/
structure Ties (X : Cx) (C : Cz) (k : Nat) : Prop where
  K : C.K = X.K
  mg : C.mg = X.mg
  nd : X.N.Nodup
  hu : X.A.units + 64 < cLine
  gd : X.A.guards = some []
  calm0 : 0 < k → X.calm = true
  room0 : 0 < k → Room k X.A
theorem Ties.calm {X : Cx} {C : Cz} {k : Nat} (t : Ties X C (k + 1)) : X.calm = true := t.calm0 (Nat.succ_pos _)
theorem Ties.room {X : Cx} {C : Cz} {k : Nat} (t : Ties X C (k + 1)) : Room (k + 1) X.A := t.room0 (Nat.succ_pos _)

theorem _root_.L2.PE.impD {X : Cx} {e : Expr} {t t' : TE} (h : PE X e t) (q : ∀ σ H Q, t' σ H Q → t σ H Q) : PE X e t' := ⟨fun pins s σ H Q I hw => h.run pins s σ H Q I (q _ _ _ hw)⟩
theorem _root_.L2.PT.impD {X : Cx} {e : Expr} {t t' : TT} (h : PT X e t) (q : ∀ σ H Q, t' σ H Q → t σ H Q) : PT X e t' := ⟨fun pins s σ H Q I hw => h.run pins s σ H Q I (q _ _ _ hw)⟩
theorem _root_.L2.PW.impD {X : Cx} {e : Expr} {t t' : TT} (h : PW X e t) (q : ∀ σ H Q, t' σ H Q → t σ H Q) : PW X e t' := ⟨fun wh pins s σ H Q I hw => h.run wh pins s σ H Q I (q _ _ _ hw)⟩
theorem _root_.L2.PA.impD {X : Cx} {es : List Expr} {t t' : TA} (h : PA X es t) (q : ∀ σ H Q, t' σ H Q → t σ H Q) : PA X es t' := ⟨fun pos pins s σ H Q I hw => h.run pos pins s σ H Q I (q _ _ _ hw)⟩

def rB : Hp → Bool → Bool → Prop := fun _ b d => b = d
abbrev FE (X : Cx) (C : Cz) (E : XK) (e : Expr) (f : EM D) : Prop := PE X e (tM C E (Rep C.K) f)
abbrev FT (X : Cx) (C : Cz) (E : XK) (e : Expr) (f : EM Bool) : Prop := PT X e (tM C E rB f)
abbrev FW (X : Cx) (C : Cz) (E : XK) (e : Expr) (f : EM Bool) : Prop := PW X e (tM C E rB f)
abbrev FA (X : Cx) (C : Cz) (E : XK) (es : List Expr) (f : EM (List D)) : Prop := PA X es (tM C E (Reps C.K) f)

/-! ### what expressions are worth -/
def eC (d : D) : EM D := fun _ g => .ok d g
def eVar (i : Nat) : EM D := fun env g => match env[i]? with
  | some (.dat d) => .ok d g
  | _ => .stuck
def eBin (op : D → D → Option D) (a b : EM D) : EM D := fun env g => (a env g).bind fun x g => (b env g).bind fun y g => Out.of (op x y) g
def eUn (op : D → Option D) (a : EM D) : EM D := fun env g => (a env g).bind fun x g => Out.of (op x) g
def truD : D → Option Bool
  | .none => some false
  | .bool b => some b
  | .int i => some (i != 0)
  | .str y => if y.length ≤ sizeLine then some ((y.length : Int) != 0) else none
  | .list xs => some (!xs.isEmpty)
  | .tuple xs => some (!xs.isEmpty)
  | .dict _ => none
def eTru (a : EM D) : EM Bool := fun env g => (a env g).bind fun x g => Out.of (truD x) g
def eAsB (a : EM D) : EM Bool := fun env g => (a env g).bind fun x g => match x with
  | .bool b => .ok b g
  | _ => .stuck
def bAnd (a b : EM Bool) : EM Bool := fun env g => (a env g).bind fun x g => if x = true then b env g else .ok false g
def bOr (a b : EM Bool) : EM Bool := fun env g => (a env g).bind fun x g => if x = true then .ok true g else b env g
def bNot (a : EM Bool) : EM Bool := fun env g => (a env g).bind fun x g => .ok (!x) g
def eAnd (a b : EM D) : EM D := fun env g => (a env g).bind fun x g => (Out.of (truD x) g).bind fun c g => if c = true then b env g else .ok x g
def eOr (a b : EM D) : EM D := fun env g => (a env g).bind fun x g => (Out.of (truD x) g).bind fun c g => if c = true then .ok x g else b env g
def eNot (a : EM D) : EM D := fun env g => (a env g).bind fun x g => (Out.of (truD x) g).bind fun c g => .ok (.bool (!c)) g
def eIf (c : EM Bool) (a b : EM D) : EM D := fun env g => (c env g).bind fun x g => if x = true then a env g else b env g
def eNil : EM (List D) := fun _ g => .ok [] g
def eCons (a : EM D) (r : EM (List D)) : EM (List D) := fun env g => (a env g).bind fun x g => (r env g).bind fun xs g => .ok (x :: xs) g
def eTup (a : EM (List D)) : EM D := fun env g => (a env g).bind fun xs g => if xs.length ≤ sizeLine then .ok (.tuple xs) g else .stuck
def eLst (a : EM (List D)) : EM D := fun env g => (a env g).bind fun xs g => if xs.length ≤ sizeLine then .ok (.list xs) g else .stuck
def eCall (op : List D → Option D) (a : EM (List D)) : EM D := fun env g => (a env g).bind fun xs g => Out.of (op xs) g
def eChain (op op' : D → D → Option D) (a b c : EM D) : EM D := fun env g => (a env g).bind fun x g => (b env g).bind fun y g => (Out.of (op x y) g).bind fun r g => match r with
  | .bool true => (c env g).bind fun z g => Out.of (op' y z) g
  | .bool false => .ok (.bool false) g
  | _ => .stuck

section
variable {X : Cx} {C : Cz} {E : XK} {k : Nat} {a b c e : Expr} {es : List Expr} {fa fb fc : EM D} {ba bb bc : EM Bool} {fs : EM (List D)} {pos : Pos}
theorem fe_c {v : V} {d : D} (h : PE X e (tC v)) (r : ∀ F, Rep C.K F v d) : FE X C E e (eC d) := h.impD fun σ H Q ⟨F, env, g, S, hr⟩ => Run.val S hr F H v (Laid.refl S.sub) (r F)
theorem fe_int {i : Int} {j : Nat} : FE X C E (.Constant (.int i) j pos) (eC (.int i)) := fe_c pe_int fun _ => .int i
theorem fe_bl {i : Bool} {j : Nat} : FE X C E (.Constant (.bool i) j pos) (eC (.bool i)) := fe_c pe_bl fun _ => .bl i
theorem fe_non {j : Nat} : FE X C E (.Constant .none j pos) (eC .none) := fe_c pe_non fun _ => .non
theorem fe_str {x : Str} {j : Nat} : FE X C E (.Constant (.str x) j pos) (eC (.str x)) := fe_c pe_str fun _ => .str x
/-- a module's constant -/
theorem fe_glob {x : Str} {v : V} {d : D} {u : Value} (hg : Gl X x) (hm : X.mg x = some u) (r : RelV v u) (rr : ∀ F, Rep C.K F v d) (hd : (x == ("__debug__" : Str)) = false := by decide) : FE X C E (.Name x pos) (eC d) := fe_c (pe_glob hg hm r hd) rr
theorem fe_var {i : Nat} {x : Str} (hN : X.N[i]? = some x) (hv : Vis X.env.scope x) (hd : (x == ("__debug__" : Str)) = false := by decide) (hcd : (x == ("__classdict__" : Str)) = false := by decide) : FE X C E (.Name x pos) (eVar i) := by
  refine (pe_var hN hv hd hcd).impD fun σ H Q ⟨F, env, g, S, hr⟩ => ?_
  unfold eVar at hr
  cases q : env[i]? with
  | none => rw [q] at hr; exact (show False from hr).elim
  | some sl =>
    rw [q] at hr
    cases sl with
    | dat d =>
      obtain ⟨x, h1, v, rfl, r⟩ := S.slot i _ q
      exact ⟨v, h1, Run.val S hr F H v (Laid.refl S.sub) r⟩
    | un => exact (show False from hr).elim
    | own ds => exact (show False from hr).elim
    | hand => exact (show False from hr).elim
    | fn a => exact (show False from hr).elim
    | scr a => exact (show False from hr).elim
    | ownd _ a => exact (show False from hr).elim

/-- an operator by values -/
def rO (C : Cz) (op : D → D → Option D) : R2 := fun x y H Q => ∃ F d e z, Sub F H ∧ Rep C.K F x d ∧ Rep C.K F y e ∧ op d e = some z ∧ ∀ F' H' v, Laid F H F' H' → Rep C.K F' v z → Q v H'
theorem op_core {op : D → D → Option D} {r : R2} (hr : ∀ x y H Q, rO C op x y H Q → r x y H Q) {σ : L2.St} {H : Hp} {Q : VK} (h : tM C E (Rep C.K) (eBin op fa fb) σ H Q) : tOp r (tM C E (Rep C.K) fa) (tM C E (Rep C.K) fb) σ H Q := by
  obtain ⟨F, env, g, S, h⟩ := h
  refine ⟨F, env, g, S, (Run.bind (R := Rep C.K) h).imp fun x H1 ⟨F1, d1, g1, S1, gr1, r1, h1⟩ => ?_⟩
  refine ⟨F1, env, g1, S1, (Run.bind (R := Rep C.K) h1).imp fun y H2 ⟨F2, d2, g2, S2, gr2, r2, h2⟩ => ?_⟩
  obtain ⟨z, e, q⟩ := Run.of S2 h2
  exact hr _ _ _ _ ⟨F2, d1, d2, z, S2.sub, r1.mono gr2.frz, r2, e, q⟩
theorem fe_bin {o : Operator} {op : D → D → Option D} (ho : OpR X (binaryOp o) (rO C op)) (ha : FE X C E a fa) (hb : FE X C E b fb) : FE X C E (.BinOp a o b pos) (eBin op fa fb) :=
  (pe_op ho ha hb).impD fun _ _ _ h => op_core (fun _ _ _ _ q => q) h
theorem fe_cmp {o : CmpOp} {op : D → D → Option D} (ho : OpR X (compareOp o) (rO C op)) (ha : FE X C E a fa) (hb : FE X C E b fb) (hm : behindInMarks o b = false) : FE X C E (.Compare a [o] [b] pos) (eBin op fa fb) :=
  (pe_cmpR ho ha hb hm).impD fun _ _ _ h => op_core (fun _ _ _ _ q => q) h
theorem ft_cmp {o : CmpOp} {op : D → D → Option D} (ho : OpR X (compareOp o) (rO C op)) (ha : FE X C E a fa) (hb : FE X C E b fb) (hm : behindInMarks o b = false) : FT X C E (.Compare a [o] [b] pos) (eAsB (eBin op fa fb)) := by
  refine (pt_cmpR ho ha hb hm).impD fun σ H Q ⟨F, env, g, S, h⟩ => ?_
  refine op_core (E := E) (fun _ _ _ _ q => q) ⟨F, env, g, S, (Run.bind (R := Rep C.K) h).imp fun x H1 ⟨F1, d1, g1, S1, gr1, r1, h1⟩ => ?_⟩
  cases d1 with
  | bool c =>
    cases r1
    exact ⟨c, rfl, Run.val S1 h1 F1 H1 c (Laid.refl S1.sub) rfl⟩
  | _ => exact (show False from h1).elim
def rU1 (C : Cz) (op : D → Option D) : V → Hp → VK → Prop := fun x H Q => ∃ F d z, Sub F H ∧ Rep C.K F x d ∧ op d = some z ∧ ∀ F' H' v, Laid F H F' H' → Rep C.K F' v z → Q v H'
theorem fe_un {o : UnaryOp} {op : D → Option D} (ho : UnR X (unaryOp o) (rU1 C op)) (ha : FE X C E a fa) : FE X C E (.UnaryOp o a pos) (eUn op fa) := by
  refine (pe_un ho ha).impD fun σ H Q ⟨F, env, g, S, h⟩ => ?_
  refine ⟨F, env, g, S, (Run.bind (R := Rep C.K) h).imp fun x H1 ⟨F1, d1, g1, S1, gr1, r1, h1⟩ => ?_⟩
  obtain ⟨z, e, q⟩ := Run.of S1 h1
  exact ⟨F1, d1, z, S1.sub, r1, e, q⟩
theorem truV_of {K : PySem.W.Frag} {F H : Hp} {x : V} {d : D} {c : Bool} (s : Sub F H) (r : Rep K F x d) (h : truD d = some c) : TruV K x H c := by
  cases r with
  | non => simp only [truD, Option.some.injEq] at h; exact h.symm
  | bl b => simp only [truD, Option.some.injEq] at h; exact h.symm
  | int i => simp only [truD, Option.some.injEq] at h; exact h.symm
  | str y =>
    simp only [truD] at h
    split at h
    · rename_i hl; exact ⟨hl, (Option.some.inj h).symm⟩
    · cases h
  | lst h1 h2 =>
    simp only [truD, Option.some.injEq] at h
    refine .inl ⟨_, .inl (.inl (s _ _ h1)), ?_⟩
    rw [← h]
    cases h2 <;> rfl
  | tup h1 h2 =>
    simp only [truD, Option.some.injEq] at h
    refine .inr (.inl ⟨_, s.sqT h1, ?_⟩)
    rw [← h]
    cases h2 <;> rfl
  | dK h1 h2 => simp [truD] at h
  | dT h1 h2 => simp [truD] at h
theorem ft_val (t : Ties X C k) (ha : FE X C E a fa) (he : ∀ whole, isTrue a X.env whole = (do let v ← whole; standAt a.pos; holding [v] (truthy v))) : FT X C E a (eTru fa) := by
  refine (pt_truth ha he).impD fun σ H Q ⟨F, env, g, S, h⟩ => ?_
  refine ⟨F, env, g, S, (Run.bind (R := Rep C.K) h).imp fun x H1 ⟨F1, d1, g1, S1, gr1, r1, h1⟩ => ?_⟩
  obtain ⟨c, e, q⟩ := Run.of S1 h1
  exact ⟨c, by rw [← t.K]; exact truV_of S1.sub r1 e, q F1 H1 c (Laid.refl S1.sub) rfl⟩
theorem fw_and1 (ha : FT X C E a ba) : FW X C E (.BoolOp .And [a] pos) ba := pw_and1 ha
theorem fw_or1 (ha : FT X C E a ba) : FW X C E (.BoolOp .Or [a] pos) ba := pw_or1 ha
theorem fw_and (ha : FT X C E a ba) (hb : FW X C E (.BoolOp .And (b :: es) pos) bb) : FW X C E (.BoolOp .And (a :: b :: es) pos) (bAnd ba bb) := by
  refine (pw_and ha hb).impD fun σ H Q ⟨F, env, g, S, h⟩ => ?_
  refine ⟨F, env, g, S, (Run.bind (R := rB) h).imp fun x H1 ⟨F1, d1, g1, S1, gr1, r1, h1⟩ => ?_⟩
  cases (show x = d1 from r1)
  cases x with
  | true => exact iteT ⟨F1, env, g1, S1, by simpa using h1⟩
  | false => exact iteF (Run.val S1 (by simpa using h1) F1 H1 false (Laid.refl S1.sub) rfl)
theorem fw_or (ha : FT X C E a ba) (hb : FW X C E (.BoolOp .Or (b :: es) pos) bb) : FW X C E (.BoolOp .Or (a :: b :: es) pos) (bOr ba bb) := by
  refine (pw_or ha hb).impD fun σ H Q ⟨F, env, g, S, h⟩ => ?_
  refine ⟨F, env, g, S, (Run.bind (R := rB) h).imp fun x H1 ⟨F1, d1, g1, S1, gr1, r1, h1⟩ => ?_⟩
  cases (show x = d1 from r1)
  cases x with
  | false => exact iteF ⟨F1, env, g1, S1, by simpa using h1⟩
  | true => exact iteT (Run.val S1 (by simpa using h1) F1 H1 true (Laid.refl S1.sub) rfl)
theorem ft_w (h : FW X C E e ba) : FT X C E e ba := PW.pt h
theorem ft_not (ha : FT X C E a ba) : FT X C E (.UnaryOp .Not a pos) (bNot ba) := by
  refine (pt_not ha).impD fun σ H Q ⟨F, env, g, S, h⟩ => ?_
  refine ⟨F, env, g, S, (Run.bind (R := rB) h).imp fun x H1 ⟨F1, d1, g1, S1, gr1, r1, h1⟩ => ?_⟩
  cases (show x = d1 from r1)
  exact Run.val S1 h1 F1 H1 _ (Laid.refl S1.sub) rfl
theorem fe_and (t : Ties X C k) (ha : FE X C E a fa) (hb : FE X C E (.BoolOp .And (b :: es) pos) fb) : FE X C E (.BoolOp .And (a :: b :: es) pos) (eAnd fa fb) := by
  refine (pe_andT ha hb).impD fun σ H Q ⟨F, env, g, S, h⟩ => ?_
  refine ⟨F, env, g, S, (Run.bind (R := Rep C.K) h).imp fun x H1 ⟨F1, d1, g1, S1, gr1, r1, h1⟩ => ?_⟩
  cases q : truD d1 with
  | none => rw [q] at h1; exact (show False from h1).elim
  | some c =>
    rw [q] at h1
    have h1 : Run C E (Rep C.K) F1 H1 σ env (if c = true then fb env g1 else .ok d1 g1) Q := h1
    refine ⟨c, by rw [← t.K]; exact truV_of S1.sub r1 q, ?_⟩
    cases c with
    | true => exact iteT ⟨F1, env, g1, S1, by simpa using h1⟩
    | false => exact iteF (Run.val S1 (by simpa using h1) F1 H1 x (Laid.refl S1.sub) r1)
theorem fe_or (t : Ties X C k) (ha : FE X C E a fa) (hb : FE X C E (.BoolOp .Or (b :: es) pos) fb) : FE X C E (.BoolOp .Or (a :: b :: es) pos) (eOr fa fb) := by
  refine (pe_orT ha hb).impD fun σ H Q ⟨F, env, g, S, h⟩ => ?_
  refine ⟨F, env, g, S, (Run.bind (R := Rep C.K) h).imp fun x H1 ⟨F1, d1, g1, S1, gr1, r1, h1⟩ => ?_⟩
  cases q : truD d1 with
  | none => rw [q] at h1; exact (show False from h1).elim
  | some c =>
    rw [q] at h1
    have h1 : Run C E (Rep C.K) F1 H1 σ env (if c = true then .ok d1 g1 else fb env g1) Q := h1
    refine ⟨c, by rw [← t.K]; exact truV_of S1.sub r1 q, ?_⟩
    cases c with
    | false => exact iteF ⟨F1, env, g1, S1, by simpa using h1⟩
    | true => exact iteT (Run.val S1 (by simpa using h1) F1 H1 x (Laid.refl S1.sub) r1)
theorem fe_one {o : BoolOp} (h : FE X C E a fa) : FE X C E (.BoolOp o [a] pos) fa := pe_one h
theorem fe_not (t : Ties X C k) (ha : FE X C E a fa) : FE X C E (.UnaryOp .Not a pos) (eNot fa) := by
  refine (pe_notT ha).impD fun σ H Q ⟨F, env, g, S, h⟩ => ?_
  refine ⟨F, env, g, S, (Run.bind (R := Rep C.K) h).imp fun x H1 ⟨F1, d1, g1, S1, gr1, r1, h1⟩ => ?_⟩
  cases q : truD d1 with
  | none => rw [q] at h1; exact (show False from h1).elim
  | some c =>
    rw [q] at h1
    exact ⟨c, by rw [← t.K]; exact truV_of S1.sub r1 q, Run.val S1 h1 F1 H1 _ (Laid.refl S1.sub) (.bl _)⟩
theorem fe_if (hc : FT X C E c bc) (ha : FE X C E a fa) (hb : FE X C E b fb) : FE X C E (.IfExp c a b pos) (eIf bc fa fb) := by
  refine (pe_ifExp hc ha hb).impD fun σ H Q ⟨F, env, g, S, h⟩ => ?_
  refine ⟨F, env, g, S, (Run.bind (R := rB) h).imp fun x H1 ⟨F1, d1, g1, S1, gr1, r1, h1⟩ => ?_⟩
  cases (show x = d1 from r1)
  cases x with
  | true => exact iteT ⟨F1, env, g1, S1, by simpa using h1⟩
  | false => exact iteF ⟨F1, env, g1, S1, by simpa using h1⟩
theorem chain_read {op op' : D → D → Option D} {σ : L2.St} {H : Hp} {Q : VK} (h : tM C E (Rep C.K) (eChain op op' fa fb fc) σ H Q) : tChain (rO C op) (rO C op') (tM C E (Rep C.K) fa) (tM C E (Rep C.K) fb) (tM C E (Rep C.K) fc) σ H Q := by
  obtain ⟨F, env, g, S, h⟩ := h
  refine ⟨F, env, g, S, (Run.bind (R := Rep C.K) h).imp fun x H1 ⟨F1, d1, g1, S1, gr1, r1, h1⟩ => ?_⟩
  refine ⟨F1, env, g1, S1, (Run.bind (R := Rep C.K) h1).imp fun y H2 ⟨F2, d2, g2, S2, gr2, r2, h2⟩ => ?_⟩
  cases q : op d1 d2 with
  | none => rw [q] at h2; exact (show False from h2).elim
  | some z =>
    rw [q] at h2
    refine ⟨F2, d1, d2, z, S2.sub, r1.mono gr2.frz, r2, q, fun F3 H3 v l r3 => ?_⟩
    have S3 := S2.laid l
    cases z with
    | bool w =>
      cases r3
      refine ⟨w, rfl, ?_⟩
      cases w with
      | true =>
        have h2 : Run C E (Rep C.K) F2 H2 σ env ((fc env g2).bind fun z g => Out.of (op' d2 z) g) Q := h2
        refine iteT ⟨F3, env, g2, S3, (Run.bind (R := Rep C.K) (Run.shift l.grow h2)).imp fun u H4 ⟨F4, d4, g4, S4, gr4, r4, h4⟩ => ?_⟩
        obtain ⟨z', e', q'⟩ := Run.of S4 h4
        exact ⟨F4, d2, d4, z', S4.sub, (r2.mono l.frz).mono gr4.frz, r4, e', q'⟩
      | false => exact iteF (Run.val S3 (Run.shift l.grow h2) F3 H3 _ (Laid.refl S3.sub) (.bl false))
    | _ => exact (show False from h2).elim
theorem fe_chain {o o' : CmpOp} {op op' : D → D → Option D} (ho : OpR X (compareOp o) (rO C op)) (ho' : OpR X (compareOp o') (rO C op')) (ha : FE X C E a fa) (hb : FE X C E b fb) (hc : FE X C E c fc) (hm : lastMarks [o, o'] [b, c] = false) : FE X C E (.Compare a [o, o'] [b, c] pos) (eChain op op' fa fb fc) :=
  (pe_chain ho ho' ha hb hc hm).impD fun _ _ _ h => chain_read h
theorem ft_chain {o o' : CmpOp} {op op' : D → D → Option D} (ho : OpR X (compareOp o) (rO C op)) (ho' : OpR X (compareOp o') (rO C op')) (ha : FE X C E a fa) (hb : FE X C E b fb) (hc : FE X C E c fc) (hm : lastMarks [o, o'] [b, c] = false) : FT X C E (.Compare a [o, o'] [b, c] pos) (eAsB (eChain op op' fa fb fc)) := by
  refine (pt_chain ho ho' ha hb hc hm).impD fun σ H Q ⟨F, env, g, S, h⟩ => ?_
  refine chain_read (E := E) ⟨F, env, g, S, (Run.bind (R := Rep C.K) h).imp fun x H1 ⟨F1, d1, g1, S1, gr1, r1, h1⟩ => ?_⟩
  cases d1 with
  | bool c =>
    cases r1
    exact ⟨c, rfl, Run.val S1 h1 F1 H1 c (Laid.refl S1.sub) rfl⟩
  | _ => exact (show False from h1).elim
/-! arguments, displays -/
theorem fa_nil : FA X C E [] eNil := pa_nil.impD fun σ H Q ⟨F, env, g, S, h⟩ => Run.val S h F H [] (Laid.refl S.sub) .nil
theorem fa_cons (ha : FE X C E e fa) (hr : FA X C E es fs) (hs : starEach (e :: es) X.env = (false, eval e X.env) :: starEach es X.env := by rfl) : FA X C E (e :: es) (eCons fa fs) := by
  refine (pa_cons ha hr hs).impD fun σ H Q ⟨F, env, g, S, h⟩ => ?_
  refine ⟨F, env, g, S, (Run.bind (R := Rep C.K) h).imp fun x H1 ⟨F1, d1, g1, S1, gr1, r1, h1⟩ => ?_⟩
  refine ⟨F1, env, g1, S1, (Run.bind (R := Reps C.K) h1).imp fun xs H2 ⟨F2, ds, g2, S2, gr2, r2, h2⟩ => ?_⟩
  exact Run.val S2 h2 F2 H2 _ (Laid.refl S2.sub) (.cons (r1.mono gr2.frz) r2)
theorem notT_tup {xs : List V} : notT (.tup xs) := fun _ z => by cases z
theorem notT_lst {xs : List V} : notT (.lst xs) := fun _ z => by cases z
theorem lay_tup {F H : Hp} (s : Sub F H) {p : Addr} (n : H p = none) {K : PySem.W.Frag} {xs : List V} {ds : List D} (r : Reps K F xs ds) : Laid F H (upd F p (.tup xs)) (upd H p (.tup xs)) ∧ Rep K (upd F p (.tup xs)) (.ref p) (.tuple ds) :=
  ⟨Laid.one s n notT_tup, .tup (.inl (.inl upd_same)) (r.mono (sub_upd (s.free n)))⟩
theorem lay_lst {F H : Hp} (s : Sub F H) {p : Addr} (n : H p = none) {K : PySem.W.Frag} {xs : List V} {ds : List D} (r : Reps K F xs ds) : Laid F H (upd F p (.lst xs)) (upd H p (.lst xs)) ∧ Rep K (upd F p (.lst xs)) (.ref p) (.list ds) :=
  ⟨Laid.one s n notT_lst, .lst upd_same (r.mono (sub_upd (s.free n)))⟩
theorem fe_tup {x1 : Nat} (h : FA X C E es fs) : FE X C E (.Tuple es x1 pos) (eTup fs) := by
  refine (pe_tup h).impD fun σ H Q ⟨F, env, g, S, h⟩ => ?_
  refine ⟨F, env, g, S, (Run.bind (R := Reps C.K) h).imp fun xs H1 ⟨F1, ds, g1, S1, gr1, r1, h1⟩ => ?_⟩
  have h1 : Run C E (Rep C.K) F1 H1 σ env (if ds.length ≤ sizeLine then .ok (.tuple ds) g1 else .stuck) Q := h1
  by_cases hz : ds.length ≤ sizeLine
  · rw [if_pos hz] at h1
    refine ⟨by rw [r1.length]; exact hz, fun p n => ?_⟩
    obtain ⟨l, r⟩ := lay_tup S1.sub n r1
    exact Run.val S1 h1 _ _ _ l r
  · rw [if_neg hz] at h1; exact (show False from h1).elim
theorem fe_lst (h : FA X C E es fs) : FE X C E (.List es pos) (eLst fs) := by
  refine (pe_lst h).impD fun σ H Q ⟨F, env, g, S, h⟩ => ?_
  refine ⟨F, env, g, S, (Run.bind (R := Reps C.K) h).imp fun xs H1 ⟨F1, ds, g1, S1, gr1, r1, h1⟩ => ?_⟩
  have h1 : Run C E (Rep C.K) F1 H1 σ env (if ds.length ≤ sizeLine then .ok (.list ds) g1 else .stuck) Q := h1
  by_cases hz : ds.length ≤ sizeLine
  · rw [if_pos hz] at h1
    refine ⟨by rw [r1.length]; exact hz, fun p n => ?_⟩
    obtain ⟨l, r⟩ := lay_lst S1.sub n r1
    exact Run.val S1 h1 _ _ _ l r
  · rw [if_neg hz] at h1; exact (show False from h1).elim
end
end DL

set_option Elab.async false
set_option linter.all false
set_option maxRecDepth 100000
set_option maxHeartbeats 2000000
/-! dicts as data: keys, what stands at a key, a store -/
namespace DL
open PySem PySem.Spec PyProof.Rows L2

def keyO : D → Option Key
  | .int i => some (.inl i)
  | .str s => some (.inr s)
  | _ => none
def keysO : List D → Option (List Key)
  | [] => some []
  | d :: ds => (keyO d).bind fun k => (keysO ds).map fun ks => k :: ks
/-- a key of a dict of the kind b -/
def keyOk (b : Bool) (d : D) : Bool := match b, d with
  | false, d => (keyO d).isSome
  | true, .tuple ds => (keysO ds).isSome
  | true, _ => false
theorem eqv_keyD (a b : Key) : PyData.eqv (keyD a) (keyD b) = decide (a = b) := by
  cases a with
  | inl i =>
    cases b with
    | inl j => simp only [keyD, PyData.eqv, Sum.inl.injEq]; by_cases h : i = j <;> simp [h]
    | inr y => simp [keyD, PyData.eqv]
  | inr x =>
    cases b with
    | inl j => simp [keyD, PyData.eqv]
    | inr y => simp only [keyD, PyData.eqv, Sum.inr.injEq]; by_cases h : x = y <;> simp [h]
theorem eqv_keysD : ∀ a b : List Key, PyData.eqvAll (a.map keyD) (b.map keyD) = decide (a = b)
  | [], [] => by simp [PyData.eqvAll]
  | [], _ :: _ => by simp [PyData.eqvAll]
  | _ :: _, [] => by simp [PyData.eqvAll]
  | a :: as, b :: bs => by
    have ih := eqv_keysD as bs
    simp only [List.map_cons, PyData.eqvAll, eqv_keyD, ih]
    by_cases h : a = b <;> by_cases h2 : as = bs <;> simp [h, h2]
theorem eqv_tupD (a b : List Key) : PyData.eqv (.tuple (a.map keyD)) (.tuple (b.map keyD)) = decide (a = b) := by
  simp only [PyData.eqv]
  exact eqv_keysD a b
def getKD (kvs : List (D × D)) (k : D) : Option D := (kvs.find? fun p => PyData.eqv p.1 k).map (·.2)
def putKD (kvs : List (D × D)) (k v : D) : List (D × D) := if (kvs.any fun p => PyData.eqv p.1 k) = true then kvs.map (fun p => if PyData.eqv p.1 k = true then (p.1, v) else p) else kvs ++ [(k, v)]
theorem putKD_length (kvs : List (D × D)) (k v : D) : (putKD kvs k v).length ≤ kvs.length + 1 := by
  unfold putKD
  split
  · rw [List.length_map]; omega
  · rw [List.length_append]; exact Nat.le_refl _
section
variable {κ : Type} [DecidableEq κ] {K : PySem.W.Frag} {F : Hp} (f : κ → D) (hf : ∀ a b, PyData.eqv (f a) (f b) = decide (a = b))
include hf
theorem get_rel : ∀ {kk : List (κ × V)} {kvs : List (D × D)}, kvs.map (·.1) = kk.map (fun p => f p.1) → Reps K F (kk.map (·.2)) (kvs.map (·.2)) → ∀ k,
    (getKD kvs (f k) = none ∧ valV kk k = none) ∨ ∃ d v, getKD kvs (f k) = some d ∧ valV kk k = some v ∧ Rep K F v d
  | [], [], _, _, k => .inl ⟨rfl, rfl⟩
  | [], _ :: _, e, _, _ => by cases e
  | _ :: _, [], e, _, _ => by cases e
  | (a, v) :: kk, (x, d) :: kvs, e, r, k => by
    rw [List.map_cons, List.map_cons] at e r
    injection e with e1 e2
    have e1 : x = f a := e1
    subst e1
    cases r with
    | cons r1 r2 =>
      by_cases h : a = k
      · refine .inr ⟨d, v, ?_, valV_pos h, r1⟩
        unfold getKD
        rw [List.find?_cons_of_pos (by rw [hf, decide_eq_true h])]; rfl
      · have ih := get_rel e2 r2 k
        have g : getKD ((f a, d) :: kvs) (f k) = getKD kvs (f k) := by
          unfold getKD
          rw [List.find?_cons_of_neg (by rw [hf, decide_eq_false h]; simp)]
        rw [g, valV_neg h]
        exact ih
theorem any_rel : ∀ {kk : List (κ × V)} {kvs : List (D × D)}, kvs.map (·.1) = kk.map (fun p => f p.1) → ∀ k, (kvs.any fun p => PyData.eqv p.1 (f k)) = kk.any fun p => decide (p.1 = k)
  | [], [], _, k => rfl
  | [], _ :: _, e, _ => by cases e
  | _ :: _, [], e, _ => by cases e
  | (a, v) :: kk, (x, d) :: kvs, e, k => by
    rw [List.map_cons, List.map_cons] at e
    injection e with e1 e2
    have e1 : x = f a := e1
    subst e1
    rw [List.any_cons, List.any_cons, any_rel e2 k, hf]
theorem repl_rel {v : V} {d : D} (rv : Rep K F v d) : ∀ {kk : List (κ × V)} {kvs : List (D × D)}, kvs.map (·.1) = kk.map (fun p => f p.1) → Reps K F (kk.map (·.2)) (kvs.map (·.2)) → ∀ k,
    (kvs.map fun p => if PyData.eqv p.1 (f k) = true then (p.1, d) else p).map (·.1) = (kk.map fun kv => if kv.1 = k then (kv.1, v) else kv).map (fun p => f p.1) ∧
    Reps K F ((kk.map fun kv => if kv.1 = k then (kv.1, v) else kv).map (·.2)) ((kvs.map fun p => if PyData.eqv p.1 (f k) = true then (p.1, d) else p).map (·.2))
  | [], [], _, _, k => ⟨rfl, .nil⟩
  | [], _ :: _, e, _, _ => by cases e
  | _ :: _, [], e, _, _ => by cases e
  | (a, u) :: kk, (x, c) :: kvs, e, r, k => by
    rw [List.map_cons, List.map_cons] at e r
    injection e with e1 e2
    have e1 : x = f a := e1
    subst e1
    cases r with
    | cons r1 r2 =>
      obtain ⟨h1, h2⟩ := repl_rel rv e2 r2 k
      rw [List.map_cons, List.map_cons, List.map_cons, List.map_cons, List.map_cons, List.map_cons, h1]
      have q : PyData.eqv (f a, c).1 (f k) = decide (a = k) := hf a k
      rw [q]
      by_cases h : a = k
      · rw [if_pos (decide_eq_true h), if_pos h]
        exact ⟨rfl, .cons rv h2⟩
      · rw [if_neg (by simp [h]), if_neg h]
        exact ⟨rfl, .cons r1 h2⟩
theorem put_rel {v : V} {d : D} (rv : Rep K F v d) {kk : List (κ × V)} {kvs : List (D × D)} (e : kvs.map (·.1) = kk.map (fun p => f p.1)) (r : Reps K F (kk.map (·.2)) (kvs.map (·.2))) (k : κ) :
    (putKD kvs (f k) d).map (·.1) = (putK kk k v).map (fun p => f p.1) ∧ Reps K F ((putK kk k v).map (·.2)) ((putKD kvs (f k) d).map (·.2)) := by
  unfold putKD putK
  rw [any_rel f hf e k]
  by_cases h : (kk.any fun p => decide (p.1 = k)) = true
  · rw [if_pos h, if_pos h]
    exact repl_rel f hf rv e r k
  · rw [if_neg h, if_neg h]
    refine ⟨by rw [List.map_append, List.map_append, e]; rfl, ?_⟩
    rw [List.map_append, List.map_append]
    exact r.append (.cons rv .nil)
end
theorem Rep.key_inv {K : PySem.W.Frag} {F : Hp} {v : V} {d : D} {k : Key} (r : Rep K F v d) (h : keyO d = some k) : v = kV k ∧ d = keyD k := by
  cases d with
  | int i => cases r; cases h; exact ⟨rfl, rfl⟩
  | str s => cases r; cases h; exact ⟨rfl, rfl⟩
  | _ => cases h
theorem keyO_inv {d : D} {k : Key} (h : keyO d = some k) : d = keyD k := by
  cases d with
  | int i => cases h; rfl
  | str s => cases h; rfl
  | _ => cases h
theorem keysO_inv : ∀ {ds : List D} {ks : List Key}, keysO ds = some ks → ds = ks.map keyD
  | [], ks, h => by cases h; rfl
  | d :: ds, ks, h => by
    unfold keysO at h
    cases q : keyO d with
    | none => rw [q] at h; cases h
    | some k =>
      rw [q] at h
      have h : (keysO ds).map (fun ks => k :: ks) = some ks := h
      cases q2 : keysO ds with
      | none => rw [q2] at h; cases h
      | some js =>
        rw [q2] at h
        cases h
        rw [List.map_cons, ← keyO_inv q, ← keysO_inv q2]
theorem Reps.keys {K : PySem.W.Frag} {F : Hp} : ∀ {vs : List V} {ks : List Key}, Reps K F vs (ks.map keyD) → vs = ks.map kV
  | [], [], _ => rfl
  | [], _ :: _, h => by cases h
  | _ :: _, [], h => by cases h
  | v :: vs, k :: ks, h => by
    cases h with
    | cons h1 h2 =>
      rw [List.map_cons, ← Reps.keys h2]
      cases k with
      | inl i => cases h1; rfl
      | inr s => cases h1; rfl
end DL

set_option Elab.async false
set_option linter.all false
set_option maxRecDepth 100000
set_option maxHeartbeats 4000000
/-! a tuple once: itself -/
namespace DL
open PySem PySem.Spec PyProof.Rows L2
open Sem (wp)
theorem tuple_once (l : Addr) (items : Array Value) (n : Nat) (dd : Option Addr) (sl : Array (Option Value)) (u : Tok) :
    Meets (Builtin.«tuple.__mul__» ⟨[.ref l, .int 1 u], []⟩) (fun _ R s => s.heap.get? l = some { cls := .type "tuple", dict := dd, data := .seq items n, slots := sl } ∧ R (.ok (.ret (Value.ref l))) s) :=
  .of_wp fun prog w A R s h => by
    obtain ⟨hp, g, d, tk, os⟩ := s
    obtain ⟨hl, h⟩ := h
    have f1 := AutoSeq1.idx_int
    have c1 : (items.isEmpty || (1 : Int) == 1) = true := by simp
    wp_walk using wpAny_loadPart' hl
    repeat (first
      | (refine wpAny_ite_false (decide_eq_false (by decide)) ?_; wp_walk using wpAny_loadPart' hl)
      | (refine wpAny_ite_true (decide_eq_true (by rw [c1])) ?_; wp_walk using wpAny_loadPart' hl))
    exact ⟨_, rfl, h⟩
theorem op_repT1 {X : Cx} : OpR X (binaryOp .Mult) (fun x y H Q => ∃ l xs, x = .ref l ∧ y = .int 1 ∧ SqT X.K H l xs ∧ Q (.ref l) H) := by
  intro pins s σ H x y v u Q I rx ry h
  obtain ⟨l, xs, rfl, rfl, hT, q⟩ := h
  cases rx
  obtain ⟨t, rfl⟩ := ry
  obtain ⟨its, r, ⟨⟨cls, dd, data, sl⟩, ho, hc, n, hd⟩, hs⟩ := I.tuple hT
  simp only at hc hd
  subst hc hd
  exact wpAny_binaryOp_repeat_ref (T := "tuple") (U := "int") (by decide) ⟨_, ho, rfl⟩ (fun s' => typeIs_int s' 1 t) noFill_tuple_mul PySem.F.fills_int_mul PySem.F.slot_int_rmul repeat_tuple PySem.F.slot_int_index.lookup
    (call_meets PySem.F.slot_int_rmul (typeIs_int s 1 t) PySem.F.entry_int_rmul (PySem.F.args_int_rmul_2 _ _) (int_rmul_tuple 1 t l its.toArray n dd sl)
      ⟨ho, rfl, ⟨_, ho, rfl⟩, call_meets PySem.F.slot_tuple_mul ⟨_, ho, rfl⟩ PySem.F.entry_tuple_mul (PySem.F.args_tuple_mul_2 _ _) (tuple_once l its.toArray n dd sl t) ⟨ho, .ref l, H, I, rfl, q⟩⟩)
end DL

set_option Elab.async false
set_option linter.all false
set_option maxRecDepth 100000
set_option maxHeartbeats 2000000
namespace DL
open PySem PySem.Spec PyProof.Rows L2

/-! ### data and the library's Reads -/
mutual
theorem flatD_of : ∀ d : D, d.canLay0 = true → flatD d = true
  | .none, _ => rfl
  | .bool _, _ => rfl
  | .int _, _ => rfl
  | .str _, _ => rfl
  | .list xs, h => by simp only [flatD]; exact flatDs_of xs (by simpa [PyData.canLay0] using h)
  | .tuple xs, h => by simp only [flatD]; exact flatDs_of xs (by simpa [PyData.canLay0] using h)
  | .dict _, h => by simp [PyData.canLay0] at h
theorem flatDs_of : ∀ ds : List D, PyData.canLayAll0 ds = true → flatDs ds = true
  | [], _ => rfl
  | d :: ds, h => by
    simp only [PyData.canLayAll0, Bool.and_eq_true] at h
    simp only [flatDs, Bool.and_eq_true]
    exact ⟨flatD_of d h.1, flatDs_of ds h.2⟩
end
section
variable {X : Cx} {C : Cz} {E : XK} {k : Nat} {pins : List (Addr × Obj)} {σ : L2.St} {F H : Hp} {s : Shared}
theorem reads_of (I : Inv X pins σ H s) (sb : Sub F H) {v : V} {d : D} {u : Value} (r : Rep X.K F v d) (rv : RelV v u) (h : flatD d = true) : ∃ as, Reads s.heap u d as := Dp.reads I d v u (r.dp sb d v h) rv
theorem readsAll_of (I : Inv X pins σ H s) (sb : Sub F H) {v : List V} {d : List D} {u : List Value} (r : Reps X.K F v d) (rv : Vals v u) (h : flatDs d = true) : ∃ as, ReadsAll s.heap u d as := Dp.readsAll I d v u (r.dp sb d v h) rv

theorem Rep.int_inv {K : PySem.W.Frag} {v : V} {i : Int} (h : Rep K F v (.int i)) : v = .int i := by cases h; rfl
theorem Rep.str_inv {K : PySem.W.Frag} {v : V} {i : Str} (h : Rep K F v (.str i)) : v = .str i := by cases h; rfl
theorem Rep.bool_inv {K : PySem.W.Frag} {v : V} {i : Bool} (h : Rep K F v (.bool i)) : v = .bl i := by cases h; rfl
theorem Rep.none_inv {K : PySem.W.Frag} {v : V} (h : Rep K F v .none) : v = .non := by cases h; rfl
theorem Rep.list_inv {K : PySem.W.Frag} {v : V} {ds : List D} (h : Rep K F v (.list ds)) : ∃ a xs, v = .ref a ∧ F a = some (.lst xs) ∧ Reps K F xs ds := by
  cases h with
  | lst h1 h2 => exact ⟨_, _, rfl, h1, h2⟩
theorem Rep.tup_inv {K : PySem.W.Frag} {v : V} {ds : List D} (h : Rep K F v (.tuple ds)) : ∃ a xs, v = .ref a ∧ SqT K F a xs ∧ Reps K F xs ds := by
  cases h with
  | tup h1 h2 => exact ⟨_, _, rfl, h1, h2⟩

/-! ### arithmetic -/
def smallI (i : Int) : Bool := decide (-(2 ^ 64) < i) && decide (i < 2 ^ 64)
def addD : D → D → Option D
  | .int i, .int j => some (.int (i + j))
  | .str x, .str y => if x.length + y.length ≤ sizeLine then some (.str (x ++ y)) else none
  | .list xs, .list ys => if xs.length + ys.length ≤ sizeLine then some (.list (xs ++ ys)) else none
  | .tuple xs, .tuple ys => if xs.length + ys.length ≤ sizeLine then some (.tuple (xs ++ ys)) else none
  | _, _ => none
def subD : D → D → Option D
  | .int i, .int j => some (.int (i - j))
  | _, _ => none
def mulD : D → D → Option D
  | .int i, .int j => if smallI i || smallI j then some (.int (i * j)) else none
  | .list xs, .int j => if (decide (-(2 ^ 63) ≤ j) && decide (j < 2 ^ 63) && decide (xs.length * j.toNat ≤ sizeLine)) = true then some (.list (List.replicate j.toNat xs).flatten) else none
  | .tuple xs, .int j => if (decide (2 ≤ j) && decide (j ≤ 1000) && decide (xs.length ≤ 1000) && !xs.isEmpty) = true then some (.tuple (List.replicate j.toNat xs).flatten) else if j = 1 then some (.tuple xs) else none
  | _, _ => none
def fdivD : D → D → Option D
  | .int i, .int j => if j ≠ 0 ∧ j.natAbs < 2 ^ 64 then some (.int (i.fdiv j)) else none
  | _, _ => none
def modD : D → D → Option D
  | .int i, .int j => if j ≠ 0 then some (.int (i.fmod j)) else none
  | _, _ => none
def powD : D → D → Option D
  | .int i, .int j => if 0 ≤ j ∧ j ≤ 1000000 ∧ i.natAbs < 2 ^ 64 then some (.int (i ^ j.toNat)) else none
  | _, _ => none
def negD : D → Option D
  | .int i => some (.int (-i))
  | _ => none

theorem cat_tup0 {prog : Program} {w : World} {A : Around} {E : Value → Shared → Prop} {t b : Addr} {ws : List Value} {Q : Value → Shared → Prop} (ht : IsTup s.heap t #[]) (hb : IsTup s.heap b ws.toArray)
    (h : Q (.ref b) s) : wpAny (model prog w) A (binaryOp .Add (.ref t) (.ref b)) Q E s := by
  obtain ⟨⟨cls, dd, data, sl⟩, ho, hc, n, hd⟩ := id ht
  obtain ⟨⟨cls2, dd2, data2, sl2⟩, ho2, hc2, n2, hd2⟩ := id hb
  simp only at hc hd hc2 hd2
  subst hc hd hc2 hd2
  exact concat_meets ⟨_, ho, rfl⟩ ⟨_, ho2, rfl⟩ noFill_tuple_add seq_tuple_add PySem.F.slot_tuple_add PySem.F.entry_tuple_add (PySem.F.args_tuple_add_2 _ _)
      (tuple_addW0 t b #[] ws.toArray n n2 dd dd2 sl sl2 rfl) ⟨ho, ho2, h⟩

theorem opAdd (t : Ties X C k) : OpR X (binaryOp .Add) (rO C addD) := by
  intro pins s σ H x y v u Q I rx ry h
  obtain ⟨F, d, e, z, sb, rd, re, hg, q⟩ := h
  rw [t.K] at rd re q
  unfold addD at hg
  split at hg
  · cases rd.int_inv; cases re.int_inv
    cases hg
    exact op_add pins s σ H _ _ v u Q I rx ry ⟨_, _, rfl, rfl, q F H _ (Laid.refl sb) (.int _)⟩
  · cases rd.str_inv; cases re.str_inv
    split at hg
    · rename_i hz
      cases hg
      exact op_add_str pins s σ H _ _ v u Q I rx ry ⟨_, _, rfl, rfl, hz, q F H _ (Laid.refl sb) (.str _)⟩
    · cases hg
  · obtain ⟨a, xs, rfl, h1, h2⟩ := rd.list_inv
    obtain ⟨b, ys, rfl, h3, h4⟩ := re.list_inv
    split at hg
    · rename_i hz
      cases hg
      refine op_cat pins s σ H _ _ v u Q I rx ry ⟨a, b, xs, ys, rfl, rfl, sb _ _ h1, sb _ _ h3, by rw [h2.length, h4.length]; exact hz, fun p n => ?_⟩
      obtain ⟨l, r⟩ := lay_lst sb n (h2.append h4)
      exact q _ _ _ l r
    · cases hg
  · obtain ⟨a, xs, rfl, h1, h2⟩ := rd.tup_inv
    obtain ⟨b, ys, rfl, h3, h4⟩ := re.tup_inv
    split at hg
    · rename_i hz
      cases hg
      by_cases hx : xs = []
      · subst hx
        cases h2
        cases rx
        cases ry
        obtain ⟨its, r1, p1, _⟩ := I.tuple (sb.sqT h1)
        obtain ⟨its2, r2, p2, _⟩ := I.tuple (sb.sqT h3)
        cases r1
        exact cat_tup0 p1 p2 ⟨.ref b, H, I, rfl, q F H _ (Laid.refl sb) (.tup h3 h4)⟩
      · refine op_catT pins s σ H _ _ v u Q I rx ry ⟨a, b, xs, ys, rfl, rfl, sb.sqT h1, sb.sqT h3, hx, by rw [h2.length, h4.length]; exact hz, fun e => ?_, fun _ p n => ?_⟩
        · subst e
          cases h4
          exact q F H _ (Laid.refl sb) (by rw [List.append_nil]; exact .tup h1 h2)
        · obtain ⟨l, r⟩ := lay_tup sb n (h2.append h4)
          exact q _ _ _ l r
    · cases hg
  · cases hg
theorem opSub (t : Ties X C k) : OpR X (binaryOp .Sub) (rO C subD) := by
  intro pins s σ H x y v u Q I rx ry h
  obtain ⟨F, d, e, z, sb, rd, re, hg, q⟩ := h
  rw [t.K] at rd re q
  unfold subD at hg
  split at hg
  · cases rd.int_inv; cases re.int_inv
    cases hg
    exact op_sub pins s σ H _ _ v u Q I rx ry ⟨_, _, rfl, rfl, q F H _ (Laid.refl sb) (.int _)⟩
  · cases hg
theorem smallI_iff {i : Int} : smallI i = true ↔ (-(2 ^ 64) < i ∧ i < 2 ^ 64) := by unfold smallI; rw [Bool.and_eq_true, decide_eq_true_eq, decide_eq_true_eq]
theorem opMul (t : Ties X C k) : OpR X (binaryOp .Mult) (rO C mulD) := by
  intro pins s σ H x y v u Q I rx ry h
  obtain ⟨F, d, e, z, sb, rd, re, hg, q⟩ := h
  rw [t.K] at rd re q
  unfold mulD at hg
  split at hg
  · cases rd.int_inv; cases re.int_inv
    split at hg
    · rename_i hz
      cases hg
      refine op_mul pins s σ H _ _ v u Q I rx ry ⟨_, _, rfl, rfl, ?_, q F H _ (Laid.refl sb) (.int _)⟩
      rw [Bool.or_eq_true, smallI_iff, smallI_iff] at hz
      exact hz
    · cases hg
  · obtain ⟨a, xs, rfl, h1, h2⟩ := rd.list_inv
    cases re.int_inv
    split at hg
    · rename_i hz
      cases hg
      rw [Bool.and_eq_true, Bool.and_eq_true, decide_eq_true_eq, decide_eq_true_eq, decide_eq_true_eq] at hz
      refine op_rep pins s σ H _ _ v u Q I rx ry ⟨a, _, xs, rfl, rfl, sb _ _ h1, hz.1.1, hz.1.2, by rw [h2.length]; exact hz.2, fun p n => ?_⟩
      obtain ⟨l, r⟩ := lay_lst sb n (h2.flat _)
      exact q _ _ _ l r
    · cases hg
  · obtain ⟨a, xs, rfl, h1, h2⟩ := rd.tup_inv
    cases re.int_inv
    split at hg
    · rename_i hz
      cases hg
      rw [Bool.and_eq_true, Bool.and_eq_true, Bool.and_eq_true, decide_eq_true_eq, decide_eq_true_eq, decide_eq_true_eq] at hz
      refine op_repT pins s σ H _ _ v u Q I rx ry ⟨a, _, xs, rfl, rfl, sb.sqT h1, (fun e => ?_), hz.1.1.1, hz.1.1.2, by rw [h2.length]; exact hz.1.2, fun p n => ?_⟩
      · subst e
        cases h2
        exact absurd hz.2 (by decide)
      · obtain ⟨l, r⟩ := lay_tup sb n (h2.flat _)
        exact q _ _ _ l r
    · split at hg
      · rename_i h1'
        subst h1'
        cases hg
        exact op_repT1 pins s σ H _ _ v u Q I rx ry ⟨a, xs, rfl, rfl, sb.sqT h1, q F H _ (Laid.refl sb) (.tup h1 h2)⟩
      · cases hg
  · cases hg
theorem opDiv (t : Ties X C k) : OpR X (binaryOp .FloorDiv) (rO C fdivD) := by
  intro pins s σ H x y v u Q I rx ry h
  obtain ⟨F, d, e, z, sb, rd, re, hg, q⟩ := h
  rw [t.K] at rd re q
  unfold fdivD at hg
  split at hg
  · cases rd.int_inv; cases re.int_inv
    split at hg
    · rename_i i j hz
      cases hg
      obtain ⟨t1, rfl⟩ := rx
      obtain ⟨t2, rfl⟩ := ry
      exact floordiv_int hz.1 ⟨.int (i.fdiv j), H, I.tok _, ⟨_, rfl⟩, q F H _ (Laid.refl sb) (.int _)⟩ (.inl (PyProof.noPylong_of_log2 (Nat.lt_of_lt_of_le (PySem.Flt.log2_lt_of (by decide) hz.2) (by decide))))
    · cases hg
  · cases hg
theorem opMod (t : Ties X C k) : OpR X (binaryOp .Mod) (rO C modD) := by
  intro pins s σ H x y v u Q I rx ry h
  obtain ⟨F, d, e, z, sb, rd, re, hg, q⟩ := h
  rw [t.K] at rd re q
  unfold modD at hg
  split at hg
  · cases rd.int_inv; cases re.int_inv
    split at hg
    · rename_i hz
      cases hg
      exact op_modN pins s σ H _ _ v u Q I rx ry ⟨_, _, rfl, rfl, hz, q F H _ (Laid.refl sb) (.int _)⟩
    · cases hg
  · cases hg
theorem opPow (t : Ties X C k) : OpR X (binaryOp .Pow) (rO C powD) := by
  intro pins s σ H x y v u Q I rx ry h
  obtain ⟨F, d, e, z, sb, rd, re, hg, q⟩ := h
  rw [t.K] at rd re q
  unfold powD at hg
  split at hg
  · cases rd.int_inv; cases re.int_inv
    split at hg
    · rename_i hz
      cases hg
      exact op_pow pins s σ H _ _ v u Q I rx ry ⟨_, _, rfl, rfl, hz, q F H _ (Laid.refl sb) (.int _)⟩
    · cases hg
  · cases hg
theorem unNeg (t : Ties X C k) : UnR X (unaryOp .USub) (rU1 C negD) := by
  intro pins s σ H x v Q I rx h
  obtain ⟨F, d, z, sb, rd, hg, q⟩ := h
  rw [t.K] at rd q
  unfold negD at hg
  split at hg
  · cases rd.int_inv
    cases hg
    exact un_neg pins s σ H _ v Q I rx ⟨_, rfl, q F H _ (Laid.refl sb) (.int _)⟩
  · cases hg

/-! ### comparisons -/
abbrev okD (d : D) : Bool := SeqAt.shaped d
theorem okD_flat {d : D} (h : okD d = true) : flatD d = true := flatD_of d (SeqAt.canLay_of_shaped h)
def eqD : D → D → Option D
  | .str x, .str y => some (.bool (decide (x = y)))
  | d, e => if (okD d && okD e) = true then some (.bool (PyData.eqv d e)) else none
def neD : D → D → Option D
  | .str x, .str y => some (.bool (!decide (x = y)))
  | d, e => if (okD d && okD e) = true then some (.bool (!PyData.eqv d e)) else none
def isNoneD : D → Bool
  | .none => true
  | _ => false
def ltD : D → D → Option D
  | .int i, .int j => some (.bool (decide (i < j)))
  | d, e => if (PySem.W.alike d e && (okD d && okD e) && !isNoneD d) = true then some (.bool (PySem.W.dataLt d e)) else none
def leD : D → D → Option D
  | .int i, .int j => some (.bool (decide (i ≤ j)))
  | _, _ => none
def gtD : D → D → Option D
  | .int i, .int j => some (.bool (decide (j < i)))
  | _, _ => none
def geD : D → D → Option D
  | .int i, .int j => some (.bool (decide (j ≤ i)))
  | _, _ => none
def isD : D → D → Option D
  | d, .none => some (.bool (isNoneD d))
  | .bool a, .bool b => some (.bool (decide (a = b)))
  | _, _ => none
def isnD : D → D → Option D
  | d, .none => some (.bool (!isNoneD d))
  | .bool a, .bool b => some (.bool (!decide (a = b)))
  | _, _ => none
def inL (d : D) (xs : List D) : Bool := xs.any fun y => PyData.eqv y d
/-- a dict whose keys are ints and texts -/
def dkD (kvs : List (D × D)) : Bool := kvs.all fun p => (keyO p.1).isSome
def inD : D → D → Option D
  | d, .dict kvs => if (keyOk false d && dkD kvs) = true then some (.bool (getKD kvs d).isSome) else none
  | d, .list xs => if (okD (.list xs) && okD d) = true then some (.bool (inL d xs)) else none
  | d, .tuple xs => if (okD (.tuple xs) && okD d) = true then some (.bool (inL d xs)) else none
  | .str x, .str y => some (.bool (!(Builtin.Str.occurrences y x 0 y.length 1).isEmpty))
  | _, _ => none
def ninD : D → D → Option D
  | d, .dict kvs => if (keyOk false d && dkD kvs) = true then some (.bool (!(getKD kvs d).isSome)) else none
  | d, .list xs => if (okD (.list xs) && okD d) = true then some (.bool (!inL d xs)) else none
  | d, .tuple xs => if (okD (.tuple xs) && okD d) = true then some (.bool (!inL d xs)) else none
  | .str x, .str y => some (.bool (!(!(Builtin.Str.occurrences y x 0 y.length 1).isEmpty)))
  | _, _ => none

theorem opEq (t : Ties X C k) : OpR X (compareOp .Eq) (rO C eqD) := by
  intro pins s σ H x y v u Q I rx ry h
  obtain ⟨F, d, e, z, sb, rd, re, hg, q⟩ := h
  rw [t.K] at rd re q
  unfold eqD at hg
  split at hg
  · cases rd.str_inv; cases re.str_inv
    cases hg
    refine op_eq pins s σ H _ _ v u Q I rx ry ⟨rfl, ?_⟩
    rw [dec_str, Bool.beq_eq_decide_eq]
    exact q F H _ (Laid.refl sb) (.bl _)
  · split at hg
    · rename_i hz
      cases hg
      rw [Bool.and_eq_true] at hz
      exact op_eqD t.hu pins s σ H _ _ v u Q I rx ry ⟨d, e, rd.dp sb _ _ (okD_flat hz.1), re.dp sb _ _ (okD_flat hz.2), hz.1, hz.2, q F H _ (Laid.refl sb) (.bl _)⟩
    · cases hg
theorem opNe (t : Ties X C k) : OpR X (compareOp .NotEq) (rO C neD) := by
  intro pins s σ H x y v u Q I rx ry h
  obtain ⟨F, d, e, z, sb, rd, re, hg, q⟩ := h
  rw [t.K] at rd re q
  unfold neD at hg
  split at hg
  · cases rd.str_inv; cases re.str_inv
    cases hg
    refine op_ne pins s σ H _ _ v u Q I rx ry ⟨rfl, ?_⟩
    rw [dec_str, Bool.beq_eq_decide_eq]
    exact q F H _ (Laid.refl sb) (.bl _)
  · split at hg
    · rename_i hz
      cases hg
      rw [Bool.and_eq_true] at hz
      exact op_neD t.hu pins s σ H _ _ v u Q I rx ry ⟨d, e, rd.dp sb _ _ (okD_flat hz.1), re.dp sb _ _ (okD_flat hz.2), hz.1, hz.2, q F H _ (Laid.refl sb) (.bl _)⟩
    · cases hg
theorem opLt (t : Ties X C k) : OpR X (compareOp .Lt) (rO C ltD) := by
  intro pins s σ H x y v u Q I rx ry h
  obtain ⟨F, d, e, z, sb, rd, re, hg, q⟩ := h
  rw [t.K] at rd re q
  unfold ltD at hg
  split at hg
  · cases rd.int_inv; cases re.int_inv
    cases hg
    exact op_lt pins s σ H _ _ v u Q I rx ry ⟨_, _, rfl, rfl, q F H _ (Laid.refl sb) (.bl _)⟩
  · split at hg
    · rename_i hz
      cases hg
      rw [Bool.and_eq_true, Bool.and_eq_true, Bool.and_eq_true] at hz
      obtain ⟨⟨h1, h2, h3⟩, h4⟩ := hz
      obtain ⟨as, r1⟩ := reads_of I sb rd rx (okD_flat h2)
      obtain ⟨bs, r2⟩ := reads_of I sb re ry (okD_flat h3)
      have hn : d ≠ .none := fun z => by rw [z] at h4; cases h4
      have := PySem.W.rcLt_alike d e X.A s v u as bs r1 r2 h1 hn (SeqAt.room_of_shaped h2 t.hu)
      exact this _ _ _ _ ⟨.bl _, H, I, rfl, q F H _ (Laid.refl sb) (.bl _)⟩
    · cases hg
theorem opLe (t : Ties X C k) : OpR X (compareOp .LtE) (rO C leD) := by
  intro pins s σ H x y v u Q I rx ry h
  obtain ⟨F, d, e, z, sb, rd, re, hg, q⟩ := h
  rw [t.K] at rd re q
  unfold leD at hg
  split at hg
  · cases rd.int_inv; cases re.int_inv
    cases hg
    exact op_le pins s σ H _ _ v u Q I rx ry ⟨_, _, rfl, rfl, q F H _ (Laid.refl sb) (.bl _)⟩
  · cases hg
theorem opGt (t : Ties X C k) : OpR X (compareOp .Gt) (rO C gtD) := by
  intro pins s σ H x y v u Q I rx ry h
  obtain ⟨F, d, e, z, sb, rd, re, hg, q⟩ := h
  rw [t.K] at rd re q
  unfold gtD at hg
  split at hg
  · cases rd.int_inv; cases re.int_inv
    cases hg
    exact op_gt pins s σ H _ _ v u Q I rx ry ⟨_, _, rfl, rfl, q F H _ (Laid.refl sb) (.bl _)⟩
  · cases hg
theorem opGe (t : Ties X C k) : OpR X (compareOp .GtE) (rO C geD) := by
  intro pins s σ H x y v u Q I rx ry h
  obtain ⟨F, d, e, z, sb, rd, re, hg, q⟩ := h
  rw [t.K] at rd re q
  unfold geD at hg
  split at hg
  · cases rd.int_inv; cases re.int_inv
    cases hg
    exact op_ge pins s σ H _ _ v u Q I rx ry ⟨_, _, rfl, rfl, q F H _ (Laid.refl sb) (.bl _)⟩
  · cases hg
theorem rep_isNone {K : PySem.W.Frag} {v : V} {d : D} (r : Rep K F v d) : decide (v = .non) = isNoneD d := by cases r <;> rfl
theorem opIs (t : Ties X C k) : OpR X (compareOp .Is) (rO C isD) := by
  intro pins s σ H x y v u Q I rx ry h
  obtain ⟨F, d, e, z, sb, rd, re, hg, q⟩ := h
  rw [t.K] at rd re q
  unfold isD at hg
  split at hg
  · cases re.none_inv
    cases hg
    refine op_isN pins s σ H _ _ v u Q I rx ry ⟨rfl, ?_⟩
    rw [rep_isNone rd]
    exact q F H _ (Laid.refl sb) (.bl _)
  · cases rd; cases re
    cases hg
    exact op_isBl pins s σ H _ _ v u Q I rx ry ⟨_, _, rfl, rfl, q F H _ (Laid.refl sb) (.bl _)⟩
  · cases hg
theorem opIsn (t : Ties X C k) : OpR X (compareOp .IsNot) (rO C isnD) := by
  intro pins s σ H x y v u Q I rx ry h
  obtain ⟨F, d, e, z, sb, rd, re, hg, q⟩ := h
  rw [t.K] at rd re q
  unfold isnD at hg
  split at hg
  · cases re.none_inv
    cases hg
    refine op_notN pins s σ H _ _ v u Q I rx ry ⟨rfl, ?_⟩
    rw [rep_isNone rd]
    exact q F H _ (Laid.refl sb) (.bl _)
  · cases rd; cases re
    cases hg
    exact op_notBl pins s σ H _ _ v u Q I rx ry ⟨_, _, rfl, rfl, q F H _ (Laid.refl sb) (.bl _)⟩
  · cases hg
theorem okD_seq {xs : List D} (h : okD (.list xs) = true) : PyData.canLayAll0 xs = true ∧ PyData.depthAll xs < 64 := by
  have h1 := SeqAt.canLay_of_shaped h
  have h2 := SeqAt.depth_of_shaped h
  simp only [PyData.canLay0] at h1
  simp only [PyData.depth] at h2
  exact ⟨h1, by omega⟩
theorem okD_seqT {xs : List D} (h : okD (.tuple xs) = true) : PyData.canLayAll0 xs = true ∧ PyData.depthAll xs < 64 := by
  have h1 := SeqAt.canLay_of_shaped h
  have h2 := SeqAt.depth_of_shaped h
  simp only [PyData.canLay0] at h1
  simp only [PyData.depth] at h2
  exact ⟨h1, by omega⟩
theorem min_room {a b c n : Nat} (h : a + 64 < n) (hb : b < 64) : a + 1 + min b c < n := by
  have := Nat.min_le_left b c
  omega
theorem dictOf_nil {P : Program} {w : World} {h : Heap} {a : Addr} {K2 : Type} [DecidableEq K2] {knd2 : HeapKind P w K2} (x : h.DictOfH knd2 a []) : h.DictOf (mixKind P w) a [] := by
  obtain ⟨o, es, ep, h1, h2, h3, h4, h5, h6⟩ := x
  have e : es.toList = [] := h4
  have e2 : es = #[] := by
    apply Array.ext'
    rw [e]
  subst e2
  exact ⟨o, #[], ep, h1, h2, h3, fun _ he => by simp at he, Pairs.nil, List.nodup_nil⟩
/-- a dict by its int and text keys -/
theorem dk_any {X : Cx} {pins : List (Addr × Obj)} {σ : L2.St} {H F : Hp} {s : Shared} (I : Inv X pins σ H s) (sb : Sub F H) {v : V} {kvs : List (D × D)} (r : Rep X.K F v (.dict kvs)) (hk : dkD kvs = true) : ∃ a vs, v = .ref a ∧ (a == sysModules) = false ∧ s.heap.DictOf (mixKind X.prog X.w) a vs ∧ vs.length = kvs.length ∧
    ∀ k : Key, (getKD kvs (keyD k) = none ∧ valueAt vs k = none) ∨ ∃ d x u, getKD kvs (keyD k) = some d ∧ Rep X.K F x d ∧ valueAt vs k = some u ∧ RelV x u := by
  cases hkv : kvs with
  | nil =>
    rw [hkv] at r
    generalize hd : PyData.dict [] = dd at r
    cases r with
    | dK h1 h2 =>
      rename_i a kk ds
      injection hd with hd
      have hl : (kk.map fun p => keyD p.1).length = ds.length := by rw [List.length_map, ← h2.length, List.length_map]
      have : kk = [] := by
        cases kk with
        | nil => rfl
        | cons p kk =>
          cases ds with
          | nil => simp at hl
          | cons d ds => simp at hd
      subst this
      obtain ⟨z, hm, vs, rel, dd⟩ := dk_of I.hok (sb _ _ h1)
      refine ⟨a, vs, rfl, hm, dd, by rw [← rel.length]; rfl, fun k => .inl ⟨rfl, ?_⟩⟩
      cases rel
      rfl
    | dT h1 h2 =>
      rename_i a kk ds
      injection hd with hd
      have hl : (kk.map fun p => PyData.tuple (p.1.map keyD)).length = ds.length := by rw [List.length_map, ← h2.length, List.length_map]
      have : kk = [] := by
        cases kk with
        | nil => rfl
        | cons p kk =>
          cases ds with
          | nil => simp at hl
          | cons d ds => simp at hd
      subst this
      obtain ⟨z, hm, xs, rel, dd⟩ := dt_of I.hok (sb _ _ h1)
      cases rel
      refine ⟨a, [], rfl, hm, ?_, rfl, fun k => .inl ⟨rfl, rfl⟩⟩
      exact dictOf_nil dd
    | _ => cases hd
  | cons p kvs' =>
    rw [hkv] at hk r
    generalize hd : PyData.dict (p :: kvs') = dd at r
    cases r with
    | dK h1 h2 =>
      rename_i a kk ds
      injection hd with hd
      have hl : (kk.map fun p => keyD p.1).length = ds.length := by rw [List.length_map, ← h2.length, List.length_map]
      have e1 : (p :: kvs').map (·.1) = kk.map fun p => keyD p.1 := by rw [hd, List.map_fst_zip (by omega)]
      have e2 : (p :: kvs').map (·.2) = ds := by rw [hd, List.map_snd_zip (by omega)]
      rw [← e2] at h2
      obtain ⟨z, hm, vs, rel, dd⟩ := dk_of I.hok (sb _ _ h1)
      refine ⟨a, vs, rfl, hm, dd, by rw [← rel.length, ← List.length_map (f := fun p : Key × V => keyD p.1), ← e1, List.length_map], fun k => ?_⟩
      have rk := rel.val k
      rcases get_rel keyD eqv_keyD e1 h2 k with ⟨g1, g2⟩ | ⟨d, x, g1, g2, g3⟩
      · rw [g2] at rk
        refine .inl ⟨g1, ?_⟩
        cases q : valueAt vs k with
        | none => rfl
        | some u => rw [q] at rk; exact rk.elim
      · rw [g2] at rk
        cases q : valueAt vs k with
        | none => rw [q] at rk; exact rk.elim
        | some u => rw [q] at rk; exact .inr ⟨d, x, u, g1, g3, rfl, rk⟩
    | dT h1 h2 =>
      rename_i a kk ds
      injection hd with hd
      cases kk with
      | nil => cases hd
      | cons q kk =>
        cases ds with
        | nil => cases hd
        | cons d ds =>
          rw [List.map_cons, List.zip_cons_cons] at hd
          injection hd with hd _
          rw [hd] at hk
          simp [dkD, keyO] at hk
    | _ => cases hd
theorem opIn (t : Ties X C k) : OpR X (compareOp .In) (rO C inD) := by
  intro pins s σ H x y v u Q I rx ry h
  obtain ⟨F, d, e, z, sb, rd, re, hg, q⟩ := h
  rw [t.K] at rd re q
  unfold inD at hg
  split at hg
  · split at hg
    · rename_i kvs hz
      cases hg
      rw [Bool.and_eq_true] at hz
      obtain ⟨a, vs, rfl, hd, dd, hl, hv⟩ := dk_any I sb re hz.2
      cases ry
      have hk : (keyO d).isSome = true := hz.1
      cases qk : keyO d with
      | none => rw [qk] at hk; cases hk
      | some k =>
        obtain ⟨rfl, rfl⟩ := rd.key_inv qk
        refine wpAny_in_of (kV_is rx) hd dd.mapOf ?_
        have e : (valueAt vs k).isSome = (getKD kvs (keyD k)).isSome := by
          rcases hv k with ⟨g1, g2⟩ | ⟨d, x, u, g1, _, g2, _⟩
          · rw [g1, g2]; rfl
          · rw [g1, g2]; rfl
        rw [e]
        exact ⟨.bl _, H, I.tok _, rfl, q F H _ (Laid.refl sb) (.bl _)⟩
    · cases hg
  · split at hg
    · rename_i hz
      cases hg
      rw [Bool.and_eq_true] at hz
      obtain ⟨as, r1⟩ := reads_of I sb rd rx (okD_flat hz.2)
      obtain ⟨bs, r2⟩ := reads_of I sb re ry (okD_flat hz.1)
      obtain ⟨z1, z2⟩ := okD_seq hz.1
      exact SeqAt.in_list_reads r2 r1 z1 (SeqAt.canLay_of_shaped hz.2) (min_room t.hu z2) ⟨.bl _, H, I, rfl, q F H _ (Laid.refl sb) (.bl _)⟩
    · cases hg
  · split at hg
    · rename_i hz
      cases hg
      rw [Bool.and_eq_true] at hz
      obtain ⟨as, r1⟩ := reads_of I sb rd rx (okD_flat hz.2)
      obtain ⟨bs, r2⟩ := reads_of I sb re ry (okD_flat hz.1)
      obtain ⟨z1, z2⟩ := okD_seqT hz.1
      exact SeqAt.in_tuple_reads r2 r1 z1 (SeqAt.canLay_of_shaped hz.2) (min_room t.hu z2) ⟨.bl _, H, I, rfl, q F H _ (Laid.refl sb) (.bl _)⟩
    · cases hg
  · cases rd.str_inv; cases re.str_inv
    cases hg
    exact op_in_str pins s σ H _ _ v u Q I rx ry ⟨_, _, rfl, rfl, q F H _ (Laid.refl sb) (.bl _)⟩
  · cases hg
theorem opNin (t : Ties X C k) : OpR X (compareOp .NotIn) (rO C ninD) := by
  intro pins s σ H x y v u Q I rx ry h
  obtain ⟨F, d, e, z, sb, rd, re, hg, q⟩ := h
  rw [t.K] at rd re q
  unfold ninD at hg
  split at hg
  · split at hg
    · rename_i kvs hz
      cases hg
      rw [Bool.and_eq_true] at hz
      obtain ⟨a, vs, rfl, hd, dd, hl, hv⟩ := dk_any I sb re hz.2
      cases ry
      have hk : (keyO d).isSome = true := hz.1
      cases qk : keyO d with
      | none => rw [qk] at hk; cases hk
      | some k =>
        obtain ⟨rfl, rfl⟩ := rd.key_inv qk
        refine wpAny_notIn_of (kV_is rx) hd dd.mapOf ?_
        have e : (valueAt vs k).isSome = (getKD kvs (keyD k)).isSome := by
          rcases hv k with ⟨g1, g2⟩ | ⟨d, x, u, g1, _, g2, _⟩
          · rw [g1, g2]; rfl
          · rw [g1, g2]; rfl
        rw [e]
        exact ⟨.bl _, H, I.tok _, rfl, q F H _ (Laid.refl sb) (.bl _)⟩
    · cases hg
  · split at hg
    · rename_i hz
      cases hg
      rw [Bool.and_eq_true] at hz
      obtain ⟨as, r1⟩ := reads_of I sb rd rx (okD_flat hz.2)
      obtain ⟨bs, r2⟩ := reads_of I sb re ry (okD_flat hz.1)
      obtain ⟨z1, z2⟩ := okD_seq hz.1
      exact SeqAt.notIn_list_reads r2 r1 z1 (SeqAt.canLay_of_shaped hz.2) (min_room t.hu z2) ⟨.bl _, H, I, rfl, q F H _ (Laid.refl sb) (.bl _)⟩
    · cases hg
  · split at hg
    · rename_i hz
      cases hg
      rw [Bool.and_eq_true] at hz
      obtain ⟨as, r1⟩ := reads_of I sb rd rx (okD_flat hz.2)
      obtain ⟨bs, r2⟩ := reads_of I sb re ry (okD_flat hz.1)
      obtain ⟨z1, z2⟩ := okD_seqT hz.1
      exact SeqAt.notIn_tuple_reads r2 r1 z1 (SeqAt.canLay_of_shaped hz.2) (min_room t.hu z2) ⟨.bl _, H, I, rfl, q F H _ (Laid.refl sb) (.bl _)⟩
    · cases hg
  · cases rd.str_inv; cases re.str_inv
    cases hg
    exact op_notIn_str pins s σ H _ _ v u Q I rx ry ⟨_, _, rfl, rfl, q F H _ (Laid.refl sb) (.bl _)⟩
  · cases hg

/-! ### subscripts -/
def ixD : D → D → Option D
  | .list xs, .int i => atI xs i
  | .tuple xs, .int i => atI xs i
  | .str z, .int i => if z.length ≤ sizeLine then (atI z.cps.toList i).map fun c => .str ⟨#[c]⟩ else none
  | .dict kvs, d => if (keyOk false d && dkD kvs) = true then getKD kvs d else none
  | _, _ => none
theorem atI_rep {K : PySem.W.Frag} {vs : List V} {ds : List D} (r : Reps K F vs ds) {i : Int} {d : D} (h : atI ds i = some d) : ∃ v, atI vs i = some v ∧ Rep K F v d := by
  unfold atI at h ⊢
  rw [r.length]
  cases q : ixN ds.length i with
  | none => rw [q] at h; cases h
  | some j =>
    rw [q] at h
    exact r.get h
theorem ixAll (t : Ties X C k) : IxR X (rO C ixD) := by
  intro va sl pins s σ H x y v u Q I rx ry h hs
  obtain ⟨F, d, e, z, sb, rd, re, hg, q⟩ := h
  rw [t.K] at rd re q
  unfold ixD at hg
  split at hg
  · obtain ⟨a, xs, rfl, h1, h2⟩ := rd.list_inv
    cases re.int_inv
    obtain ⟨w, h3, h4⟩ := atI_rep h2 hg
    exact ix_list va sl pins s σ H _ _ v u Q I rx ry ⟨a, xs, _, w, rfl, rfl, .inl (.inl (sb _ _ h1)), h3, q F H _ (Laid.refl sb) h4⟩ hs
  · obtain ⟨a, xs, rfl, h1, h2⟩ := rd.tup_inv
    cases re.int_inv
    obtain ⟨w, h3, h4⟩ := atI_rep h2 hg
    exact ix_tup va sl pins s σ H _ _ v u Q I rx ry ⟨a, xs, _, w, rfl, rfl, sb.sqT h1, h3, q F H _ (Laid.refl sb) h4⟩ hs
  · cases rd.str_inv; cases re.int_inv
    split at hg
    · rename_i hz
      simp only [Option.map_eq_some_iff] at hg
      obtain ⟨c, h1, rfl⟩ := hg
      exact ix_str va sl pins s σ H _ _ v u Q I rx ry ⟨_, _, c, rfl, rfl, hz, h1, q F H _ (Laid.refl sb) (.str _)⟩ hs
    · cases hg
  · rename_i d0 kvs d1
    split at hg
    · rename_i hz
      rw [Bool.and_eq_true] at hz
      obtain ⟨a, vs, rfl, hd, dd, hl, hv⟩ := dk_any I sb rd hz.2
      cases rx
      have hk : (keyO e).isSome = true := hz.1
      cases qk : keyO e with
      | none => rw [qk] at hk; cases hk
      | some k =>
        obtain ⟨rfl, rfl⟩ := re.key_inv qk
        rcases hv k with ⟨g1, g2⟩ | ⟨d, x, u2, g1, g3, g2, g4⟩
        · rw [g1] at hg; cases hg
        · rw [g1] at hg
          cases hg
          exact subscriptTail_builtinR dd.typeIs PySem.F.slot_dict_getitem.lookup (wpAny_getItem_of (Q := fun r s' => r = u2 ∧ EP X pins σ Q r s') (kV_is ry) dd.mapOf g2 ⟨rfl, x, H, I.tok _, g4, q F H _ (Laid.refl sb) g3⟩) hs
    · cases hg
  · cases hg
theorem fe_ix {a b : Expr} {fa fb : EM D} {pos : Pos} (t : Ties X C k) (ha : FE X C E a fa) (hb : FE X C E b fb) (hs : PlainIx b) : FE X C E (.Subscript a b pos) (eBin ixD fa fb) :=
  (pe_ix (ixAll t) ha hb hs).impD fun _ _ _ h => op_core (fun _ _ _ _ q => q) h
end
end DL

set_option Elab.async false
set_option linter.all false
set_option maxRecDepth 100000
set_option maxHeartbeats 2000000
namespace DL
open PySem PySem.Spec PyProof.Rows L2

/-! ### slices -/
def cut {α : Type} (xs : List α) (lo hi : Option Int) : List α := (xs.drop (HT.sIx xs.length 0 lo)).take (HT.sIx xs.length xs.length hi - HT.sIx xs.length 0 lo)
def sliceD : D → Option Int → Option Int → Option D
  | .list xs, lo, hi => some (.list (cut xs lo hi))
  | .tuple xs, lo, hi => some (.tuple (cut xs lo hi))
  | .str z, lo, hi => if z.length ≤ sizeLine then some (.str (cutS z lo hi)) else none
  | _, _, _ => none
def oNone : EM (Option Int) := fun _ g => .ok none g
def oSome (a : EM D) : EM (Option Int) := fun env g => (a env g).bind fun x g => match x with
  | .int i => .ok (some i) g
  | _ => .stuck
def eSlice (a : EM D) (l h : EM (Option Int)) : EM D := fun env g => (a env g).bind fun x g => (l env g).bind fun lo g => (h env g).bind fun hi g => Out.of (sliceD x lo hi) g
def rOp : Hp → Option Int → Option Int → Prop := fun _ o d => o = d
abbrev FO (X : Cx) (C : Cz) (E : XK) (e : Option Expr) (f : EM (Option Int)) : Prop := PO X e (tM C E rOp f)
theorem _root_.L2.PO.impD {X : Cx} {e : Option Expr} {t t' : TO} (h : PO X e t) (q : ∀ σ H Q, t' σ H Q → t σ H Q) : PO X e t' := ⟨fun pins s σ H Q I hw => h.run pins s σ H Q I (q _ _ _ hw)⟩
section
variable {X : Cx} {C : Cz} {E : XK} {k : Nat} {a b e : Expr} {es : List Expr} {fa fb : EM D} {fs : EM (List D)} {lo hi : Option Expr} {fl fh : EM (Option Int)} {pos p2 : Pos}
theorem fo_none : FO X C E none oNone := po_none.impD fun σ H Q ⟨F, env, g, S, h⟩ => Run.val S h F H none (Laid.refl S.sub) rfl
theorem fo_some (ha : FE X C E e fa) : FO X C E (some e) (oSome fa) := by
  refine (po_some ha).impD fun σ H Q ⟨F, env, g, S, h⟩ => ?_
  refine ⟨F, env, g, S, (Run.bind (R := Rep C.K) h).imp fun x H1 ⟨F1, d1, g1, S1, gr1, r1, h1⟩ => ?_⟩
  cases d1 with
  | int i =>
    cases r1
    exact ⟨i, rfl, Run.val S1 h1 F1 H1 _ (Laid.refl S1.sub) rfl⟩
  | _ => exact (show False from h1).elim
theorem cut_rep {K : PySem.W.Frag} {F : Hp} {vs : List V} {ds : List D} (r : Reps K F vs ds) (lo hi : Option Int) : Reps K F (cutV vs lo hi) (cut ds lo hi) := by
  unfold cutV cut
  rw [r.length]
  exact (r.drop _).take _
/-- t[a:b], the whole of it: t itself -/
theorem getItem_tuple_all {prog : Program} {w : World} {A : Around} {E : Value → Shared → Prop} {s : Shared} {t sl : Addr} {items : Array Value} {vl vu : Value} {lo hi : Option Int} {Q : Value → Shared → Prop} (ht : IsTup s.heap t items) (hs : s.heap.IsSliceOf sl vl vu .none) (pl : IsPart vl lo) (pu : IsPart vu hi)
    (hw : HT.sIx items.size 0 lo = 0 ∧ HT.sIx items.size items.size hi = items.size) (h : Q (.ref t) s) : wpAny (model prog w) A (getItem (.ref t) (.ref sl)) Q E s := by
  obtain ⟨os, hos, hcs, hds⟩ := id hs
  have hTs : s.TypeIs (.ref sl) "slice" := ⟨os, hos, hcs⟩
  unfold getItem
  try with_reducible refine wpAny_holding ?_
  first | refine wpAny_bind (wpAny_pure ?_) | skip
  refine wpAny_bind (wpAny_sequenceKey ht.typeIs (by decide) ?_)
  refine wpAny_bind (wpAny_callSpecial?_slot (name := Str.ofString "__getitem__") ht.typeIs PyProof.Rows.slot_tuple_getitem
    (wpAny_call_entry PyProof.Rows.slot_tuple_getitem ht.typeIs entry_tuple_getitem ?_ (args_tuple_getitem _ _)))
  show wpAny _ _ (Builtin.Tuple.tupleItemsOf (.ref t) >>= _) _ _ s
  refine wpAny_bind (tupleItemsOf_ ht ?_)
  refine wpAny_bind (wpAny_typeOf hTs ?_)
  rw [if_pos (by decide)]
  refine wpAny_bind (HT.sliceApplied_gen hs pl pu ?_)
  have hyes : (((HT.sIx items.size 0 lo : Nat) : Int) == 0 && (1 : Int) == 1 && (HT.sIx items.size items.size hi - HT.sIx items.size 0 lo) == items.size) = true := by
    rw [hw.1, hw.2]
    simp
  show wpAny _ _ (if (((HT.sIx items.size 0 lo : Nat) : Int) == 0 && (1 : Int) == 1 && (HT.sIx items.size items.size hi - HT.sIx items.size 0 lo) == items.size) = true then _ else _) _ _ s
  rw [if_pos hyes]
  unfold Builtin.Tuple.tupleIsExact
  refine wpAny_bind (wpAny_bind (wpAny_typeOf ht.typeIs (wpAny_pure ?_)))
  rw [if_pos (by decide)]
  refine wpAny_bind (wpAny_rule ?_)
  first
    | exact wpAny_bind (wpAny_pure (wpAny_pure ⟨_, rfl, wpAny_pure h⟩))
    | exact wpAny_bind (wpAny_pure ⟨_, rfl, wpAny_pure h⟩)
    | exact wpAny_pure ⟨_, rfl, wpAny_pure h⟩
def rSlA (C : Cz) : V → Option Int → Option Int → Hp → VK → Prop := fun x lo hi H Q => ∃ F d z, Sub F H ∧ Rep C.K F x d ∧ sliceD d lo hi = some z ∧ ∀ F' H' v, Laid F H F' H' → Rep C.K F' v z → Q v H'
theorem slAll (t : Ties X C k) : SlR X (rSlA C) := by
  intro pins s σ H x v vl vu lo hi sl Q I rx hs pl pu h
  obtain ⟨F, d, z, sb, rd, hg, q⟩ := h
  rw [t.K] at rd q
  unfold sliceD at hg
  split at hg
  · obtain ⟨a, xs, rfl, h1, h2⟩ := rd.list_inv
    cases hg
    refine sl_list pins s σ H _ v vl vu lo hi sl Q I rx hs pl pu ⟨a, xs, rfl, .inl (.inl (sb _ _ h1)), fun p n => ?_⟩
    obtain ⟨l, r⟩ := lay_lst sb n (cut_rep h2 lo hi)
    exact q _ _ _ l r
  · obtain ⟨a, xs, rfl, h1, h2⟩ := rd.tup_inv
    cases hg
    by_cases hw : HT.sIx xs.length 0 lo = 0 ∧ HT.sIx xs.length xs.length hi = xs.length
    · cases rx
      obtain ⟨its, r, ht, hz⟩ := I.tuple (sb.sqT h1)
      have hlen : its.toArray.size = xs.length := by rw [List.size_toArray]; exact r.length.symm
      refine ⟨"tuple", _, PyProof.Rows.slot_tuple_getitem.lookup, ht.typeIs, ?_⟩
      refine getItem_tuple_all ht hs pl pu (by rw [hlen]; exact hw) ⟨.ref a, H, I, rfl, q F H _ (Laid.refl sb) ?_⟩
      have e : ∀ ds : List D, xs.length = ds.length → cut ds lo hi = ds := fun ds hl => by
        unfold cut
        rw [← hl, hw.1, hw.2, List.drop_zero, Nat.sub_zero, hl, List.take_length]
      rw [e _ h2.length]
      exact .tup h1 h2
    · refine sl_tup pins s σ H _ v vl vu lo hi sl Q I rx hs pl pu ⟨a, xs, rfl, sb.sqT h1, hw, fun p n => ?_⟩
      obtain ⟨l, r⟩ := lay_tup sb n (cut_rep h2 lo hi)
      exact q _ _ _ l r
  · cases rd.str_inv
    split at hg
    · rename_i hz
      cases hg
      exact sl_str pins s σ H _ v vl vu lo hi sl Q I rx hs pl pu ⟨_, rfl, hz, q F H _ (Laid.refl sb) (.str _)⟩
    · cases hg
  · cases hg
theorem fe_slice (t : Ties X C k) (ha : FE X C E a fa) (hl : FO X C E lo fl) (hh : FO X C E hi fh) : FE X C E (.Subscript a (.Slice lo hi none p2) pos) (eSlice fa fl fh) := by
  refine (pe_slice (slAll t) ha hl hh).impD fun σ H Q ⟨F, env, g, S, h⟩ => ?_
  refine ⟨F, env, g, S, (Run.bind (R := Rep C.K) h).imp fun x H1 ⟨F1, d1, g1, S1, gr1, r1, h1⟩ => ?_⟩
  refine ⟨F1, env, g1, S1, (Run.bind (R := rOp) h1).imp fun l H2 ⟨F2, l2, g2, S2, gr2, r2, h2⟩ => ?_⟩
  refine ⟨F2, env, g2, S2, (Run.bind (R := rOp) h2).imp fun u H3 ⟨F3, u3, g3, S3, gr3, r3, h3⟩ => ?_⟩
  cases (show l = l2 from r2)
  cases (show u = u3 from r3)
  obtain ⟨z, e, q⟩ := Run.of S3 h3
  exact ⟨F3, d1, z, S3.sub, (r1.mono gr2.frz).mono gr3.frz, e, q⟩

/-! ### built-in functions -/
def rC (C : Cz) (op : List D → Option D) : List V → Hp → VK → Prop := fun xs H Q => ∃ F ds z, Sub F H ∧ Reps C.K F xs ds ∧ op ds = some z ∧ ∀ F' H' v, Laid F H F' H' → Rep C.K F' v z → Q v H'
theorem call_core {op : List D → Option D} {σ : L2.St} {H : Hp} {Q : VK} (h : tM C E (Rep C.K) (eCall op fs) σ H Q) : tCB (rC C op) (tM C E (Reps C.K) fs) σ H Q := by
  obtain ⟨F, env, g, S, h⟩ := h
  refine ⟨F, env, g, S, (Run.bind (R := Reps C.K) h).imp fun xs H1 ⟨F1, ds, g1, S1, gr1, r1, h1⟩ => ?_⟩
  obtain ⟨z, e, q⟩ := Run.of S1 h1
  exact ⟨F1, ds, z, S1.sub, r1, e, q⟩
theorem fe_callB {op : List D → Option D} {id : String} {x : Str} {p : Pos} (hc : CallR X (.builtin id) (rC C op)) (hg : Gl X x) (hm : X.mg x = none) (hv : bootBuiltins x = some (.builtin id)) (ha : FA X C E (e :: es) fs) (hn : x ≠ "__name__" := by decide) (hdb : (x == ("__debug__" : Str)) = false := by decide)
    (he : starEach (e :: es) X.env = (false, eval e X.env) :: starEach es X.env := by rfl) (hpl : (backTo pos (starEach es X.env)).any (·.1) = false := by rfl) : FE X C E (.Call (.Name x p) (e :: es) [] pos) (eCall op fs) :=
  (pe_callB hc hg hm hv ha hn hdb he hpl).impD fun _ _ _ h => call_core h
theorem fe_callTy {op : List D → Option D} {T : String} {x : Str} {p : Pos} (hc : CallR X (.type T) (rC C op)) (hg : Gl X x) (hm : X.mg x = none) (hv : bootBuiltins x = some (.type T)) (ha : FA X C E (e :: es) fs) (hn : x ≠ "__name__" := by decide) (hdb : (x == ("__debug__" : Str)) = false := by decide)
    (he : starEach (e :: es) X.env = (false, eval e X.env) :: starEach es X.env := by rfl) (hpl : (backTo pos (starEach es X.env)).any (·.1) = false := by rfl) : FE X C E (.Call (.Name x p) (e :: es) [] pos) (eCall op fs) :=
  (pe_callTy hc hg hm hv ha hn hdb he hpl).impD fun _ _ _ h => call_core h

def lenF : List D → Option D
  | [.list xs] => some (.int xs.length)
  | [.tuple xs] => some (.int xs.length)
  | [.str z] => if z.length ≤ sizeLine then some (.int z.length) else none
  | _ => none
def absF : List D → Option D
  | [.int i] => some (.int (if i < 0 then -i else i))
  | _ => none
def intF : List D → Option D
  | [.int i] => some (.int i)
  | [.bool k] => some (.int (if k then 1 else 0))
  | _ => none
def allInts : List D → Option (List Int)
  | [] => some []
  | .int i :: r => (allInts r).map (i :: ·)
  | _ => none
def allBools : List D → Option (List Bool)
  | [] => some []
  | .bool i :: r => (allBools r).map (i :: ·)
  | _ => none
theorem allInts_eq : ∀ {ds : List D} {ns : List Int}, allInts ds = some ns → ds = ns.map PyData.int
  | [], _, h => by cases h; rfl
  | .int i :: r, ns, h => by
    simp only [allInts, Option.map_eq_some_iff] at h
    obtain ⟨m, h1, rfl⟩ := h
    rw [allInts_eq h1]
    rfl
  | .none :: _, _, h => by simp [allInts] at h
  | .bool _ :: _, _, h => by simp [allInts] at h
  | .str _ :: _, _, h => by simp [allInts] at h
  | .list _ :: _, _, h => by simp [allInts] at h
  | .tuple _ :: _, _, h => by simp [allInts] at h
  | .dict _ :: _, _, h => by simp [allInts] at h
theorem allInts_map (ns : List Int) : allInts (ns.map PyData.int) = some ns := by
  induction ns with
  | nil => rfl
  | cons n ns ih => simp only [List.map_cons, allInts, ih, Option.map_some]
theorem allBools_eq : ∀ {ds : List D} {ns : List Bool}, allBools ds = some ns → ds = ns.map PyData.bool
  | [], _, h => by cases h; rfl
  | .bool i :: r, ns, h => by
    simp only [allBools, Option.map_eq_some_iff] at h
    obtain ⟨m, h1, rfl⟩ := h
    rw [allBools_eq h1]
    rfl
  | .none :: _, _, h => by simp [allBools] at h
  | .int _ :: _, _, h => by simp [allBools] at h
  | .str _ :: _, _, h => by simp [allBools] at h
  | .list _ :: _, _, h => by simp [allBools] at h
  | .tuple _ :: _, _, h => by simp [allBools] at h
  | .dict _ :: _, _, h => by simp [allBools] at h
theorem allBools_map (ns : List Bool) : allBools (ns.map PyData.bool) = some ns := by
  induction ns with
  | nil => rfl
  | cons n ns ih => simp only [List.map_cons, allBools, ih, Option.map_some]
def maxI (n : Int) (ns : List Int) : Int := ns.foldl (fun a b => if a < b then b else a) n
def minI (n : Int) (ns : List Int) : Int := ns.foldl (fun a b => if b < a then b else a) n
theorem maxI_cons (n m : Int) (ns : List Int) : maxI n (m :: ns) = maxI (if n < m then m else n) ns := rfl
theorem minI_cons (n m : Int) (ns : List Int) : minI n (m :: ns) = minI (if m < n then m else n) ns := rfl
theorem maxI_spec (ns : List Int) : ∀ n : Int, maxI n ns ∈ n :: ns ∧ ∀ y ∈ n :: ns, y ≤ maxI n ns := by
  induction ns with
  | nil => intro n; exact ⟨by simp [maxI], fun y hy => by simp at hy; subst hy; exact Int.le_refl _⟩
  | cons m ns ih =>
    intro n
    rw [maxI_cons]
    obtain ⟨h1, h2⟩ := ih (if n < m then m else n)
    have h3 := h2 _ List.mem_cons_self
    have h4 : n ≤ maxI (if n < m then m else n) ns := Int.le_trans (by split <;> omega) h3
    have h5 : m ≤ maxI (if n < m then m else n) ns := Int.le_trans (by split <;> omega) h3
    refine ⟨?_, fun y hy => ?_⟩
    · rcases List.mem_cons.mp h1 with e | e
      · rw [e]; split <;> simp
      · exact List.mem_cons_of_mem _ (List.mem_cons_of_mem _ e)
    · rcases List.mem_cons.mp hy with rfl | hy
      · exact h4
      · rcases List.mem_cons.mp hy with rfl | hy
        · exact h5
        · exact h2 y (List.mem_cons_of_mem _ hy)
theorem minI_spec (ns : List Int) : ∀ n : Int, minI n ns ∈ n :: ns ∧ ∀ y ∈ n :: ns, minI n ns ≤ y := by
  induction ns with
  | nil => intro n; exact ⟨by simp [minI], fun y hy => by simp at hy; subst hy; exact Int.le_refl _⟩
  | cons m ns ih =>
    intro n
    rw [minI_cons]
    obtain ⟨h1, h2⟩ := ih (if m < n then m else n)
    have h3 := h2 _ List.mem_cons_self
    have h4 : minI (if m < n then m else n) ns ≤ n := Int.le_trans h3 (by split <;> omega)
    have h5 : minI (if m < n then m else n) ns ≤ m := Int.le_trans h3 (by split <;> omega)
    refine ⟨?_, fun y hy => ?_⟩
    · rcases List.mem_cons.mp h1 with e | e
      · rw [e]; split <;> simp
      · exact List.mem_cons_of_mem _ (List.mem_cons_of_mem _ e)
    · rcases List.mem_cons.mp hy with rfl | hy
      · exact h4
      · rcases List.mem_cons.mp hy with rfl | hy
        · exact h5
        · exact h2 y (List.mem_cons_of_mem _ hy)
/-- max, min of a list of ints -/
def maxLF : List D → Option D
  | [.list ds] => match allInts ds with
    | some (n :: ns) => some (.int (maxI n ns))
    | _ => none
  | _ => none
def minLF : List D → Option D
  | [.list ds] => match allInts ds with
    | some (n :: ns) => some (.int (minI n ns))
    | _ => none
  | _ => none
def max2F : List D → Option D
  | [.int i, .int j] => some (.int (if j > i then j else i))
  | _ => none
def min2F : List D → Option D
  | [.int i, .int j] => some (.int (if j < i then j else i))
  | _ => none
def sumF : List D → Option D
  | [.list ds] => (allInts ds).map fun ns => .int ns.sum
  | [.tuple ds] => (allInts ds).map fun ns => .int ns.sum
  | _ => none
def anyF : List D → Option D
  | [.list ds] => (allBools ds).map fun ns => .bool (ns.any id)
  | _ => none
def allF : List D → Option D
  | [.list ds] => (allBools ds).map fun ns => .bool (ns.all id)
  | _ => none
def listF : List D → Option D
  | [.list ds] => some (.list ds)
  | [.tuple ds] => some (.list ds)
  | _ => none
def tupleF : List D → Option D
  | [.list ds] => some (.tuple ds)
  | [.tuple ds] => some (.tuple ds)
  | _ => none
theorem Reps.one {K : PySem.W.Frag} {F : Hp} {xs : List V} {d : D} (r : Reps K F xs [d]) : ∃ x, xs = [x] ∧ Rep K F x d := by
  cases r with
  | cons h1 h2 => cases h2; exact ⟨_, rfl, h1⟩
theorem Reps.two {K : PySem.W.Frag} {F : Hp} {xs : List V} {d e : D} (r : Reps K F xs [d, e]) : ∃ x y, xs = [x, y] ∧ Rep K F x d ∧ Rep K F y e := by
  cases r with
  | cons h1 h2 =>
    obtain ⟨y, rfl, h3⟩ := Reps.one h2
    exact ⟨_, _, rfl, h1, h3⟩
theorem cLen (t : Ties X C k) : CallR X (.builtin "len") (rC C lenF) := by
  intro pins s σ H xs us Q I r h
  obtain ⟨F, ds, z, sb, rd, hg, q⟩ := h
  rw [t.K] at rd q
  unfold lenF at hg
  split at hg
  · obtain ⟨x, rfl, h0⟩ := rd.one
    obtain ⟨a, ys, rfl, h1, h2⟩ := h0.list_inv
    cases hg
    exact call_len_seq pins s σ H _ us Q I r ⟨a, ys, rfl, .inl (.inl (.inl (sb _ _ h1))), by rw [h2.length]; exact q F H _ (Laid.refl sb) (.int _)⟩
  · obtain ⟨x, rfl, h0⟩ := rd.one
    obtain ⟨a, ys, rfl, h1, h2⟩ := h0.tup_inv
    cases hg
    exact call_len_seq pins s σ H _ us Q I r ⟨a, ys, rfl, .inr (sb.sqT h1), by rw [h2.length]; exact q F H _ (Laid.refl sb) (.int _)⟩
  · obtain ⟨x, rfl, h0⟩ := rd.one
    cases h0.str_inv
    split at hg
    · rename_i hz
      cases hg
      exact call_len_str pins s σ H _ us Q I r ⟨_, rfl, hz, q F H _ (Laid.refl sb) (.int _)⟩
    · cases hg
  · cases hg
theorem cAbs (t : Ties X C k) : CallR X (.builtin "abs") (rC C absF) := by
  intro pins s σ H xs us Q I r h
  obtain ⟨F, ds, z, sb, rd, hg, q⟩ := h
  rw [t.K] at rd q
  unfold absF at hg
  split at hg
  · obtain ⟨x, rfl, h0⟩ := rd.one
    cases h0.int_inv
    cases hg
    exact call_abs pins s σ H _ us Q I r ⟨_, rfl, q F H _ (Laid.refl sb) (.int _)⟩
  · cases hg
theorem cInt (t : Ties X C k) : CallR X (.type "int") (rC C intF) := by
  intro pins s σ H xs us Q I r h
  obtain ⟨F, ds, z, sb, rd, hg, q⟩ := h
  rw [t.K] at rd q
  unfold intF at hg
  split at hg
  · obtain ⟨x, rfl, h0⟩ := rd.one
    cases h0.int_inv
    cases hg
    exact call_int1 pins s σ H _ us Q I r (.inl ⟨_, rfl, q F H _ (Laid.refl sb) (.int _)⟩)
  · obtain ⟨x, rfl, h0⟩ := rd.one
    cases h0.bool_inv
    cases hg
    exact call_int1 pins s σ H _ us Q I r (.inr ⟨_, rfl, q F H _ (Laid.refl sb) (.int _)⟩)
  · cases hg
theorem cMax2 (t : Ties X C (k + 1)) : CallR X (.builtin "max") (rC C max2F) := by
  intro pins s σ H xs us Q I r h
  obtain ⟨F, ds, z, sb, rd, hg, q⟩ := h
  rw [t.K] at rd q
  unfold max2F at hg
  split at hg
  · obtain ⟨x, y, rfl, h0, h1⟩ := rd.two
    cases h0.int_inv; cases h1.int_inv
    cases hg
    exact call_max2 t.calm pins s σ H _ us Q I r ⟨_, _, rfl, q F H _ (Laid.refl sb) (.int _)⟩
  · cases hg
theorem cMin2 (t : Ties X C (k + 1)) : CallR X (.builtin "min") (rC C min2F) := by
  intro pins s σ H xs us Q I r h
  obtain ⟨F, ds, z, sb, rd, hg, q⟩ := h
  rw [t.K] at rd q
  unfold min2F at hg
  split at hg
  · obtain ⟨x, y, rfl, h0, h1⟩ := rd.two
    cases h0.int_inv; cases h1.int_inv
    cases hg
    exact call_min2 t.calm pins s σ H _ us Q I r ⟨_, _, rfl, q F H _ (Laid.refl sb) (.int _)⟩
  · cases hg
theorem ints_list {K : PySem.W.Frag} {F : Hp} {v : V} {ds : List D} {ns : List Int} (h0 : Rep K F v (.list ds)) (h : allInts ds = some ns) : ∃ a, v = .ref a ∧ F a = some (.lst (ns.map V.int)) := by
  obtain ⟨a, ys, rfl, h1, h2⟩ := h0.list_inv
  rw [allInts_eq h] at h2
  exact ⟨a, rfl, by rw [h1, h2.ints]⟩
theorem bools_list {K : PySem.W.Frag} {F : Hp} {v : V} {ds : List D} {ns : List Bool} (h0 : Rep K F v (.list ds)) (h : allBools ds = some ns) : ∃ a, v = .ref a ∧ F a = some (.lst (ns.map V.bl)) := by
  obtain ⟨a, ys, rfl, h1, h2⟩ := h0.list_inv
  rw [allBools_eq h] at h2
  exact ⟨a, rfl, by rw [h1, h2.bools]⟩
theorem cMaxL (t : Ties X C (k + 1)) : CallR X (.builtin "max") (rC C maxLF) := by
  intro pins s σ H xs us Q I r h
  obtain ⟨F, ds, z, sb, rd, hg, q⟩ := h
  rw [t.K] at rd q
  unfold maxLF at hg
  split at hg
  · split at hg
    · rename_i n ns e
      obtain ⟨x, rfl, h0⟩ := rd.one
      obtain ⟨a, rfl, h1⟩ := ints_list h0 e
      cases hg
      refine cr_max t.calm pins s σ H _ us Q I r ⟨a, n :: ns, rfl, .inl (.inl (sb _ _ h1)), by simp, fun m hm hall => ?_⟩
      obtain ⟨h2, h3⟩ := maxI_spec ns n
      have e2 : m = maxI n ns := by
        have := hall _ h2
        have := h3 _ hm
        omega
      subst e2
      exact q F H _ (Laid.refl sb) (.int _)
    · cases hg
  · cases hg
theorem cMinL (t : Ties X C (k + 1)) : CallR X (.builtin "min") (rC C minLF) := by
  intro pins s σ H xs us Q I r h
  obtain ⟨F, ds, z, sb, rd, hg, q⟩ := h
  rw [t.K] at rd q
  unfold minLF at hg
  split at hg
  · split at hg
    · rename_i n ns e
      obtain ⟨x, rfl, h0⟩ := rd.one
      obtain ⟨a, rfl, h1⟩ := ints_list h0 e
      cases hg
      refine cr_min t.calm pins s σ H _ us Q I r ⟨a, n :: ns, rfl, .inl (.inl (sb _ _ h1)), by simp, fun m hm hall => ?_⟩
      obtain ⟨h2, h3⟩ := minI_spec ns n
      have e2 : m = minI n ns := by
        have := hall _ h2
        have := h3 _ hm
        omega
      subst e2
      exact q F H _ (Laid.refl sb) (.int _)
    · cases hg
  · cases hg
theorem cSum (t : Ties X C (k + 1)) : CallR X (.builtin "sum") (rC C sumF) := by
  intro pins s σ H xs us Q I r h
  obtain ⟨F, ds, z, sb, rd, hg, q⟩ := h
  rw [t.K] at rd q
  unfold sumF at hg
  split at hg
  · simp only [Option.map_eq_some_iff] at hg
    obtain ⟨ns, e, rfl⟩ := hg
    obtain ⟨x, rfl, h0⟩ := rd.one
    obtain ⟨a, rfl, h1⟩ := ints_list h0 e
    exact cr_sum t.calm pins s σ H _ us Q I r ⟨a, ns, rfl, .inl (.inl (sb _ _ h1)), q F H _ (Laid.refl sb) (.int _)⟩
  · simp only [Option.map_eq_some_iff] at hg
    obtain ⟨ns, e, rfl⟩ := hg
    obtain ⟨x, rfl, h0⟩ := rd.one
    obtain ⟨a, ys, rfl, h1, h2⟩ := h0.tup_inv
    rw [allInts_eq e] at h2
    have h3 := h2.ints
    subst h3
    obtain ⟨its, rv, hl, _⟩ := I.tuple (sb.sqT h1)
    rw [Vals.ref1 r]
    obtain ⟨xs, hx⟩ := rv.ints.allInts.items
    have hn : numsOf (intItems xs).toList = ns := by rw [← hx]; exact rv.ints.numsOf
    rw [PySem.nums_intItems] at hn
    have hl' : s.heap.IsTuple a (intItems xs) := by rw [← hx]; exact hl
    refine PySem.W.ktm_sumG (I.ok.hd t.calm) hl' fun h' tk t' hk => ?_
    rw [PySem.preSum_eq, List.take_of_length_le (by simp), hn]
    exact ⟨.int _, H, I.kept hk, ⟨_, rfl⟩, q F H _ (Laid.refl sb) (.int _)⟩
  · cases hg
theorem cAny (t : Ties X C (k + 1)) : CallR X (.builtin "any") (rC C anyF) := by
  intro pins s σ H xs us Q I r h
  obtain ⟨F, ds, z, sb, rd, hg, q⟩ := h
  rw [t.K] at rd q
  unfold anyF at hg
  split at hg
  · simp only [Option.map_eq_some_iff] at hg
    obtain ⟨ns, e, rfl⟩ := hg
    obtain ⟨x, rfl, h0⟩ := rd.one
    obtain ⟨a, rfl, h1⟩ := bools_list h0 e
    exact cr_any t.calm pins s σ H _ us Q I r ⟨a, ns, rfl, .inl (.inl (sb _ _ h1)), q F H _ (Laid.refl sb) (.bl _)⟩
  · cases hg
theorem cAll (t : Ties X C (k + 1)) : CallR X (.builtin "all") (rC C allF) := by
  intro pins s σ H xs us Q I r h
  obtain ⟨F, ds, z, sb, rd, hg, q⟩ := h
  rw [t.K] at rd q
  unfold allF at hg
  split at hg
  · simp only [Option.map_eq_some_iff] at hg
    obtain ⟨ns, e, rfl⟩ := hg
    obtain ⟨x, rfl, h0⟩ := rd.one
    obtain ⟨a, rfl, h1⟩ := bools_list h0 e
    exact cr_all t.calm pins s σ H _ us Q I r ⟨a, ns, rfl, .inl (.inl (sb _ _ h1)), q F H _ (Laid.refl sb) (.bl _)⟩
  · cases hg
theorem cList (t : Ties X C k) : CallR X (.type "list") (rC C listF) := by
  intro pins s σ H xs us Q I r h
  obtain ⟨F, ds, z, sb, rd, hg, q⟩ := h
  rw [t.K] at rd q
  unfold listF at hg
  split at hg
  · obtain ⟨x, rfl, h0⟩ := rd.one
    obtain ⟨a, ys, rfl, h1, h2⟩ := h0.list_inv
    cases hg
    refine call_list_of pins s σ H _ us Q I r ⟨a, ys, rfl, .inl (.inl (.inl (sb _ _ h1))), fun p n => ?_⟩
    obtain ⟨l, r⟩ := lay_lst sb n h2
    exact q _ _ _ l r
  · obtain ⟨x, rfl, h0⟩ := rd.one
    obtain ⟨a, ys, rfl, h1, h2⟩ := h0.tup_inv
    cases hg
    refine call_list_of pins s σ H _ us Q I r ⟨a, ys, rfl, .inr (sb.sqT h1), fun p n => ?_⟩
    obtain ⟨l, r⟩ := lay_lst sb n h2
    exact q _ _ _ l r
  · cases hg
theorem cTuple (t : Ties X C k) : CallR X (.type "tuple") (rC C tupleF) := by
  intro pins s σ H xs us Q I r h
  obtain ⟨F, ds, z, sb, rd, hg, q⟩ := h
  rw [t.K] at rd q
  unfold tupleF at hg
  split at hg
  · obtain ⟨x, rfl, h0⟩ := rd.one
    obtain ⟨a, ys, rfl, h1, h2⟩ := h0.list_inv
    cases hg
    refine call_tuple_of pins s σ H _ us Q I r ⟨a, ys, rfl, .inl ⟨.inl (.inl (sb _ _ h1)), fun p n => ?_⟩⟩
    obtain ⟨l, r⟩ := lay_tup sb n h2
    exact q _ _ _ l r
  · obtain ⟨x, rfl, h0⟩ := rd.one
    obtain ⟨a, ys, rfl, h1, h2⟩ := h0.tup_inv
    cases hg
    exact call_tuple_of pins s σ H _ us Q I r ⟨a, ys, rfl, .inr ⟨sb.sqT h1, q F H _ (Laid.refl sb) (.tup h1 h2)⟩⟩
  · cases hg
/-! repr -/
theorem call_repr_tree (v : Value) : True := trivial
end
end DL

set_option Elab.async false
set_option linter.all false
set_option maxRecDepth 100000
set_option maxHeartbeats 2000000
namespace DL
open PySem PySem.Spec PyProof.Rows L2

/-! ### behind a call -/
structure Post (T : List (Addr × Str)) (ha : Option Addr) (F H F' H' : Hp) : Prop where
  grow : Grow ha F H F' H'
  sub : Sub F' H'
  ntb : ∀ b o, F' b = some o → notT o
  tabs : LamX.Tabs T H'
theorem Grow.weak {ha : Option Addr} {F H F' H' : Hp} (g : Grow none F H F' H') : Grow ha F H F' H' := ⟨fun b o h _ n => g.keep b o h (by simp) n, g.frz, g.new, g.there⟩
theorem HandAt.mono {F F' H : Hp} {a c : Addr} {g : G} (h : HandAt F H a c g) (s : Sub F F') : HandAt F' H a c g := ⟨h.1, s _ _ h.2⟩
section
variable {C : Cz} {F H F' H' : Hp} {σ : L2.St} {env : List Sl} {g g' : G}
theorem SOK.slots (S : SOK C F H σ env g) (gr : Grow C.ha F H F' H') (i : Nat) (sl : Sl) (e : env[i]? = some sl) : ∃ x : Option V, σ[i]? = some x ∧ SlotOK C F' H' sl x := by
  obtain ⟨x, h1, h2⟩ := S.slot i sl e
  refine ⟨x, h1, ?_⟩
  cases sl with
  | un => trivial
  | dat d => obtain ⟨v, h3, h4⟩ := h2; exact ⟨v, h3, h4.mono gr.frz⟩
  | own ds =>
    obtain ⟨a, vs, h3, h4, h5, h6, h7⟩ := h2
    refine ⟨a, vs, h3, ?_, h5, gr.keep _ _ h6 (fun z => ?_) notT_lst, h7.mono gr.frz⟩
    · cases q : F' a with
      | none => rfl
      | some o =>
        have z := gr.new a h4 (by rw [q]; simp)
        rw [h6] at z; cases z
    · exact (S.hand a z).2.2 h5
  | hand => exact h2
  | fn a => exact h2
  | scr ns => obtain ⟨b, k1, k2⟩ := h2; exact ⟨b, k1, Sub.sqL gr.frz k2⟩
  | ownd _ kvs =>
    obtain ⟨a, o, h3, h4, h5, h6, h7⟩ := h2
    refine ⟨a, o, h3, ?_, h5, gr.keep _ _ h6 (fun z => ?_) h7.own.notT, h7.mono gr.frz⟩
    · cases q : F' a with
      | none => rfl
      | some o =>
        have z := gr.new a h4 (by rw [q]; simp)
        rw [h6] at z; cases z
    · exact (S.hand a z).2.2 h5
theorem SOK.post (S : SOK C F H σ env g) (p : Post C.T none F H F' H') : SOK C F' H' σ env g where
  grow := S.grow.trans p.grow.weak
  sub := p.sub
  ntb := p.ntb
  tabs := p.tabs
  hand := fun a e => by
    obtain ⟨h1, ⟨h2, h3⟩, h4⟩ := S.hand a e
    refine ⟨?_, ⟨p.grow.keep _ _ h2 (by simp) notT_lst, h3⟩, h4⟩
    cases q : F' a with
    | none => rfl
    | some o =>
      have z := p.grow.new a h1 (by rw [q]; simp)
      rw [h2] at z; cases z
  len := S.len
  slot := S.slots p.grow.weak
  apart := S.apart
theorem SOK.postH {a : Addr} (S : SOK C F H σ env g) (e : C.ha = some a) (p : Post C.T (some a) F H F' H') (hf : F' a = none) (ht : HandAt F H' a C.hc g') : SOK C F' H' σ env g' where
  grow := S.grow.trans (by rw [e]; exact p.grow)
  sub := p.sub
  ntb := p.ntb
  tabs := p.tabs
  hand := fun b eb => by
    rw [e] at eb
    cases eb
    obtain ⟨h1, ⟨h2, h3⟩, h4⟩ := S.hand a e
    refine ⟨hf, ⟨ht.1, ?_⟩, h4⟩
    have z := S.grow.frz _ _ h3
    rw [ht.2] at z
    rw [h3, ← z]
  len := S.len
  slot := S.slots (by rw [e]; exact p.grow)
  apart := S.apart
end

/-! ### what a def promises -/
inductive PR where
  | ok (d : D)
  | err (c : Str)
  | stuck
def spP (K : PySem.W.Frag) (mg : Str → Option Value) (T : List (Addr × Str)) (m : List D → PR) : Sp := fun vs H Q E =>
  ∃ F ds, Sub F H ∧ (∀ b o, F b = some o → notT o) ∧ LamX.Tabs T H ∧ Reps K F vs ds ∧ match m ds with
    | .ok d => ∀ F' H' v, Post T none F H F' H' → Rep K F' v d → Q v H'
    | .err c => ∀ F' H', Post T none F H F' H' → ∀ A, mg c = some (.ref A) → E (.ref A) none H'
    | .stuck => False
def spH (K : PySem.W.Frag) (mg : Str → Option Value) (T : List (Addr × Str)) (m : List D → G → Out D) : Sp := fun vs H Q E =>
  ∃ F a c g vs' ds, vs = .ref a :: vs' ∧ Sub F H ∧ (∀ b o, F b = some o → notT o) ∧ LamX.Tabs T H ∧ F a = none ∧ HandAt F H a c g ∧ Reps K F vs' ds ∧ match m ds g with
    | .ok d g' => ∀ F' H' v, Post T (some a) F H F' H' → F' a = none → HandAt F H' a c g' → Rep K F' v d → Q v H'
    | .err e g' => ∀ F' H', Post T (some a) F H F' H' → F' a = none → HandAt F H' a c g' → ∀ A, mg e = some (.ref A) → E (.ref A) none H'
    | .stuck => False
/-- as the library's FnOk, no repr being under way -/
structure FnG (P : Program) (w : World) (K : PySem.W.Frag) (mg : Str → Option Value) (base : Heap) (k : Nat) (f : Addr) (fd : FuncData) (ps : List Str) (sp : Sp) : Prop where
  len : ∀ vs H Q E, sp vs H Q E → vs.length = ps.length
  run : ∀ (A : Around) (outer : List Env) (s : Shared) (H : Hp) (args : Args) (us : List Value) (vs : List V) (Q : VK) (E : XK), A.guards = some [] → Room k A → Env0 P w K mg base A outer s H → BindsTo s fd args (ps.zip us) → Vals vs us → sp vs H Q E →
    codeAny (model P w) A (.call (.ref f) args) (CR (L2.CX P w) outer P w H s Q E) s
section
variable {P : Program} {w : World} {K : PySem.W.Frag} {mg : Str → Option Value} {base : Heap}
theorem FnG.of {x qual : Str} {st : Stmt} {f : Addr} {fd : FuncData} {N ps : List Str} {k : Nat} {sp : Sp} (F : Fun K x qual st f fd) (S : FnScope N ps (defScope st)) (len : ∀ vs H Q E, sp vs H Q E → vs.length = ps.length)
    (hbody : ∀ (cdv : Value) (A : Around) (outer : List Env) (s : Shared) (H : Hp) (vs : List V) (Q : VK) (E : XK), (A.deeper (envOfC qual (defScope st) s.heap.objs.size f cdv)).guards = some [] → Room k (A.deeper (envOfC qual (defScope st) s.heap.objs.size f cdv)) → sp vs H Q E →
      ∃ t, PSs (cxOf (L2.CX P w) P w K mg base N qual (defScope st) f cdv A outer s H E) (defBody st) t ∧ t { nx := fun _ H' => Q .non H', rt := Q } (start N vs) H) : FnG P w K mg base (k + 1) f fd ps sp := by
  obtain ⟨oc, od, kV, doc, pm, an, cdv, ct, osl, rfl, lk, hcd⟩ := F.ex
  exact ⟨len, fun A outer s H args us vs Q E hg hr e0 hb r hs => LamX.run_ofS lk hcd S hr e0 hb r (len _ _ _ _ hs) fun hr' => hbody cdv A outer s H vs Q E hg hr' hs⟩
end
section
variable {X : Cx} {k : Nat} {f : Addr} {fd : FuncData} {ps : List Str} {sp : Sp} {E : XK} {x : Str} {p pos : Pos} {e : Expr} {es : List Expr} {t : TA}
theorem run_fnG {pins : List (Addr × Obj)} {σ : L2.St} {H : Hp} {s : Shared} {Q : VK} {us : List Value} {vs : List V} (F : FnG X.prog X.w X.K X.mg X.base k f fd ps sp) (hr : Room k X.A) (gd : X.A.guards = some []) (hb : Binds X.K fd ps []) (hx : Passes (L2.CX X.prog X.w) X E)
    (I : Inv X pins σ H s) (r : Vals vs us) (h : sp vs H Q E) : wpAny (model X.prog X.w) X.A (call (.ref f) us) (EP X pins σ Q) X.xe s := by
  have hl : us.length = ps.length := by rw [← r.length]; exact F.len _ _ _ _ h
  have hb1 := hb s us I.kIn (by rw [List.append_nil]; exact hl)
  rw [List.append_nil] at hb1
  refine wpAny_call (codeAny_mono (F.run X.A X.stack s H _ us vs Q E gd hr I.env0 hb1 r h) fun r s' hq => ?_)
  match r, hq with
  | .error e, hq => exact hx pins σ H s e s' I hq
  | .ok (.ret u), hq => exact I.after hq
theorem pe_callG (F : FnG X.prog X.w X.K X.mg X.base k f fd ps sp) (hr : Room k X.A) (gd : X.A.guards = some []) (hg : Gl X x) (hm : X.mg x = some (.ref f)) (hk : PySem.W.keepIn X.K (.ref f) = true) (hb : Binds X.K fd ps []) (hx : Passes (L2.CX X.prog X.w) X E)
    (ha : PA X (e :: es) t) (hdb : (x == ("__debug__" : Str)) = false := by decide) (he : starEach (e :: es) X.env = (false, eval e X.env) :: starEach es X.env := by rfl) (hpl : (backTo pos (starEach es X.env)).any (·.1) = false := by rfl) :
    PE X (.Call (.Name x p) (e :: es) [] pos) (fun σ H Q => t σ H fun vs H1 => sp vs H1 Q E) :=
  ⟨fun pins s σ H Q I h => wpAny_Call_Name_kw (ld_glob I hg hm (PySem.W.callWith_K (h₀ := X.base) I.ok.mod.kin hk (thn (ha.run pos pins s σ H _ I h) fun us s1 ⟨vs, H1, I1, r, q⟩ => ⟨I1.kIn, run_fnG F hr gd hb hx I1 r q⟩) he hpl) hdb)⟩
theorem pe_callG0 (F : FnG X.prog X.w X.K X.mg X.base k f fd ps sp) (hr : Room k X.A) (gd : X.A.guards = some []) (hg : Gl X x) (hm : X.mg x = some (.ref f)) (hk : PySem.W.keepIn X.K (.ref f) = true) (hb : Binds X.K fd ps []) (hx : Passes (L2.CX X.prog X.w) X E)
    (hdb : (x == ("__debug__" : Str)) = false := by decide) : PE X (.Call (.Name x p) [] [] pos) (fun σ H Q => sp [] H Q E) :=
  ⟨fun pins s σ H Q I h => wpAny_Call_Name_kw (ld_glob I hg hm (PySem.W.callWith_K0 I.kIn hk (run_fnG (us := []) F hr gd hb hx I .nil h)) hdb)⟩
end
/-- the def named x keeps a promise -/
def KF (P : Program) (w : World) (K : PySem.W.Frag) (mg : Str → Option Value) (base : Heap) (x : Str) (k : Nat) (sp : Sp) : Prop :=
  ∃ (f : Addr) (fd : FuncData) (ps : List Str), FnG P w K mg base k f fd ps sp ∧ mg x = some (.ref f) ∧ PySem.W.keepIn K (.ref f) = true ∧ Binds K fd ps []

def eFn (m : List D → PR) (a : EM (List D)) : EM D := fun env g => (a env g).bind fun ds g => match m ds with
  | .ok d => .ok d g
  | .err c => .err c g
  | .stuck => .stuck
def eFnH (i : Nat) (m : List D → G → Out D) (a : EM (List D)) : EM D := fun env g => match env[i]? with
  | some .hand => (a env g).bind fun ds g => m ds g
  | _ => .stuck
section
variable {X : Cx} {C : Cz} {E : XK} {k j : Nat} {a b c e : Expr} {es : List Expr} {fa fb : EM D} {fs : EM (List D)} {x : Str} {p pos : Pos} {m : List D → PR} {mh : List D → G → Out D}
theorem fn_core {σ : L2.St} {H : Hp} {Q : VK} (t : Ties X C k) (h : tM C E (Rep C.K) (eFn m fs) σ H Q) : tM C E (Reps C.K) fs σ H fun vs H1 => spP X.K X.mg C.T m vs H1 Q E := by
  obtain ⟨F, env, g, S, h⟩ := h
  refine ⟨F, env, g, S, (Run.bind (R := Reps C.K) h).imp fun xs H1 ⟨F1, ds, g1, S1, gr1, r1, h1⟩ => ?_⟩
  refine ⟨F1, ds, S1.sub, S1.ntb, S1.tabs, by rw [← t.K]; exact r1, ?_⟩
  cases q : m ds with
  | ok d =>
    rw [q] at h1
    intro F' H' v p r
    rw [← t.K] at r
    exact h1 F' H' v (S1.post p) p.grow.weak r
  | err c =>
    rw [q] at h1
    intro F' H' p A hA
    exact h1 F' H' (S1.post p) p.grow.weak A (by rw [t.mg]; exact hA)
  | stuck =>
    rw [q] at h1
    exact h1
theorem fe_call (t : Ties X C (k + 1)) (hx : Passes (L2.CX X.prog X.w) X E) (G : KF X.prog X.w X.K X.mg X.base x j (spP X.K X.mg C.T m)) (hj : j ≤ k + 1) (hg : Gl X x) (ha : FA X C E (e :: es) fs) (hdb : (x == ("__debug__" : Str)) = false := by decide)
    (he : starEach (e :: es) X.env = (false, eval e X.env) :: starEach es X.env := by rfl) (hpl : (backTo pos (starEach es X.env)).any (·.1) = false := by rfl) : FE X C E (.Call (.Name x p) (e :: es) [] pos) (eFn m fs) := by
  obtain ⟨f, fd, ps, Fn, hm, hk, hb⟩ := G
  exact (pe_callG Fn (t.room.mono hj) t.gd hg hm hk hb hx ha hdb he hpl).impD fun _ _ _ h => fn_core t h
theorem fe_call0 (t : Ties X C (k + 1)) (hx : Passes (L2.CX X.prog X.w) X E) (G : KF X.prog X.w X.K X.mg X.base x j (spP X.K X.mg C.T m)) (hj : j ≤ k + 1) (hg : Gl X x) (hdb : (x == ("__debug__" : Str)) = false := by decide) : FE X C E (.Call (.Name x p) [] [] pos) (eFn m eNil) := by
  obtain ⟨f, fd, ps, Fn, hm, hk, hb⟩ := G
  refine (pe_callG0 Fn (t.room.mono hj) t.gd hg hm hk hb hx hdb).impD fun σ H Q h => ?_
  obtain ⟨F, env, g, S, h⟩ := fn_core (fs := eNil) t h
  exact Run.val S h F H [] (Laid.refl S.sub) .nil
theorem fe_callH (t : Ties X C (k + 1)) (hx : Passes (L2.CX X.prog X.w) X E) {i : Nat} {n : Str} {np : Pos} (G : KF X.prog X.w X.K X.mg X.base x j (spH X.K X.mg C.T mh)) (hj : j ≤ k + 1) (hg : Gl X x) (hN : X.N[i]? = some n) (hv : Vis X.env.scope n) (ha : FA X C E es fs) (hdb : (x == ("__debug__" : Str)) = false := by decide)
    (hd : (n == ("__debug__" : Str)) = false := by decide) (hcd : (n == ("__classdict__" : Str)) = false := by decide)
    (he : starEach (.Name n np :: es) X.env = (false, eval (.Name n np) X.env) :: starEach es X.env := by rfl) (hpl : (backTo pos (starEach es X.env)).any (·.1) = false := by rfl) : FE X C E (.Call (.Name x p) (.Name n np :: es) [] pos) (eFnH i mh fs) := by
  obtain ⟨f, fd, ps, Fn, hm, hk, hb⟩ := G
  refine (pe_callG Fn (t.room.mono hj) t.gd hg hm hk hb hx (pa_cons (pe_var hN hv hd hcd) ha he) hdb he hpl).impD fun σ H Q ⟨F, env, g, S, h⟩ => ?_
  unfold eFnH at h
  cases q : env[i]? with
  | none => rw [q] at h; exact (show False from h).elim
  | some sl =>
    rw [q] at h
    cases sl with
    | hand =>
      obtain ⟨y, h1, ad, rfl, h2⟩ := S.slot i _ q
      refine ⟨.ref ad, h1, F, env, g, S, (Run.bind (R := Reps C.K) h).imp fun xs H1 ⟨F1, ds, g1, S1, gr1, r1, h3⟩ => ?_⟩
      obtain ⟨z1, z2, z3⟩ := S1.hand ad h2
      refine ⟨F1, ad, C.hc, g1, xs, ds, rfl, S1.sub, S1.ntb, S1.tabs, z1, z2.mono S1.grow.frz, by rw [← t.K]; exact r1, ?_⟩
      cases q2 : mh ds g1 with
      | ok d g2 =>
        rw [q2] at h3
        intro F' H' v p hf ht r
        rw [← t.K] at r
        exact h3 F' H' v (S1.postH h2 p hf ht) (by rw [h2]; exact p.grow) r
      | err c g2 =>
        rw [q2] at h3
        intro F' H' p hf ht A hA
        exact h3 F' H' (S1.postH h2 p hf ht) (by rw [h2]; exact p.grow) A (by rw [t.mg]; exact hA)
      | stuck =>
        rw [q2] at h3
        exact h3
    | un => exact (show False from h).elim
    | dat d => exact (show False from h).elim
    | own ds => exact (show False from h).elim
    | fn a => exact (show False from h).elim
    | scr a => exact (show False from h).elim
    | ownd _ a => exact (show False from h).elim
end

/-! ### statements -/
inductive Fl where
  | next
  | ret (d : D)
  | brk
  | cont
  | new (ds : List D)
abbrev SM := List Sl → G → Out (Fl × List Sl)
def EndsAt (C : Cz) (F' H' : Hp) (σ' : L2.St) (D : Ends) : Fl → Prop
  | .next => D.nx σ' H'
  | .brk => D.bk σ' H'
  | .cont => D.ct σ' H'
  | .ret d => ∀ v, Rep C.K F' v d → D.rt v H'
  | .new ds => ∀ p xs, F' p = none → C.H₀ p = none → H' p = some (.lst xs) → Reps C.K F' xs ds → D.rt (.ref p) H'
def RunS (C : Cz) (E : XK) (F : Hp) (o : Out (Fl × List Sl)) (D : Ends) : Prop :=
  match o with
  | .ok (fl, env) g => ∀ F' H' σ', SOK C F' H' σ' env g → Sub F F' → EndsAt C F' H' σ' D fl
  | .err c g => ∀ F' H' σ' env, SOK C F' H' σ' env g → Er C E c H'
  | .stuck => False
def tS (C : Cz) (E : XK) (m : SM) : TS := fun D σ H => ∃ F env g, SOK C F H σ env g ∧ RunS C E F (m env g) D
abbrev FS (X : Cx) (C : Cz) (E : XK) (st : Stmt) (m : SM) : Prop := PS X st (tS C E m)
abbrev FSs (X : Cx) (C : Cz) (E : XK) (st : List Stmt) (m : SM) : Prop := PSs X st (tS C E m)
theorem _root_.L2.PS.impD {X : Cx} {st : Stmt} {t t' : TS} (h : PS X st t) (q : ∀ D σ H, t' D σ H → t D σ H) : PS X st t' := ⟨fun pins s σ H D I hw => h.run pins s σ H D I (q _ _ _ hw)⟩
theorem _root_.L2.PSs.impD {X : Cx} {st : List Stmt} {t t' : TS} (h : PSs X st t) (q : ∀ D σ H, t' D σ H → t D σ H) : PSs X st t' := ⟨fun pins s σ H D I hw => h.run pins s σ H D I (q _ _ _ hw)⟩
section
variable {C : Cz} {E : XK} {F F1 H : Hp} {σ : L2.St} {env : List Sl} {g : G} {D D' : Ends} {o : Out (Fl × List Sl)}
theorem RunS.shift (s : Sub F F1) (h : RunS C E F o D) : RunS C E F1 o D := by
  cases o with
  | ok d g => exact fun F' H' σ' S sb => h F' H' σ' S (s.trans sb)
  | err c g => exact h
  | stuck => exact h
/-- an expression first -/
theorem RunS.bind {α β : Type} {R : Hp → β → α → Prop} {a : Out α} {k : α → G → Out (Fl × List Sl)} (h : RunS C E F (a.bind k) D) :
    Run C E R F H σ env a fun v H1 => ∃ F1 d g1, SOK C F1 H1 σ env g1 ∧ Grow C.ha F H F1 H1 ∧ R F1 v d ∧ RunS C E F1 (k d g1) D := by
  cases a with
  | ok d g => exact fun F' H' v S gr r => ⟨F', d, g, S, gr, r, RunS.shift gr.frz h⟩
  | err c g => exact fun F' H' S gr => h F' H' σ env S
  | stuck => exact h
theorem RunS.next (S : SOK C F H σ env g) (h : RunS C E F (.ok (.next, env) g) D) : D.nx σ H := h F H σ S (Sub.refl _)
end

def sSkip : SM := fun env g => .ok (.next, env) g
def sSeq (a b : SM) : SM := fun env g => (a env g).bind fun r g => match r with
  | (.next, env) => b env g
  | (fl, env) => .ok (fl, env) g
def sIf (c : EM Bool) (a b : SM) : SM := fun env g => (c env g).bind fun x g => if x = true then a env g else b env g
def sSet (i : Nat) (a : EM D) : SM := fun env g => (a env g).bind fun d g => .ok (.next, env.set i (.dat d)) g
def sRet (a : EM D) : SM := fun env g => (a env g).bind fun d g => .ok (.ret d, env) g
def sRetN : SM := fun env g => .ok (.ret .none, env) g
def sExpr (a : EM D) : SM := fun env g => (a env g).bind fun _ g => .ok (.next, env) g
def sBrk : SM := fun env g => .ok (.brk, env) g
def sCont : SM := fun env g => .ok (.cont, env) g
def sRaise (c : Str) : SM := fun _ g => .err c g
def sAug (i : Nat) (op : D → D → Option D) (a : EM D) : SM := fun env g => match env[i]? with
  | some (.dat x) => (a env g).bind fun y g => match op x y with
    | some z => .ok (.next, env.set i (.dat z)) g
    | none => .stuck
  | _ => .stuck
theorem SOK.setDat {C : Cz} {F H : Hp} {σ : L2.St} {env : List Sl} {g : G} (S : SOK C F H σ env g) {v : V} {d : D} (r : Rep C.K F v d) (i : Nat) : SOK C F H (σ.set i (some v)) (env.set i (.dat d)) g where
  grow := S.grow
  sub := S.sub
  ntb := S.ntb
  tabs := S.tabs
  hand := S.hand
  len := by rw [List.length_set, List.length_set]; exact S.len
  slot := fun j sl e => by
    by_cases h : i = j
    · subst h
      have hl : i < env.length := by
        have := (List.getElem?_eq_some_iff.mp e).1
        rwa [List.length_set] at this
      rw [List.getElem?_set_self hl] at e
      cases e
      exact ⟨some v, by rw [List.getElem?_set_self (by rw [← S.len]; exact hl)], v, rfl, r⟩
    · rw [List.getElem?_set_ne h] at e
      obtain ⟨x, h1, h2⟩ := S.slot j sl e
      exact ⟨x, by rw [List.getElem?_set_ne h]; exact h1, h2⟩
  apart := fun p q a ds ds' e1 e2 o1 o2 e3 e4 => by
    have hp : i ≠ p := fun z => by
      subst z
      have hl : i < env.length := by
        have := (List.getElem?_eq_some_iff.mp e1).1
        rwa [List.length_set] at this
      rw [List.getElem?_set_self hl] at e1
      cases e1
      cases o1
    have hq : i ≠ q := fun z => by
      subst z
      have hl : i < env.length := by
        have := (List.getElem?_eq_some_iff.mp e2).1
        rwa [List.length_set] at this
      rw [List.getElem?_set_self hl] at e2
      cases e2
      cases o2
    rw [List.getElem?_set_ne hp] at e1 e3
    rw [List.getElem?_set_ne hq] at e2 e4
    exact S.apart p q a ds ds' e1 e2 o1 o2 e3 e4
section
variable {X : Cx} {C : Cz} {E : XK} {k j i : Nat} {a b c e : Expr} {st : Stmt} {sts as bs : List Stmt} {fa fb : EM D} {bc : EM Bool} {m ma mb : SM} {x : Str} {p pos : Pos}
theorem fs_nil : FSs X C E [] sSkip := pss_nil.impD fun D σ H ⟨F, env, g, S, h⟩ => h F H σ S (Sub.refl _)
theorem fs_cons (h1 : FS X C E st ma) (h2 : FSs X C E sts mb) : FSs X C E (st :: sts) (sSeq ma mb) := by
  refine (pss_cons h1 h2).impD fun D σ H ⟨F, env, g, S, h⟩ => ?_
  refine ⟨F, env, g, S, ?_⟩
  unfold sSeq at h
  cases q : ma env g with
  | ok r g1 =>
    rw [q] at h
    obtain ⟨fl, env1⟩ := r
    intro F' H' σ' S' sb
    cases fl with
    | next => exact ⟨F', env1, g1, S', RunS.shift sb h⟩
    | ret d => exact h F' H' σ' S' sb
    | brk => exact h F' H' σ' S' sb
    | cont => exact h F' H' σ' S' sb
    | new ds => exact h F' H' σ' S' sb
  | err c g1 => rw [q] at h; exact h
  | stuck => rw [q] at h; exact h
theorem fs_one (h1 : FS X C E st ma) : FSs X C E [st] ma := pss_one h1
theorem fs_if (hc : FT X C E c bc) (ha : FSs X C E as ma) (hb : FSs X C E bs mb) : FS X C E (.If c as bs pos) (sIf bc ma mb) := by
  refine (ps_if hc ha hb).impD fun D σ H ⟨F, env, g, S, h⟩ => ?_
  refine ⟨F, env, g, S, (RunS.bind (R := rB) h).imp fun x H1 ⟨F1, d1, g1, S1, gr1, r1, h1⟩ => ?_⟩
  cases (show x = d1 from r1)
  cases x with
  | true => exact iteT ⟨F1, env, g1, S1, by simpa using h1⟩
  | false => exact iteF ⟨F1, env, g1, S1, by simpa using h1⟩
theorem fs_set {pos' : Pos} (t : Ties X C k) (hi : X.N[i]? = some x) (hx : Loc X.env.scope x) (ha : FE X C E e fa) (hs : swapsWith e (some (.Name x pos')) pos.line X.env = pure false := by rfl) (hf : X.fn x = true ∨ X.env.scope.names.lookup x = some .local := by first | exact .inl rfl | exact .inr rfl | assumption) :
    FS X C E (.Assign [.Name x pos'] e pos) (sSet i fa) := by
  refine (ps_set t.nd hi hx ha hs hf).impD fun D σ H ⟨F, env, g, S, h⟩ => ?_
  refine ⟨F, env, g, S, (RunS.bind (R := Rep C.K) h).imp fun x H1 ⟨F1, d1, g1, S1, gr1, r1, h1⟩ => ?_⟩
  exact h1 F1 H1 _ (S1.setDat r1 i) (Sub.refl _)
theorem fs_ret (ha : FE X C E e fa) : FS X C E (.Return (some e) pos) (sRet fa) := by
  refine (ps_ret ha).impD fun D σ H ⟨F, env, g, S, h⟩ => ?_
  refine ⟨F, env, g, S, (RunS.bind (R := Rep C.K) h).imp fun x H1 ⟨F1, d1, g1, S1, gr1, r1, h1⟩ => ?_⟩
  exact h1 F1 H1 σ S1 (Sub.refl _) x r1
theorem fs_retN : FS X C E (.Return none pos) sRetN := ps_retN.impD fun D σ H ⟨F, env, g, S, h⟩ => h F H σ S (Sub.refl _) .non .non
theorem fs_expr (ha : FE X C E e fa) (hs : swapsWith e none pos.line X.env = pure false := by rfl) : FS X C E (.Expr e pos) (sExpr fa) := by
  refine (ps_expr ha hs).impD fun D σ H ⟨F, env, g, S, h⟩ => ?_
  refine ⟨F, env, g, S, (RunS.bind (R := Rep C.K) h).imp fun x H1 ⟨F1, d1, g1, S1, gr1, r1, h1⟩ => ?_⟩
  exact h1 F1 H1 σ S1 (Sub.refl _)
theorem fs_pass : FS X C E (.Pass pos) sSkip := ps_pass.impD fun D σ H ⟨F, env, g, S, h⟩ => h F H σ S (Sub.refl _)
theorem fs_break : FS X C E (.Break pos) sBrk := ps_break.impD fun D σ H ⟨F, env, g, S, h⟩ => h F H σ S (Sub.refl _)
theorem fs_cont : FS X C E (.Continue pos) sCont := ps_continue.impD fun D σ H ⟨F, env, g, S, h⟩ => h F H σ S (Sub.refl _)
/-- an own error class: what the text says of it -/
structure ECls (K : PySem.W.Frag) (mg : Str → Option Value) (x : Str) (A : Addr) : Prop where
  gC : mg x = some (.ref A)
  q : PySem.W.excIn K A [.type "ValueError", .type "Exception", .type "BaseException", .type "object"] "ValueError.__new__" = true
  kC : PySem.W.keepIn K (.ref A) = true
  s : PySem.W.subIn K (.ref A) (.type "BaseException") = some true
  ty : PySem.W.typeIn K (.ref A) = some (.type "type")
theorem pmk_own0 {A : Addr} (T : ECls X.K X.mg x A) (hg : Gl X x) (hdb : (x == ("__debug__" : Str)) = false := by decide) : PMk X (.Call (.Name x p) [] [] pos) (fun _ H Q => Q (.ref A) none H) := by
  intro pins s σ H Q I h
  refine wpAny_Call_Name_kw (ld_glob I hg T.gC ?_ hdb)
  refine PySem.W.callWith_K0 I.kIn T.kC ?_
  obtain ⟨bm, N, nm, qn, bs, hdct, sn, sub, ab, col, dd, k0, k1, k2, k3, k5, mN, hC, hN, hni, T'⟩ := exc_obj I.kIn T.q
  exact wpAny_call_exc_subT PySem.F.excBase_ValueError T' hC hN hni (fun h' e hm => mk_of I hm (raises_own T.s T.ty) h (I.hok.gone hm.new)) (Nat.zero_le _)
theorem fs_raise {A : Addr} {pos2 : Pos} (t : Ties X C (k + 1)) (tk : Takes X (fun c d _ H => E c d H)) (T : ECls X.K X.mg x A) (hg : Gl X x) (hdb : (x == ("__debug__" : Str)) = false := by decide) : FS X C E (.Raise (some (.Call (.Name x p) [] [] pos)) none pos2) (sRaise x) := by
  refine (ps_raise t.calm tk (pmk_own0 T hg hdb)).impD fun D σ H ⟨F, env, g, S, h⟩ => ?_
  exact h F H σ env S A (by rw [t.mg]; exact T.gC)
end
end DL

set_option Elab.async false
set_option linter.all false
set_option maxRecDepth 100000
set_option maxHeartbeats 2000000
namespace DL
open PySem PySem.Spec PyProof.Rows L2

/-! ### targets -/
abbrev BM := D → List Sl → Option (List Sl)
abbrev BMs := List D → List Sl → Option (List Sl)
def tG (C : Cz) (b : BM) (L : List Nat) : TG := fun v σ H Q => ∃ F env g d env', SOK C F H σ env g ∧ Rep C.K F v d ∧ b d env = some env' ∧
  ∀ σ' : L2.St, SOK C F H σ' env' g → σ'.length = σ.length → (∀ j : Nat, j ∉ L → σ'[j]? = σ[j]?) → Q σ' H
def tGs (C : Cz) (b : BMs) (L : List Nat) : TGs := fun vs σ H Q => ∃ F env g ds env', SOK C F H σ env g ∧ Reps C.K F vs ds ∧ b ds env = some env' ∧
  ∀ σ' : L2.St, SOK C F H σ' env' g → σ'.length = σ.length → (∀ j : Nat, j ∉ L → σ'[j]? = σ[j]?) → Q σ' H
abbrev FG (X : Cx) (C : Cz) (tg : Expr) (b : BM) (L : List Nat) : Prop := PG X tg (tG C b L)
abbrev FGs (X : Cx) (C : Cz) (tg : List Expr) (b : BMs) (L : List Nat) : Prop := PGs X tg (tGs C b L)
theorem _root_.L2.PG.impD {X : Cx} {tg : Expr} {t t' : TG} (h : PG X tg t) (q : ∀ v σ H Q, t' v σ H Q → t v σ H Q) : PG X tg t' := ⟨fun pins s σ H v u Q I r hw => h.run pins s σ H v u Q I r (q _ _ _ _ hw)⟩
theorem _root_.L2.PGs.impD {X : Cx} {tg : List Expr} {t t' : TGs} (h : PGs X tg t) (q : ∀ v σ H Q, t' v σ H Q → t v σ H Q) : PGs X tg t' := ⟨fun pins s σ H v u Q I r hw => h.run pins s σ H v u Q I r (q _ _ _ _ hw)⟩
def bName (i : Nat) : BM := fun d env => some (env.set i (.dat d))
def bNil : BMs := fun ds env => match ds with
  | [] => some env
  | _ => none
def bCons (b : BM) (r : BMs) : BMs := fun ds env => match ds with
  | d :: ds => (b d env).bind (r ds)
  | [] => none
def bTup (n : Nat) (r : BMs) : BM := fun d env => match d with
  | .tuple ds => if ds.length = n then r ds env else none
  | _ => none
section
variable {X : Cx} {C : Cz} {E : XK} {k i n : Nat} {tg e iter elt : Expr} {es : List Expr} {b : BM} {bs : BMs} {L L' : List Nat} {x : Str} {pos : Pos}
theorem fg_name (t : Ties X C k) (hi : X.N[i]? = some x) (hx : Loc X.env.scope x) (hf : X.fn x = true ∨ X.env.scope.names.lookup x = some .local := by first | exact .inl rfl | exact .inr rfl | assumption) : FG X C (.Name x pos) (bName i) [i] := by
  refine (pg_name t.nd hi hx hf).impD fun v σ H Q ⟨F, env, g, d, env', S, r, e, h⟩ => ?_
  cases e
  refine h _ (S.setDat r i) (by rw [List.length_set]) fun j hj => ?_
  rw [List.getElem?_set_ne (fun z => hj (by rw [z]; exact List.mem_cons_self))]
theorem fgs_nil : FGs X C [] bNil [] := pgs_nil.impD fun vs σ H Q ⟨F, env, g, ds, env', S, r, e, h⟩ => by
  cases r with
  | nil => cases e; exact ⟨rfl, h σ S rfl fun _ _ => rfl⟩
  | cons h1 h2 => cases e
theorem fgs_cons (h1 : FG X C e b L) (h2 : FGs X C es bs L') (hs : (assignEach (e :: es) X.env).map (·.2) = assign e X.env :: (assignEach es X.env).map (·.2) := by rfl) : FGs X C (e :: es) (bCons b bs) (L ++ L') := by
  refine (pgs_cons h1 h2 hs).impD fun vs σ H Q ⟨F, env, g, ds, env', S, r, e, h⟩ => ?_
  cases r with
  | nil => cases e
  | cons r1 r2 =>
    have e : Option.bind (b _ env) (bs _) = some env' := e
    rw [Option.bind_eq_some_iff] at e
    obtain ⟨env1, e1, e2⟩ := e
    refine ⟨_, _, rfl, F, env, g, _, env1, S, r1, e1, fun σ1 S1 l1 k1 => ?_⟩
    refine ⟨F, env1, g, _, env', S1, r2, e2, fun σ2 S2 l2 k2 => ?_⟩
    refine h σ2 S2 (l2.trans l1) fun j hj => ?_
    rw [List.mem_append, not_or] at hj
    rw [k2 j hj.2, k1 j hj.1]
theorem fg_tup {kk : Nat} (t : Ties X C (k + 1)) (h : FGs X C es bs L) (hn : (assignEach es X.env).length = n := by rfl) (hst : (assignEach es X.env).findIdx? (·.1) = none := by rfl) : FG X C (.Tuple es kk pos) (bTup n bs) L := by
  refine (pg_tup t.calm h hn hst).impD fun v σ H Q ⟨F, env, g, d, env', S, r, e, h⟩ => ?_
  cases d with
  | tuple ds =>
    have e : (if ds.length = n then bs ds env else none) = some env' := e
    split at e
    · rename_i hl
      obtain ⟨a, xs, rfl, h1, h2⟩ := r.tup_inv
      exact ⟨a, xs, rfl, by rw [← t.K]; exact S.sub.sqT h1, by rw [h2.length]; exact hl, F, env, g, ds, env', S, h2, e, h⟩
    · cases e
  | _ => cases e

/-! ### what is walked -/
def Walks (K : PySem.W.Frag) (F : Hp) (J : It) (ds : List D) : Prop := ∀ i F' H', Sub F F' → Sub F' H' →
  (∀ d, ds[i]? = some d → J.go i H' ∧ ∀ x H'', J.yld i H' x H'' → ∃ F'', Laid F' H' F'' H'' ∧ Rep K F'' x d) ∧ (i = ds.length → J.stop i H')
abbrev FI (X : Cx) (C : Cz) (E : XK) (tg iter : Expr) (f : EM (List D)) : Prop := PI X tg iter (tM C E (Walks C.K) f)
theorem _root_.L2.PI.impD {X : Cx} {tg iter : Expr} {t t' : TI} (h : PI X tg iter t) (q : ∀ σ H R, t' σ H R → t σ H R) : PI X tg iter t' := ⟨fun pins s σ H Q I hw => h.run pins s σ H Q I (q _ _ _ hw)⟩
def itemsD : D → Option (List D)
  | .list ds => some ds
  | .tuple ds => some ds
  | .str z => some (z.cps.toList.map fun c => .str ⟨#[c]⟩)
  | _ => none
def iSeq (a : EM D) : EM (List D) := fun env g => (a env g).bind fun d g => Out.of (itemsD d) g
theorem walks_list {K : PySem.W.Frag} {F : Hp} {a : Addr} {xs : List V} {ds : List D} (h : F a = some (.lst xs)) (r : Reps K F xs ds) : Walks K F (Itl K a) ds := fun i F' H' s1 s2 => by
  have hs : SqL K H' a xs := .inl (.inl (s2 _ _ (s1 _ _ h)))
  refine ⟨fun d e => ?_, fun hl => ⟨xs, hs, by rw [r.length]; exact Nat.le_of_eq hl.symm⟩⟩
  obtain ⟨v, h1, h2⟩ := r.get e
  refine ⟨⟨xs, v, hs, h1⟩, fun x H'' y => ?_⟩
  obtain ⟨e1, e2⟩ := y
  subst e1
  have := e2 xs hs
  rw [h1] at this
  cases this
  exact ⟨F', Laid.refl s2, h2.mono s1⟩
theorem walks_tup {K : PySem.W.Frag} {F : Hp} {a : Addr} {xs : List V} {ds : List D} (h : SqT K F a xs) (r : Reps K F xs ds) : Walks K F (Itt K a) ds := fun i F' H' s1 s2 => by
  have hs : SqT K H' a xs := s2.sqT (s1.sqT h)
  refine ⟨fun d e => ?_, fun hl => ⟨xs, hs, by rw [r.length]; exact Nat.le_of_eq hl.symm⟩⟩
  obtain ⟨v, h1, h2⟩ := r.get e
  refine ⟨⟨xs, v, hs, h1⟩, fun x H'' y => ?_⟩
  obtain ⟨e1, e2⟩ := y
  subst e1
  have := e2 xs hs
  rw [h1] at this
  cases this
  exact ⟨F', Laid.refl s2, h2.mono s1⟩
theorem walks_str {K : PySem.W.Frag} {F : Hp} (z : Str) : Walks K F (Its z) (z.cps.toList.map fun c => .str ⟨#[c]⟩) := fun i F' H' s1 s2 => by
  refine ⟨fun d e => ?_, fun hl => show z.cps.size ≤ i by subst hl; simp⟩
  rw [List.getElem?_map, Option.map_eq_some_iff] at e
  obtain ⟨c, e, rfl⟩ := e
  have hi : i < z.cps.size := by
    have := (List.getElem?_eq_some_iff.mp e).1
    simpa using this
  refine ⟨hi, fun x H'' y => ?_⟩
  obtain ⟨e1, c', e2, e3⟩ := y
  subst e1 e3
  have : c' = c := by
    have e' : z.cps[i]? = some c := by simpa using e
    rw [e'] at e2
    exact (Option.some.inj e2).symm
  subst this
  exact ⟨F', Laid.refl s2, .str _⟩
theorem fi_seq {fa : EM D} (t : Ties X C k) (ha : FE X C E iter fa) : FI X C E tg iter (iSeq fa) := by
  refine ⟨fun pins s σ H R I ⟨F, env, g, S, h⟩ => ?_⟩
  unfold iSeq at h
  have hb := Run.bind (R := Rep C.K) h
  cases q : fa env g with
  | stuck => rw [q] at hb; exact (show False from hb).elim
  | err c g1 => exact (pi_list ha).run pins s σ H R I ⟨F, env, g, S, by rw [q] at hb ⊢; exact hb⟩
  | ok d g1 =>
    rw [q] at hb
    cases d with
    | list ds =>
      refine (pi_list ha).run pins s σ H R I ⟨F, env, g, S, ?_⟩
      rw [q]
      intro F1 H1 v S1 gr1 r1
      obtain ⟨F2, d2, g2, S2, gr2, r2, h2⟩ := hb F1 H1 v S1 gr1 r1
      obtain ⟨a, xs, rfl, h3, h4⟩ := r1.list_inv
      refine ⟨a, rfl, ⟨xs, .inl (.inl (S1.sub _ _ h3))⟩, ?_⟩
      rw [q] at h
      rw [← t.K]
      exact h F1 H1 _ S1 gr1 (walks_list h3 h4)
    | tuple ds =>
      refine (pi_tup ha).run pins s σ H R I ⟨F, env, g, S, ?_⟩
      rw [q]
      intro F1 H1 v S1 gr1 r1
      obtain ⟨a, xs, rfl, h3, h4⟩ := r1.tup_inv
      refine ⟨a, rfl, ⟨xs, by rw [← t.K]; exact S1.sub.sqT h3⟩, ?_⟩
      rw [q] at h
      rw [← t.K]
      exact h F1 H1 _ S1 gr1 (walks_tup h3 h4)
    | str z =>
      refine (pi_str ha).run pins s σ H R I ⟨F, env, g, S, ?_⟩
      rw [q]
      intro F1 H1 v S1 gr1 r1
      cases r1.str_inv
      rw [q] at h
      exact ⟨z, rfl, h F1 H1 _ S1 gr1 (walks_str z)⟩
    | none => rw [q] at h; exact (show False from h).elim
    | bool _ => rw [q] at h; exact (show False from h).elim
    | int _ => rw [q] at h; exact (show False from h).elim
    | dict _ => rw [q] at h; exact (show False from h).elim
/-- lo, lo + c, .. (n of them) -/
def rngC (lo c : Int) (n : Nat) : List D := (List.range n).map fun i : Nat => .int (lo + (i : Int) * c)
def rng (lo : Int) (n : Nat) : List D := (List.range n).map fun i : Nat => .int (lo + (i : Int))
def okR (i : Int) : Bool := decide (i.natAbs.log2 < 62)
def iRange1 (a : EM (List D)) : EM (List D) := fun env g => (a env g).bind fun ds g => match ds with
  | [.int j] => if okR j = true then .ok (rng 0 j.toNat) g else .stuck
  | _ => .stuck
def iRange2 (a : EM (List D)) : EM (List D) := fun env g => (a env g).bind fun ds g => match ds with
  | [.int i, .int j] => if (okR i && okR j) = true then .ok (rng i (j - i).toNat) g else .stuck
  | _ => .stuck
theorem walks_rng {K : PySem.W.Frag} {F : Hp} (lo : Int) (n : Nat) : Walks K F (Itr lo n) (rng lo n) := fun i F' H' s1 s2 => by
  refine ⟨fun d e => ?_, fun hl => show n ≤ i by subst hl; simp [rng]⟩
  unfold rng at e
  rw [List.getElem?_map, Option.map_eq_some_iff] at e
  obtain ⟨c, e, rfl⟩ := e
  obtain ⟨hi, e'⟩ := List.getElem?_eq_some_iff.mp e
  rw [List.length_range] at hi
  rw [List.getElem_range] at e'
  subst e'
  refine ⟨hi, fun x H'' y => ?_⟩
  obtain ⟨e1, e2⟩ := y
  subst e1 e2
  exact ⟨F', Laid.refl s2, .int _⟩
theorem okR_iff' {i : Int} : okR i = true ↔ i.natAbs < 2 ^ 62 := by
  unfold okR
  rw [decide_eq_true_eq]
  by_cases z : i.natAbs = 0
  · rw [z]; decide
  · exact Nat.log2_lt z
theorem okR_lt {i : Int} (h : okR i = true) : -(2 ^ 62) ≤ i ∧ i < 2 ^ 62 := by
  rw [okR_iff'] at h
  constructor <;> omega
theorem okR_iff {i : Int} : okR i = true ↔ (-(2 ^ 62) < i ∧ i < 2 ^ 62) := by
  rw [okR_iff']
  omega
theorem fi_range1 {a : Expr} {fs : EM (List D)} {p : Pos} (hg : Gl X "range") (hm : X.mg "range" = none) (ha : FA X C E [a] fs) (hs : starEach [a] X.env = [(false, eval a X.env)] := by rfl) : FI X C E tg (.Call (.Name "range" p) [a] [] pos) (iRange1 fs) := by
  refine (pi_range1 hg hm ha hs).impD fun σ H R ⟨F, env, g, S, h⟩ => ?_
  refine ⟨F, env, g, S, (Run.bind (R := Reps C.K) h).imp fun xs H1 ⟨F1, ds, g1, S1, gr1, r1, h1⟩ => ?_⟩
  match ds, r1, h1 with
  | [.int j], r1, h1 =>
    obtain ⟨y, rfl, h0⟩ := r1.one
    cases h0.int_inv
    have h1 : Run C E (Walks C.K) F1 H1 σ env (if okR j = true then .ok (rng 0 j.toNat) g1 else .stuck) R := h1
    split at h1
    · rename_i hz
      rw [okR_iff] at hz
      exact ⟨j, rfl, Int.le_of_lt hz.1, hz.2, Run.val S1 h1 F1 H1 _ (Laid.refl S1.sub) (walks_rng _ _)⟩
    · exact (show False from h1).elim
theorem fi_range2 {a b : Expr} {fs : EM (List D)} {p : Pos} (hg : Gl X "range") (hm : X.mg "range" = none) (ha : FA X C E [a, b] fs) (hs : starEach [a, b] X.env = [(false, eval a X.env), (false, eval b X.env)] := by rfl) (hs2 : starEach [b] X.env = [(false, eval b X.env)] := by rfl) : FI X C E tg (.Call (.Name "range" p) [a, b] [] pos) (iRange2 fs) := by
  refine (pi_range2 hg hm ha hs hs2).impD fun σ H R ⟨F, env, g, S, h⟩ => ?_
  refine ⟨F, env, g, S, (Run.bind (R := Reps C.K) h).imp fun xs H1 ⟨F1, ds, g1, S1, gr1, r1, h1⟩ => ?_⟩
  match ds, r1, h1 with
  | [.int i, .int j], r1, h1 =>
    obtain ⟨y, z, rfl, h0, h2⟩ := r1.two
    cases h0.int_inv; cases h2.int_inv
    have h1 : Run C E (Walks C.K) F1 H1 σ env (if (okR i && okR j) = true then .ok (rng i (j - i).toNat) g1 else .stuck) R := h1
    split at h1
    · rename_i hz
      rw [Bool.and_eq_true, okR_iff, okR_iff] at hz
      exact ⟨i, j, rfl, ⟨Int.le_of_lt hz.1.1, hz.1.2, Int.le_of_lt hz.2.1, hz.2.2⟩, Run.val S1 h1 F1 H1 _ (Laid.refl S1.sub) (walks_rng _ _)⟩
    · exact (show False from h1).elim

/-! ### for, while -/
def forGo (tgt : BM) (body : SM) : List D → List Sl → G → Out (Fl × List Sl)
  | [], env, g => .ok (.next, env) g
  | d :: ds, env, g => match tgt d env with
    | none => .stuck
    | some env' => (body env' g).bind fun r g => match r with
      | (.next, env2) => forGo tgt body ds env2 g
      | (.cont, env2) => forGo tgt body ds env2 g
      | (.brk, env2) => .ok (.next, env2) g
      | (.ret d, env2) => .ok (.ret d, env2) g
      | (.new d, env2) => .ok (.new d, env2) g
def sFor (src : EM (List D)) (tgt : BM) (body : SM) : SM := fun env g => (src env g).bind fun ds g => forGo tgt body ds env g
theorem drop_cons {α : Type} {l : List α} {i : Nat} (h : i < l.length) : l.drop i = l[i] :: l.drop (i + 1) := List.drop_eq_getElem_cons h
theorem fs_for {src : EM (List D)} {body : List Stmt} {m : SM} (t : Ties X C (k + 1)) (hp : PassesOwn (model X.prog X.w) X.A X.env X.xe) (hi : FI X C E tg iter src) (hg : FG X C tg b L) (hb : FSs X C E body m)
    (hs : ∀ x, foldedSetIterable iter X.env x = pure x := by intro _; rfl) : FS X C E (.For tg iter body [] pos) (sFor src b m) := by
  refine (ps_for hp t.calm hi hg hb hs).impD fun D σ H ⟨F, env, g, S, h⟩ => ?_
  refine ⟨F, env, g, S, (RunS.bind (R := Walks C.K) h).imp fun J H1 ⟨F1, ds, g1, S1, gr1, w1, h1⟩ => ?_⟩
  refine ⟨fun i mm σ H => mm = ds.length - i ∧ i ≤ ds.length ∧ ∃ F env g, SOK C F H σ env g ∧ Sub F1 F ∧ RunS C E F (forGo b m (ds.drop i) env g) D, ⟨ds.length, by simp, Nat.zero_le _, F1, env, g1, S1, Sub.refl _, by rw [List.drop_zero]; exact h1⟩, ?_⟩
  rintro i mm σ2 H2 ⟨rfl, hi, F2, env2, g2, S2, sb2, h2⟩
  obtain ⟨wa, wb⟩ := w1 i F2 H2 sb2 S2.sub
  by_cases hlt : i < ds.length
  · rw [drop_cons hlt] at h2
    unfold forGo at h2
    obtain ⟨go, yl⟩ := wa _ (List.getElem?_eq_getElem hlt)
    refine .inr ⟨go, fun σ' H' => ∃ F env g, SOK C F H' σ' env g ∧ Sub F1 F ∧ RunS C E F (forGo b m (ds.drop (i + 1)) env g) D, fun σ' H' q => ⟨ds.length - (i + 1), by omega, rfl, hlt, q⟩, fun x H' y => ?_⟩
    obtain ⟨F3, ly, r3⟩ := yl x H' y
    have S3 := S2.laid ly
    cases q : b ds[i] env2 with
    | none => rw [q] at h2; exact (show False from h2).elim
    | some env3 =>
      rw [q] at h2
      refine ⟨F3, env2, g2, _, env3, S3, r3, q, fun σ4 S4 _ _ => ⟨F3, env3, g2, S4, ?_⟩⟩
      have h2 : RunS C E F2 ((m env3 g2).bind fun r g => match r with
        | (.next, env2) => forGo b m (ds.drop (i + 1)) env2 g
        | (.cont, env2) => forGo b m (ds.drop (i + 1)) env2 g
        | (.brk, env2) => .ok (.next, env2) g
        | (.ret d, env2) => .ok (.ret d, env2) g
        | (.new d, env2) => .ok (.new d, env2) g) D := h2
      cases q5 : m env3 g2 with
      | stuck => rw [q5] at h2; exact h2
      | err c g5 => rw [q5] at h2; exact h2
      | ok r g5 =>
        rw [q5] at h2
        obtain ⟨fl, env5⟩ := r
        intro F5 H5 σ5 S5 sb5
        cases fl with
        | next => exact ⟨F5, env5, g5, S5, (sb2.trans ly.frz).trans sb5, RunS.shift (ly.frz.trans sb5) h2⟩
        | cont => exact ⟨F5, env5, g5, S5, (sb2.trans ly.frz).trans sb5, RunS.shift (ly.frz.trans sb5) h2⟩
        | brk => exact h2 F5 H5 σ5 S5 (ly.frz.trans sb5)
        | ret d => exact h2 F5 H5 σ5 S5 (ly.frz.trans sb5)
        | new d => exact h2 F5 H5 σ5 S5 (ly.frz.trans sb5)
  · have e : i = ds.length := by omega
    subst e
    rw [List.drop_length] at h2
    exact .inl ⟨wb rfl, h2 F2 H2 σ2 S2 (Sub.refl _)⟩
def whileGo (c : EM Bool) (body : SM) : Nat → List Sl → G → Out (Fl × List Sl)
  | 0, _, _ => .stuck
  | n + 1, env, g => (c env g).bind fun x g => if x = true then (body env g).bind fun r g => match r with
      | (.next, env2) => whileGo c body n env2 g
      | (.cont, env2) => whileGo c body n env2 g
      | (.brk, env2) => .ok (.next, env2) g
      | (.ret d, env2) => .ok (.ret d, env2) g
      | (.new d, env2) => .ok (.new d, env2) g
    else .ok (.next, env) g
def sWhile (n : Nat) (c : EM Bool) (body : SM) : SM := fun env g => whileGo c body n env g
theorem fs_while {c : Expr} {bc : EM Bool} {body : List Stmt} {m : SM} (n : Nat) (hp : PassesOwn (model X.prog X.w) X.A X.env X.xe) (hc : FT X C E c bc) (hb : FSs X C E body m) : FS X C E (.While c body [] pos) (sWhile n bc m) := by
  refine (ps_while hp hc hb).impD fun D σ H ⟨F, env, g, S, h⟩ => ?_
  refine ⟨fun mm σ H => ∃ F env g, SOK C F H σ env g ∧ RunS C E F (whileGo bc m mm env g) D, ⟨n, F, env, g, S, h⟩, ?_⟩
  rintro mm σ2 H2 ⟨F2, env2, g2, S2, h2⟩
  cases mm with
  | zero => exact (show False from h2).elim
  | succ mm =>
    unfold whileGo at h2
    refine ⟨F2, env2, g2, S2, (RunS.bind (R := rB) h2).imp fun x H1 ⟨F3, d3, g3, S3, gr3, r3, h3⟩ => ?_⟩
    cases (show x = d3 from r3)
    cases x with
    | false => exact iteF (h3 F3 H1 σ2 S3 (Sub.refl _))
    | true =>
      refine iteT ⟨fun σ' H' => ∃ F env g, SOK C F H' σ' env g ∧ RunS C E F (whileGo bc m mm env g) D, fun σ' H' q => ⟨mm, Nat.lt_succ_self _, q⟩, F3, env2, g3, S3, ?_⟩
      have h3 : RunS C E F3 ((m env2 g3).bind fun r g => match r with
        | (.next, env2) => whileGo bc m mm env2 g
        | (.cont, env2) => whileGo bc m mm env2 g
        | (.brk, env2) => .ok (.next, env2) g
        | (.ret d, env2) => .ok (.ret d, env2) g
        | (.new d, env2) => .ok (.new d, env2) g) D := h3
      cases q5 : m env2 g3 with
      | stuck => rw [q5] at h3; exact h3
      | err c g5 => rw [q5] at h3; exact h3
      | ok r g5 =>
        rw [q5] at h3
        obtain ⟨fl, env5⟩ := r
        intro F5 H5 σ5 S5 sb5
        cases fl with
        | next => exact ⟨F5, env5, g5, S5, RunS.shift sb5 h3⟩
        | cont => exact ⟨F5, env5, g5, S5, RunS.shift sb5 h3⟩
        | brk => exact h3 F5 H5 σ5 S5 sb5
        | ret d => exact h3 F5 H5 σ5 S5 sb5
        | new d => exact h3 F5 H5 σ5 S5 sb5
/-- target = value, any target -/
def sAsg (b : BM) (a : EM D) : SM := fun env g => (a env g).bind fun d g => match b d env with
  | some env' => .ok (.next, env') g
  | none => .stuck
theorem fs_asg {fa : EM D} (ha : FE X C E e fa) (hg : FG X C tg b L) (hs : swapsWithSole [tg] e pos.line X.env = pure false := by rfl) (hw : swappedStores [tg] e X.env = pure none := by rfl) (h1 : (assignEach [tg] X.env).map (·.2) = [assign tg X.env] := by rfl) : FS X C E (.Assign [tg] e pos) (sAsg b fa) := by
  refine (ps_asg ha hg hs hw h1).impD fun D σ H ⟨F, env, g, S, h⟩ => ?_
  refine ⟨F, env, g, S, (RunS.bind (R := Rep C.K) h).imp fun x H1 ⟨F1, d1, g1, S1, gr1, r1, h1⟩ => ?_⟩
  cases q : b d1 env with
  | none =>
    have h1 : RunS C E F1 (match b d1 env with
      | some env' => .ok (.next, env') g1
      | none => .stuck) D := h1
    rw [q] at h1; exact (show False from h1).elim
  | some env' =>
    have h1 : RunS C E F1 (match b d1 env with
      | some env' => .ok (.next, env') g1
      | none => .stuck) D := h1
    rw [q] at h1
    exact ⟨F1, env, g1, d1, env', S1, r1, q, fun σ' S' _ _ => h1 F1 H1 σ' S' (Sub.refl _)⟩
/-- a, b = x, y by the swapped stores -/
def sPar (i j : Nat) (a : EM (List D)) : SM := fun env g => (a env g).bind fun ds g => match ds with
  | [d, e] => .ok (.next, (env.set i (.dat d)).set j (.dat e)) g
  | _ => .stuck
theorem fs_par {j : Nat} {y : Str} {a b : Expr} {fs : EM (List D)} {px py pt : Pos} {kt k2 pt2} (t : Ties X C (k + 1)) (hi : X.N[i]? = some x) (hj : X.N[j]? = some y) (hij : i ≠ j)
    (hx : X.env.scope.names.lookup x = some .local) (hy : X.env.scope.names.lookup y = some .local) (ha : FA X C E [a, b] fs)
    (hw : swappedStores [.Tuple [.Name x px, .Name y py] kt pt] (.Tuple [a, b] k2 pt2) X.env = pure (some [x, y]))
    (hs : swapsWithSole [.Tuple [.Name x px, .Name y py] kt pt] (.Tuple [a, b] k2 pt2) pos.line X.env = pure false := by rfl) :
    FS X C E (.Assign [.Tuple [.Name x px, .Name y py] kt pt] (.Tuple [a, b] k2 pt2) pos) (sPar i j fs) := by
  refine (ps_par t.calm t.nd hi hj hij hx hy ha hw hs).impD fun D σ H ⟨F, env, g, S, h⟩ => ?_
  refine ⟨F, env, g, S, (RunS.bind (R := Reps C.K) h).imp fun xs H1 ⟨F1, ds, g1, S1, gr1, r1, h1⟩ => ?_⟩
  match ds, r1, h1 with
  | [d, e], r1, h1 =>
    obtain ⟨v, w, rfl, h2, h3⟩ := r1.two
    exact ⟨v, w, rfl, h1 F1 H1 _ ((S1.setDat h2 i).setDat h3 j) (Sub.refl _)⟩
theorem fs_aug {o : Operator} {op : D → D → Option D} {fa : EM D} {pos' : Pos} (t : Ties X C k) (hi : X.N[i]? = some x) (hx : Loc X.env.scope x) (ha : FE X C E e fa) (hop : PIp X o (fun x y H Q => rO C op x y H Q)) (hf : X.fn x = true ∨ X.env.scope.names.lookup x = some .local := by first | exact .inl rfl | exact .inr rfl | assumption) :
    FS X C E (.AugAssign (.Name x pos') o e pos) (sAug i op fa) := by
  refine (ps_aug t.nd hi hx ha hop hf).impD fun D σ H ⟨F, env, g, S, h⟩ => ?_
  unfold sAug at h
  cases q : env[i]? with
  | none => rw [q] at h; exact (show False from h).elim
  | some sl =>
    rw [q] at h
    cases sl with
    | dat d =>
      obtain ⟨x, h1, v, rfl, r⟩ := S.slot i _ q
      refine ⟨v, h1, F, env, g, S, (RunS.bind (R := Rep C.K) h).imp fun y H1 ⟨F1, d1, g1, S1, gr1, r1, h2⟩ => ?_⟩
      cases q2 : op d d1 with
      | none =>
        have h2 : RunS C E F1 (match op d d1 with
          | some z => .ok (.next, env.set i (.dat z)) g1
          | none => .stuck) D := h2
        rw [q2] at h2; exact (show False from h2).elim
      | some z =>
        have h2 : RunS C E F1 (match op d d1 with
          | some z => .ok (.next, env.set i (.dat z)) g1
          | none => .stuck) D := h2
        rw [q2] at h2
        exact ⟨F1, d, d1, z, S1.sub, r.mono gr1.frz, r1, q2, fun F' H' w l rw' => h2 F' H' _ ((S1.laid l).setDat rw' i) l.frz⟩
    | un => exact (show False from h).elim
    | own ds => exact (show False from h).elim
    | hand => exact (show False from h).elim
    | fn a => exact (show False from h).elim
    | scr a => exact (show False from h).elim
    | ownd _ a => exact (show False from h).elim
def addI : D → D → Option D
  | .int i, .int j => some (.int (i + j))
  | _, _ => none
def subI : D → D → Option D
  | .int i, .int j => some (.int (i - j))
  | _, _ => none
theorem ipAdd (t : Ties X C k) : PIp X .Add (rO C addI) := by
  intro pins s σ H x y v u Q I rx ry h
  obtain ⟨F, d, e, z, sb, rd, re, hg, q⟩ := h
  unfold addI at hg
  split at hg
  · cases rd.int_inv; cases re.int_inv
    cases hg
    exact ip_add pins s σ H _ _ v u Q I rx ry ⟨_, _, rfl, rfl, q F H _ (Laid.refl sb) (.int _)⟩
  · cases hg
theorem ipSub (t : Ties X C k) : PIp X .Sub (rO C subI) := by
  intro pins s σ H x y v u Q I rx ry h
  obtain ⟨F, d, e, z, sb, rd, re, hg, q⟩ := h
  unfold subI at hg
  split at hg
  · cases rd.int_inv; cases re.int_inv
    cases hg
    exact ip_sub pins s σ H _ _ v u Q I rx ry ⟨_, _, rfl, rfl, q F H _ (Laid.refl sb) (.int _)⟩
  · cases hg
end
end DL

set_option Elab.async false
set_option linter.all false
set_option maxRecDepth 100000
set_option maxHeartbeats 2000000
namespace DL
open PySem PySem.Spec PyProof.Rows L2

/-! ### comprehensions -/
def Out.noerr {α : Type} : Out α → Out α
  | .ok a g => .ok a g
  | _ => .stuck
def wipeE (env : List Sl) : List Nat → List Sl
  | [] => env
  | v :: vs => (wipeE env vs).set v .un
theorem wipe_at (σ : L2.St) (j : Nat) : ∀ vs : List Nat, (wipe σ vs)[j]? = if j ∈ vs then (σ[j]?).map (fun _ => none) else σ[j]?
  | [] => by simp [wipe]
  | v :: vs => by
    unfold wipe
    rw [List.getElem?_set]
    have ih := wipe_at σ j vs
    by_cases h : v = j
    · subst h
      rw [if_pos rfl, wipe_length, if_pos (List.mem_cons_self)]
      by_cases hl : v < σ.length
      · rw [if_pos hl, List.getElem?_eq_getElem hl]; rfl
      · rw [if_neg hl, List.getElem?_eq_none (by omega)]; rfl
    · rw [if_neg h, ih]
      simp only [List.mem_cons]
      by_cases hm : j ∈ vs
      · rw [if_pos hm, if_pos (.inr hm)]
      · rw [if_neg hm, if_neg (fun z => z.elim (fun e => h e.symm) hm)]
theorem wipeE_at (σ : List Sl) (j : Nat) : ∀ vs : List Nat, (wipeE σ vs)[j]? = if j ∈ vs then (σ[j]?).map (fun _ => Sl.un) else σ[j]?
  | [] => by simp [wipeE]
  | v :: vs => by
    have hl : ∀ vs : List Nat, (wipeE σ vs).length = σ.length := fun vs => by
      induction vs with
      | nil => rfl
      | cons v vs ih => unfold wipeE; rw [List.length_set, ih]
    unfold wipeE
    rw [List.getElem?_set]
    have ih := wipeE_at σ j vs
    by_cases h : v = j
    · subst h
      rw [if_pos rfl, hl, if_pos (List.mem_cons_self)]
      by_cases hl : v < σ.length
      · rw [if_pos hl, List.getElem?_eq_getElem hl]; rfl
      · rw [if_neg hl, List.getElem?_eq_none (by omega)]; rfl
    · rw [if_neg h, ih]
      simp only [List.mem_cons]
      by_cases hm : j ∈ vs
      · rw [if_pos hm, if_pos (.inr hm)]
      · rw [if_neg hm, if_neg (fun z => z.elim (fun e => h e.symm) hm)]
theorem wipeE_length (σ : List Sl) : ∀ vs : List Nat, (wipeE σ vs).length = σ.length := fun vs => by
  induction vs with
  | nil => rfl
  | cons v vs ih => unfold wipeE; rw [List.length_set, ih]
theorem wipe_same {σ σ' : L2.St} {vs L : List Nat} (h : ∀ j : Nat, j ∉ L → σ'[j]? = (wipe σ vs)[j]?) (hl : σ'.length = (wipe σ vs).length) (hL : ∀ j ∈ L, j ∈ vs) : wipe σ' vs = wipe σ vs := by
  apply List.ext_getElem?
  intro j
  rw [wipe_at, wipe_at]
  rw [wipe_length] at hl
  by_cases hj : j ∈ vs
  · rw [if_pos hj, if_pos hj]
    by_cases hlt : j < σ.length
    · rw [List.getElem?_eq_getElem hlt, List.getElem?_eq_getElem (by omega)]; rfl
    · rw [List.getElem?_eq_none (by omega), List.getElem?_eq_none (by omega)]
  · rw [if_neg hj, if_neg hj, h j (fun z => hj (hL j z)), wipe_at, if_neg hj]
section
variable {C : Cz} {F H F' H' : Hp} {σ σ2 : L2.St} {env env2 : List Sl} {g g' : G} {vs : List Nat}
theorem SOK.wiped (S : SOK C F H σ env g) (vs : List Nat) : SOK C F H (wipe σ vs) (wipeE env vs) g where
  grow := S.grow
  sub := S.sub
  ntb := S.ntb
  tabs := S.tabs
  hand := S.hand
  len := by rw [wipe_length, wipeE_length]; exact S.len
  slot := fun j sl e => by
    rw [wipeE_at] at e
    rw [wipe_at]
    by_cases hj : j ∈ vs
    · rw [if_pos hj] at e ⊢
      rw [Option.map_eq_some_iff] at e
      obtain ⟨sl', e1, rfl⟩ := e
      obtain ⟨x, h1, _⟩ := S.slot j sl' e1
      exact ⟨none, by rw [h1]; rfl, trivial⟩
    · rw [if_neg hj] at e ⊢
      exact S.slot j sl e
  apart := fun p q a ds ds' e1 e2 o1 o2 e3 e4 => by
    rw [wipeE_at] at e1 e2
    rw [wipe_at] at e3 e4
    by_cases hp : p ∈ vs
    · rw [if_pos hp, Option.map_eq_some_iff] at e1
      obtain ⟨_, _, z⟩ := e1
      subst z
      cases o1
    · by_cases hq : q ∈ vs
      · rw [if_pos hq, Option.map_eq_some_iff] at e2
        obtain ⟨_, _, z⟩ := e2
        subst z
        cases o2
      · rw [if_neg hp] at e1 e3
        rw [if_neg hq] at e2 e4
        exact S.apart p q a ds ds' e1 e2 o1 o2 e3 e4
/-- the same slots, later -/
theorem SOK.regrow (S : SOK C F H σ env g) (gr : Grow C.ha F H F' H') (S2 : SOK C F' H' σ2 env2 g') : SOK C F' H' σ env g' where
  grow := S2.grow
  sub := S2.sub
  ntb := S2.ntb
  tabs := S2.tabs
  hand := S2.hand
  len := S.len
  slot := S.slots gr
  apart := S.apart
/-- a new object that is not frozen yet: laid, changed -/
theorem SOK.poke (S : SOK C F H σ env g) {p : Addr} {xs : List V} (hF : F p = none) (h0 : C.H₀ p = none) (hp : ∀ ps, H p ≠ some (.tbl ps)) (hx : ∀ φ, H p ≠ some (.ext φ)) (no : NoO σ env p) : SOK C F (upd H p (.lst xs)) σ env g where
  grow := ⟨fun b o h n t => by
      rw [upd_ne (fun z => by subst z; rw [h0] at h; cases h)]
      exact S.grow.keep b o h n t, S.grow.frz, S.grow.new, fun b h => by
      by_cases z : b = p
      · rw [z]; exact h0
      · rw [upd_ne z] at h; exact S.grow.there b h⟩
  sub := fun b o e => by
    rw [upd_ne (fun z => by subst z; rw [hF] at e; cases e)]
    exact S.sub b o e
  ntb := S.ntb
  tabs := fun q hq => by
    obtain ⟨ps, h1, h2, h3⟩ := S.tabs q hq
    refine ⟨ps, by rw [upd_ne (fun z => hp ps (by rw [← z]; exact h1))]; exact h1, h2, fun pos cv hc => ?_⟩
    obtain ⟨c, e1, e2⟩ := h3 pos cv hc
    exact ⟨c, e1, by rw [upd_ne (fun z => hx _ (by rw [← z]; exact e2))]; exact e2⟩
  hand := fun a e => by
    obtain ⟨h1, ⟨h2, h3⟩, h4⟩ := S.hand a e
    exact ⟨h1, ⟨by rw [upd_ne (fun z => h4 (by rw [z]; exact h0))]; exact h2, h3⟩, h4⟩
  len := S.len
  slot := fun i sl e => by
    obtain ⟨x, h1, h2⟩ := S.slot i sl e
    refine ⟨x, h1, ?_⟩
    cases sl with
    | own ds =>
      obtain ⟨a, vs, rfl, h4, h5, h6, h7⟩ := h2
      exact ⟨a, vs, rfl, h4, h5, by rw [upd_ne (fun z => no i _ e rfl (by rw [h1, z]))]; exact h6, h7⟩
    | ownd _ kvs =>
      obtain ⟨a, o, rfl, h4, h5, h6, h7⟩ := h2
      exact ⟨a, o, rfl, h4, h5, by rw [upd_ne (fun z => no i _ e rfl (by rw [h1, z]))]; exact h6, h7⟩
    | un => trivial
    | dat d => exact h2
    | hand => exact h2
    | fn a => exact h2
    | scr a => exact h2
  apart := S.apart
/-- .. frozen -/
theorem SOK.freeze (S : SOK C F H σ env g) {p : Addr} {o : HO} (hF : F p = none) (h0 : C.H₀ p = none) (hp : H p = some o) (t : notT o) (no : NoO σ env p) : SOK C (upd F p o) H σ env g where
  grow := ⟨S.grow.keep, S.grow.frz.trans (sub_upd hF), fun b h n => by
      by_cases z : b = p
      · rw [z]; exact h0
      · rw [upd_ne z] at n; exact S.grow.new b h n, S.grow.there⟩
  sub := fun b u e => by
    by_cases z : b = p
    · subst z; rw [upd_same] at e; cases e; exact hp
    · rw [upd_ne z] at e; exact S.sub b u e
  ntb := fun b u e => by
    by_cases z : b = p
    · subst z; rw [upd_same] at e; cases e; exact t
    · rw [upd_ne z] at e; exact S.ntb b u e
  tabs := S.tabs
  hand := fun a e => by
    obtain ⟨h1, h2, h4⟩ := S.hand a e
    exact ⟨by rw [upd_ne (fun z => h4 (by rw [z]; exact h0))]; exact h1, h2, h4⟩
  len := S.len
  slot := fun i sl e => by
    obtain ⟨x, h1, h2⟩ := S.slot i sl e
    refine ⟨x, h1, ?_⟩
    cases sl with
    | own ds =>
      obtain ⟨a, vs, rfl, h4, h5, h6, h7⟩ := h2
      exact ⟨a, vs, rfl, by rw [upd_ne (fun z => no i _ e rfl (by rw [h1, z]))]; exact h4, h5, h6, h7.mono (sub_upd hF)⟩
    | ownd _ kvs =>
      obtain ⟨a, o, rfl, h4, h5, h6, h7⟩ := h2
      exact ⟨a, o, rfl, by rw [upd_ne (fun z => no i _ e rfl (by rw [h1, z]))]; exact h4, h5, h6, h7.mono (sub_upd hF)⟩
    | un => trivial
    | dat d => obtain ⟨v, h3, h4⟩ := h2; exact ⟨v, h3, h4.mono (sub_upd hF)⟩
    | hand => exact h2
    | fn a => exact h2
    | scr ns => obtain ⟨b, k1, k2⟩ := h2; exact ⟨b, k1, Sub.sqL (sub_upd hF) k2⟩
  apart := S.apart
theorem SOK.noOwn (S : SOK C F H σ env g) {p : Addr} (h : H p = none) : NoO σ env p := fun i sl e w z => by
  obtain ⟨x, h1, h0⟩ := S.slot i _ e
  obtain ⟨a, vs, h2, _, _, h3, _⟩ := h0.own w
  rw [z] at h1
  cases h1
  cases h2
  rw [h] at h3; cases h3
end
section
variable {α β γ δ : Type} {C : Cz} {E : XK} {R : Hp → β → α → Prop} {R2 : Hp → δ → γ → Prop} {F H : Hp} {σ σ2 : L2.St} {env env2 : List Sl} {o : Out α}
/-- a part whose errors are not let out, read at other slots; what follows it is the caller's -/
theorem Run.inner {k : α → G → Out γ} {Q : δ → Hp → Prop} (h : Run C E R2 F H σ env (o.noerr.bind k) Q) :
    Run C E0 R F H σ2 env2 o fun v H1 => ∃ F1 d g1, SOK C F1 H1 σ2 env2 g1 ∧ Grow C.ha F H F1 H1 ∧ R F1 v d ∧ Run C E R2 F H σ env (k d g1) Q := by
  cases o with
  | ok d g => exact fun F' H' v s gr r => ⟨F', d, g, s, gr, r, h⟩
  | err c g => exact (show False from h).elim
  | stuck => exact h
end
def lcGo (tgt : BM) (tst : EM Bool) (elt : EM D) (env : List Sl) : List D → G → Out (List D)
  | [], g => .ok [] g
  | d :: ds, g => match tgt d env with
    | none => .stuck
    | some env' => (tst env' g).noerr.bind fun b g => if b = true then (elt env' g).noerr.bind fun y g => (lcGo tgt tst elt env ds g).bind fun ys g => .ok (y :: ys) g else lcGo tgt tst elt env ds g
def eLcL (vs : List Nat) (src : EM (List D)) (tgt : BM) (tst : EM Bool) (elt : EM D) : EM (List D) := fun env g => (src env g).bind fun ds g => if ds.length < sizeLine then lcGo tgt tst elt (wipeE env vs) ds g else .stuck
def eLc (vs : List Nat) (src : EM (List D)) (tgt : BM) (tst : EM Bool) (elt : EM D) : EM D := fun env g => (eLcL vs src tgt tst elt env g).bind fun ys g => .ok (.list ys) g
theorem bind_assoc {α β γ : Type} (o : Out α) (f : α → G → Out β) (h : β → G → Out γ) : (o.bind f).bind h = o.bind fun a g => (f a g).bind h := by
  cases o <;> rfl
theorem SOK.hand_ne {C : Cz} {F H F' H' : Hp} {σ : L2.St} {env : List Sl} {g : G} (S : SOK C F H σ env g) {p : Addr} (h : H p = none) : C.ha ≠ some p := fun e => by
  obtain ⟨_, ⟨h2, _⟩, _⟩ := S.hand p e
  rw [h] at h2; cases h2
def tLcP (C : Cz) (E : XK) (f : EM (List D)) : TE := fun σ H Q => ∃ F env g, SOK C F H σ env g ∧
  Run C E (fun F' v ds => ∃ p xs, v = V.ref p ∧ F' p = none ∧ C.H₀ p = none ∧ Reps C.K F' xs ds) F H σ env (f env g) (fun v H1 => True) 
/-- what is wanted of a list that is new and not yet frozen: its place, the heap -/
def RunN (C : Cz) (E : XK) (F H : Hp) (σ : L2.St) (env : List Sl) (o : Out (List D)) (Q : V → Hp → Prop) : Prop :=
  match o with
  | .ok ds g => ∀ F' H' p xs, SOK C F' H' σ env g → Grow C.ha F H F' H' → F' p = none → H p = none → H' p = some (.lst xs) → Reps C.K F' xs ds → NoO σ env p → Q (.ref p) H'
  | .err c g => ∀ F' H', SOK C F' H' σ env g → Grow C.ha F H F' H' → Er C E c H'
  | .stuck => False
def tN (C : Cz) (E : XK) (f : EM (List D)) : TE := fun σ H Q => ∃ F env g, SOK C F H σ env g ∧ RunN C E F H σ env (f env g) Q
/-- a list that is new -/
abbrev FN (X : Cx) (C : Cz) (E : XK) (e : Expr) (f : EM (List D)) : Prop := PE X e (tN C E f)
theorem fe_new {X : Cx} {C : Cz} {E : XK} {e : Expr} {f : EM (List D)} (h : FN X C E e f) : FE X C E e (fun env g => (f env g).bind fun ys g => .ok (.list ys) g) := by
  refine h.impD fun σ H Q ⟨F, env, g, S, h⟩ => ?_
  refine ⟨F, env, g, S, ?_⟩
  have h : Run C E (Rep C.K) F H σ env ((f env g).bind fun ys g => .ok (.list ys) g) Q := h
  cases q : f env g with
  | stuck => rw [q] at h; exact h
  | err c g1 => rw [q] at h; exact h
  | ok ds g1 =>
    rw [q] at h
    intro F' H' p xs S' gr hF h0 hp r no
    have n0 : C.H₀ p = none := S.grow.there p h0
    refine h (upd F' p (.lst xs)) H' (.ref p) (S'.freeze hF n0 hp notT_lst no) ⟨gr.keep, gr.frz.trans (sub_upd hF), fun b e n => ?_, gr.there⟩ (.lst upd_same (r.mono (sub_upd hF)))
    by_cases z : b = p
    · rw [z]; exact h0
    · rw [upd_ne z] at n; exact gr.new b e n
section
variable {X : Cx} {C : Cz} {E : XK} {k i : Nat} {elt tg iter : Expr} {ifs : List Expr} {scope : Scope} {own : List (Str × Nat)} {pos : Pos} {src : EM (List D)} {b : BM} {L : List Nat} {tst : EM Bool} {el : EM D}
theorem Ties.blk (t : Ties X C k) {s : Shared} {H : Hp} {sc : Scope} {c : Addr} {cl : List (Str × Addr)} {fp : List Addr} : Ties (X.blk s H sc (compEnvC sc cl c X.env) fp) C k := ⟨t.K, t.mg, t.nd, t.hu, t.gd, t.calm0, t.room0⟩
/-- the reading of a list comprehension, from the mirror's -/
theorem lc_read {σ : L2.St} {H : Hp} {Q : VK} (hL : ∀ j ∈ L, j ∈ own.map (·.2)) (h : tN C E (eLcL (own.map (·.2)) src b tst el) σ H Q) :
    tLc (tM C E (Walks C.K) src) (tG C b L) (tM C E0 rB tst) (tM C E0 (Rep C.K) el) (own.map (·.2)) σ H Q := by
  obtain ⟨F, env, g, S, h⟩ := h
  unfold eLcL at h
  refine ⟨F, env, g, S, ?_⟩
  cases q : src env g with
  | stuck => rw [q] at h; exact (show False from h).elim
  | err c g1 => rw [q] at h; exact h
  | ok ds g1 =>
    rw [q] at h
    have h : RunN C E F H σ env (if ds.length < sizeLine then lcGo b tst el (wipeE env (own.map (·.2))) ds g1 else .stuck) Q := h
    intro F1 H1 J S1 gr1 w1 D hD
    split at h
    rotate_left
    · exact (show False from h).elim
    rename_i hz
    have nD := S1.noOwn hD
    have h0 : C.H₀ D = none := S1.grow.there D hD
    have hF1 : F1 D = none := S1.sub.free hD
    have hH : H D = none := gr1.there D hD
    have hha : C.ha ≠ some D := S1.hand_ne (F' := F1) (H' := H1) hD
    refine ⟨fun i mm H' => mm = ds.length - i ∧ i ≤ ds.length ∧ ∃ F2 g2 acc accV, SOK C F2 H' σ env g2 ∧ Grow C.ha F1 H1 F2 H' ∧ F2 D = none ∧ H' D = some (.lst accV) ∧ Reps C.K F2 accV acc ∧ acc.length ≤ i ∧
      RunN C E F H σ env ((lcGo b tst el (wipeE env (own.map (·.2))) (ds.drop i) g2).bind fun ys g => .ok (acc ++ ys) g) Q, ⟨ds.length, by simp, Nat.zero_le _, F1, g1, [], [], ?_, ?_, hF1, upd_same, .nil, Nat.le_refl _, ?_⟩, ?_⟩
    · exact S1.poke hF1 h0 (fun ps z => by rw [hD] at z; cases z) (fun φ z => by rw [hD] at z; cases z) nD
    · exact (Laid.mk (sub_upd hD) (Sub.refl _) (S1.sub.trans (sub_upd hD)) (fun _ a n => absurd a n) (fun _ _ a e => by rw [a] at e; cases e)).grow
    · rw [List.drop_zero]
      cases q2 : lcGo b tst el (wipeE env (own.map (·.2))) ds g1 with
      | ok ys g => rw [q2] at h; exact h
      | err c g => rw [q2] at h; exact h
      | stuck => rw [q2] at h; exact h
    · rintro i mm H2 ⟨rfl, hi, F2, g2, acc, accV, S2, gr2, fD, hD2, rA, hl, h2⟩
      obtain ⟨wa, wb⟩ := w1 i F2 H2 gr2.frz S2.sub
      by_cases hlt : i < ds.length
      · rw [drop_cons hlt] at h2
        unfold lcGo at h2
        obtain ⟨go, yl⟩ := wa _ (List.getElem?_eq_getElem hlt)
        refine .inr ⟨go, fun H' => ∃ F2 g2 acc accV, SOK C F2 H' σ env g2 ∧ Grow C.ha F1 H1 F2 H' ∧ F2 D = none ∧ H' D = some (.lst accV) ∧ Reps C.K F2 accV acc ∧ acc.length ≤ i + 1 ∧
          RunN C E F H σ env ((lcGo b tst el (wipeE env (own.map (·.2))) (ds.drop (i + 1)) g2).bind fun ys g => .ok (acc ++ ys) g) Q, fun H' qq => ⟨ds.length - (i + 1), by omega, rfl, hlt, qq⟩, fun x H' y => ?_⟩
        obtain ⟨F3, ly, r3⟩ := yl x H' y
        have S3 := S2.laid ly
        cases q3 : b ds[i] (wipeE env (own.map (·.2))) with
        | none => rw [q3] at h2; exact (show False from h2).elim
        | some env3 =>
          rw [q3] at h2
          refine ⟨F3, wipeE env (own.map (·.2)), g2, _, env3, S3.wiped _, r3, q3, fun σ4 S4 l4 k4 => ⟨wipe_same k4 l4 hL, ?_⟩⟩
          have fD3 : F3 D = none := by
            cases z : F3 D with
            | none => rfl
            | some o =>
              have := ly.new D fD (by rw [z]; simp)
              rw [hD2] at this; cases this
          have hD3 : H' D = some (.lst accV) := ly.keep _ _ hD2
          have gr3 : Grow C.ha F1 H1 F3 H' := gr2.trans ly.grow
          rw [bind_assoc] at h2
          refine ⟨F3, env3, g2, S4, ?_⟩
          cases qt : tst env3 g2 with
          | stuck => rw [qt] at h2; exact h2
          | err c g5 => rw [qt] at h2; exact (show False from h2).elim
          | ok bb g5 =>
            rw [qt] at h2
            intro F5 H5 vb S5 gr5 rb
            cases (show vb = bb from rb)
            have fD5 : F5 D = none := by
              cases z : F5 D with
              | none => rfl
              | some o =>
                have := gr5.new D fD3 (by rw [z]; simp)
                rw [hD3] at this; cases this
            have hD5 : H5 D = some (.lst accV) := gr5.keep _ _ hD3 hha notT_lst
            have S5' : SOK C F5 H5 σ env g5 := S3.regrow gr5 S5
            have gr5' := gr3.trans gr5
            cases bb with
            | false =>
              refine iteF ⟨F5, g5, acc, accV, S5', gr5', fD5, hD5, rA.mono (ly.frz.trans gr5.frz), by omega, h2⟩
            | true =>
              have h2 : RunN C E F H σ env (((el env3 g5).noerr.bind fun y g => (lcGo b tst el (wipeE env (own.map (·.2))) (ds.drop (i + 1)) g).bind fun ys g => .ok (y :: ys) g).bind fun ys g => .ok (acc ++ ys) g) Q := h2
              rw [bind_assoc] at h2
              refine iteT ⟨F5, env3, g5, S5, ?_⟩
              cases qe : el env3 g5 with
              | stuck => rw [qe] at h2; exact h2
              | err c g6 => rw [qe] at h2; exact (show False from h2).elim
              | ok y6 g6 =>
                rw [qe] at h2
                intro F6 H6 v6 S6 gr6 r6
                have fD6 : F6 D = none := by
                  cases z : F6 D with
                  | none => rfl
                  | some o =>
                    have := gr6.new D fD5 (by rw [z]; simp)
                    rw [hD5] at this; cases this
                have hD6 : H6 D = some (.lst accV) := gr6.keep _ _ hD5 hha notT_lst
                have S6' : SOK C F6 H6 σ env g6 := S5'.regrow gr6 S6
                have rA6 := rA.mono ((ly.frz.trans gr5.frz).trans gr6.frz)
                have lA : accV.length = acc.length := rA.length
                refine ⟨accV, hD6, by omega, F6, g6, acc ++ [y6], accV ++ [v6], ?_, ?_, fD6, upd_same, rA6.append (.cons r6 .nil), by rw [List.length_append]; simp only [List.length_cons, List.length_nil]; omega, ?_⟩
                · exact S6'.poke fD6 h0 (fun ps z => by rw [hD6] at z; cases z) (fun φ z => by rw [hD6] at z; cases z) nD
                · have gr6' := gr5'.trans gr6
                  refine ⟨fun b o e n t => ?_, gr6'.frz, gr6'.new, fun b e => ?_⟩
                  · rw [upd_ne (fun z => by subst z; rw [hD] at e; cases e)]
                    exact gr6'.keep b o e n t
                  · by_cases z : b = D
                    · rw [z]; exact hD
                    · rw [upd_ne z] at e; exact gr6'.there b e
                · have h2 : RunN C E F H σ env (((lcGo b tst el (wipeE env (own.map (·.2))) (ds.drop (i + 1)) g6).bind fun ys g => .ok (y6 :: ys) g).bind fun ys g => .ok (acc ++ ys) g) Q := h2
                  rw [bind_assoc] at h2
                  cases ql : lcGo b tst el (wipeE env (own.map (·.2))) (ds.drop (i + 1)) g6 with
                  | ok ys g =>
                    rw [ql] at h2
                    show RunN C E F H σ env (.ok ((acc ++ [y6]) ++ ys) g) Q
                    rw [List.append_assoc]
                    exact h2
                  | err c g => rw [ql] at h2; exact h2
                  | stuck => rw [ql] at h2; exact h2
      · have e : i = ds.length := by omega
        subst e
        rw [List.drop_length] at h2
        refine .inl ⟨wb rfl, ?_⟩
        have h2 : RunN C E F H σ env (.ok (acc ++ []) g2) Q := h2
        rw [List.append_nil] at h2
        exact h2 F2 H2 D accV S2 (gr1.trans gr2) fD hH hD2 rA nD
theorem fn_lc (t : Ties X C (k + 1)) (hi : FI X C E tg iter src) (ok : BlkOk X.N X.env.scope scope own)
    (hg : ∀ (s : Shared) (H : Hp) (c : Addr) (cl : List (Str × Addr)) (fp : List Addr), FG (X.blk s H scope (compEnvC scope cl c X.env) fp) C tg b L)
    (ht : ∀ (s : Shared) (H : Hp) (c : Addr) (cl : List (Str × Addr)) (fp : List Addr), PTs (X.blk s H scope (compEnvC scope cl c X.env) fp) ifs (tM C E0 rB tst))
    (he : ∀ (s : Shared) (H : Hp) (c : Addr) (cl : List (Str × Addr)) (fp : List Addr), FE (X.blk s H scope (compEnvC scope cl c X.env) fp) C E0 elt el)
    (hL : ∀ j ∈ L, j ∈ own.map (·.2) := by decide) (hs : ∀ x, foldedSetIterable iter X.env x = pure x := by intro _; rfl) : FN X C E (.ListComp elt [⟨tg, iter, ifs, 0⟩] scope pos) (eLcL (own.map (·.2)) src b tst el) :=
  (pe_lc t.calm t.nd hi ok hg ht he hs).impD fun _ _ _ h => lc_read hL h
theorem fe_lc (t : Ties X C (k + 1)) (hi : FI X C E tg iter src) (ok : BlkOk X.N X.env.scope scope own)
    (hg : ∀ (s : Shared) (H : Hp) (c : Addr) (cl : List (Str × Addr)) (fp : List Addr), FG (X.blk s H scope (compEnvC scope cl c X.env) fp) C tg b L)
    (ht : ∀ (s : Shared) (H : Hp) (c : Addr) (cl : List (Str × Addr)) (fp : List Addr), PTs (X.blk s H scope (compEnvC scope cl c X.env) fp) ifs (tM C E0 rB tst))
    (he : ∀ (s : Shared) (H : Hp) (c : Addr) (cl : List (Str × Addr)) (fp : List Addr), FE (X.blk s H scope (compEnvC scope cl c X.env) fp) C E0 elt el)
    (hL : ∀ j ∈ L, j ∈ own.map (·.2) := by decide) (hs : ∀ x, foldedSetIterable iter X.env x = pure x := by intro _; rfl) : FE X C E (.ListComp elt [⟨tg, iter, ifs, 0⟩] scope pos) (eLc (own.map (·.2)) src b tst el) :=
  fe_new (fn_lc t hi ok hg ht he hL hs)
def bYes : EM Bool := fun _ g => .ok true g
theorem ft_nil : PTs X [] (tM C E rB bYes) := ⟨fun pins s σ H Q I hw => pts_nil.run pins s σ H Q I (by
  obtain ⟨F, env, g, S, h⟩ := hw
  exact Run.val S h F H true (Laid.refl S.sub) rfl)⟩
theorem ft_one {c : Expr} (h : FT X C E c tst) : PTs X [c] (tM C E rB tst) := pts_one h
/-- name = [..] on one line -/
theorem fs_setLc {y : Str} {py spos : Pos} (t : Ties X C (k + 1)) (hy : X.N[i]? = some y) (hyl : X.env.scope.names.lookup y = some .local) (hsw : swapsWith (.ListComp elt [⟨tg, iter, ifs, 0⟩] scope pos) (some (.Name y py)) spos.line X.env = pure true)
    (hi : FI X C E tg iter src) (ok : BlkOk X.N X.env.scope scope own)
    (hg : ∀ (s : Shared) (H : Hp) (c : Addr) (cl : List (Str × Addr)) (fp : List Addr), FG (X.blk s H scope (compEnvC scope cl c X.env) fp) C tg b L)
    (ht : ∀ (s : Shared) (H : Hp) (c : Addr) (cl : List (Str × Addr)) (fp : List Addr), PTs (X.blk s H scope (compEnvC scope cl c X.env) fp) ifs (tM C E0 rB tst))
    (he : ∀ (s : Shared) (H : Hp) (c : Addr) (cl : List (Str × Addr)) (fp : List Addr), FE (X.blk s H scope (compEnvC scope cl c X.env) fp) C E0 elt el)
    (hL : ∀ j ∈ L, j ∈ own.map (·.2) := by decide) (hs : ∀ x, foldedSetIterable iter X.env x = pure x := by intro _; rfl) : FS X C E (.Assign [.Name y py] (.ListComp elt [⟨tg, iter, ifs, 0⟩] scope pos) spos) (sSet i (eLc (own.map (·.2)) src b tst el)) := by
  refine (ps_setLc t.calm t.nd hy hyl hsw hi ok hg ht he hs).impD fun D σ H ⟨F, env, g, S, h⟩ => ?_
  refine lc_read (E := E) hL ⟨F, env, g, S, ?_⟩
  unfold sSet eLc at h
  rw [bind_assoc] at h
  cases q : eLcL (own.map (·.2)) src b tst el env g with
  | stuck => rw [q] at h; exact h
  | err c g1 => rw [q] at h; exact fun F' H' S' _ => h F' H' σ env S'
  | ok ds g1 =>
    rw [q] at h
    intro F' H' p xs S' gr hF h0 hp r no
    have n0 : C.H₀ p = none := S.grow.there p h0
    exact h (upd F' p (.lst xs)) H' _ ((S'.freeze hF n0 hp notT_lst no).setDat (.lst upd_same (r.mono (sub_upd hF))) i) (gr.frz.trans (sub_upd hF))
end

/-! ### a def, from its body -/
def gZ : G := ⟨[], 0, 0, 0, 0⟩
def runP (n N : Nat) (m : SM) (ds : List D) : PR := if ds.length = n then
    match m (ds.map Sl.dat ++ List.replicate (N - n) Sl.un) gZ with
    | .ok (.ret d, _) _ => .ok d
    | .ok (.next, _) _ => .ok .none
    | .err c _ => .err c
    | _ => .stuck
  else .stuck
def runH (n N : Nat) (m : SM) (ds : List D) (g : G) : Out D := if ds.length + 1 = n then
    match m (Sl.hand :: ds.map Sl.dat ++ List.replicate (N - n) Sl.un) g with
    | .ok (.ret d, _) g => .ok d g
    | .ok (.next, _) g => .ok .none g
    | .err c g => .err c g
    | _ => .stuck
  else .stuck
theorem start_at {K : PySem.W.Frag} {F : Hp} {C : Cz} (hK : C.K = K) {H : Hp} {N : List Str} {vs : List V} {ds : List D} (r : Reps K F vs ds) (i : Nat) (sl : Sl) (e : (ds.map Sl.dat ++ List.replicate (N.length - ds.length) Sl.un)[i]? = some sl) :
    ∃ x : Option V, (start N vs)[i]? = some x ∧ SlotOK C F H sl x := by
  unfold L2.start
  by_cases h : i < ds.length
  · rw [List.getElem?_append_left (by simpa using h), List.getElem?_map, Option.map_eq_some_iff] at e
    obtain ⟨d, e, rfl⟩ := e
    obtain ⟨v, h1, h2⟩ := r.get e
    exact ⟨some v, by rw [List.getElem?_append_left (by rw [List.length_map, r.length]; exact h), List.getElem?_map, h1]; rfl, v, rfl, by rw [hK]; exact h2⟩
  · rw [List.getElem?_append_right (by simpa using h), List.length_map, List.getElem?_replicate] at e
    split at e
    · cases e
      rename_i hl
      exact ⟨none, by rw [List.getElem?_append_right (by rw [List.length_map, r.length]; omega), List.length_map, r.length, List.getElem?_replicate, if_pos hl], trivial⟩
    · cases e
theorem start_noown {ds : List D} {n i : Nat} {sl : Sl} (e : (ds.map Sl.dat ++ List.replicate n Sl.un)[i]? = some sl) (w : isOwn sl = true) : False := by
  by_cases h : i < ds.length
  · rw [List.getElem?_append_left (by simpa using h), List.getElem?_map, Option.map_eq_some_iff] at e
    obtain ⟨d, _, z⟩ := e
    subst z
    cases w
  · rw [List.getElem?_append_right (by simpa using h), List.getElem?_replicate] at e
    split at e
    · cases e; cases w
    · cases e
section
variable {P : Program} {w : World} {K : PySem.W.Frag} {mg : Str → Option Value} {base : Heap}
theorem kf_stuck {x qual : Str} {st : Stmt} {f : Addr} {fd : FuncData} {ps : List Str} {k : Nat} {T : List (Addr × Str)} (Fn : Fun K x qual st f fd) (hm : mg x = some (.ref f)) (hb : Binds K fd ps []) :
    KF P w K mg base x k (spP K mg T fun _ => .stuck) :=
  ⟨f, fd, ps, ⟨fun vs H Q E ⟨_, _, _, _, _, _, h⟩ => h.elim, fun A outer s H args us vs Q E hg hr e0 hb r ⟨_, _, _, _, _, _, h⟩ => h.elim⟩, hm, Fn.kp, hb⟩
theorem kf_pure {x qual : Str} {st : Stmt} {f : Addr} {fd : FuncData} {N ps : List Str} {k : Nat} {T : List (Addr × Str)} (Fn : Fun K x qual st f fd) (hm : mg x = some (.ref f)) (hb : Binds K fd ps []) (Sc : FnScope N ps (defScope st)) (hpn : ps.length ≤ N.length) (m : SM)
    (hd : ∀ (cdv : Value) (A : Around) (outer : List Env) (s : Shared) (H : Hp) (E : XK) (C : Cz), C.T = T → C.ha = none → Ties (cxOf (L2.CX P w) P w K mg base N qual (defScope st) f cdv A outer s H E) C k → Takes (cxOf (L2.CX P w) P w K mg base N qual (defScope st) f cdv A outer s H E) (fun c d _ H => E c d H) →
      Passes (L2.CX P w) (cxOf (L2.CX P w) P w K mg base N qual (defScope st) f cdv A outer s H E) E → PassesOwn (model P w) (A.deeper (envOfC qual (defScope st) s.heap.objs.size f cdv)) (envOfC qual (defScope st) s.heap.objs.size f cdv) (cxOf (L2.CX P w) P w K mg base N qual (defScope st) f cdv A outer s H E).xe →
      FSs (cxOf (L2.CX P w) P w K mg base N qual (defScope st) f cdv A outer s H E) C E (defBody st) m) :
    KF P w K mg base x (k + 1) (spP K mg T (runP ps.length N.length m)) := by
  have hlen : ∀ vs H Q E, spP K mg T (runP ps.length N.length m) vs H Q E → vs.length = ps.length := fun vs H Q E ⟨F, ds, _, _, _, r, h⟩ => by
    rw [r.length]
    unfold runP at h
    by_cases z : ds.length = ps.length
    · exact z
    · rw [if_neg z] at h; exact h.elim
  refine ⟨f, fd, ps, ?_, hm, Fn.kp, hb⟩
  refine FnG.of Fn Sc hlen fun cdv A outer s H vs Q E hg hr hsp => ?_
  obtain ⟨F, ds, sb, nt, tb, r, h⟩ := hsp
  have tk : Takes (cxOf (L2.CX P w) P w K mg base N qual (defScope st) f cdv A outer s H E) (fun c d _ H => E c d H) := takes_of rfl rfl rfl rfl
  refine ⟨_, hd cdv A outer s H E ⟨K, mg, T, F, H, none, 0⟩ rfl rfl ⟨rfl, rfl, Sc.nd, hr.units, hg, fun _ => rfl, fun _ => hr⟩ tk (passes_call tk fun _ _ _ _ h => h) (passes_of (X := cxOf (L2.CX P w) P w K mg base N qual (defScope st) f cdv A outer s H E) rfl), ?_⟩
  unfold runP at h
  by_cases hl : ds.length = ps.length
  · rw [if_pos hl] at h
    have S0 : SOK ⟨K, mg, T, F, H, none, 0⟩ F H (start N vs) (ds.map Sl.dat ++ List.replicate (N.length - ps.length) Sl.un) gZ := by
      rw [← hl]
      refine ⟨Grow.refl _ _ _, sb, nt, tb, (fun a e => by cases e), ?_, fun i sl e => start_at rfl r i sl e, fun i j a ds ds' e1 _ w _ _ _ => (start_noown e1 w).elim⟩
      unfold L2.start
      simp only [List.length_append, List.length_map, List.length_replicate, r.length]
    refine ⟨F, _, gZ, S0, ?_⟩
    cases q : m (ds.map Sl.dat ++ List.replicate (N.length - ps.length) Sl.un) gZ with
    | stuck => rw [q] at h; exact h.elim
    | err c g1 =>
      rw [q] at h
      intro F' H' σ' env' S'
      exact h F' H' ⟨S'.grow, S'.sub, S'.ntb, S'.tabs⟩
    | ok rr g1 =>
      rw [q] at h
      obtain ⟨fl, env1⟩ := rr
      intro F' H' σ' S' _
      cases fl with
      | next => exact h F' H' _ ⟨S'.grow, S'.sub, S'.ntb, S'.tabs⟩ .non
      | ret d => exact fun v rv => h F' H' v ⟨S'.grow, S'.sub, S'.ntb, S'.tabs⟩ rv
      | brk => exact h.elim
      | cont => exact h.elim
      | new ds => exact h.elim
  · rw [if_neg hl] at h; exact h.elim
theorem kf_hand {x qual : Str} {st : Stmt} {f : Addr} {fd : FuncData} {N ps : List Str} {k : Nat} {T : List (Addr × Str)} (Fn : Fun K x qual st f fd) (hm : mg x = some (.ref f)) (hb : Binds K fd ps []) (Sc : FnScope N ps (defScope st)) (hpn : ps.length ≤ N.length) (m : SM)
    (hd : ∀ (cdv : Value) (A : Around) (outer : List Env) (s : Shared) (H : Hp) (E : XK) (C : Cz), C.T = T → Ties (cxOf (L2.CX P w) P w K mg base N qual (defScope st) f cdv A outer s H E) C k → Takes (cxOf (L2.CX P w) P w K mg base N qual (defScope st) f cdv A outer s H E) (fun c d _ H => E c d H) →
      Passes (L2.CX P w) (cxOf (L2.CX P w) P w K mg base N qual (defScope st) f cdv A outer s H E) E → PassesOwn (model P w) (A.deeper (envOfC qual (defScope st) s.heap.objs.size f cdv)) (envOfC qual (defScope st) s.heap.objs.size f cdv) (cxOf (L2.CX P w) P w K mg base N qual (defScope st) f cdv A outer s H E).xe →
      FSs (cxOf (L2.CX P w) P w K mg base N qual (defScope st) f cdv A outer s H E) C E (defBody st) m) :
    KF P w K mg base x (k + 1) (spH K mg T (runH ps.length N.length m)) := by
  have hlen : ∀ vs H Q E, spH K mg T (runH ps.length N.length m) vs H Q E → vs.length = ps.length := fun vs H Q E ⟨F, a, c, g, vs', ds, e, _, _, _, _, _, r, h⟩ => by
    rw [e, List.length_cons, r.length]
    unfold runH at h
    by_cases z : ds.length + 1 = ps.length
    · exact z
    · rw [if_neg z] at h; exact h.elim
  refine ⟨f, fd, ps, ?_, hm, Fn.kp, hb⟩
  refine FnG.of Fn Sc hlen fun cdv A outer s H vs Q E hg hr hsp => ?_
  obtain ⟨F, a, c, g, vs', ds, rfl, sb, nt, tb, fa, hh, r, h⟩ := hsp
  have tk : Takes (cxOf (L2.CX P w) P w K mg base N qual (defScope st) f cdv A outer s H E) (fun c d _ H => E c d H) := takes_of rfl rfl rfl rfl
  refine ⟨_, hd cdv A outer s H E ⟨K, mg, T, F, H, some a, c⟩ rfl ⟨rfl, rfl, Sc.nd, hr.units, hg, fun _ => rfl, fun _ => hr⟩ tk (passes_call tk fun _ _ _ _ h => h) (passes_of (X := cxOf (L2.CX P w) P w K mg base N qual (defScope st) f cdv A outer s H E) rfl), ?_⟩
  unfold runH at h
  by_cases hl : ds.length + 1 = ps.length
  · rw [if_pos hl] at h
    have S0 : SOK ⟨K, mg, T, F, H, some a, c⟩ F H (start N (.ref a :: vs')) (Sl.hand :: ds.map Sl.dat ++ List.replicate (N.length - ps.length) Sl.un) g := by
      have e1 : start N (.ref a :: vs') = some (.ref a) :: (vs'.map some ++ List.replicate (N.length - ps.length) none) := by
        unfold L2.start
        rw [List.map_cons, List.cons_append, List.length_cons, r.length, hl]
      rw [e1]
      refine ⟨Grow.refl _ _ _, sb, nt, tb, (fun b e => by cases e; exact ⟨fa, hh, fun z => by have z : H a = none := z; rw [hh.1] at z; cases z⟩), ?_, fun i sl e => ?_, fun i j b ds1 ds2 h1 _ w1 _ _ _ => ?_⟩
      · simp only [List.cons_append, List.length_cons, List.length_append, List.length_map, List.length_replicate, r.length]
      · cases i with
        | zero =>
          rw [List.cons_append, List.getElem?_cons_zero] at e
          cases e
          exact ⟨some (.ref a), rfl, a, rfl, rfl⟩
        | succ i =>
          rw [List.cons_append, List.getElem?_cons_succ] at e
          rw [List.getElem?_cons_succ]
          by_cases h : i < ds.length
          · rw [List.getElem?_append_left (by simpa using h), List.getElem?_map, Option.map_eq_some_iff] at e
            obtain ⟨d, e, rfl⟩ := e
            obtain ⟨v, h1, h2⟩ := r.get e
            exact ⟨some v, by rw [List.getElem?_append_left (by rw [List.length_map, r.length]; exact h), List.getElem?_map, h1]; rfl, v, rfl, h2⟩
          · rw [List.getElem?_append_right (by simpa using h), List.length_map, List.getElem?_replicate] at e
            split at e
            · cases e
              rename_i hl
              exact ⟨none, by rw [List.getElem?_append_right (by rw [List.length_map, r.length]; omega), List.length_map, r.length, List.getElem?_replicate, if_pos hl], trivial⟩
            · cases e
      · cases i with
        | zero => rw [List.cons_append, List.getElem?_cons_zero] at h1; cases h1; cases w1
        | succ i => rw [List.cons_append, List.getElem?_cons_succ] at h1; exact (start_noown h1 w1).elim
    refine ⟨F, _, g, S0, ?_⟩
    cases q : m (Sl.hand :: ds.map Sl.dat ++ List.replicate (N.length - ps.length) Sl.un) g with
    | stuck => rw [q] at h; exact h.elim
    | err c g1 =>
      rw [q] at h
      intro F' H' σ' env' S'
      obtain ⟨z1, z2, _⟩ := S'.hand a rfl
      exact h F' H' ⟨S'.grow, S'.sub, S'.ntb, S'.tabs⟩ z1 z2
    | ok rr g1 =>
      rw [q] at h
      obtain ⟨fl, env1⟩ := rr
      intro F' H' σ' S' _
      obtain ⟨z1, z2, _⟩ := S'.hand a rfl
      cases fl with
      | next => exact h F' H' _ ⟨S'.grow, S'.sub, S'.ntb, S'.tabs⟩ z1 z2 .non
      | ret d => exact fun v rv => h F' H' v ⟨S'.grow, S'.sub, S'.ntb, S'.tabs⟩ z1 z2 rv
      | brk => exact h.elim
      | cont => exact h.elim
      | new ds => exact h.elim
  · rw [if_neg hl] at h; exact h.elim
end
end DL

set_option Elab.async false
set_option linter.all false
set_option maxRecDepth 100000
set_option maxHeartbeats 2000000
namespace DL
open PySem PySem.Spec PyProof.Rows L2

/-! ### isinstance of built-in types -/
def tyD : D → String
  | .none => "NoneType"
  | .bool _ => "bool"
  | .int _ => "int"
  | .str _ => "str"
  | .list _ => "list"
  | .tuple _ => "tuple"
  | .dict _ => "dict"
def isIntD : D → Bool
  | .int _ => true
  | .bool _ => true
  | _ => false
def isBoolD : D → Bool
  | .bool _ => true
  | _ => false
def isStrD : D → Bool
  | .str _ => true
  | _ => false
def isListD : D → Bool
  | .list _ => true
  | _ => false
def isTupD : D → Bool
  | .tuple _ => true
  | _ => false
def isDictD : D → Bool
  | .dict _ => true
  | _ => false
def IsiT (T : String) (f : D → Bool) : Prop := ∀ d, kitB (tyD d) T = some (f d)
theorem isiInt : IsiT "int" isIntD := fun d => by
  cases d with
  | none => exact (by decide +kernel : kitB "NoneType" "int" = some false)
  | bool _ => exact (by decide +kernel : kitB "bool" "int" = some true)
  | int _ => exact (by decide +kernel : kitB "int" "int" = some true)
  | str _ => exact (by decide +kernel : kitB "str" "int" = some false)
  | list _ => exact (by decide +kernel : kitB "list" "int" = some false)
  | tuple _ => exact (by decide +kernel : kitB "tuple" "int" = some false)
  | dict _ => exact (by decide +kernel : kitB "dict" "int" = some false)
theorem isiBool : IsiT "bool" isBoolD := fun d => by
  cases d with
  | none => exact (by decide +kernel : kitB "NoneType" "bool" = some false)
  | bool _ => exact (by decide +kernel : kitB "bool" "bool" = some true)
  | int _ => exact (by decide +kernel : kitB "int" "bool" = some false)
  | str _ => exact (by decide +kernel : kitB "str" "bool" = some false)
  | list _ => exact (by decide +kernel : kitB "list" "bool" = some false)
  | tuple _ => exact (by decide +kernel : kitB "tuple" "bool" = some false)
  | dict _ => exact (by decide +kernel : kitB "dict" "bool" = some false)
theorem isiStr : IsiT "str" isStrD := fun d => by
  cases d with
  | none => exact (by decide +kernel : kitB "NoneType" "str" = some false)
  | bool _ => exact (by decide +kernel : kitB "bool" "str" = some false)
  | int _ => exact (by decide +kernel : kitB "int" "str" = some false)
  | str _ => exact (by decide +kernel : kitB "str" "str" = some true)
  | list _ => exact (by decide +kernel : kitB "list" "str" = some false)
  | tuple _ => exact (by decide +kernel : kitB "tuple" "str" = some false)
  | dict _ => exact (by decide +kernel : kitB "dict" "str" = some false)
theorem isiList : IsiT "list" isListD := fun d => by
  cases d with
  | none => exact (by decide +kernel : kitB "NoneType" "list" = some false)
  | bool _ => exact (by decide +kernel : kitB "bool" "list" = some false)
  | int _ => exact (by decide +kernel : kitB "int" "list" = some false)
  | str _ => exact (by decide +kernel : kitB "str" "list" = some false)
  | list _ => exact (by decide +kernel : kitB "list" "list" = some true)
  | tuple _ => exact (by decide +kernel : kitB "tuple" "list" = some false)
  | dict _ => exact (by decide +kernel : kitB "dict" "list" = some false)
theorem isiTup : IsiT "tuple" isTupD := fun d => by
  cases d with
  | none => exact (by decide +kernel : kitB "NoneType" "tuple" = some false)
  | bool _ => exact (by decide +kernel : kitB "bool" "tuple" = some false)
  | int _ => exact (by decide +kernel : kitB "int" "tuple" = some false)
  | str _ => exact (by decide +kernel : kitB "str" "tuple" = some false)
  | list _ => exact (by decide +kernel : kitB "list" "tuple" = some false)
  | tuple _ => exact (by decide +kernel : kitB "tuple" "tuple" = some true)
  | dict _ => exact (by decide +kernel : kitB "dict" "tuple" = some false)
theorem isiDict : IsiT "dict" isDictD := fun d => by
  cases d with
  | none => exact (by decide +kernel : kitB "NoneType" "dict" = some false)
  | bool _ => exact (by decide +kernel : kitB "bool" "dict" = some false)
  | int _ => exact (by decide +kernel : kitB "int" "dict" = some false)
  | str _ => exact (by decide +kernel : kitB "str" "dict" = some false)
  | list _ => exact (by decide +kernel : kitB "list" "dict" = some false)
  | tuple _ => exact (by decide +kernel : kitB "tuple" "dict" = some false)
  | dict _ => exact (by decide +kernel : kitB "dict" "dict" = some true)
def isiD (f : D → Bool) : D → Option D := fun d => some (.bool (f d))
section
variable {X : Cx} {C : Cz} {E : XK} {k i : Nat} {a b c e : Expr} {fa fb fc : EM D} {pos : Pos}
theorem tyx_of {K : PySem.W.Frag} {F H : Hp} {v : V} {d : D} (s : Sub F H) (r : Rep K F v d) : TyX K H v (.type (tyD d)) := by
  cases r with
  | non => exact .base .non
  | bl b => exact .base (.bl b)
  | int i => exact .base (.int i)
  | str x => exact .base (.str x)
  | lst h1 h2 => exact .base (.lst (s _ _ h1))
  | tup h1 h2 =>
    rcases s.sqT h1 with (h | ⟨o, h⟩) | ⟨o, its, n, h, h3, _⟩
    · exact .base (.tup h)
    · exact .fTuple h
    · exact .kTuple h h3
  | dK h1 h2 => exact .base (.dK (s _ _ h1))
  | dT h1 h2 => exact .base (.dT (s _ _ h1))
theorem fe_isi {T : Str} {Ts : String} {f : D → Bool} {p p2 : Pos} (t : Ties X C k) (hT : IsiT Ts f) (hg : Gl X "isinstance") (hm : X.mg "isinstance" = none) (hv : bootBuiltins "isinstance" = some (.builtin "isinstance"))
    (hg2 : Gl X T) (hm2 : X.mg T = none) (hv2 : bootBuiltins T = some (.type Ts)) (ha : FE X C E a fa) (hn2 : T ≠ "__name__" := by decide) (hd2 : (T == ("__debug__" : Str)) = false := by decide)
    (he : starEach [a, .Name T p2] X.env = (false, eval a X.env) :: starEach [.Name T p2] X.env := by rfl) (hpl : (backTo pos (starEach [.Name T p2] X.env)).any (·.1) = false := by rfl) :
    FE X C E (.Call (.Name "isinstance" p) [a, .Name T p2] [] pos) (eUn (isiD f) fa) := by
  refine (pe_callB call_isi hg hm hv (pa_cons ha (pa_cons (pe_bltn (v := .ty Ts) hg2 hm2 hv2 rfl hn2 hd2) pa_nil) he) (by decide) (by decide) he hpl).impD fun σ H Q ⟨F, env, g, S, h⟩ => ?_
  refine ⟨F, env, g, S, (Run.bind (R := Rep C.K) h).imp fun x H1 ⟨F1, d1, g1, S1, gr1, r1, h1⟩ => ?_⟩
  refine ⟨x, .ty Ts, _, _, f d1, rfl, .ty Ts, by rw [← t.K]; exact tyx_of S1.sub r1, kit_ty (hT d1), Run.val S1 h1 F1 H1 _ (Laid.refl S1.sub) (.bl _)⟩
end
end DL
namespace DL
open PySem PySem.Spec PyProof.Rows L2
/-- a def of the top: nm its own name, x the name by which it is called -/
def DefAt (K : PySem.W.Frag) (mg : Str → Option Value) (x nm : Str) (st : Stmt) (ps : List Str) : Prop := ∃ (f : Addr) (fd : FuncData), Fun K nm nm st f fd ∧ mg x = some (.ref f) ∧ Binds K fd ps []
section
variable {X : Cx} {C : Cz} {E : XK} {x : Str} {pos : Pos}
theorem fe_gi {i : Int} (hg : Gl X x) (hm : ∃ t, X.mg x = some (.int i t)) (hd : (x == ("__debug__" : Str)) = false := by decide) : FE X C E (.Name x pos) (eC (.int i)) :=
  let ⟨_, h⟩ := hm
  fe_glob (v := .int i) hg h ⟨_, rfl⟩ (fun _ => .int i) hd
theorem fe_gs {i : Str} (hg : Gl X x) (hm : ∃ t, X.mg x = some (.str i t)) (hd : (x == ("__debug__" : Str)) = false := by decide) : FE X C E (.Name x pos) (eC (.str i)) :=
  let ⟨_, h⟩ := hm
  fe_glob (v := .str i) hg h ⟨_, rfl⟩ (fun _ => .str i) hd
end
end DL

set_option Elab.async false
set_option linter.all false
set_option maxRecDepth 100000
set_option maxHeartbeats 2000000
namespace DL
open PySem PySem.Spec PyProof.Rows L2

/-! ### a list or a tuple that is walked, in enumerate and zip -/
def Sq (K : PySem.W.Frag) (H : Hp) (a : Addr) (b : Bool) (xs : List V) : Prop := match b with
  | true => SqT K H a xs
  | false => SqL K H a xs
def ItA (h : Heap) (it a : Addr) (b : Bool) (i : Nat) : Prop := match b with
  | true => h.IsTupleIter it a i
  | false => h.IsListIter it a i
def SqA (h : Heap) (a : Addr) (b : Bool) (items : Array Value) : Prop := match b with
  | true => h.IsTuple a items
  | false => h.IsList a items
def itO (a : Addr) (b : Bool) : Obj := match b with
  | true => { cls := .type "tuple_iterator", data := .fields #[.ref a, .int 0 0] }
  | false => { cls := .type "list_iterator", data := .fields #[.ref a, .int 0 0] }
theorem ItA.obj {h : Heap} {it a : Addr} {b : Bool} {i : Nat} (x : ItA h it a b i) : ∃ o c vs, h.get? it = some o ∧ o.cls = .type c ∧ o.data = .fields vs ∧ (c = "tuple_iterator" ∨ c = "list_iterator") := by
  cases b with
  | true => obtain ⟨o, h1, h2, h3⟩ := x; exact ⟨o, _, _, h1, h2, h3, .inl rfl⟩
  | false => obtain ⟨o, h1, h2, h3⟩ := x; exact ⟨o, _, _, h1, h2, h3, .inr rfl⟩
theorem ItA.at {h h' : Heap} {it a : Addr} {b : Bool} {i : Nat} (x : ItA h it a b i) (e : ∀ o, h.get? it = some o → h'.get? it = some o) : ItA h' it a b i := by
  cases b with
  | true => exact Heap.IsTupleIter.at x e
  | false => exact Heap.IsListIter.at x e
theorem SqA.obj {h : Heap} {a : Addr} {b : Bool} {items : Array Value} (x : SqA h a b items) : ∃ o n, h.get? a = some o ∧ o.data = .seq items n := by
  cases b with
  | true => obtain ⟨o, h1, _, n, h3⟩ := x; exact ⟨o, n, h1, h3⟩
  | false => obtain ⟨o, h1, _, n, h3⟩ := x; exact ⟨o, n, h1, h3⟩
theorem SqA.ne {h : Heap} {it a c : Addr} {b b' : Bool} {items : Array Value} {i : Nat} (x : SqA h a b items) (y : ItA h it c b' i) : a ≠ it := fun e => by
  obtain ⟨o, n, h1, h2⟩ := x.obj
  obtain ⟨o', c, vs, h3, _, h4, _⟩ := y.obj
  rw [e, h3] at h1
  cases h1
  rw [h4] at h2
  cases h2
theorem drawsA {prog : Program} {w : World} {A : Around} (hh : A.handled = none) (it a : Addr) (hne : a ≠ it) (b : Bool) (items : Array Value) :
    Draws prog w A it [it, a] items.size (fun i v => items[i]? = some v) (fun i h => ItA h it a b i ∧ SqA h a b items) := by
  cases b with
  | true => exact Draws.tuple hh it a hne items
  | false => exact Draws.list hh it a hne items
theorem beginsA (a : Addr) (b : Bool) (items : Array Value) : Begins (.ref a) (itO a b) fun h => SqA h a b items := by
  cases b with
  | true => exact begins_tuple a items
  | false => exact begins_list a items
theorem itA_new {h : Heap} {it a : Addr} {b : Bool} (e : h.get? it = some (itO a b)) : ItA h it a b 0 := by
  cases b with
  | true => exact ⟨_, e, rfl, rfl⟩
  | false => exact ⟨_, e, rfl, rfl⟩
section
variable {X : Cx} {pins : List (Addr × Obj)} {σ : L2.St} {H : Hp} {s : Shared} {a : Addr} {b : Bool} {xs ys : List V}
theorem seqA (I : Inv X pins σ H s) (h : Sq X.K H a b xs) : ∃ its : List Value, Vals xs its ∧ SqA s.heap a b its.toArray ∧ xs.length ≤ sizeLine := by
  cases b with
  | true => exact I.tuple h
  | false =>
    obtain ⟨its, r, p, z⟩ := I.list h
    exact ⟨its, r, p.isList, z⟩
theorem seqA_inj (I : Inv X pins σ H s) (h : Sq X.K H a b xs) (h' : Sq X.K H a b ys) : xs = ys := by
  cases b with
  | true => exact I.tuple_inj h h'
  | false => exact I.list_inj h h'
end
/-! ### enumerate -/
def ItE (K : PySem.W.Frag) (a : Addr) (b : Bool) (k₀ : Int) : It :=
  ⟨fun i H => ∃ (xs : List V) (x : V), Sq K H a b xs ∧ xs[i]? = some x, fun i H v H' => ∃ T x, v = .ref T ∧ H T = none ∧ H' = upd H T (.tup [.int (k₀ + (i : Nat)), x]) ∧ ∀ xs, Sq K H a b xs → xs[i]? = some x, fun i H => ∃ xs : List V, Sq K H a b xs ∧ xs.length = i⟩
theorem turn_enumA {P : Program} {w : World} {K : PySem.W.Frag} {elts : List Expr} {kk : Nat} {tpos : Pos} (a e it : Addr) (b : Bool) (k₀ : Int) :
    Turn P w K (.Tuple elts kk tpos) (ItE K a b k₀) [e, it] e (fun i h => (∃ old, IsEnum h e it (k₀ + ((i : Nat) : Int)) old) ∧ ItA h it a b i ∧ e ≠ it) where
  mem := by simp
  obj := fun i h st c hb => by
    obtain ⟨⟨old, he⟩, hi, _⟩ := st
    obtain ⟨o, c', vs, ho, hc, hd, _⟩ := hi.obj
    have e' : c = e ∨ c = it := by simpa using hb
    rcases e' with z | z
    · rw [z]; exact ⟨_, he, fun v q => nomatch q⟩
    · rw [z]; exact ⟨o, ho, fun v q => by rw [hd] at q; cases q⟩
  keep := fun i h h' st k => let ⟨⟨old, he⟩, hi, hne⟩ := st; ⟨⟨old, k e (by simp) _ he⟩, hi.at fun o q => k it (by simp) o q, hne⟩
  item := by
    intro X hP hw hK hc i pins s σ H E I hf st hg
    subst hP hw hK
    obtain ⟨⟨old, he⟩, hit, hne⟩ := st
    obtain ⟨xs, x, hq, hx⟩ := hg
    obtain ⟨its, rv, p, hz⟩ := seqA I hq
    obtain ⟨u, hu, ru⟩ := rv.get hx
    have hel : e < s.heap.objs.size := Heap.lt_size he
    have hil : it < s.heap.objs.size := by obtain ⟨_, _, _, q, _⟩ := hit.obj; exact Heap.lt_size q
    have hai : a ≠ it := p.ne hit
    have hea : e ≠ a := fun z => by
      obtain ⟨o, n, h1, h2⟩ := p.obj
      rw [← z, he] at h1
      cases h1
      cases h2
    have hlt : i < its.toArray.size := by
      have := (List.getElem?_eq_some_iff.mp hu).1
      simpa using this
    refine wpAny_pyNext_enum_itemC (drawsA (A := X.A.in1) (I.ok.hd hc) it a hai b its.toArray) he ⟨hit, p⟩ hlt hne (by simp [hne, hea]) fun y h' tk hy ho hit' hT hsz hk => ?_
    have ey : y = u := by
      have z : its.toArray[i]? = some u := by simpa using hu
      rw [z] at hy
      exact (Option.some.inj hy).symm
    subst ey
    refine ⟨_, rfl, wpAny_letOwnedTupleGo_enum (s := { s with heap := h', toks := tk + 1 }) ho fun h'' he' sb => ?_⟩
    have hT2 : h''.get? s.heap.objs.size = some { cls := .type "tuple", data := .seq #[.int (k₀ + i) tk, y] } := (sb.2 _ (Nat.ne_of_gt hel)).trans hT
    have new : ObjOk X.prog X.w (upd H s.heap.objs.size (.tup [.int (k₀ + (i : Nat)), x])) h'' s.heap.objs.size (.tup [.int (k₀ + (i : Nat)), x]) :=
      ⟨by show 2 ≤ sizeLine; decide, [.int (k₀ + i) tk, y], .cons ⟨_, rfl⟩ (.cons ru .nil), ⟨_, hT2, rfl, _, rfl⟩⟩
    have I1 : Inv X pins σ (upd H s.heap.objs.size (.tup [.int (k₀ + (i : Nat)), x])) { s with heap := h'', toks := tk + 1 } :=
      I.turnedNew (ch := [e, it]) (fun b ob hb q => (sb.2 b (fun z => hb (by simp [z]))).trans (hk b ob (fun z => hb (by simp [z])) (fun z => hb (by simp [z])) q)) hf (Nat.le_refl _) new
    refine ⟨.ref s.heap.objs.size, _, I1, rfl, ⟨_, x, rfl, I.hok.fresh (Nat.le_refl _), rfl, fun ys hy => by rw [seqA_inj I hy hq]; exact hx⟩, ⟨⟨y, ?_⟩, hit'.1.at fun o q => (sb.2 it (Ne.symm hne)).trans q, hne⟩, fun b hb => ?_⟩
    · have e1 : k₀ + ((i + 1 : Nat) : Int) = k₀ + (i : Int) + 1 := by omega
      rw [e1]; exact he'
    · have hb' : b < s.heap.objs.size := by
        have e' : b = e ∨ b = it := by simpa using hb
        rcases e' with z | z
        · rw [z]; exact hel
        · rw [z]; exact hil
      rw [upd_ne (Nat.ne_of_lt hb')]
      exact (hf b hb).1
  done := by
    intro X hP hw hK hc i pins s σ H E I hf st hg
    subst hP hw hK
    obtain ⟨⟨old, he⟩, hit, hne⟩ := st
    obtain ⟨xs, hq, hx⟩ := hg
    obtain ⟨its, rv, p, hz⟩ := seqA I hq
    obtain ⟨f0, f1, f2, f3, f4, f5⟩ := hf it (by simp)
    have hl : its.toArray.size = i := by rw [List.size_toArray, ← rv.length]; exact hx
    subst hl
    exact wpAny_pyNext_enum_endD (drawsA (A := X.A.in1) (I.ok.hd hc) it a (p.ne hit) b its.toArray) he ⟨hit, p⟩ fun h' eb => ⟨rfl, I.turned (t' := s.toks) (fun b o hb q => eb b o hb q) f0 f1 f3 f4 f5⟩
  self := fun A i s Q E st h => let ⟨⟨_, he⟩, _⟩ := st; wpAny_pyIter_enum he h
def rngE (k₀ : Int) (ds : List D) : List D := ds.mapIdx fun i d => .tuple [.int (k₀ + (i : Nat)), d]
def seqD : D → Option (List D)
  | .list ds => some ds
  | .tuple ds => some ds
  | _ => none
theorem seq_of {K : PySem.W.Frag} {F : Hp} {v : V} {d : D} {ds : List D} (r : Rep K F v d) (h : seqD d = some ds) : ∃ a b xs, v = .ref a ∧ Sq K F a b xs ∧ Reps K F xs ds := by
  cases d with
  | list es =>
    cases h
    obtain ⟨a, xs, rfl, h1, h2⟩ := r.list_inv
    exact ⟨a, false, xs, rfl, .inl (.inl h1), h2⟩
  | tuple es =>
    cases h
    obtain ⟨a, xs, rfl, h1, h2⟩ := r.tup_inv
    exact ⟨a, true, xs, rfl, h1, h2⟩
  | _ => cases h
theorem Sub.sq {K : PySem.W.Frag} {F H : Hp} (s : Sub F H) {a : Addr} {b : Bool} {xs : List V} (h : Sq K F a b xs) : Sq K H a b xs := by
  cases b with
  | true => exact s.sqT h
  | false => exact s.sqL h
theorem walks_enum {K : PySem.W.Frag} {F : Hp} {a : Addr} {b : Bool} {xs : List V} {ds : List D} (k₀ : Int) (h : Sq K F a b xs) (r : Reps K F xs ds) : Walks K F (ItE K a b k₀) (rngE k₀ ds) := fun i F' H' s1 s2 => by
  have hs : Sq K H' a b xs := s2.sq (s1.sq h)
  refine ⟨fun d e => ?_, fun hl => ⟨xs, hs, by rw [r.length, hl]; simp [rngE]⟩⟩
  unfold rngE at e
  rw [List.getElem?_mapIdx, Option.map_eq_some_iff] at e
  obtain ⟨d0, e, rfl⟩ := e
  obtain ⟨v, h1, h2⟩ := r.get e
  refine ⟨⟨xs, v, hs, h1⟩, fun x H'' y => ?_⟩
  obtain ⟨T, x0, rfl, hT, rfl, e2⟩ := y
  have := e2 xs hs
  rw [h1] at this
  cases this
  obtain ⟨l, q⟩ := lay_tup s2 hT (Reps.cons (Rep.int (k₀ + (i : Nat))) (Reps.cons (h2.mono s1) .nil))
  exact ⟨_, l, q⟩
/-! ### zip of two -/
def ItZ (K : PySem.W.Frag) (a a' : Addr) (b b' : Bool) : It :=
  ⟨fun i H => ∃ (xs ys : List V) (x y : V), Sq K H a b xs ∧ Sq K H a' b' ys ∧ xs[i]? = some x ∧ ys[i]? = some y,
    fun i H v H' => ∃ T x y, v = .ref T ∧ H T = none ∧ H' = upd H T (.tup [x, y]) ∧ (∀ xs, Sq K H a b xs → xs[i]? = some x) ∧ ∀ ys, Sq K H a' b' ys → ys[i]? = some y,
    fun i H => ∃ xs ys : List V, Sq K H a b xs ∧ Sq K H a' b' ys ∧ i ≤ xs.length ∧ i ≤ ys.length ∧ (i = xs.length ∨ i = ys.length)⟩
structure ZAp (z TI TO i1 i2 : Addr) : Prop where
  TIz : TI ≠ z
  TOz : TO ≠ z
  TITO : TI ≠ TO
  TIi1 : TI ≠ i1
  TIi2 : TI ≠ i2
  zi1 : z ≠ i1
  zi2 : z ≠ i2
  Ti1 : TO ≠ i1
  Ti2 : TO ≠ i2
  i12 : i1 ≠ i2
theorem zap_new (N : Nat) : ZAp (N + 4) (N + 2) (N + 3) N (N + 1) :=
  ⟨show N + 2 ≠ N + 4 by omega, show N + 3 ≠ N + 4 by omega, show N + 2 ≠ N + 3 by omega, show N + 2 ≠ N by omega, show N + 2 ≠ N + 1 by omega, show N + 4 ≠ N by omega, show N + 4 ≠ N + 1 by omega, show N + 3 ≠ N by omega, show N + 3 ≠ N + 1 by omega, show N ≠ N + 1 by omega⟩

def iEnum1 (a : EM (List D)) : EM (List D) := fun env g => (a env g).bind fun ds g => match ds with
  | [d] => Out.of ((seqD d).map (rngE 0)) g
  | _ => .stuck
def iEnum2 (a : EM (List D)) : EM (List D) := fun env g => (a env g).bind fun ds g => match ds with
  | [d, .int k] => if okR k = true then Out.of ((seqD d).map (rngE k)) g else .stuck
  | _ => .stuck
set_option maxHeartbeats 4000000 in
theorem meets_enum1 {v : Value} {o : Obj} {Hh : Heap → Prop} (B : Begins v o Hh) :
    Meets (Builtin.«enumerate.__new__» ⟨[.type "enumerate", v], []⟩) (fun _ R s => Hh s.heap ∧
      R (.ok (.ret (.ref (s.heap.push o).objs.size))) { s with heap := (s.heap.push o).push { cls := .type "enumerate", data := .fields #[.none, .bool false, .ref s.heap.objs.size, rawInt 0, .none, .none] } }) :=
  .of_wp fun prog w A R s h => by
    obtain ⟨hp, gg, d, tk, os⟩ := s
    obtain ⟨h1, h⟩ := h
    have hsub := sub_enumerate
    have q1 : ∀ {A' : Around} {E' : Value → Shared → Prop} {Q' : Value → Shared → Prop}, Q' (.ref hp.objs.size) ⟨hp.push o, gg, d, tk, os⟩ → wpAny (model prog w) A' (pyIter v) Q' E' ⟨hp, gg, d, tk, os⟩ :=
      fun q => B.iter prog w _ _ ⟨hp, gg, d, tk, os⟩ _ h1 q
    wp_walk using q1
    refine wpAny_stack_any fun st => wpAny_pure ?_
    split
    · rename_i c _ _ _ _ _
      cases (c == Value.type "enumerate")
      · wp_walk using q1
        exact ⟨_, rfl, h⟩
      · wp_walk using q1
        exact ⟨_, rfl, h⟩
    · wp_walk using q1
      exact ⟨_, rfl, h⟩
theorem call_enum1 {prog : Program} {w : World} {A : Around} {E : Value → Shared → Prop} {s : Shared} {v : Value} {o : Obj} {Hh : Heap → Prop} {Q : Value → Shared → Prop} (B : Begins v o Hh) (h1 : Hh s.heap)
    (h : ∀ h', IsEnum h' (s.heap.objs.size + 1) s.heap.objs.size 0 .none → h'.get? s.heap.objs.size = some o → (∀ b o, s.heap.get? b = some o → h'.get? b = some o) → Q (.ref (s.heap.objs.size + 1)) { s with heap := h' }) :
    wpAny (model prog w) A (call (.type "enumerate") [v]) Q E s := by
  have ez : (s.heap.push o).objs.size = s.heap.objs.size + 1 := Heap.size_push ..
  have he : IsEnum ((s.heap.push o).push { cls := .type "enumerate", data := .fields #[.none, .bool false, .ref s.heap.objs.size, rawInt 0, .none, .none] }) (s.heap.objs.size + 1) s.heap.objs.size 0 .none := by
    have z := Heap.get?_push_size (s.heap.push o) (o := { cls := .type "enumerate", data := .fields #[.none, .bool false, .ref s.heap.objs.size, rawInt 0, .none, .none] }) rfl
    rw [ez] at z
    exact z
  refine callType_new F.called_enumerate (by decide) (F.typeCall_enumerate_1 _) (F.newCall_enumerate_1 _) (fun obj => F.args_object_init_2 obj _) F.entry_enumerate_new (meets_enum1 B) ⟨h1, ?_⟩
  show _ ∧ _
  rw [ez]
  exact ⟨⟨_, he, rfl⟩, h _ he (Heap.get?_push_of_some _ (Heap.get?_push_size _ B.free)) fun b u z => Heap.get?_push_of_some _ (Heap.get?_push_of_some _ z)⟩
section
variable {X : Cx} {C : Cz} {E : XK} {k kk : Nat} {tpos p pos : Pos} {elts : List Expr} {e e2 : Expr} {fs : EM (List D)}
theorem enum_go {pins : List (Addr × Obj)} {σ : L2.St} {H1 : Hp} {s1 : Shared} {R : It → Hp → Prop} {a : Addr} {b : Bool} {xs : List V} {k₀ : Int} (hc : X.calm = true) (I1 : Inv X pins σ H1 s1) (hq : Sq X.K H1 a b xs) (hR : R (ItE X.K a b k₀) H1) {h' : Heap}
    (he : IsEnum h' (s1.heap.objs.size + 1) s1.heap.objs.size k₀ .none) (hi : h'.get? s1.heap.objs.size = some (itO a b)) (hk : ∀ b o, s1.heap.get? b = some o → h'.get? b = some o) :
    wpAny (model X.prog X.w) X.A (pyIter (.ref (s1.heap.objs.size + 1))) (PIE X pins σ (.Tuple elts kk tpos) R) X.xe { s1 with heap := h' } := by
  refine wpAny_pyIter_enum he ?_
  have I2 : Inv X pins σ H1 { s1 with heap := h' } := I1.kept (t' := s1.toks) hk
  have hE : IsEnum h' (s1.heap.objs.size + 1) s1.heap.objs.size (k₀ + ((0 : Nat) : Int)) .none := by
    have e0 : k₀ + ((0 : Nat) : Int) = k₀ := by omega
    rw [e0]; exact he
  refine ⟨s1.heap.objs.size + 1, [s1.heap.objs.size + 1, s1.heap.objs.size], _, _, H1, rfl, I2, turn_enumA a (s1.heap.objs.size + 1) s1.heap.objs.size b k₀, ⟨⟨.none, hE⟩, itA_new hi, Nat.succ_ne_self _⟩, fun c hcm => ?_, hR⟩
  have e' : c = s1.heap.objs.size + 1 ∨ c = s1.heap.objs.size := by simpa using hcm
  have hle : s1.heap.objs.size ≤ c := by
    rcases e' with z | z
    · rw [z]; exact Nat.le_add_right _ _
    · rw [z]; exact Nat.le_refl _
  exact I1.fpOk hle (I1.hok.fresh hle)
theorem fi_enum1 (t : Ties X C (k + 1)) (hg : Gl X "enumerate") (hm : X.mg "enumerate" = none) (ha : FA X C E [e] fs) (hs : starEach [e] X.env = [(false, eval e X.env)] := by rfl) : FI X C E (.Tuple elts kk tpos) (.Call (.Name "enumerate" p) [e] [] pos) (iEnum1 fs) := by
  refine ⟨fun pins s σ H R I ⟨F, env, g, S, h⟩ => ?_⟩
  refine Call_ (ld_blt I hg hm boot_enumerate (PyProof.Rows.callWith_type1 (thn (ha.run pos pins s σ H _ I ⟨F, env, g, S, Run.bind (R := Reps C.K) h⟩) fun us s1 ⟨vs, H1, I1, r1, F1, ds, g1, S1, gr1, q1, h1⟩ => ?_) hs rfl))
  match ds, q1, h1 with
  | [d], q1, h1 =>
    obtain ⟨v, rfl, rv⟩ := q1.one
    obtain ⟨u, rfl, ru⟩ := r1.one
    have h1 : Run C E (Walks C.K) F1 H1 σ env (Out.of ((seqD d).map (rngE 0)) g1) R := h1
    cases q : seqD d with
    | none => rw [q] at h1; exact (show False from h1).elim
    | some ds =>
      rw [q] at h1
      obtain ⟨a, b, xs, rfl, hq, hr⟩ := seq_of rv q
      cases ru
      have hR := Run.val S1 h1 F1 H1 (ItE C.K a b 0) (Laid.refl S1.sub) (walks_enum 0 hq hr)
      rw [t.K] at hq hR
      have hqH := S1.sub.sq hq
      obtain ⟨its, rvv, hsq, _⟩ := seqA I1 hqH
      exact call_enum1 (beginsA a b its.toArray) hsq fun h' he hi hk => enum_go t.calm I1 hqH hR he hi hk
theorem fi_enum2 (t : Ties X C (k + 1)) (hg : Gl X "enumerate") (hm : X.mg "enumerate" = none) (ha : FA X C E [e, e2] fs) (hs : starEach [e, e2] X.env = (false, eval e X.env) :: starEach [e2] X.env := by rfl) (hpl : (backTo pos (starEach [e2] X.env)).any (·.1) = false := by rfl) : FI X C E (.Tuple elts kk tpos) (.Call (.Name "enumerate" p) [e, e2] [] pos) (iEnum2 fs) := by
  refine ⟨fun pins s σ H R I ⟨F, env, g, S, h⟩ => ?_⟩
  refine Call_ (ld_blt I hg hm boot_enumerate (PyProof.Rows.callWith_type1 (thn (ha.run pos pins s σ H _ I ⟨F, env, g, S, Run.bind (R := Reps C.K) h⟩) fun us s1 ⟨vs, H1, I1, r1, F1, ds, g1, S1, gr1, q1, h1⟩ => ?_) hs hpl))
  match ds, q1, h1 with
  | [d, .int k₀], q1, h1 =>
    obtain ⟨v, w, rfl, rv, rw'⟩ := q1.two
    obtain ⟨u, u2, rfl, ru, ru2⟩ := r1.two
    cases rw'.int_inv
    obtain ⟨tk, rfl⟩ := ru2
    have h1 : Run C E (Walks C.K) F1 H1 σ env (if okR k₀ = true then Out.of ((seqD d).map (rngE k₀)) g1 else .stuck) R := h1
    by_cases hok : okR k₀ = true
    · rw [if_pos hok] at h1
      rw [okR_iff] at hok
      cases q : seqD d with
      | none => rw [q] at h1; exact (show False from h1).elim
      | some ds =>
        rw [q] at h1
        obtain ⟨a, b, xs, rfl, hq, hr⟩ := seq_of rv q
        cases ru
        have hR := Run.val S1 h1 F1 H1 (ItE C.K a b k₀) (Laid.refl S1.sub) (walks_enum k₀ hq hr)
        rw [t.K] at hq hR
        have hqH := S1.sub.sq hq
        obtain ⟨its, rvv, hsq, _⟩ := seqA I1 hqH
        exact PySem.enum_begins (beginsA a b its.toArray) hsq (by omega) (by omega) fun h' he hi _ hk => enum_go t.calm I1 hqH hR he hi hk
    · rw [if_neg hok] at h1; exact (show False from h1).elim
end
theorem ItA.fp {h h' : Heap} {it a : Addr} {b : Bool} {i : Nat} (x : ItA h it a b i) (k : h.get? it = h'.get? it) : ItA h' it a b i := x.at fun o e => k ▸ e
theorem turn_zipA {P : Program} {w : World} {K : PySem.W.Frag} {elts : List Expr} {kk : Nat} {tpos : Pos} (a a' : Addr) (b b' : Bool) (z TI TO i1 i2 : Addr) (S : ZAp z TI TO i1 i2) :
    Turn P w K (.Tuple elts kk tpos) (ItZ K a a' b b') [z, TI, TO, i1, i2] z (fun i h => IsZip h z TI TO .none ∧ IsTupOf2 h TI (.ref i1) (.ref i2) ∧ (∃ x y, IsTupOf2 h TO x y) ∧ ItA h i1 a b i ∧ ItA h i2 a' b' i ∧ (a ≠ z ∧ a ≠ TO ∧ a ≠ i2) ∧ (a' ≠ z ∧ a' ≠ TO ∧ a' ≠ i1)) where
  mem := by simp
  obj := fun i h st c hb => by
    obtain ⟨hz, hTI, ⟨x, y, hTO⟩, h1, h2, _, _⟩ := st
    obtain ⟨o1, c1, vs1, ho1, hc1, hd1, _⟩ := h1.obj
    obtain ⟨o2, c2, vs2, ho2, hc2, hd2, _⟩ := h2.obj
    have e' : c = z ∨ c = TI ∨ c = TO ∨ c = i1 ∨ c = i2 := by simpa using hb
    rcases e' with q | q | q | q | q
    · rw [q]; exact ⟨_, hz, fun v q => nomatch q⟩
    · rw [q]; exact ⟨_, hTI, fun v q => nomatch q⟩
    · rw [q]; exact ⟨_, hTO, fun v q => nomatch q⟩
    · rw [q]; exact ⟨o1, ho1, fun v q => by rw [hd1] at q; cases q⟩
    · rw [q]; exact ⟨o2, ho2, fun v q => by rw [hd2] at q; cases q⟩
  keep := fun i h h' st k => by
    obtain ⟨hz, hTI, ⟨x, y, hTO⟩, h1, h2, n1, n2⟩ := st
    exact ⟨k z (by simp) _ hz, k TI (by simp) _ hTI, ⟨x, y, k TO (by simp) _ hTO⟩, h1.at fun o q => k i1 (by simp) o q, h2.at fun o q => k i2 (by simp) o q, n1, n2⟩
  item := by
    intro X hP hw hK hc i pins s σ H E I hf st hg
    subst hP hw hK
    obtain ⟨hz, hTI, ⟨x0, y0, hTO⟩, h1, h2, ⟨n1, n2, n3⟩, ⟨n4, n5, n6⟩⟩ := st
    obtain ⟨xs, ys, x, y, hq, hq', hx, hy⟩ := hg
    obtain ⟨its, rv, p, _⟩ := seqA I hq
    obtain ⟨its', rv', p', _⟩ := seqA I hq'
    obtain ⟨u, hu, ru⟩ := rv.get hx
    obtain ⟨u', hu', ru'⟩ := rv'.get hy
    have l1 : i1 < s.heap.objs.size := by obtain ⟨_, _, _, q, _⟩ := h1.obj; exact Heap.lt_size q
    have l2 : i2 < s.heap.objs.size := by obtain ⟨_, _, _, q, _⟩ := h2.obj; exact Heap.lt_size q
    have lz : z < s.heap.objs.size := Heap.lt_size hz
    have lI : TI < s.heap.objs.size := Heap.lt_size hTI
    have lO : TO < s.heap.objs.size := Heap.lt_size hTO
    have hlt : i < its.toArray.size := by
      have := (List.getElem?_eq_some_iff.mp hu).1
      simpa using this
    have hlt' : i < its'.toArray.size := by
      have := (List.getElem?_eq_some_iff.mp hu').1
      simpa using this
    have Sep : ZipSep2 z TI TO i1 i2 [i1, a] [i2, a'] := ⟨S.TIz, S.TOz, S.TITO, S.TIi1, by simp, by simp [S.zi1, Ne.symm n1], by simp [S.Ti1, Ne.symm n2], S.TIi2, by simp, by simp [S.zi2, Ne.symm n4], by simp [S.Ti2, Ne.symm n5], by simp [S.i12, Ne.symm n6], by simp [Ne.symm S.i12, Ne.symm n3]⟩
    refine wpAny_pyNext_zipD2_item Sep (drawsA (A := X.A.in1) (I.ok.hd hc) i1 a (p.ne h1) b its.toArray) (drawsA (A := X.A.in1) (I.ok.hd hc) i2 a' (p'.ne h2) b' its'.toArray) hz hTI hTO ⟨h1, p⟩ ⟨h2, p'⟩ hlt hlt' fun v v' h' tk hv hv' hz' hTO' d1 d2 hT hsz hk => ?_
    have ev : v = u := by
      have q : its.toArray[i]? = some u := by simpa using hu
      rw [q] at hv; exact (Option.some.inj hv).symm
    have ev' : v' = u' := by
      have q : its'.toArray[i]? = some u' := by simpa using hu'
      rw [q] at hv'; exact (Option.some.inj hv').symm
    subst ev ev'
    refine ⟨_, rfl, wpAny_letOwnedTupleGo_zip (s := { s with heap := h', toks := tk }) hz' fun h'' hz'' sb => ?_⟩
    have sb2 : ∀ c o, c ≠ z → h'.get? c = some o → h''.get? c = some o := fun c o hne q => (sb.2 c hne).trans q
    have hT2 : h''.get? s.heap.objs.size = some { cls := .type "tuple", data := .seq #[v, v'] } := sb2 _ _ (Nat.ne_of_gt lz) hT
    have new : ObjOk X.prog X.w (upd H s.heap.objs.size (.tup [x, y])) h'' s.heap.objs.size (.tup [x, y]) :=
      ⟨by show 2 ≤ sizeLine; decide, [v, v'], .cons ru (.cons ru' .nil), ⟨_, hT2, rfl, _, rfl⟩⟩
    have I1 : Inv X pins σ (upd H s.heap.objs.size (.tup [x, y])) { s with heap := h'', toks := tk } :=
      I.turnedNew (ch := [z, TI, TO, i1, i2]) (fun c ob hb q => sb2 c ob (fun e => hb (by simp [e])) (hk c ob (fun e => hb (by simp [e])) (fun e => hb (by simp [e])) (fun e => hb (by simp [e])) (fun e => hb (by simp [e])) q)) hf (Nat.le_refl _) new
    refine ⟨.ref s.heap.objs.size, _, I1, rfl, ⟨_, x, y, rfl, I.hok.fresh (Nat.le_refl _), rfl, fun ys' hy' => by rw [seqA_inj I hy' hq]; exact hx, fun ys' hy' => by rw [seqA_inj I hy' hq']; exact hy⟩,
      ⟨hz'', sb2 _ _ S.TIz (hk _ _ S.TIz S.TITO S.TIi1 S.TIi2 hTI), ⟨_, _, sb2 _ _ S.TOz hTO'⟩, d1.1.at fun o q => sb2 _ _ (Ne.symm S.zi1) q, d2.1.at fun o q => sb2 _ _ (Ne.symm S.zi2) q, ⟨n1, n2, n3⟩, ⟨n4, n5, n6⟩⟩, fun c hb => ?_⟩
    have hb' : c < s.heap.objs.size := by
      have e' : c = z ∨ c = TI ∨ c = TO ∨ c = i1 ∨ c = i2 := by simpa using hb
      rcases e' with q | q | q | q | q <;> rw [q] <;> assumption
    rw [upd_ne (Nat.ne_of_lt hb')]
    exact (hf c hb).1
  done := by
    intro X hP hw hK hc i pins s σ H E I hf st hg
    subst hP hw hK
    obtain ⟨hz, hTI, ⟨x0, y0, hTO⟩, h1, h2, ⟨n1, n2, n3⟩, ⟨n4, n5, n6⟩⟩ := st
    obtain ⟨xs, ys, hq, hq', hl, hl', he⟩ := hg
    obtain ⟨its, rv, p, _⟩ := seqA I hq
    obtain ⟨its', rv', p', _⟩ := seqA I hq'
    have Sep : ZipSep2 z TI TO i1 i2 [i1, a] [i2, a'] := ⟨S.TIz, S.TOz, S.TITO, S.TIi1, by simp, by simp [S.zi1, Ne.symm n1], by simp [S.Ti1, Ne.symm n2], S.TIi2, by simp, by simp [S.zi2, Ne.symm n4], by simp [S.Ti2, Ne.symm n5], by simp [S.i12, Ne.symm n6], by simp [Ne.symm S.i12, Ne.symm n3]⟩
    have z1 : its.toArray.size = xs.length := by rw [List.size_toArray, ← rv.length]
    have z2 : its'.toArray.size = ys.length := by rw [List.size_toArray, ← rv'.length]
    refine wpAny_pyNext_zipD2_end Sep (drawsA (A := X.A.in1) (I.ok.hd hc) i1 a (p.ne h1) b its.toArray) (drawsA (A := X.A.in1) (I.ok.hd hc) i2 a' (p'.ne h2) b' its'.toArray) hz hTI hTO ⟨h1, p⟩ ⟨h2, p'⟩ (by omega) (by omega) (by omega) fun h' tk hk => ⟨rfl, ?_⟩
    exact I.turnedL (ch := [z, TI, TO, i1, i2]) (t' := tk) (fun c o hb q => hk c o (fun e => hb (by simp [e])) (fun e => hb (by simp [e])) (fun e => hb (by simp [e])) (fun e => hb (by simp [e])) q) hf
  self := fun A i s Q E st h => wpAny_pyIter_zip st.1 h
def zipD (ds es : List D) : List D := List.zipWith (fun d e => .tuple [d, e]) ds es
theorem walks_zip {K : PySem.W.Frag} {F : Hp} {a a' : Addr} {b b' : Bool} {xs ys : List V} {ds es : List D} (h : Sq K F a b xs) (r : Reps K F xs ds) (h' : Sq K F a' b' ys) (r' : Reps K F ys es) : Walks K F (ItZ K a a' b b') (zipD ds es) := fun i F' H' s1 s2 => by
  have hs : Sq K H' a b xs := s2.sq (s1.sq h)
  have hs' : Sq K H' a' b' ys := s2.sq (s1.sq h')
  refine ⟨fun d e => ?_, fun hl => ?_⟩
  · unfold zipD at e
    obtain ⟨d0, e0, q1, q2, rfl⟩ := List.getElem?_zipWith_eq_some.mp e
    obtain ⟨v, h1, h2⟩ := r.get q1
    obtain ⟨u, h3, h4⟩ := r'.get q2
    refine ⟨⟨xs, ys, v, u, hs, hs', h1, h3⟩, fun x H'' y => ?_⟩
    obtain ⟨T, x0, y0, rfl, hT, rfl, e2, e3⟩ := y
    have := e2 xs hs
    rw [h1] at this
    cases this
    have := e3 ys hs'
    rw [h3] at this
    cases this
    obtain ⟨l, q⟩ := lay_tup s2 hT (Reps.cons (h2.mono s1) (Reps.cons (h4.mono s1) .nil))
    exact ⟨_, l, q⟩
  · have hl' : i = min ds.length es.length := by rw [hl]; unfold zipD; rw [List.length_zipWith]
    have e1 := r.length
    have e2 := r'.length
    exact ⟨xs, ys, hs, hs', by omega, by omega, by omega⟩
def iZip2 (a : EM (List D)) : EM (List D) := fun env g => (a env g).bind fun ds g => match ds with
  | [d, e] => Out.of ((seqD d).bind fun ds => (seqD e).map fun es => zipD ds es) g
  | _ => .stuck
section
variable {X : Cx} {C : Cz} {E : XK} {k kk : Nat} {tpos p pos : Pos} {elts : List Expr} {e e2 : Expr} {fs : EM (List D)}
theorem fi_zip2 (t : Ties X C (k + 1)) (hg : Gl X "zip") (hm : X.mg "zip" = none) (ha : FA X C E [e, e2] fs) (hs : starEach [e, e2] X.env = (false, eval e X.env) :: starEach [e2] X.env := by rfl) (hpl : (backTo pos (starEach [e2] X.env)).any (·.1) = false := by rfl) : FI X C E (.Tuple elts kk tpos) (.Call (.Name "zip" p) [e, e2] [] pos) (iZip2 fs) := by
  refine ⟨fun pins s σ H R I ⟨F, env, g, S, h⟩ => ?_⟩
  refine Call_ (ld_blt I hg hm boot_zip (PyProof.Rows.callWith_type1 (thn (ha.run pos pins s σ H _ I ⟨F, env, g, S, Run.bind (R := Reps C.K) h⟩) fun us s1 ⟨vs, H1, I1, r1, F1, ds, g1, S1, gr1, q1, h1⟩ => ?_) hs hpl))
  match ds, q1, h1 with
  | [d, d'], q1, h1 =>
    obtain ⟨v, v', rfl, rv, rv'⟩ := q1.two
    obtain ⟨u, u', rfl, ru, ru'⟩ := r1.two
    have h1 : Run C E (Walks C.K) F1 H1 σ env (Out.of ((seqD d).bind fun ds => (seqD d').map fun es => zipD ds es) g1) R := h1
    cases q : seqD d with
    | none => rw [q] at h1; exact (show False from h1).elim
    | some ds =>
      cases q' : seqD d' with
      | none => rw [q, q'] at h1; exact (show False from h1).elim
      | some es =>
        rw [q, q'] at h1
        obtain ⟨a, b, xs, rfl, hq, hr⟩ := seq_of rv q
        obtain ⟨a', b', ys, rfl, hq', hr'⟩ := seq_of rv' q'
        cases ru
        cases ru'
        have hR := Run.val S1 h1 F1 H1 (ItZ C.K a a' b b') (Laid.refl S1.sub) (walks_zip hq hr hq' hr')
        rw [t.K] at hq hq' hR
        have hqH := S1.sub.sq hq
        have hqH' := S1.sub.sq hq'
        obtain ⟨its, rvv, hsq, _⟩ := seqA I1 hqH
        obtain ⟨its', rvv', hsq', _⟩ := seqA I1 hqH'
        have la : a < s1.heap.objs.size := by obtain ⟨_, _, q, _⟩ := hsq.obj; exact Heap.lt_size q
        have la' : a' < s1.heap.objs.size := by obtain ⟨_, _, q, _⟩ := hsq'.obj; exact Heap.lt_size q
        refine PySem.zip_begins2 (beginsA a b its.toArray) (beginsA a' b' its'.toArray) hsq hsq' fun h' hz hTI hTO hi hi' hsz hk => ?_
        refine wpAny_pyIter_zip hz ?_
        have I2 : Inv X pins σ H1 { s1 with heap := h' } := I1.kept (t' := s1.toks) hk
        have ap : ∀ j, a ≠ s1.heap.objs.size + j := fun j => Nat.ne_of_lt (Nat.lt_of_lt_of_le la (Nat.le_add_right _ _))
        have ap' : ∀ j, a' ≠ s1.heap.objs.size + j := fun j => Nat.ne_of_lt (Nat.lt_of_lt_of_le la' (Nat.le_add_right _ _))
        refine ⟨s1.heap.objs.size + 4, [s1.heap.objs.size + 4, s1.heap.objs.size + 2, s1.heap.objs.size + 3, s1.heap.objs.size, s1.heap.objs.size + 1], _, _, H1, rfl, I2,
          turn_zipA a a' b b' (s1.heap.objs.size + 4) (s1.heap.objs.size + 2) (s1.heap.objs.size + 3) s1.heap.objs.size (s1.heap.objs.size + 1) (zap_new _),
          ⟨hz, hTI, ⟨_, _, hTO⟩, itA_new hi, itA_new hi', ⟨ap 4, ap 3, ap 1⟩, ⟨ap' 4, ap' 3, ap' 0⟩⟩, fun c hcm => ?_, hR⟩
        have hle : s1.heap.objs.size ≤ c := by
          have e' : c = s1.heap.objs.size + 4 ∨ c = s1.heap.objs.size + 2 ∨ c = s1.heap.objs.size + 3 ∨ c = s1.heap.objs.size ∨ c = s1.heap.objs.size + 1 := by simpa using hcm
          rcases e' with z | z | z | z | z <;> rw [z] <;> first | exact Nat.le_refl _ | exact Nat.le_add_right _ _
        exact I1.fpOk hle (I1.hok.fresh hle)
  | [], q1, h1 => exact (show False from h1).elim
  | [_], q1, h1 => exact (show False from h1).elim
  | _ :: _ :: _ :: _, q1, h1 => exact (show False from h1).elim
end
/-! ### range of three -/
theorem Reps.three {K : PySem.W.Frag} {F : Hp} {xs : List V} {d e f : D} (r : Reps K F xs [d, e, f]) : ∃ x y z, xs = [x, y, z] ∧ Rep K F x d ∧ Rep K F y e ∧ Rep K F z f := by
  cases r with
  | cons h r =>
    obtain ⟨y, z, rfl, h2, h3⟩ := r.two
    exact ⟨_, y, z, rfl, h, h2, h3⟩
open PySem.Builtin.Range (rangeSize small)
def rgOk (i j c : Int) : Bool := decide (c ≠ 0) && decide (c.natAbs < 1073741824) && Builtin.Range.small i j c && decide (0 ≤ Builtin.Range.rangeSize i j c)
def iRange3 (a : EM (List D)) : EM (List D) := fun env g => (a env g).bind fun ds g => match ds with
  | [.int i, .int j, .int c] => if rgOk i j c = true then .ok (rngC i c (Builtin.Range.rangeSize i j c).toNat) g else .stuck
  | _ => .stuck
theorem walks_rngC {K : PySem.W.Frag} {F : Hp} (lo c : Int) (n : Nat) : Walks K F (Itc lo c n) (rngC lo c n) := fun i F' H' s1 s2 => by
  refine ⟨fun d e => ?_, fun hl => show n ≤ i by subst hl; simp [rngC]⟩
  unfold rngC at e
  rw [List.getElem?_map, Option.map_eq_some_iff] at e
  obtain ⟨k, e, rfl⟩ := e
  obtain ⟨hi, e'⟩ := List.getElem?_eq_some_iff.mp e
  rw [List.length_range] at hi
  rw [List.getElem_range] at e'
  subst e'
  refine ⟨hi, fun x H'' y => ?_⟩
  obtain ⟨e1, e2⟩ := y
  subst e1 e2
  exact ⟨F', Laid.refl s2, .int _⟩
section
variable {X : Cx} {C : Cz} {E : XK} {tg : Expr} {p pos : Pos} {fs : EM (List D)}
theorem fi_range3 {a b c : Expr} (hg : Gl X "range") (hm : X.mg "range" = none) (ha : FA X C E [a, b, c] fs) (hs : starEach [a, b, c] X.env = (false, eval a X.env) :: starEach [b, c] X.env := by rfl) (hpl : (backTo pos (starEach [b, c] X.env)).any (·.1) = false := by rfl) : FI X C E tg (.Call (.Name "range" p) [a, b, c] [] pos) (iRange3 fs) := by
  refine (pi_range3 hg hm ha hs hpl).impD fun σ H R ⟨F, env, g, S, h⟩ => ?_
  refine ⟨F, env, g, S, (Run.bind (R := Reps C.K) h).imp fun xs H1 ⟨F1, ds, g1, S1, gr1, r1, h1⟩ => ?_⟩
  match ds, r1, h1 with
  | [.int i, .int j, .int c], r1, h1 =>
    obtain ⟨x, y, z, rfl, h0, h2, h3⟩ := r1.three
    cases h0.int_inv; cases h2.int_inv; cases h3.int_inv
    have h1 : Run C E (Walks C.K) F1 H1 σ env (if rgOk i j c = true then .ok (rngC i c (Builtin.Range.rangeSize i j c).toNat) g1 else .stuck) R := h1
    split at h1
    · rename_i hz
      unfold rgOk at hz
      rw [Bool.and_eq_true, Bool.and_eq_true, Bool.and_eq_true, decide_eq_true_eq, decide_eq_true_eq, decide_eq_true_eq] at hz
      exact ⟨i, j, c, _, rfl, ⟨hz.1.1.1, hz.1.1.2, hz.1.2, (Int.toNat_of_nonneg hz.2).symm⟩, Run.val S1 h1 F1 H1 _ (Laid.refl S1.sub) (walks_rngC _ _ _)⟩
    · exact (show False from h1).elim
end
end DL

set_option Elab.async false
set_option linter.all false
set_option maxRecDepth 100000
set_option maxHeartbeats 2000000
namespace DL
open PySem PySem.Spec PyProof.Rows L2

/-! ### the drawing hand, read and written -/
def handD (g : G) : Nat → Option D
  | 0 => some (.list (g.cells.map .int))
  | 1 => some (.int g.i)
  | 2 => some (.int g.big)
  | 3 => some (.int g.mix)
  | 4 => some (.int g.n)
  | _ => none
def handPut (g : G) : Nat → D → Option G
  | 1, .int x => some { g with i := x }
  | 2, .int x => some { g with big := x }
  | 3, .int x => some { g with mix := x }
  | 4, .int x => some { g with n := x }
  | _, _ => none
def eHand (i k : Nat) : EM D := fun env g => match env[i]? with
  | some .hand => Out.of (handD g k) g
  | _ => .stuck
def sHand (i k : Nat) (a : EM D) : SM := fun env g => (a env g).bind fun d g => match env[i]? with
  | some .hand => match handPut g k d with
    | some g' => .ok (.next, env) g'
    | none => .stuck
  | _ => .stuck
theorem Rep.ofCells {K : PySem.W.Frag} {F : Hp} {c : Addr} {ns : List Int} (h : F c = some (.lst (ns.map V.int))) : Rep K F (.ref c) (.list (ns.map .int)) := .lst h (Reps.ofInts ns)
theorem hand_items {C : Cz} {F H : Hp} {σ : L2.St} {env : List Sl} {g : G} (S : SOK C F H σ env g) {a : Addr} (e : C.ha = some a) {k : Nat} {d : D} (hd : handD g k = some d) :
    ∃ xs v, H a = some (.lst xs) ∧ atI xs (k : Int) = some v ∧ Rep C.K F v d := by
  obtain ⟨_, ⟨h2, h3⟩, _⟩ := S.hand a e
  match k, hd with
  | 0, hd => cases hd; exact ⟨_, _, h2, rfl, Rep.ofCells (S.grow.frz _ _ h3)⟩
  | 1, hd => cases hd; exact ⟨_, _, h2, rfl, .int _⟩
  | 2, hd => cases hd; exact ⟨_, _, h2, rfl, .int _⟩
  | 3, hd => cases hd; exact ⟨_, _, h2, rfl, .int _⟩
  | 4, hd => cases hd; exact ⟨_, _, h2, rfl, .int _⟩
/-- the hand's list is written -/
theorem SOK.handTo {C : Cz} {F H : Hp} {σ : L2.St} {env : List Sl} {g g' : G} (S : SOK C F H σ env g) {a : Addr} (e : C.ha = some a) (hc : g'.cells = g.cells) :
    SOK C F (upd H a (.lst [.ref C.hc, .int g'.i, .int g'.big, .int g'.mix, .int g'.n])) σ env g' := by
  obtain ⟨hF, ⟨h2, h3⟩, h0⟩ := S.hand a e
  exact {
    grow := ⟨fun b o h n t => by
        rw [upd_ne (fun z => n (by rw [z]; exact e))]
        exact S.grow.keep b o h n t, S.grow.frz, S.grow.new, fun b h => by
        by_cases z : b = a
        · rw [z, upd_same] at h; cases h
        · rw [upd_ne z] at h; exact S.grow.there b h⟩
    sub := fun b o q => by
      rw [upd_ne (fun z => by subst z; rw [hF] at q; cases q)]
      exact S.sub b o q
    ntb := S.ntb
    tabs := fun q hq => by
      obtain ⟨ps, t1, t2, t3⟩ := S.tabs q hq
      refine ⟨ps, by rw [upd_ne (fun z => by rw [z, h2] at t1; cases t1)]; exact t1, t2, fun pos cv hcv => ?_⟩
      obtain ⟨c, e1, e2⟩ := t3 pos cv hcv
      exact ⟨c, e1, by rw [upd_ne (fun z => by rw [z, h2] at e2; unfold LamX.CodeO at e2; cases e2)]; exact e2⟩
    hand := fun b eb => by
      rw [e] at eb; cases eb
      exact ⟨hF, ⟨upd_same, by rw [hc]; exact h3⟩, h0⟩
    len := S.len
    slot := fun i sl q => by
      obtain ⟨x, h1, h5⟩ := S.slot i sl q
      refine ⟨x, h1, ?_⟩
      cases sl with
      | own ds =>
        obtain ⟨p, vs, rfl, h6, h7, h8, h9⟩ := h5
        exact ⟨p, vs, rfl, h6, h7, by rw [upd_ne (fun z => h0 (by rw [← z]; exact h7))]; exact h8, h9⟩
      | ownd _ ds =>
        obtain ⟨p, vs, rfl, h6, h7, h8, h9⟩ := h5
        exact ⟨p, vs, rfl, h6, h7, by rw [upd_ne (fun z => h0 (by rw [← z]; exact h7))]; exact h8, h9⟩
      | un => trivial
      | dat d => exact h5
      | hand => exact h5
      | fn a => exact h5
      | scr a => exact h5
    apart := S.apart }
theorem handPut_is {g g' : G} {k : Nat} {d : D} (h : handPut g k d = some g') : ∃ x : Int, d = .int x ∧ g'.cells = g.cells ∧ ixN 5 (k : Int) = some k ∧
    ∀ c : Addr, [V.ref c, .int g.i, .int g.big, .int g.mix, .int g.n].set k (.int x) = [.ref c, .int g'.i, .int g'.big, .int g'.mix, .int g'.n] := by
  match k, d, h with
  | 1, .int x, h => cases h; exact ⟨x, rfl, rfl, by decide, fun c => rfl⟩
  | 2, .int x, h => cases h; exact ⟨x, rfl, rfl, by decide, fun c => rfl⟩
  | 3, .int x, h => cases h; exact ⟨x, rfl, rfl, by decide, fun c => rfl⟩
  | 4, .int x, h => cases h; exact ⟨x, rfl, rfl, by decide, fun c => rfl⟩
section
variable {X : Cx} {C : Cz} {E : XK} {k i : Nat} {e : Expr} {fa : EM D} {x : Str} {pos : Pos}
theorem fe_hand {j jj : Nat} {np kp : Pos} (t : Ties X C k) (hi : X.N[i]? = some x) (hv : Vis X.env.scope x) (hs : PlainIx (.Constant (.int (j : Int)) jj kp)) (hd : (x == ("__debug__" : Str)) = false := by decide) (hcd : (x == ("__classdict__" : Str)) = false := by decide) :
    FE X C E (.Subscript (.Name x np) (.Constant (.int (j : Int)) jj kp) pos) (eHand i j) := by
  refine (pe_ix ix_list (pe_var hi hv hd hcd) pe_int hs).impD fun σ H Q ⟨F, env, g, S, h⟩ => ?_
  unfold eHand at h
  cases q : env[i]? with
  | none => rw [q] at h; exact (show False from h).elim
  | some sl =>
    rw [q] at h
    cases sl with
    | hand =>
      obtain ⟨y, h1, a, rfl, e⟩ := S.slot i _ q
      obtain ⟨d, e1, e2⟩ := Run.of S h
      obtain ⟨xs, v, h3, h4, h5⟩ := hand_items S e e1
      exact ⟨.ref a, h1, ⟨a, xs, _, v, rfl, rfl, .inl (.inl h3), h4, e2 F H v (Laid.refl S.sub) h5⟩⟩
    | un => exact (show False from h).elim
    | dat d => exact (show False from h).elim
    | own ds => exact (show False from h).elim
    | fn a => exact (show False from h).elim
    | scr a => exact (show False from h).elim
    | ownd _ a => exact (show False from h).elim
theorem fs_hand {j jj : Nat} {np kp sp : Pos} (t : Ties X C k) (hi : X.N[i]? = some x) (hv : Vis X.env.scope x) (ha : FE X C E e fa) (hd : (x == ("__debug__" : Str)) = false := by decide) (hcd : (x == ("__classdict__" : Str)) = false := by decide)
    (hs : swapsWithSole [.Subscript (.Name x np) (.Constant (.int (j : Int)) jj kp) sp] e pos.line X.env = pure false := by rfl) (hw : swappedStores [.Subscript (.Name x np) (.Constant (.int (j : Int)) jj kp) sp] e X.env = pure none := by rfl) :
    FS X C E (.Assign [.Subscript (.Name x np) (.Constant (.int (j : Int)) jj kp) sp] e pos) (sHand i j fa) := by
  refine (ps_asg ha (pg_sub (pe_var hi hv hd hcd) pe_int set_list) hs hw).impD fun D σ H ⟨F, env, g, S, h⟩ => ?_
  refine ⟨F, env, g, S, (RunS.bind (R := Rep C.K) h).imp fun v H1 ⟨F1, d1, g1, S1, gr1, r1, h0⟩ => ?_⟩
  have h1 : RunS C E F1 (match env[i]? with
    | some .hand => match handPut g1 j d1 with
      | some g' => .ok (.next, env) g'
      | none => .stuck
    | _ => .stuck) D := h0
  clear h0
  cases q : env[i]? with
  | none => rw [q] at h1; exact (show False from h1).elim
  | some sl =>
    rw [q] at h1
    cases sl with
    | hand =>
      obtain ⟨y, h2, a, rfl, e⟩ := S1.slot i _ q
      cases q2 : handPut g1 j d1 with
      | none => rw [q2] at h1; exact (show False from h1).elim
      | some g2 =>
        rw [q2] at h1
        obtain ⟨z, rfl, hc, hn, hset⟩ := handPut_is q2
        obtain ⟨_, ⟨h5, _⟩, _⟩ := S1.hand a e
        cases r1
        refine ⟨.ref a, h2, ⟨a, _, _, _, rfl, rfl, h5, hn, ?_⟩⟩
        rw [hset]
        exact h1 F1 _ σ (S1.handTo e hc) (Sub.refl _)
    | un => exact (show False from h1).elim
    | dat d => exact (show False from h1).elim
    | own ds => exact (show False from h1).elim
    | fn a => exact (show False from h1).elim
    | scr a => exact (show False from h1).elim
    | ownd _ a => exact (show False from h1).elim
end
end DL

set_option Elab.async false
set_option linter.all false
set_option maxRecDepth 100000
set_option maxHeartbeats 2000000
namespace DL
open PySem PySem.Spec PyProof.Rows L2

/-! ### new lists -/
section
variable {α β : Type} {C : Cz} {E : XK} {R : Hp → β → α → Prop} {F H F1 H1 : Hp} {σ : L2.St} {env : List Sl} {g : G} {o : Out α}
theorem RunN.shift {o : Out (List D)} {Q : VK} (gr : Grow C.ha F H F1 H1) (h : RunN C E F H σ env o Q) : RunN C E F1 H1 σ env o Q := by
  cases o with
  | ok ds g => exact fun F' H' p xs S gr' hF h1 hp r no => h F' H' p xs S (gr.trans gr') hF (gr.there p h1) hp r no
  | err c g => exact fun F' H' S gr' => h F' H' S (gr.trans gr')
  | stuck => exact h
theorem RunN.bind {k : α → G → Out (List D)} {Q : VK} (h : RunN C E F H σ env (o.bind k) Q) :
    Run C E R F H σ env o fun v H1 => ∃ F1 d g1, SOK C F1 H1 σ env g1 ∧ Grow C.ha F H F1 H1 ∧ R F1 v d ∧ RunN C E F1 H1 σ env (k d g1) Q := by
  cases o with
  | ok d g => exact fun F' H' v s gr r => ⟨F', d, g, s, gr, r, RunN.shift gr h⟩
  | err c g => exact h
  | stuck => exact h
theorem RunN.new {Q : VK} {ds : List D} (S : SOK C F H σ env g) (h : RunN C E F H σ env (.ok ds g) Q) {p : Addr} {xs : List V} (n : H p = none) (r : Reps C.K F xs ds) : Q (.ref p) (upd H p (.lst xs)) := by
  have hF := S.sub.free n
  have h0 := S.grow.there p n
  refine h F _ p xs (S.poke hF h0 (fun ps z => by rw [n] at z; cases z) (fun φ z => by rw [n] at z; cases z) (S.noOwn n)) ?_ hF n upd_same r (S.noOwn n)
  exact (Laid.mk (sub_upd n) (Sub.refl _) (S.sub.trans (sub_upd n)) (fun _ a n => absurd a n) (fun _ _ a e => by rw [a] at e; cases e)).grow
end
def eLstL (a : EM (List D)) : EM (List D) := fun env g => (a env g).bind fun xs g => if xs.length ≤ sizeLine then .ok xs g else .stuck
def eCatL (a b : EM D) : EM (List D) := fun env g => (a env g).bind fun x g => (b env g).bind fun y g => match x, y with
  | .list xs, .list ys => if xs.length + ys.length ≤ sizeLine then .ok (xs ++ ys) g else .stuck
  | _, _ => .stuck
def eRepL (a b : EM D) : EM (List D) := fun env g => (a env g).bind fun x g => (b env g).bind fun y g => match x, y with
  | .list xs, .int j => if (decide (-(2 ^ 63) ≤ j) && decide (j < 2 ^ 63) && decide (xs.length * j.toNat ≤ sizeLine)) = true then .ok (List.replicate j.toNat xs).flatten g else .stuck
  | _, _ => .stuck
def eListL (a : EM (List D)) : EM (List D) := fun env g => (a env g).bind fun xs g => match xs with
  | [.list ys] => .ok ys g
  | [.tuple ys] => .ok ys g
  | _ => .stuck
section
variable {X : Cx} {C : Cz} {E : XK} {k i : Nat} {a b e : Expr} {es : List Expr} {fa fb : EM D} {fs : EM (List D)} {f : EM (List D)} {x : Str} {pos : Pos} {sts : List Stmt} {m : SM}
theorem fn_lst (h : FA X C E es fs) : FN X C E (.List es pos) (eLstL fs) := by
  refine (pe_lst h).impD fun σ H Q ⟨F, env, g, S, h⟩ => ?_
  refine ⟨F, env, g, S, (RunN.bind (R := Reps C.K) h).imp fun xs H1 ⟨F1, ds, g1, S1, gr1, r1, h1⟩ => ?_⟩
  have h2 : RunN C E F1 H1 σ env (if ds.length ≤ sizeLine then .ok ds g1 else .stuck) Q := h1
  by_cases hz : ds.length ≤ sizeLine
  · rw [if_pos hz] at h2
    exact ⟨by rw [r1.length]; exact hz, fun p n => RunN.new S1 h2 n r1⟩
  · rw [if_neg hz] at h2; exact (show False from h2).elim
theorem fn_cat (ha : FE X C E a fa) (hb : FE X C E b fb) : FN X C E (.BinOp a .Add b pos) (eCatL fa fb) := by
  refine (pe_op op_cat ha hb).impD fun σ H Q ⟨F, env, g, S, h⟩ => ?_
  refine ⟨F, env, g, S, (RunN.bind (R := Rep C.K) h).imp fun x H1 ⟨F1, d1, g1, S1, gr1, r1, h1⟩ => ?_⟩
  refine ⟨F1, env, g1, S1, (RunN.bind (R := Rep C.K) h1).imp fun y H2 ⟨F2, d2, g2, S2, gr2, r2, h2⟩ => ?_⟩
  have r1' := r1.mono gr2.frz
  clear h h1 r1
  match d1, d2, r1', r2, h2 with
  | .list xs, .list ys, r1', r2, h2 =>
    obtain ⟨p, vs, rfl, h3, h4⟩ := r1'.list_inv
    obtain ⟨q, ws, rfl, h5, h6⟩ := r2.list_inv
    have h2 : RunN C E F2 H2 σ env (if xs.length + ys.length ≤ sizeLine then .ok (xs ++ ys) g2 else .stuck) Q := h2
    by_cases hz : xs.length + ys.length ≤ sizeLine
    · rw [if_pos hz] at h2
      exact ⟨p, q, vs, ws, rfl, rfl, S2.sub _ _ h3, S2.sub _ _ h5, by rw [h4.length, h6.length]; exact hz, fun z n => RunN.new S2 h2 n (h4.append h6)⟩
    · rw [if_neg hz] at h2; exact (show False from h2).elim
theorem fn_rep (ha : FE X C E a fa) (hb : FE X C E b fb) : FN X C E (.BinOp a .Mult b pos) (eRepL fa fb) := by
  refine (pe_op op_rep ha hb).impD fun σ H Q ⟨F, env, g, S, h⟩ => ?_
  refine ⟨F, env, g, S, (RunN.bind (R := Rep C.K) h).imp fun x H1 ⟨F1, d1, g1, S1, gr1, r1, h1⟩ => ?_⟩
  refine ⟨F1, env, g1, S1, (RunN.bind (R := Rep C.K) h1).imp fun y H2 ⟨F2, d2, g2, S2, gr2, r2, h2⟩ => ?_⟩
  have r1' := r1.mono gr2.frz
  clear h h1 r1
  match d1, d2, r1', r2, h2 with
  | .list xs, .int j, r1', r2, h2 =>
    obtain ⟨p, vs, rfl, h3, h4⟩ := r1'.list_inv
    cases r2.int_inv
    have h2 : RunN C E F2 H2 σ env (if (decide (-(2 ^ 63) ≤ j) && decide (j < 2 ^ 63) && decide (xs.length * j.toNat ≤ sizeLine)) = true then .ok (List.replicate j.toNat xs).flatten g2 else .stuck) Q := h2
    split at h2
    · rename_i hz
      simp only [Bool.and_eq_true, decide_eq_true_eq] at hz
      exact ⟨p, j, vs, rfl, rfl, S2.sub _ _ h3, hz.1.1, hz.1.2, by rw [h4.length]; exact hz.2, fun z n => RunN.new S2 h2 n (h4.flat _)⟩
    · exact (show False from h2).elim
theorem fn_list {p : Pos} (t : Ties X C k) (hg : Gl X "list") (hm : X.mg "list" = none) (hv : bootBuiltins "list" = some (.type "list")) (ha : FA X C E (e :: es) fs)
    (he : starEach (e :: es) X.env = (false, eval e X.env) :: starEach es X.env := by rfl) (hpl : (backTo pos (starEach es X.env)).any (·.1) = false := by rfl) : FN X C E (.Call (.Name "list" p) (e :: es) [] pos) (eListL fs) := by
  refine (pe_callTy call_list_of hg hm hv ha (by decide) (by decide) he hpl).impD fun σ H Q ⟨F, env, g, S, h⟩ => ?_
  refine ⟨F, env, g, S, (RunN.bind (R := Reps C.K) h).imp fun xs H1 ⟨F1, ds, g1, S1, gr1, r1, h1⟩ => ?_⟩
  clear h
  match ds, r1, h1 with
  | [.list ys], r1, h1 =>
    obtain ⟨v, rfl, h0⟩ := r1.one
    obtain ⟨p, vs, rfl, h3, h4⟩ := h0.list_inv
    exact ⟨p, vs, rfl, .inl (.inl (.inl (S1.sub _ _ h3))), fun z n => RunN.new S1 h1 n h4⟩
  | [.tuple ys], r1, h1 =>
    obtain ⟨v, rfl, h0⟩ := r1.one
    obtain ⟨p, vs, rfl, h3, h4⟩ := h0.tup_inv
    exact ⟨p, vs, rfl, .inr (by rw [← t.K]; exact S1.sub.sqT h3), fun z n => RunN.new S1 h1 n h4⟩
end

/-! ### own lists of the frame -/
section
variable {C : Cz} {F H : Hp} {σ : L2.St} {env : List Sl} {g : G}
theorem SOK.setOwn (S : SOK C F H σ env g) {p : Addr} {xs : List V} {ds : List D} (hF : F p = none) (h0 : C.H₀ p = none) (hp : H p = some (.lst xs)) (r : Reps C.K F xs ds)
    (no : NoO σ env p) (i : Nat) : SOK C F H (σ.set i (some (.ref p))) (env.set i (.own ds)) g where
  grow := S.grow
  sub := S.sub
  ntb := S.ntb
  tabs := S.tabs
  hand := S.hand
  len := by rw [List.length_set, List.length_set]; exact S.len
  slot := fun j sl e => by
    by_cases h : i = j
    · subst h
      have hl : i < env.length := by
        have := (List.getElem?_eq_some_iff.mp e).1
        rwa [List.length_set] at this
      rw [List.getElem?_set_self hl] at e
      cases e
      exact ⟨some (.ref p), by rw [List.getElem?_set_self (by rw [← S.len]; exact hl)], p, xs, rfl, hF, h0, hp, r⟩
    · rw [List.getElem?_set_ne h] at e
      obtain ⟨x, h1, h2⟩ := S.slot j sl e
      exact ⟨x, by rw [List.getElem?_set_ne h]; exact h1, h2⟩
  apart := fun u v a ds1 ds2 e1 e2 o1 o2 e3 e4 => by
    by_cases hu : i = u
    · by_cases hv : i = v
      · rw [← hu, ← hv]
      · subst hu
        rw [List.getElem?_set_ne hv] at e2 e4
        have hl : i < σ.length := by
          have := (List.getElem?_eq_some_iff.mp e3).1
          rwa [List.length_set] at this
        rw [List.getElem?_set_self hl] at e3
        cases e3
        exact absurd e4 (no v ds2 e2 o2)
    · by_cases hv : i = v
      · subst hv
        rw [List.getElem?_set_ne hu] at e1 e3
        have hl : i < σ.length := by
          have := (List.getElem?_eq_some_iff.mp e4).1
          rwa [List.length_set] at this
        rw [List.getElem?_set_self hl] at e4
        cases e4
        exact absurd e3 (no u ds1 e1 o1)
      · rw [List.getElem?_set_ne hu] at e1 e3
        rw [List.getElem?_set_ne hv] at e2 e4
        exact S.apart u v a ds1 ds2 e1 e2 o1 o2 e3 e4
/-- an own list is written -/
theorem SOK.ownTo (S : SOK C F H σ env g) {i : Nat} {ds ds' : List D} {p : Addr} {xs' : List V} (e : env[i]? = some (.own ds)) (hs : σ[i]? = some (some (.ref p))) (r : Reps C.K F xs' ds') : SOK C F (upd H p (.lst xs')) σ (env.set i (.own ds')) g := by
  obtain ⟨x, h1, a, vs, h2, hF, h0, hp, _⟩ := S.slot i _ e
  rw [hs] at h1
  cases h1
  cases h2
  have hl : i < env.length := (List.getElem?_eq_some_iff.mp e).1
  exact {
    grow := ⟨fun b o h n t => by
        rw [upd_ne (fun z => by subst z; rw [h0] at h; cases h)]
        exact S.grow.keep b o h n t, S.grow.frz, S.grow.new, fun b h => by
        by_cases z : b = p
        · rw [z]; exact h0
        · rw [upd_ne z] at h; exact S.grow.there b h⟩
    sub := fun b o q => by
      rw [upd_ne (fun z => by subst z; rw [hF] at q; cases q)]
      exact S.sub b o q
    ntb := S.ntb
    tabs := fun q hq => by
      obtain ⟨ps, t1, t2, t3⟩ := S.tabs q hq
      refine ⟨ps, by rw [upd_ne (fun z => by rw [z, hp] at t1; cases t1)]; exact t1, t2, fun pos cv hcv => ?_⟩
      obtain ⟨c, e1, e2⟩ := t3 pos cv hcv
      exact ⟨c, e1, by rw [upd_ne (fun z => by rw [z, hp] at e2; unfold LamX.CodeO at e2; cases e2)]; exact e2⟩
    hand := fun b eb => by
      obtain ⟨z1, ⟨z2, z3⟩, z4⟩ := S.hand b eb
      exact ⟨z1, ⟨by rw [upd_ne (fun z => z4 (by rw [z]; exact h0))]; exact z2, z3⟩, z4⟩
    len := by rw [List.length_set]; exact S.len
    slot := fun j sl q => by
      by_cases hj : i = j
      · subst hj
        rw [List.getElem?_set_self hl] at q
        cases q
        exact ⟨_, hs, p, xs', rfl, hF, h0, upd_same, r⟩
      · rw [List.getElem?_set_ne hj] at q
        obtain ⟨y, h3, h4⟩ := S.slot j sl q
        refine ⟨y, h3, ?_⟩
        cases sl with
        | own ds2 =>
          obtain ⟨b, ws, rfl, h6, h7, h8, h9⟩ := h4
          exact ⟨b, ws, rfl, h6, h7, by rw [upd_ne (fun z => hj (S.apart i j p _ _ e q rfl rfl hs (by rw [← z]; exact h3)))]; exact h8, h9⟩
        | ownd _ ds2 =>
          obtain ⟨b, ws, rfl, h6, h7, h8, h9⟩ := h4
          exact ⟨b, ws, rfl, h6, h7, by rw [upd_ne (fun z => hj (S.apart i j p _ _ e q rfl rfl hs (by rw [← z]; exact h3)))]; exact h8, h9⟩
        | un => trivial
        | dat d => exact h4
        | hand => exact h4
        | fn a => exact h4
        | scr a => exact h4
    apart := fun u v a ds1 ds2 e1 e2 o1 o2 e3 e4 => by
      have get : ∀ {u : Nat} {ds1 : Sl}, (env.set i (.own ds'))[u]? = some ds1 → isOwn ds1 = true → ∃ ds2, env[u]? = some ds2 ∧ isOwn ds2 = true := fun {u ds1} q w => by
        by_cases hu : i = u
        · subst hu; exact ⟨_, e, rfl⟩
        · rw [List.getElem?_set_ne hu] at q; exact ⟨_, q, w⟩
      obtain ⟨d1, k1, w1⟩ := get e1 o1
      obtain ⟨d2, k2, w2⟩ := get e2 o2
      exact S.apart u v a d1 d2 k1 k2 w1 w2 e3 e4 }
end
def sSetN (i : Nat) (f : EM (List D)) : SM := fun env g => (f env g).bind fun ds g => .ok (.next, env.set i (.own ds)) g
def sRetNew (f : EM (List D)) : SM := fun env g => (f env g).bind fun ds g => .ok (.new ds, env) g
def sRetOwn (i : Nat) : SM := fun env g => match env[i]? with
  | some (.own ds) => .ok (.new ds, env) g
  | _ => .stuck
/-- from now on the list is not changed -/
def frzS : Sl → Sl
  | .own ds => .dat (.list ds)
  | .ownd _ kvs => .dat (.dict kvs)
  | s => s
def sFrz (i : Nat) (m : SM) : SM := fun env g => match env[i]? with
  | some (.own ds) => m (env.set i (.dat (.list ds))) g
  | _ => .stuck
def sApp (i : Nat) (a : EM D) : SM := fun env g => match env[i]? with
  | some (.own ds) => (a env g).bind fun d g => if ds.length < sizeLine then .ok (.next, env.set i (.own (ds ++ [d]))) g else .stuck
  | _ => .stuck
def sPut (i : Nat) (ix a : EM D) : SM := fun env g => match env[i]? with
  | some (.own ds) => (a env g).bind fun d g => (ix env g).bind fun j g => match j with
    | .int j => match ixN ds.length j with
      | some n => .ok (.next, env.set i (.own (ds.set n d))) g
      | none => .stuck
    | _ => .stuck
  | _ => .stuck
/-- x[ix] op= a -/
def sAugAt (i : Nat) (op : D → D → Option D) (ix a : EM D) : SM := fun env g => match env[i]? with
  | some (.own ds) => (ix env g).bind fun j g => match j with
    | .int j => match ixN ds.length j with
      | some n => match ds[n]? with
        | some x => (a env g).bind fun y g => match op x y with
          | some z => .ok (.next, env.set i (.own (ds.set n z))) g
          | none => .stuck
        | none => .stuck
      | none => .stuck
    | _ => .stuck
  | _ => .stuck
section
variable {X : Cx} {C : Cz} {E : XK} {k i : Nat} {a b e : Expr} {es : List Expr} {fa fb : EM D} {fs : EM (List D)} {f : EM (List D)} {x : Str} {pos : Pos} {sts : List Stmt} {m : SM}
theorem RunN.toS {F H : Hp} {σ : L2.St} {env : List Sl} {o : Out (List D)} {kk : List D → G → Out (Fl × List Sl)} {D : Ends} {Q : VK} (h0 : RunS C E F (o.bind kk) D)
    (hq : ∀ (ds : List DL.D) g F' H' p xs, SOK C F' H' σ env g → Grow C.ha F H F' H' → F' p = none → H p = none → H' p = some (.lst xs) → Reps C.K F' xs ds → NoO σ env p → RunS C E F' (kk ds g) D → Q (.ref p) H') : RunN C E F H σ env o Q := by
  cases o with
  | ok ds g => exact fun F' H' p xs S gr hF h1 hp r no => hq ds g F' H' p xs S gr hF h1 hp r no (RunS.shift gr.frz h0)
  | err c g => exact fun F' H' S gr => h0 F' H' σ env S
  | stuck => exact h0
theorem fs_setN {pos' : Pos} (t : Ties X C k) (hi : X.N[i]? = some x) (hx : Loc X.env.scope x) (ha : FN X C E e f) (hs : swapsWith e (some (.Name x pos')) pos.line X.env = pure false := by rfl) (hf : X.fn x = true ∨ X.env.scope.names.lookup x = some .local := by first | exact .inl rfl | exact .inr rfl | assumption) :
    FS X C E (.Assign [.Name x pos'] e pos) (sSetN i f) := by
  refine (ps_set t.nd hi hx ha hs hf).impD fun D σ H ⟨F, env, g, S, h⟩ => ?_
  exact ⟨F, env, g, S, RunN.toS h fun ds g1 F1 H1 p xs S1 gr1 hF hn hp r no h1 => h1 F1 H1 _ (S1.setOwn hF (S.grow.there p hn) hp r no i) (Sub.refl _)⟩
theorem fs_retNew (ha : FN X C E e f) : FS X C E (.Return (some e) pos) (sRetNew f) := by
  refine (ps_ret ha).impD fun D σ H ⟨F, env, g, S, h⟩ => ?_
  refine ⟨F, env, g, S, RunN.toS h fun ds g1 F1 H1 p xs S1 gr1 hF hn hp r no h1 => ?_⟩
  exact h1 F1 H1 σ S1 (Sub.refl _) p xs hF (S.grow.there p hn) hp r
theorem fs_retOwn {np : Pos} (hi : X.N[i]? = some x) (hv : Vis X.env.scope x) (hd : (x == ("__debug__" : Str)) = false := by decide) (hcd : (x == ("__classdict__" : Str)) = false := by decide) : FS X C E (.Return (some (.Name x np)) pos) (sRetOwn i) := by
  refine (ps_ret (pe_var hi hv hd hcd)).impD fun D σ H ⟨F, env, g, S, h⟩ => ?_
  unfold sRetOwn at h
  cases q : env[i]? with
  | none => rw [q] at h; exact (show False from h).elim
  | some sl =>
    rw [q] at h
    cases sl with
    | own ds =>
      obtain ⟨y, h1, p, vs, rfl, h3, h4, h5, h6⟩ := S.slot i _ q
      exact ⟨.ref p, h1, h F H σ S (Sub.refl _) p vs h3 h4 h5 h6⟩
    | un => exact (show False from h).elim
    | dat d => exact (show False from h).elim
    | hand => exact (show False from h).elim
    | fn a => exact (show False from h).elim
    | scr a => exact (show False from h).elim
    | ownd _ a => exact (show False from h).elim
/-- own lists of the frame, from here on not changed -/
theorem SOK.frozen {F H : Hp} {σ : L2.St} {env : List Sl} {g : G} (S : SOK C F H σ env g) {ds : List D} (e : env[i]? = some (.own ds)) : ∃ F', SOK C F' H σ (env.set i (.dat (.list ds))) g ∧ Sub F F' := by
  obtain ⟨y, h1, p, vs, rfl, h3, h4, h5, h6⟩ := S.slot i _ e
  have hl : i < env.length := (List.getElem?_eq_some_iff.mp e).1
  -- without the slot
  have S1 : SOK C F H σ (env.set i .un) g := {
    grow := S.grow, sub := S.sub, ntb := S.ntb, tabs := S.tabs, hand := S.hand
    len := by rw [List.length_set]; exact S.len
    slot := fun j sl q => by
      by_cases hj : i = j
      · subst hj
        rw [List.getElem?_set_self hl] at q
        cases q
        exact ⟨_, h1, trivial⟩
      · rw [List.getElem?_set_ne hj] at q
        exact S.slot j sl q
    apart := fun u v a ds1 ds2 e1 e2 o1 o2 e3 e4 => by
      have ne : ∀ {u : Nat} {ds1 : Sl}, (env.set i .un)[u]? = some ds1 → isOwn ds1 = true → env[u]? = some ds1 := fun {u ds1} q w => by
        by_cases hu : i = u
        · subst hu; rw [List.getElem?_set_self hl] at q; cases q; cases w
        · rw [List.getElem?_set_ne hu] at q; exact q
      exact S.apart u v a ds1 ds2 (ne e1 o1) (ne e2 o2) o1 o2 e3 e4 }
  have no : NoO σ (env.set i .un) p := fun j ds2 q w z => by
    by_cases hj : i = j
    · subst hj; rw [List.getElem?_set_self hl] at q; cases q; cases w
    · rw [List.getElem?_set_ne hj] at q
      exact hj (S.apart i j p _ _ e q rfl w h1 z)
  have S2 := S1.freeze h3 h4 h5 notT_lst no
  refine ⟨upd F p (.lst vs), ?_, sub_upd h3⟩
  have S3 := S2.setDat (v := .ref p) (d := .list ds) (.lst upd_same (h6.mono (sub_upd h3))) i
  rw [List.set_set] at S3
  have e1 : σ.set i (some (.ref p)) = σ := by
    apply List.ext_getElem?
    intro j
    by_cases hj : i = j
    · subst hj; rw [List.getElem?_set_self (by rw [← S.len]; exact hl), h1]
    · rw [List.getElem?_set_ne hj]
  rw [e1] at S3
  exact S3
theorem fss_frz (h : FSs X C E sts m) : FSs X C E sts (sFrz i m) := by
  refine h.impD fun D σ H ⟨F, env, g, S, h⟩ => ?_
  unfold sFrz at h
  cases q : env[i]? with
  | none => rw [q] at h; exact (show False from h).elim
  | some sl =>
    rw [q] at h
    cases sl with
    | own ds =>
      obtain ⟨F', S', sb⟩ := S.frozen q
      exact ⟨F', _, g, S', RunS.shift sb h⟩
    | un => exact (show False from h).elim
    | dat d => exact (show False from h).elim
    | hand => exact (show False from h).elim
    | fn a => exact (show False from h).elim
    | scr a => exact (show False from h).elim
    | ownd _ a => exact (show False from h).elim
theorem fs_frz {st : Stmt} (h : FS X C E st m) : FS X C E st (sFrz i m) := by
  refine h.impD fun D σ H ⟨F, env, g, S, h⟩ => ?_
  unfold sFrz at h
  cases q : env[i]? with
  | none => rw [q] at h; exact (show False from h).elim
  | some sl =>
    rw [q] at h
    cases sl with
    | own ds =>
      obtain ⟨F', S', sb⟩ := S.frozen q
      exact ⟨F', _, g, S', RunS.shift sb h⟩
    | un => exact (show False from h).elim
    | dat d => exact (show False from h).elim
    | hand => exact (show False from h).elim
    | fn a => exact (show False from h).elim
    | scr a => exact (show False from h).elim
    | ownd _ a => exact (show False from h).elim
theorem fs_app {np ap cp : Pos} (t : Ties X C k) (hi : X.N[i]? = some x) (hv : Vis X.env.scope x) (ha : FE X C E e fa) (hd : (x == ("__debug__" : Str)) = false := by decide) (hcd : (x == ("__classdict__" : Str)) = false := by decide)
    (hbase : attributeBase (.Name x np) "append" X.env (eval (.Name x np) X.env) = eval (.Name x np) X.env := by rfl)
    (hfew : ((backTo cp (starEach [e] X.env)).all (fun x => !x.1) && (backToKw cp (keywordEach [] X.env)).all (fun x => x.1.isSome)
      && decide ([e].length + ([] : List Keyword).length + (if ([] : List Keyword).isEmpty then 0 else 1) < 30)) = true := by rfl)
    (hline : (ap.endLine == cp.line) = true := by rfl) (hst : starEach [e] X.env = (false, eval e X.env) :: starEach [] X.env := by rfl) (hplain : (backTo cp (starEach [] X.env)).any (·.1) = false := by rfl)
    (hs : swapsWith (.Call (.Attribute (.Name x np) "append" ap) [e] [] cp) none pos.line X.env = pure false := by rfl) :
    FS X C E (.Expr (.Call (.Attribute (.Name x np) "append" ap) [e] [] cp) pos) (sApp i fa) := by
  refine (ps_expr (pe_bm PySem.F.plainAttrs_list PySem.F.slot_list_append PySem.F.type_list_append mt_append (pe_var hi hv hd hcd) (pa_cons ha pa_nil hst) hbase hfew hline hst hplain) hs).impD fun D σ H ⟨F, env, g, S, h⟩ => ?_
  unfold sApp at h
  cases q : env[i]? with
  | none => rw [q] at h; exact (show False from h).elim
  | some sl =>
    rw [q] at h
    cases sl with
    | own ds =>
      obtain ⟨y, h1, p, vs, rfl, h3, h4, h5, h6⟩ := S.slot i _ q
      refine ⟨.ref p, h1, .inl ⟨rfl, vs, .inl (.inl h5)⟩, F, env, g, S, (RunS.bind (R := Rep C.K) h).imp fun v H1 ⟨F1, d1, g1, S1, gr1, r1, h7⟩ => ?_⟩
      obtain ⟨y2, k1, p2, ws, k2, k3, k4, k5, k6⟩ := S1.slot i _ q
      rw [h1] at k1
      cases k1
      cases k2
      split at h7
      · rename_i hz
        exact ⟨p, ws, v, rfl, rfl, k5, by rw [k6.length]; exact hz, h7 F1 _ σ (S1.ownTo q h1 (k6.append (.cons r1 .nil))) (Sub.refl _)⟩
      · exact (show False from h7).elim
    | un => exact (show False from h).elim
    | dat d => exact (show False from h).elim
    | hand => exact (show False from h).elim
    | fn a => exact (show False from h).elim
    | scr a => exact (show False from h).elim
    | ownd _ a => exact (show False from h).elim
theorem ixN_len {n : Nat} {i : Int} {j : Nat} (h : ixN n i = some j) : j < n := (ixN_seq h).2.1
theorem fs_put {np tp : Pos} (t : Ties X C k) (hi : X.N[i]? = some x) (hv : Vis X.env.scope x) (hb : FE X C E b fb) (ha : FE X C E e fa) (hd : (x == ("__debug__" : Str)) = false := by decide) (hcd : (x == ("__classdict__" : Str)) = false := by decide)
    (hs : swapsWithSole [.Subscript (.Name x np) b tp] e pos.line X.env = pure false := by rfl) (hw : swappedStores [.Subscript (.Name x np) b tp] e X.env = pure none := by rfl)
    (hA : ∀ v, assign (.Subscript (.Name x np) b tp) X.env v = (do
      let ov ← holding [v] (eval (.Name x np) X.env)
      let iv ← holding [v, ov] (eval b X.env)
      standAt tp
      holding [v, ov, iv] (setItem ov iv v)
      release [v, ov, iv] []) := by intro _; rfl) (h1 : (assignEach [.Subscript (.Name x np) b tp] X.env).map (·.2) = [assign (.Subscript (.Name x np) b tp) X.env] := by rfl) :
    FS X C E (.Assign [.Subscript (.Name x np) b tp] e pos) (sPut i fb fa) := by
  refine (ps_asg ha (pg_sub (pe_var hi hv hd hcd) hb set_list hA) hs hw h1).impD fun D σ H ⟨F, env, g, S, h⟩ => ?_
  unfold sPut at h
  cases q : env[i]? with
  | none => rw [q] at h; exact (show False from h).elim
  | some sl =>
    rw [q] at h
    cases sl with
    | own ds =>
      refine ⟨F, env, g, S, (RunS.bind (R := Rep C.K) h).imp fun v H1 ⟨F1, d1, g1, S1, gr1, r1, h7⟩ => ?_⟩
      obtain ⟨y, hy, p, vs, rfl, h3, h4, h5, h6⟩ := S1.slot i _ q
      refine ⟨.ref p, hy, F1, env, g1, S1, (RunS.bind (R := Rep C.K) h7).imp fun w H2 ⟨F2, d2, g2, S2, gr2, r2, h8⟩ => ?_⟩
      obtain ⟨y2, k1, p2, ws, k2, k3, k4, k5, k6⟩ := S2.slot i _ q
      rw [hy] at k1
      cases k1
      cases k2
      match d2, r2, h8 with
      | .int j, r2, h8 =>
        cases r2.int_inv
        have h9 : RunS C E F2 (match ixN ds.length j with
          | some n => .ok (.next, env.set i (.own (ds.set n d1))) g2
          | none => .stuck) D := h8
        cases q9 : ixN ds.length j with
        | none => rw [q9] at h9; exact (show False from h9).elim
        | some n =>
          rw [q9] at h9
          exact ⟨p, ws, j, n, rfl, rfl, k5, by rw [k6.length]; exact q9, h9 F2 _ σ (S2.ownTo q hy (k6.set (r1.mono gr2.frz) n)) (Sub.refl _)⟩
    | un => exact (show False from h).elim
    | dat d => exact (show False from h).elim
    | hand => exact (show False from h).elim
    | fn a => exact (show False from h).elim
    | scr a => exact (show False from h).elim
    | ownd _ a => exact (show False from h).elim
end
end DL

set_option Elab.async false
set_option linter.all false
set_option maxRecDepth 100000
set_option maxHeartbeats 2000000
namespace DL
open PySem PySem.Spec PyProof.Rows L2

/-! ### own lists lent to an expression -/
mutual
/-- no list within -/
def lfree : D → Bool
  | .none => true
  | .bool _ => true
  | .int _ => true
  | .str _ => true
  | .list _ => false
  | .tuple xs => lfrees xs
  | .dict _ => false
def lfrees : List D → Bool
  | [] => true
  | d :: ds => lfree d && lfrees ds
end
/-- the same but for lists -/
def ButL (F F3 : Hp) : Prop := ∀ b o, F b = some o → ¬ OwnHO o → F3 b = some o
theorem ButL.sqT {K : PySem.W.Frag} {F F3 : Hp} (s : ButL F F3) {a : Addr} {xs : List V} (h : SqT K F a xs) : SqT K F3 a xs := by
  rcases h with (h | ⟨o, h⟩) | h
  · exact .inl (.inl (s _ _ h (fun z => by rcases z with ⟨_, z⟩ | ⟨_, z⟩ | ⟨_, z⟩ <;> cases z)))
  · exact .inl (.inr ⟨o, s _ _ h (fun z => by rcases z with ⟨_, z⟩ | ⟨_, z⟩ | ⟨_, z⟩ <;> cases z)⟩)
  · exact .inr h
mutual
theorem Rep.unlend {K : PySem.W.Frag} {F F3 : Hp} (s : ButL F F3) : ∀ (d : D) (v : V), lfree d = true → Rep K F v d → Rep K F3 v d
  | .none, _, _, h => by cases h; exact .non
  | .bool b, _, _, h => by cases h; exact .bl b
  | .int i, _, _, h => by cases h; exact .int i
  | .str x, _, _, h => by cases h; exact .str x
  | .list ds, _, f, h => by simp [lfree] at f
  | .tuple ds, _, f, h => by
    cases h with
    | tup h1 h2 => exact .tup (s.sqT h1) (Reps.unlend s ds _ (by simpa [lfree] using f) h2)
  | .dict _, _, f, _ => by simp [lfree] at f
theorem Reps.unlend {K : PySem.W.Frag} {F F3 : Hp} (s : ButL F F3) : ∀ (ds : List D) (vs : List V), lfrees ds = true → Reps K F vs ds → Reps K F3 vs ds
  | [], _, _, h => by cases h; exact .nil
  | d :: ds, _, f, h => by
    simp only [lfrees, Bool.and_eq_true] at f
    cases h with
    | cons h1 h2 => exact .cons (Rep.unlend s d _ f.1 h1) (Reps.unlend s ds _ f.2 h2)
end
theorem zip_fst_snd {α β : Type} : ∀ l : List (α × β), (l.map (·.1)).zip (l.map (·.2)) = l
  | [] => rfl
  | (a, b) :: l => by simp [zip_fst_snd l]
theorem DicAt.rep {K : PySem.W.Frag} {F : Hp} {b : Bool} {o : HO} {kvs : List (D × D)} {p : Addr} (h : DicAt K F b o kvs) (hp : F p = some o) : Rep K F (.ref p) (.dict kvs) := by
  cases b with
  | false =>
    obtain ⟨kk, rfl, e, r⟩ := h
    have := Rep.dK hp r
    rw [← e, zip_fst_snd] at this
    exact this
  | true =>
    obtain ⟨kk, rfl, e, r⟩ := h
    have := Rep.dT hp r
    rw [← e, zip_fst_snd] at this
    exact this
def frzAll (env : List Sl) : List Sl := env.map frzS
def OwnA (σ : L2.St) (env : List Sl) (b : Addr) : Prop := ∃ (i : Nat) (sl : Sl), env[i]? = some sl ∧ isOwn sl = true ∧ σ[i]? = some (some (.ref b))
section
variable {C : Cz} {F H F' F2 H2 : Hp} {σ : L2.St} {env : List Sl} {g g2 : G}
open Classical in
noncomputable def lentF (F H : Hp) (σ : L2.St) (env : List Sl) : Hp := fun b => if OwnA σ env b then H b else F b
open Classical in
noncomputable def backF (F2 : Hp) (σ : L2.St) (env : List Sl) : Hp := fun b => if OwnA σ env b then none else F2 b
theorem SOK.ownAt (S : SOK C F H σ env g) {b : Addr} (h : OwnA σ env b) : F b = none ∧ C.H₀ b = none ∧ ∃ o, H b = some o ∧ OwnHO o := by
  obtain ⟨i, ds, e1, w, e2⟩ := h
  obtain ⟨x, h1, h0⟩ := S.slot i _ e1
  obtain ⟨a, vs, h2, h3, h4, h5, h6⟩ := h0.own w
  rw [e2] at h1
  cases h1
  cases h2
  exact ⟨h3, h4, vs, h5, h6⟩
theorem lentF_own (h : OwnA σ env b) : lentF F H σ env b = H b := by unfold lentF; rw [if_pos h]
theorem lentF_not (h : ¬ OwnA σ env b) : lentF F H σ env b = F b := by unfold lentF; rw [if_neg h]
theorem backF_own (h : OwnA σ env b) : backF F2 σ env b = none := by unfold backF; rw [if_pos h]
theorem backF_not (h : ¬ OwnA σ env b) : backF F2 σ env b = F2 b := by unfold backF; rw [if_neg h]
theorem SOK.subLent (S : SOK C F H σ env g) : Sub F (lentF F H σ env) := fun b o e => by
  rw [lentF_not (fun z => by have := (S.ownAt z).1; rw [e] at this; cases this)]; exact e
theorem SOK.lent (S : SOK C F H σ env g) : SOK C (lentF F H σ env) H σ (frzAll env) g where
  grow := ⟨S.grow.keep, S.grow.frz.trans S.subLent, fun b h n => by
      by_cases z : OwnA σ env b
      · exact (S.ownAt z).2.1
      · rw [lentF_not z] at n; exact S.grow.new b h n, S.grow.there⟩
  sub := fun b o e => by
    by_cases z : OwnA σ env b
    · rw [lentF_own z] at e; exact e
    · rw [lentF_not z] at e; exact S.sub b o e
  ntb := fun b o e => by
    by_cases z : OwnA σ env b
    · rw [lentF_own z] at e
      obtain ⟨_, _, vs, h, w⟩ := S.ownAt z
      rw [h] at e; cases e; exact w.notT
    · rw [lentF_not z] at e; exact S.ntb b o e
  tabs := S.tabs
  hand := fun a e => by
    obtain ⟨h1, h2, h4⟩ := S.hand a e
    exact ⟨by rw [lentF_not (fun z => h4 (S.ownAt z).2.1)]; exact h1, h2, h4⟩
  len := by unfold frzAll; rw [List.length_map]; exact S.len
  slot := fun i sl e => by
    unfold frzAll at e
    rw [List.getElem?_map, Option.map_eq_some_iff] at e
    obtain ⟨s0, e0, rfl⟩ := e
    obtain ⟨x, h1, h2⟩ := S.slot i s0 e0
    refine ⟨x, h1, ?_⟩
    cases s0 with
    | own ds =>
      obtain ⟨p, vs, rfl, h3, h4, h5, h6⟩ := h2
      exact ⟨.ref p, rfl, .lst (by rw [lentF_own ⟨i, _, e0, rfl, h1⟩]; exact h5) (h6.mono S.subLent)⟩
    | ownd _ kvs =>
      obtain ⟨p, o, rfl, h3, h4, h5, h6⟩ := h2
      exact ⟨.ref p, rfl, (h6.mono S.subLent).rep (by rw [lentF_own ⟨i, _, e0, rfl, h1⟩]; exact h5)⟩
    | un => trivial
    | dat d => obtain ⟨v, h3, h4⟩ := h2; exact ⟨v, h3, h4.mono S.subLent⟩
    | hand => exact h2
    | fn a => exact h2
    | scr ns => obtain ⟨b, k1, k2⟩ := h2; exact ⟨b, k1, Sub.sqL S.subLent k2⟩
  apart := fun u v a ds1 ds2 e1 _ o1 => by
    unfold frzAll at e1
    rw [List.getElem?_map, Option.map_eq_some_iff] at e1
    obtain ⟨s0, _, z⟩ := e1
    subst z
    cases s0 <;> cases o1
/-- behind it -/
theorem SOK.back (S : SOK C F H σ env g) (S2 : SOK C F2 H2 σ (frzAll env) g2) (gr : Grow C.ha (lentF F H σ env) H F2 H2) : SOK C (backF F2 σ env) H2 σ env g2 ∧ Grow C.ha F H (backF F2 σ env) H2 ∧ ButL F2 (backF F2 σ env) := by
  have fb : Sub F (backF F2 σ env) := fun b o e => by
    have nz : ¬ OwnA σ env b := fun z => by have := (S.ownAt z).1; rw [e] at this; cases this
    rw [backF_not nz]
    exact gr.frz _ _ (S.subLent _ _ e)
  have bs : Sub (backF F2 σ env) F2 := fun b o e => by
    by_cases z : OwnA σ env b
    · rw [backF_own z] at e; cases e
    · rw [backF_not z] at e; exact e
  have at2 : ∀ {b}, OwnA σ env b → H2 b = H b ∧ F2 b = H b := fun {b} z => by
    obtain ⟨h1, h2, vs, h3, _⟩ := S.ownAt z
    have : F2 b = some vs := gr.frz _ _ (by rw [lentF_own z]; exact h3)
    exact ⟨by rw [h3]; exact S2.sub _ _ this, by rw [h3]; exact this⟩
  have nw : ∀ b, F b = none → backF F2 σ env b ≠ none → H b = none := fun b h n => by
    by_cases z : OwnA σ env b
    · rw [backF_own z] at n; exact absurd rfl n
    · rw [backF_not z] at n
      exact gr.new b (by rw [lentF_not z]; exact h) n
  refine ⟨⟨⟨S2.grow.keep, S.grow.frz.trans fb, fun b h n => ?_, S2.grow.there⟩, bs.trans S2.sub, fun b o e => S2.ntb b o (bs _ _ e), S2.tabs, fun a e => ?_, S.len, fun i sl e => ?_, S.apart⟩, ⟨gr.keep, fb, nw, gr.there⟩, fun b o e t => ?_⟩
  · by_cases z : OwnA σ env b
    · rw [backF_own z] at n; exact absurd rfl n
    · rw [backF_not z] at n; exact S2.grow.new b h n
  · obtain ⟨h1, h2, h3⟩ := S2.hand a e
    refine ⟨?_, h2, h3⟩
    by_cases z : OwnA σ env a
    · exact backF_own z
    · rw [backF_not z]; exact h1
  · obtain ⟨x, h1, h2⟩ := S.slot i sl e
    refine ⟨x, h1, ?_⟩
    cases sl with
    | own ds =>
      obtain ⟨p, vs, rfl, h3, h4, h5, h6⟩ := h2
      have z : OwnA σ env p := ⟨i, _, e, rfl, h1⟩
      exact ⟨p, vs, rfl, backF_own z, h4, by rw [(at2 z).1]; exact h5, h6.mono fb⟩
    | ownd _ ds =>
      obtain ⟨p, vs, rfl, h3, h4, h5, h6⟩ := h2
      have z : OwnA σ env p := ⟨i, _, e, rfl, h1⟩
      exact ⟨p, vs, rfl, backF_own z, h4, by rw [(at2 z).1]; exact h5, h6.mono fb⟩
    | un => trivial
    | dat d => obtain ⟨v, h3, h4⟩ := h2; exact ⟨v, h3, h4.mono fb⟩
    | hand => exact h2
    | fn a => exact h2
    | scr ns => obtain ⟨b, k1, k2⟩ := h2; exact ⟨b, k1, Sub.sqL fb k2⟩
  · have nz : ¬ OwnA σ env b := fun z => by
      obtain ⟨_, _, vs, h3, w⟩ := S.ownAt z
      rw [(at2 z).2, h3] at e
      cases e
      exact t w
    rw [backF_not nz]; exact e
end
def eLend (f : EM D) : EM D := fun env g => (f (frzAll env) g).bind fun d g => if lfree d = true then .ok d g else .stuck
def eLendB (f : EM Bool) : EM Bool := fun env g => f (frzAll env) g
def eLendL (f : EM (List D)) : EM (List D) := fun env g => (f (frzAll env) g).bind fun ds g => if lfrees ds = true then .ok ds g else .stuck
section
variable {X : Cx} {C : Cz} {E : XK} {k i : Nat} {e : Expr} {es : List Expr} {f : EM D} {fs : EM (List D)} {b : EM Bool}
theorem fe_lend (h : FE X C E e f) : FE X C E e (eLend f) := by
  refine h.impD fun σ H Q ⟨F, env, g, S, h⟩ => ?_
  refine ⟨_, _, g, S.lent, ?_⟩
  unfold eLend at h
  cases q : f (frzAll env) g with
  | stuck => rw [q] at h; exact h
  | err c g1 => rw [q] at h; exact fun F2 H2 S2 gr => h _ _ (S.back S2 gr).1 (S.back S2 gr).2.1
  | ok d g1 =>
    rw [q] at h
    have h : Run C E (Rep C.K) F H σ env (if lfree d = true then .ok d g1 else .stuck) Q := h
    intro F2 H2 v S2 gr r
    obtain ⟨S3, gr3, bl⟩ := S.back S2 gr
    split at h
    · rename_i hl
      exact h _ _ v S3 gr3 (Rep.unlend bl d v hl r)
    · exact (show False from h).elim
theorem ft_lend (h : FT X C E e b) : FT X C E e (eLendB b) := by
  refine h.impD fun σ H Q ⟨F, env, g, S, h⟩ => ?_
  refine ⟨_, _, g, S.lent, ?_⟩
  unfold eLendB at h
  cases q : b (frzAll env) g with
  | stuck => rw [q] at h; exact h
  | err c g1 => rw [q] at h; exact fun F2 H2 S2 gr => h _ _ (S.back S2 gr).1 (S.back S2 gr).2.1
  | ok d g1 =>
    rw [q] at h
    intro F2 H2 v S2 gr r
    obtain ⟨S3, gr3, bl⟩ := S.back S2 gr
    exact h _ _ v S3 gr3 r
theorem fn_lend (h : FN X C E e fs) : FN X C E e (eLendL fs) := by
  refine h.impD fun σ H Q ⟨F, env, g, S, h⟩ => ?_
  refine ⟨_, _, g, S.lent, ?_⟩
  unfold eLendL at h
  cases q : fs (frzAll env) g with
  | stuck => rw [q] at h; exact h
  | err c g1 => rw [q] at h; exact fun F2 H2 S2 gr => h _ _ (S.back S2 gr).1 (S.back S2 gr).2.1
  | ok ds g1 =>
    rw [q] at h
    have h : RunN C E F H σ env (if lfrees ds = true then .ok ds g1 else .stuck) Q := h
    intro F2 H2 p xs S2 gr hF hn hp r no
    obtain ⟨S3, gr3, bl⟩ := S.back S2 gr
    split at h
    · rename_i hl
      refine h _ _ p xs S3 gr3 ?_ hn hp (Reps.unlend bl ds xs hl r) (S.noOwn hn)
      by_cases z : OwnA σ env p
      · exact backF_own z
      · rw [backF_not z]; exact hF
    · exact (show False from h).elim
end

/-! ### defs that hand out a new list -/
inductive PRN where
  | ok (ds : List D)
  | err (c : Str)
  | stuck
def spN (K : PySem.W.Frag) (mg : Str → Option Value) (T : List (Addr × Str)) (m : List D → PRN) : Sp := fun vs H Q E =>
  ∃ F ds, Sub F H ∧ (∀ b o, F b = some o → notT o) ∧ LamX.Tabs T H ∧ Reps K F vs ds ∧ match m ds with
    | .ok es => ∀ F' H' p xs, Post T none F H F' H' → F' p = none → H p = none → H' p = some (.lst xs) → Reps K F' xs es → Q (.ref p) H'
    | .err c => ∀ F' H', Post T none F H F' H' → ∀ A, mg c = some (.ref A) → E (.ref A) none H'
    | .stuck => False
def spHN (K : PySem.W.Frag) (mg : Str → Option Value) (T : List (Addr × Str)) (m : List D → G → Out (List D)) : Sp := fun vs H Q E =>
  ∃ F a c g vs' ds, vs = .ref a :: vs' ∧ Sub F H ∧ (∀ b o, F b = some o → notT o) ∧ LamX.Tabs T H ∧ F a = none ∧ HandAt F H a c g ∧ Reps K F vs' ds ∧ match m ds g with
    | .ok es g' => ∀ F' H' p xs, Post T (some a) F H F' H' → F' a = none → HandAt F H' a c g' → F' p = none → H p = none → H' p = some (.lst xs) → Reps K F' xs es → Q (.ref p) H'
    | .err e g' => ∀ F' H', Post T (some a) F H F' H' → F' a = none → HandAt F H' a c g' → ∀ A, mg e = some (.ref A) → E (.ref A) none H'
    | .stuck => False
def runN (n N : Nat) (m : SM) (ds : List D) : PRN := if ds.length = n then
    match m (ds.map Sl.dat ++ List.replicate (N - n) Sl.un) gZ with
    | .ok (.new d, _) _ => .ok d
    | .err c _ => .err c
    | _ => .stuck
  else .stuck
def runHN (n N : Nat) (m : SM) (ds : List D) (g : G) : Out (List D) := if ds.length + 1 = n then
    match m (Sl.hand :: ds.map Sl.dat ++ List.replicate (N - n) Sl.un) g with
    | .ok (.new d, _) g => .ok d g
    | .err c g => .err c g
    | _ => .stuck
  else .stuck
def eFnL (m : List D → PRN) (a : EM (List D)) : EM (List D) := fun env g => (a env g).bind fun ds g => match m ds with
  | .ok d => .ok d g
  | .err c => .err c g
  | .stuck => .stuck
def eFnHL (i : Nat) (m : List D → G → Out (List D)) (a : EM (List D)) : EM (List D) := fun env g => match env[i]? with
  | some .hand => (a env g).bind fun ds g => m ds g
  | _ => .stuck
section
variable {X : Cx} {C : Cz} {E : XK} {k j : Nat} {a b c e : Expr} {es : List Expr} {fa fb : EM D} {fs : EM (List D)} {x : Str} {p pos : Pos} {m : List D → PRN} {mh : List D → G → Out (List D)}
theorem fnN_core {σ : L2.St} {H : Hp} {Q : VK} (t : Ties X C k) (h : tN C E (eFnL m fs) σ H Q) : tM C E (Reps C.K) fs σ H fun vs H1 => spN X.K X.mg C.T m vs H1 Q E := by
  obtain ⟨F, env, g, S, h⟩ := h
  refine ⟨F, env, g, S, (RunN.bind (R := Reps C.K) h).imp fun xs H1 ⟨F1, ds, g1, S1, gr1, r1, h1⟩ => ?_⟩
  refine ⟨F1, ds, S1.sub, S1.ntb, S1.tabs, by rw [← t.K]; exact r1, ?_⟩
  cases q : m ds with
  | ok d =>
    rw [q] at h1
    intro F' H' p xs po hF hn hp r
    rw [← t.K] at r
    exact h1 F' H' p xs (S1.post po) po.grow.weak hF hn hp r (S1.noOwn hn)
  | err c =>
    rw [q] at h1
    intro F' H' p A hA
    exact h1 F' H' (S1.post p) p.grow.weak A (by rw [t.mg]; exact hA)
  | stuck =>
    rw [q] at h1
    exact h1
theorem fn_call (t : Ties X C (k + 1)) (hx : Passes (L2.CX X.prog X.w) X E) (G : KF X.prog X.w X.K X.mg X.base x j (spN X.K X.mg C.T m)) (hj : j ≤ k + 1) (hg : Gl X x) (ha : FA X C E (e :: es) fs) (hdb : (x == ("__debug__" : Str)) = false := by decide)
    (he : starEach (e :: es) X.env = (false, eval e X.env) :: starEach es X.env := by rfl) (hpl : (backTo pos (starEach es X.env)).any (·.1) = false := by rfl) : FN X C E (.Call (.Name x p) (e :: es) [] pos) (eFnL m fs) := by
  obtain ⟨f, fd, ps, Fn, hm, hk, hb⟩ := G
  exact (pe_callG Fn (t.room.mono hj) t.gd hg hm hk hb hx ha hdb he hpl).impD fun _ _ _ h => fnN_core t h
theorem fn_callH (t : Ties X C (k + 1)) (hx : Passes (L2.CX X.prog X.w) X E) {i : Nat} {n : Str} {np : Pos} (G : KF X.prog X.w X.K X.mg X.base x j (spHN X.K X.mg C.T mh)) (hj : j ≤ k + 1) (hg : Gl X x) (hN : X.N[i]? = some n) (hv : Vis X.env.scope n) (ha : FA X C E es fs) (hdb : (x == ("__debug__" : Str)) = false := by decide)
    (hd : (n == ("__debug__" : Str)) = false := by decide) (hcd : (n == ("__classdict__" : Str)) = false := by decide)
    (he : starEach (.Name n np :: es) X.env = (false, eval (.Name n np) X.env) :: starEach es X.env := by rfl) (hpl : (backTo pos (starEach es X.env)).any (·.1) = false := by rfl) : FN X C E (.Call (.Name x p) (.Name n np :: es) [] pos) (eFnHL i mh fs) := by
  obtain ⟨f, fd, ps, Fn, hm, hk, hb⟩ := G
  refine (pe_callG Fn (t.room.mono hj) t.gd hg hm hk hb hx (pa_cons (pe_var hN hv hd hcd) ha he) hdb he hpl).impD fun σ H Q ⟨F, env, g, S, h⟩ => ?_
  unfold eFnHL at h
  cases q : env[i]? with
  | none => rw [q] at h; exact (show False from h).elim
  | some sl =>
    rw [q] at h
    cases sl with
    | hand =>
      obtain ⟨y, h1, ad, rfl, h2⟩ := S.slot i _ q
      refine ⟨.ref ad, h1, F, env, g, S, (RunN.bind (R := Reps C.K) h).imp fun xs H1 ⟨F1, ds, g1, S1, gr1, r1, h3⟩ => ?_⟩
      obtain ⟨z1, z2, z3⟩ := S1.hand ad h2
      refine ⟨F1, ad, C.hc, g1, xs, ds, rfl, S1.sub, S1.ntb, S1.tabs, z1, z2.mono S1.grow.frz, by rw [← t.K]; exact r1, ?_⟩
      cases q2 : mh ds g1 with
      | ok d g2 =>
        rw [q2] at h3
        intro F' H' p xs po hf ht hF hn hp r
        rw [← t.K] at r
        exact h3 F' H' p xs (S1.postH h2 po hf ht) (by rw [h2]; exact po.grow) hF hn hp r (S1.noOwn hn)
      | err c g2 =>
        rw [q2] at h3
        intro F' H' p hf ht A hA
        exact h3 F' H' (S1.postH h2 p hf ht) (by rw [h2]; exact p.grow) A (by rw [t.mg]; exact hA)
      | stuck =>
        rw [q2] at h3
        exact h3
    | un => exact (show False from h).elim
    | dat d => exact (show False from h).elim
    | own ds => exact (show False from h).elim
    | fn a => exact (show False from h).elim
    | scr a => exact (show False from h).elim
    | ownd _ a => exact (show False from h).elim
end
section
variable {P : Program} {w : World} {K : PySem.W.Frag} {mg : Str → Option Value} {base : Heap}
theorem kf_new {x qual : Str} {st : Stmt} {f : Addr} {fd : FuncData} {N ps : List Str} {k : Nat} {T : List (Addr × Str)} (Fn : Fun K x qual st f fd) (hm : mg x = some (.ref f)) (hb : Binds K fd ps []) (Sc : FnScope N ps (defScope st)) (hpn : ps.length ≤ N.length) (m : SM)
    (hd : ∀ (cdv : Value) (A : Around) (outer : List Env) (s : Shared) (H : Hp) (E : XK) (C : Cz), C.T = T → C.ha = none → Ties (cxOf (L2.CX P w) P w K mg base N qual (defScope st) f cdv A outer s H E) C k → Takes (cxOf (L2.CX P w) P w K mg base N qual (defScope st) f cdv A outer s H E) (fun c d _ H => E c d H) →
      Passes (L2.CX P w) (cxOf (L2.CX P w) P w K mg base N qual (defScope st) f cdv A outer s H E) E → PassesOwn (model P w) (A.deeper (envOfC qual (defScope st) s.heap.objs.size f cdv)) (envOfC qual (defScope st) s.heap.objs.size f cdv) (cxOf (L2.CX P w) P w K mg base N qual (defScope st) f cdv A outer s H E).xe →
      FSs (cxOf (L2.CX P w) P w K mg base N qual (defScope st) f cdv A outer s H E) C E (defBody st) m) :
    KF P w K mg base x (k + 1) (spN K mg T (runN ps.length N.length m)) := by
  have hlen : ∀ vs H Q E, spN K mg T (runN ps.length N.length m) vs H Q E → vs.length = ps.length := fun vs H Q E ⟨F, ds, _, _, _, r, h⟩ => by
    rw [r.length]
    unfold runN at h
    by_cases z : ds.length = ps.length
    · exact z
    · rw [if_neg z] at h; exact h.elim
  refine ⟨f, fd, ps, ?_, hm, Fn.kp, hb⟩
  refine FnG.of Fn Sc hlen fun cdv A outer s H vs Q E hg hr hsp => ?_
  obtain ⟨F, ds, sb, nt, tb, r, h⟩ := hsp
  have tk : Takes (cxOf (L2.CX P w) P w K mg base N qual (defScope st) f cdv A outer s H E) (fun c d _ H => E c d H) := takes_of rfl rfl rfl rfl
  refine ⟨_, hd cdv A outer s H E ⟨K, mg, T, F, H, none, 0⟩ rfl rfl ⟨rfl, rfl, Sc.nd, hr.units, hg, fun _ => rfl, fun _ => hr⟩ tk (passes_call tk fun _ _ _ _ h => h) (passes_of (X := cxOf (L2.CX P w) P w K mg base N qual (defScope st) f cdv A outer s H E) rfl), ?_⟩
  unfold runN at h
  by_cases hl : ds.length = ps.length
  · rw [if_pos hl] at h
    have S0 : SOK ⟨K, mg, T, F, H, none, 0⟩ F H (start N vs) (ds.map Sl.dat ++ List.replicate (N.length - ps.length) Sl.un) gZ := by
      rw [← hl]
      refine ⟨Grow.refl _ _ _, sb, nt, tb, (fun a e => by cases e), ?_, fun i sl e => start_at rfl r i sl e, fun i j a ds ds' e1 _ w _ _ _ => (start_noown e1 w).elim⟩
      unfold L2.start
      simp only [List.length_append, List.length_map, List.length_replicate, r.length]
    refine ⟨F, _, gZ, S0, ?_⟩
    cases q : m (ds.map Sl.dat ++ List.replicate (N.length - ps.length) Sl.un) gZ with
    | stuck => rw [q] at h; exact h.elim
    | err c g1 =>
      rw [q] at h
      intro F' H' σ' env' S'
      exact h F' H' ⟨S'.grow, S'.sub, S'.ntb, S'.tabs⟩
    | ok rr g1 =>
      rw [q] at h
      obtain ⟨fl, env1⟩ := rr
      intro F' H' σ' S' _
      cases fl with
      | next => exact h.elim
      | ret d => exact h.elim
      | brk => exact h.elim
      | cont => exact h.elim
      | new ds => exact fun p xs h1 h2 h3 h4 => h F' H' p xs ⟨S'.grow, S'.sub, S'.ntb, S'.tabs⟩ h1 h2 h3 h4
  · rw [if_neg hl] at h; exact h.elim
theorem kf_handN {x qual : Str} {st : Stmt} {f : Addr} {fd : FuncData} {N ps : List Str} {k : Nat} {T : List (Addr × Str)} (Fn : Fun K x qual st f fd) (hm : mg x = some (.ref f)) (hb : Binds K fd ps []) (Sc : FnScope N ps (defScope st)) (hpn : ps.length ≤ N.length) (m : SM)
    (hd : ∀ (cdv : Value) (A : Around) (outer : List Env) (s : Shared) (H : Hp) (E : XK) (C : Cz), C.T = T → Ties (cxOf (L2.CX P w) P w K mg base N qual (defScope st) f cdv A outer s H E) C k → Takes (cxOf (L2.CX P w) P w K mg base N qual (defScope st) f cdv A outer s H E) (fun c d _ H => E c d H) →
      Passes (L2.CX P w) (cxOf (L2.CX P w) P w K mg base N qual (defScope st) f cdv A outer s H E) E → PassesOwn (model P w) (A.deeper (envOfC qual (defScope st) s.heap.objs.size f cdv)) (envOfC qual (defScope st) s.heap.objs.size f cdv) (cxOf (L2.CX P w) P w K mg base N qual (defScope st) f cdv A outer s H E).xe →
      FSs (cxOf (L2.CX P w) P w K mg base N qual (defScope st) f cdv A outer s H E) C E (defBody st) m) :
    KF P w K mg base x (k + 1) (spHN K mg T (runHN ps.length N.length m)) := by
  have hlen : ∀ vs H Q E, spHN K mg T (runHN ps.length N.length m) vs H Q E → vs.length = ps.length := fun vs H Q E ⟨F, a, c, g, vs', ds, e, _, _, _, _, _, r, h⟩ => by
    rw [e, List.length_cons, r.length]
    unfold runHN at h
    by_cases z : ds.length + 1 = ps.length
    · exact z
    · rw [if_neg z] at h; exact h.elim
  refine ⟨f, fd, ps, ?_, hm, Fn.kp, hb⟩
  refine FnG.of Fn Sc hlen fun cdv A outer s H vs Q E hg hr hsp => ?_
  obtain ⟨F, a, c, g, vs', ds, rfl, sb, nt, tb, fa, hh, r, h⟩ := hsp
  have tk : Takes (cxOf (L2.CX P w) P w K mg base N qual (defScope st) f cdv A outer s H E) (fun c d _ H => E c d H) := takes_of rfl rfl rfl rfl
  refine ⟨_, hd cdv A outer s H E ⟨K, mg, T, F, H, some a, c⟩ rfl ⟨rfl, rfl, Sc.nd, hr.units, hg, fun _ => rfl, fun _ => hr⟩ tk (passes_call tk fun _ _ _ _ h => h) (passes_of (X := cxOf (L2.CX P w) P w K mg base N qual (defScope st) f cdv A outer s H E) rfl), ?_⟩
  unfold runHN at h
  by_cases hl : ds.length + 1 = ps.length
  · rw [if_pos hl] at h
    have S0 : SOK ⟨K, mg, T, F, H, some a, c⟩ F H (start N (.ref a :: vs')) (Sl.hand :: ds.map Sl.dat ++ List.replicate (N.length - ps.length) Sl.un) g := by
      have e1 : start N (.ref a :: vs') = some (.ref a) :: (vs'.map some ++ List.replicate (N.length - ps.length) none) := by
        unfold L2.start
        rw [List.map_cons, List.cons_append, List.length_cons, r.length, hl]
      rw [e1]
      refine ⟨Grow.refl _ _ _, sb, nt, tb, (fun b e => by cases e; exact ⟨fa, hh, fun z => by have z : H a = none := z; rw [hh.1] at z; cases z⟩), ?_, fun i sl e => ?_, fun i j b ds1 ds2 h1 _ w1 _ _ _ => ?_⟩
      · simp only [List.cons_append, List.length_cons, List.length_append, List.length_map, List.length_replicate, r.length]
      · cases i with
        | zero =>
          rw [List.cons_append, List.getElem?_cons_zero] at e
          cases e
          exact ⟨some (.ref a), rfl, a, rfl, rfl⟩
        | succ i =>
          rw [List.cons_append, List.getElem?_cons_succ] at e
          rw [List.getElem?_cons_succ]
          by_cases h : i < ds.length
          · rw [List.getElem?_append_left (by simpa using h), List.getElem?_map, Option.map_eq_some_iff] at e
            obtain ⟨d, e, rfl⟩ := e
            obtain ⟨v, h1, h2⟩ := r.get e
            exact ⟨some v, by rw [List.getElem?_append_left (by rw [List.length_map, r.length]; exact h), List.getElem?_map, h1]; rfl, v, rfl, h2⟩
          · rw [List.getElem?_append_right (by simpa using h), List.length_map, List.getElem?_replicate] at e
            split at e
            · cases e
              rename_i hl
              exact ⟨none, by rw [List.getElem?_append_right (by rw [List.length_map, r.length]; omega), List.length_map, r.length, List.getElem?_replicate, if_pos hl], trivial⟩
            · cases e
      · cases i with
        | zero => rw [List.cons_append, List.getElem?_cons_zero] at h1; cases h1; cases w1
        | succ i => rw [List.cons_append, List.getElem?_cons_succ] at h1; exact (start_noown h1 w1).elim
    refine ⟨F, _, g, S0, ?_⟩
    cases q : m (Sl.hand :: ds.map Sl.dat ++ List.replicate (N.length - ps.length) Sl.un) g with
    | stuck => rw [q] at h; exact h.elim
    | err c g1 =>
      rw [q] at h
      intro F' H' σ' env' S'
      obtain ⟨z1, z2, _⟩ := S'.hand a rfl
      exact h F' H' ⟨S'.grow, S'.sub, S'.ntb, S'.tabs⟩ z1 z2
    | ok rr g1 =>
      rw [q] at h
      obtain ⟨fl, env1⟩ := rr
      intro F' H' σ' S' _
      obtain ⟨z1, z2, _⟩ := S'.hand a rfl
      cases fl with
      | next => exact h.elim
      | ret d => exact h.elim
      | brk => exact h.elim
      | cont => exact h.elim
      | new ds => exact fun p xs h1 h2 h3 h4 => h F' H' p xs ⟨S'.grow, S'.sub, S'.ntb, S'.tabs⟩ z1 z2 h1 h2 h3 h4
  · rw [if_neg hl] at h; exact h.elim
end
end DL

set_option Elab.async false
set_option linter.all false
set_option maxRecDepth 100000
set_option maxHeartbeats 2000000
namespace DL
open PySem PySem.Spec PyProof.Rows L2

/-! ### repr -/
mutual
theorem noDict_flat : ∀ d : D, flatD d = true → d.hasDict = false
  | .none, _ => by simp only [PyData.hasDict]
  | .bool _, _ => by simp only [PyData.hasDict]
  | .int _, _ => by simp only [PyData.hasDict]
  | .str _, _ => by simp only [PyData.hasDict]
  | .list xs, h => by simp only [PyData.hasDict]; exact noDict_flats xs (by simpa [flatD] using h)
  | .tuple xs, h => by simp only [PyData.hasDict]; exact noDict_flats xs (by simpa [flatD] using h)
  | .dict _, h => by simp [flatD] at h
theorem noDict_flats : ∀ ds : List D, flatDs ds = true → PyData.hasDictAll ds = false
  | [], _ => by simp only [PyData.hasDictAll]
  | d :: ds, h => by
    simp only [flatDs, Bool.and_eq_true] at h
    simp only [PyData.hasDictAll, noDict_flat d h.1, noDict_flats ds h.2, Bool.or_false]
end
def canRepr (d : D) : Bool := flatD d && d.showable && decide (d.shown.length ≤ sizeLine) && decide (d.depth < 60)
def reprF : List D → Option D
  | [d] => if canRepr d = true then some (.str d.shown) else none
  | _ => none
section
variable {X : Cx} {C : Cz} {E : XK} {k i : Nat} {a e : Expr} {es : List Expr} {fa fb : EM D} {fs : EM (List D)} {x : Str} {pos : Pos}
theorem cRepr (t : Ties X C k) : CallR X (.builtin "repr") (rC C reprF) := by
  intro pins s σ H xs us Q I r h
  obtain ⟨F, ds, z, sb, rs, hg, q⟩ := h
  rw [t.K] at rs q
  match ds, rs, hg with
  | [d], rs, hg =>
    obtain ⟨v, rfl, rv⟩ := rs.one
    obtain ⟨u, rfl, ru⟩ := r.one
    have hg : (if canRepr d = true then some (PyData.str d.shown) else none) = some z := hg
    by_cases hc : canRepr d = true
    · rw [if_pos hc] at hg
      cases hg
      unfold canRepr at hc
      simp only [Bool.and_eq_true, decide_eq_true_eq] at hc
      obtain ⟨⟨⟨h1, h2⟩, h3⟩, h4⟩ := hc
      have hu := t.hu
      have fin : ∀ h' u' tk, (∀ b o, s.heap.get? b = some o → h'.get? b = some o) → EP X pins σ Q (.str d.shown u') { s with heap := h', toks := tk } := fun h' u' tk hk =>
        ⟨.str d.shown, H, I.kept hk, ⟨u', rfl⟩, q F H _ (Laid.refl sb) (.str _)⟩
      cases d with
      | none =>
        cases rv; cases ru
        exact PySem.P.repr_of_none ⟨.str _, H, I.tok _, ⟨_, rfl⟩, by
          have := q F H _ (Laid.refl sb) (.str _)
          simpa only [PyData.shown] using this⟩
      | bool b =>
        cases rv; cases ru
        exact PySem.P.repr_of_bool ⟨.str _, H, I.tok _, ⟨_, rfl⟩, by
          have := q F H _ (Laid.refl sb) (.str _)
          simpa only [PyData.shown] using this⟩
      | int i =>
        cases rv
        obtain ⟨tt, rfl⟩ := ru
        exact PySem.P.repr_of_int (by simpa [PyData.showable] using h2) ⟨.str _, H, I.tok _, ⟨_, rfl⟩, by
          have := q F H _ (Laid.refl sb) (.str _)
          simpa only [PyData.shown] using this⟩
      | str z =>
        cases rv
        obtain ⟨tt, rfl⟩ := ru
        exact PySem.P.repr_of_str ⟨.str _, H, I.tok _, ⟨_, rfl⟩, by
          have := q F H _ (Laid.refl sb) (.str _)
          simpa only [PyData.shown] using this⟩ (by simpa only [PyData.shown] using h3)
      | list ds =>
        obtain ⟨p, xs, rfl, h5, h6⟩ := rv.list_inv
        cases ru
        obtain ⟨as, rd⟩ := reads_of I sb (.lst h5 h6) rfl h1
        exact repr_of_reads' rd h2 (PyData.noDict_hsm (noDict_flat _ h1)) t.gd (by omega) (fun _ _ e => e) fin h3
      | tuple ds =>
        obtain ⟨p, xs, rfl, h5, h6⟩ := rv.tup_inv
        cases ru
        obtain ⟨as, rd⟩ := reads_of I sb (.tup h5 h6) rfl h1
        exact repr_of_reads' rd h2 (PyData.noDict_hsm (noDict_flat _ h1)) t.gd (by omega) (fun _ _ e => e) fin h3
      | dict _ => simp [flatD] at h1
    · rw [if_neg hc] at hg; cases hg
end

/-! ### dict displays -/
theorem lay_dK {K : PySem.W.Frag} {F H : Hp} (s : Sub F H) {p : Addr} (n : H p = none) {kvs : List (Key × V)} {ds : List D} (r : Reps K F (kvs.map (·.2)) ds) : Laid F H (upd F p (.dK kvs)) (upd H p (.dK kvs)) ∧ Rep K (upd F p (.dK kvs)) (.ref p) (.dict ((kvs.map fun p => keyD p.1).zip ds)) :=
  ⟨Laid.one s n (fun _ z => by cases z), .dK upd_same (r.mono (sub_upd (s.free n)))⟩
theorem fe_dict0 {X : Cx} {C : Cz} {E : XK} {pos : Pos} : FE X C E (.Dict [] [] pos) (eC (.dict [])) := by
  refine pe_dnewK.impD fun σ H Q ⟨F, env, g, S, h⟩ => ?_
  intro p n
  obtain ⟨l, r⟩ := lay_dK (K := C.K) S.sub n (kvs := []) (ds := []) .nil
  exact Run.val S h _ _ _ l r
def eDict1 (a b : EM D) : EM D := fun env g => (a env g).bind fun x g => (b env g).bind fun y g => match keyO x with
  | some k => .ok (.dict [(keyD k, y)]) g
  | none => .stuck
section
variable {C : Cz} {F H : Hp} {σ : L2.St} {env : List Sl} {g : G}
/-- an object in the making, changed -/
theorem SOK.pokeO (S : SOK C F H σ env g) {p : Addr} {o : HO} (hF : F p = none) (h0 : C.H₀ p = none) (hp : ∀ ps, H p ≠ some (.tbl ps)) (hx : ∀ φ, H p ≠ some (.ext φ)) (no : NoO σ env p) : SOK C F (upd H p o) σ env g where
  grow := ⟨fun b u h n t => by
      rw [upd_ne (fun z => by subst z; rw [h0] at h; cases h)]
      exact S.grow.keep b u h n t, S.grow.frz, S.grow.new, fun b h => by
      by_cases z : b = p
      · rw [z]; exact h0
      · rw [upd_ne z] at h; exact S.grow.there b h⟩
  sub := fun b u e => by
    rw [upd_ne (fun z => by subst z; rw [hF] at e; cases e)]
    exact S.sub b u e
  ntb := S.ntb
  tabs := fun q hq => by
    obtain ⟨ps, h1, h2, h3⟩ := S.tabs q hq
    refine ⟨ps, by rw [upd_ne (fun z => hp ps (by rw [← z]; exact h1))]; exact h1, h2, fun pos cv hc => ?_⟩
    obtain ⟨c, e1, e2⟩ := h3 pos cv hc
    exact ⟨c, e1, by rw [upd_ne (fun z => hx _ (by rw [← z]; exact e2))]; exact e2⟩
  hand := fun a e => by
    obtain ⟨h1, ⟨h2, h3⟩, h4⟩ := S.hand a e
    exact ⟨h1, ⟨by rw [upd_ne (fun z => h4 (by rw [z]; exact h0))]; exact h2, h3⟩, h4⟩
  len := S.len
  slot := fun i sl e => by
    obtain ⟨x, h1, h2⟩ := S.slot i sl e
    refine ⟨x, h1, ?_⟩
    cases sl with
    | own ds =>
      obtain ⟨a, vs, rfl, h4, h5, h6, h7⟩ := h2
      exact ⟨a, vs, rfl, h4, h5, by rw [upd_ne (fun z => no i _ e rfl (by rw [h1, z]))]; exact h6, h7⟩
    | ownd _ ds =>
      obtain ⟨a, vs, rfl, h4, h5, h6, h7⟩ := h2
      exact ⟨a, vs, rfl, h4, h5, by rw [upd_ne (fun z => no i _ e rfl (by rw [h1, z]))]; exact h6, h7⟩
    | un => trivial
    | dat d => exact h2
    | hand => exact h2
    | fn a => exact h2
    | scr a => exact h2
  apart := S.apart
end
theorem Run.bindAt {α β γ δ : Type} {C : Cz} {E : XK} {R : Hp → β → α → Prop} {R2 : Hp → δ → γ → Prop} {F H F0 H0 : Hp} {σ : L2.St} {env : List Sl} {o : Out α} {k : α → G → Out γ} {Q : δ → Hp → Prop} (gr : Grow C.ha F0 H0 F H) (h : Run C E R2 F0 H0 σ env (o.bind k) Q) :
    Run C E R F H σ env o fun v H1 => ∃ F1 d g1, SOK C F1 H1 σ env g1 ∧ Grow C.ha F H F1 H1 ∧ R F1 v d ∧ Run C E R2 F0 H0 σ env (k d g1) Q := by
  cases o with
  | ok d g => exact fun F' H' v s gr r => ⟨F', d, g, s, gr, r, h⟩
  | err c g => exact fun F' H' S gr' => h F' H' S (gr.trans gr')
  | stuck => exact h
theorem fe_dict1 {X : Cx} {C : Cz} {E : XK} {pos : Pos} {a b : Expr} {fa fb : EM D} (ha : FE X C E a fa) (hb : FE X C E b fb) : FE X C E (.Dict [some a] [b] pos) (eDict1 fa fb) := by
  refine (pe_disp (pps_cons ha hb pps_nil) rfl rfl (by simp) (by simp only [List.length_cons, List.length_nil]; omega)).impD fun σ H Q ⟨F, env, g, S, h⟩ => ?_
  intro p n
  have hF := S.sub.free n
  have h0 := S.grow.there p n
  have no := S.noOwn n
  have hha : C.ha ≠ some p := S.hand_ne (F' := F) (H' := H) n
  have S1 : SOK C F (upd H p (.dK [])) σ env g := S.pokeO hF h0 (fun ps z => by rw [n] at z; cases z) (fun φ z => by rw [n] at z; cases z) no
  have l0 : Laid F H F (upd H p (.dK [])) := Laid.mk (sub_upd n) (Sub.refl _) (S.sub.trans (sub_upd n)) (fun _ a n => absurd a n) (fun _ _ a e => by rw [a] at e; cases e)
  refine ⟨F, env, g, S1, (Run.bindAt (R := Rep C.K) l0.grow h).imp fun x H1 ⟨F1, d1, g1, S1', gr1, r1, h1⟩ => ?_⟩
  refine ⟨F1, env, g1, S1', (Run.bindAt (R := Rep C.K) (l0.grow.trans gr1) h1).imp fun y H2 ⟨F2, d2, g2, S2, gr2, r2, h2⟩ => ?_⟩
  have gr := gr1.trans gr2
  have hp2 : H2 p = some (.dK []) := gr.keep _ _ upd_same hha (fun _ z => by cases z)
  have fD2 : F2 p = none := by
    cases z : F2 p with
    | none => rfl
    | some o =>
      have := gr.new p hF (by rw [z]; simp)
      rw [upd_same] at this; cases this
  have h3 : Run C E (Rep C.K) F H σ env (match keyO d1 with
      | some k => .ok (.dict [(keyD k, d2)]) g2
      | none => .stuck) Q := h2
  clear h2 h1 h
  cases qk : keyO d1 with
  | none => rw [qk] at h3; exact (show False from h3).elim
  | some kk =>
    rw [qk] at h3
    obtain ⟨e1, e2⟩ := r1.key_inv qk
    refine ⟨hp2, [(kk, y)], by rw [e1]; rfl, by simp only [List.length_cons, List.length_nil]; omega, ?_⟩
    have S3 : SOK C F2 (upd H2 p (.dK [(kk, y)])) σ env g2 := S2.pokeO fD2 h0 (fun ps z => by rw [hp2] at z; cases z) (fun φ z => by rw [hp2] at z; cases z) no
    have S4 := S3.freeze fD2 h0 upd_same (fun _ z => by cases z) no
    have grA := l0.grow.trans gr
    refine h3 _ _ _ S4 ⟨fun b o e nn tt => ?_, grA.frz.trans (sub_upd fD2), fun b e m => ?_, fun b e => ?_⟩ (.dK (kvs := [(kk, y)]) (ds := [d2]) upd_same (.cons (r2.mono (sub_upd fD2)) .nil))
    · rw [upd_ne (fun z => by subst z; rw [n] at e; cases e)]
      exact grA.keep b o e nn tt
    · by_cases z : b = p
      · rw [z]; exact n
      · rw [upd_ne z] at m; exact grA.new b e m
    · by_cases z : b = p
      · rw [z]; exact n
      · rw [upd_ne z] at e; exact grA.there b e
end DL

set_option Elab.async false
set_option linter.all false
set_option maxRecDepth 100000
set_option maxHeartbeats 2000000
namespace DL
open PySem PySem.Spec PyProof.Rows L2

/-! ### lambdas handed to a def: of any written parameters that fill themselves -/
structure LamN (sc scope : Scope) (N nm : List Str) : Prop where
  kind : scope.kind = .function
  co : scope.isCoroutine = false
  gen : scope.isGenerator = false
  cell : ∀ y ∈ scope.names, y.2 ≠ .cell
  own : ∀ y ∈ scope.names, y.2 = .local → y.1 ∈ nm
  free : ∀ y ∈ scope.names, y.2 = .free → sc.names.lookup y.1 = some .cell ∨ sc.names.lookup y.1 = some .free
  bind : ∀ y ∈ nm, scope.names.lookup y = some .local
  apart : ∀ y ∈ nm, y ∉ N
def lamNB (sc scope : Scope) (N nm : List Str) : Bool :=
  decide (scope.kind = .function) && !scope.isCoroutine && !scope.isGenerator
    && (scope.names.all fun y => !decide (y.2 = .cell) && (!decide (y.2 = .local) || nm.contains y.1) && (!decide (y.2 = .free) || decide (sc.names.lookup y.1 = some .cell) || decide (sc.names.lookup y.1 = some .free)))
    && (nm.all fun y => decide (scope.names.lookup y = some .local) && !N.contains y)
theorem lamN_by {sc scope : Scope} {N nm : List Str} (h : lamNB sc scope N nm = true) : LamN sc scope N nm := by
  unfold lamNB at h
  simp only [Bool.and_eq_true, Bool.or_eq_true, Bool.not_eq_true', decide_eq_true_eq, decide_eq_false_iff_not, List.all_eq_true, List.contains_iff_mem] at h
  obtain ⟨⟨⟨⟨h1, h2⟩, h3⟩, h4⟩, h5⟩ := h
  refine ⟨h1, h2, h3, fun y hy => (h4 y hy).1.1, fun y hy e => ?_, fun y hy e => ?_, fun y hy => (h5 y hy).1, fun y hy => ?_⟩
  · rcases (h4 y hy).1.2 with z | z
    · exact absurd e z
    · exact z
  · rcases (h4 y hy).2 with (z | z) | z
    · exact absurd e z
    · exact .inl z
    · exact .inr z
  · have := (h5 y hy).2
    intro z
    rw [← List.contains_iff_mem] at z
    rw [z] at this
    cases this
theorem LamN.has {X : Cx} {scope : Scope} {nm : List Str} (L : LamN X.env.scope scope X.N nm) (ok : X.Ok) : ∀ y ∈ scope.names, y.2 = .free → ∃ c, X.env.cells.lookup y.1 = some c := fun y hy e => by
  rcases L.free y hy e with k | k
  · exact ok.has _ (.inl k)
  · exact ok.has _ (.inr k)
section
variable {X : Cx} {pins : List (Addr × Obj)} {σ : L2.St} {H HZ : Hp} {s s1 : Shared}
theorem lam_makeG {T : List (Addr × Str)} {c P : Addr} {params : Arguments} {body : Expr} {scope : Scope} {pos : Pos} {E : Value → Shared → Prop} {Q : Value → Shared → Prop} {dV : Value} (I : Inv X pins σ H s) (TB : LamX.TabB X.base X.mg c P) (hcode : X.env.code = .ref c)
    (hm : (P, X.env.qual ++ "<lambda>") ∈ T) (hu : ∀ p ∈ T, p.1 = P → p.2 = X.env.qual ++ "<lambda>") (hT : LamX.Tabs T H) (hfree : ∀ y ∈ scope.names, y.2 = .free → ∃ c, X.env.cells.lookup y.1 = some c)
    (h : ∀ (f c' : Addr) (doc pm ctv : Value) (H1 : Hp) (s' : Shared), Inv X pins σ H1 s' → LamX.ExtN H H1 → (∀ b, H1 b = none → H b = none) → LamX.Tabs T H1 →
      s'.heap.get? f = some (PySem.W.kdv_obj "<lambda>" (X.env.qual ++ "<lambda>") params (.expr body) scope (cloFrom X.env.cells scope.names []) dV doc pm c' ctv) → H1 f = none → f ∉ frs X.stack → H1 c' = some (LamX.CodeO c' (X.env.qual ++ "<lambda>")) → Q (.ref f) s') :
    wpAny (model X.prog X.w) X.A (makeTail "<lambda>" (X.env.qual ++ "<lambda>") params (.expr body) scope X.env dV .none none pos pos.line) Q E s := by
  obtain ⟨ps, hP, ht, ha⟩ := hT _ hm
  have bP : s.heap.BuiltinsAt X.mg P := TB.bm.keeps I.bk
  have hP' : s.heap.get? P = some { cls := .none, data := .fields ps } := I.hok P _ hP
  have nofr : ∀ f, s.heap.objs.size ≤ f → f ∉ frs X.stack := fun f hf z => by
    rcases List.mem_cons.mp (I.stkSub _ z) with e | e
    · have h1 := I.lt
      rw [← e] at h1
      exact Nat.lt_irrefl _ (Nat.lt_of_lt_of_le h1 hf)
    · exact I.nofs hf e
  cases hc : codeAmong pos ps.toList with
  | none =>
    refine PySem.W.kdv_makeTail (mg := X.mg) (c := c) (P := P) (ps := ps) (closure_ok hfree) I.ok.glob (I.mod.glob.keeps I.bk) hcode (TB.code.keeps I.bk) hP' ht hc TB.gP bP fun c' ctv doc h' tk hx hge hlt hrec htb => ?_
    obtain ⟨c2, oc, vs, t, e2, hoc, hd, hv⟩ := hrec
    cases e2
    have hsz : s.heap.objs.size ≤ h'.objs.size := Nat.le_trans hge (Nat.le_of_lt hlt)
    have nC : H c' = none := I.hok.fresh hge
    have I1 := LamX.inv_table (t' := tk) (more := #[rawInt pos.line, rawInt pos.col, .ref c']) (h' := h'.push (PySem.W.kdv_obj "<lambda>" (X.env.qual ++ "<lambda>") params (.expr body) scope (cloFrom X.env.cells scope.names []) dV doc ((X.mg "__name__").getD .none) c' ctv)) I hP
      (fun b o hb e => Heap.get?_push_of_some _ (hx b o hb e)) (Heap.get?_push_of_some _ htb) hge ⟨oc, vs, t, Heap.get?_push_of_some _ hoc, hd, hv⟩
    have hE : LamX.ExtN H (upd (upd H P (.tbl (ps ++ #[rawInt pos.line, rawInt pos.col, .ref c']))) c' (LamX.CodeO c' (X.env.qual ++ "<lambda>"))) := fun b o e n => by
      rw [upd_ne (ne_of_none e nC), upd_ne (fun z => n ps (Option.some.inj (e.symm.trans (by rw [z]; exact hP))))]
      exact e
    have eL : (ps ++ #[rawInt pos.line, rawInt pos.col, .ref c']).toList = ps.toList ++ [rawInt pos.line, rawInt pos.col, .ref c'] := by simp
    refine h h'.objs.size c' doc ((X.mg "__name__").getD .none) ctv _ _ I1 hE (fun b e => ?_) (fun p hp => ?_) (Heap.get?_push_size _ rfl) ?_ (nofr _ hsz) upd_same
    · by_cases z : b = c'
      · rw [z, upd_same] at e; cases e
      · rw [upd_ne z] at e
        by_cases z2 : b = P
        · rw [z2, upd_same] at e; cases e
        · rw [upd_ne z2] at e; exact e
    · by_cases hb : p.1 = P
      · rw [hu p hp hb, hb]
        refine ⟨_, by rw [upd_ne (ne_of_none hP nC), upd_same], by rw [eL]; exact PySem.TriplesOk_snoc _ _ _ _ ht, fun p' cv hcv => ?_⟩
        rw [eL] at hcv
        rcases LamX.among_app _ ht hcv with z | z
        · obtain ⟨c0, e1, e2⟩ := ha p' cv z
          exact ⟨c0, e1, hE _ _ e2 LamX.codeO_ne⟩
        · exact ⟨c', z, upd_same⟩
      · obtain ⟨ps', a1, a2, a3⟩ := hT p hp
        refine ⟨ps', by rw [upd_ne (ne_of_none a1 nC), upd_ne hb]; exact a1, a2, fun p' cv hcv => ?_⟩
        obtain ⟨c0, e1, e2⟩ := a3 p' cv hcv
        exact ⟨c0, e1, hE _ _ e2 LamX.codeO_ne⟩
    · have n1 : h'.objs.size ≠ c' := Nat.ne_of_gt hlt
      have n2 : h'.objs.size ≠ P := Nat.ne_of_gt (Nat.lt_of_lt_of_le (Heap.lt_size hP') hsz)
      rw [upd_ne n1, upd_ne n2]
      exact I.hok.fresh hsz
  | some cv =>
    obtain ⟨c', e, hco⟩ := ha pos cv hc
    subst e
    refine PySem.W.kdv_makeTailHit (mg := X.mg) (c := c) (P := P) (ps := ps) (closure_ok hfree) I.ok.glob (I.mod.glob.keeps I.bk) hcode (TB.code.keeps I.bk) hP' ht hc bP fun ctv doc h' tk hx hsz => ?_
    have I1 : Inv X pins σ H { s with heap := h'.push (PySem.W.kdv_obj "<lambda>" (X.env.qual ++ "<lambda>") params (.expr body) scope (cloFrom X.env.cells scope.names []) dV doc ((X.mg "__name__").getD .none) c' ctv), toks := tk } := I.kept fun b o e => Heap.get?_push_of_some _ (hx b o e)
    exact h h'.objs.size c' doc ((X.mg "__name__").getD .none) ctv H _ I1 (LamX.ExtN.refl H) (fun _ e => e) hT (Heap.get?_push_size _ rfl) (I.hok.fresh hsz) (nofr _ hsz) hco
theorem lam_startG {A : Around} {outer : List Env} {E : XK} {scope : Scope} {nm : List Str} {f c' : Addr} {h₁ : Heap} {tk : Nat} {bs : Str → Option Value} (I : Inv X pins σ H s) (L : LamN X.env.scope scope X.N nm) (e0 : Env0 X.prog X.w X.K X.mg X.base A outer s1 HZ) (hd : A.handled = none)
    (un : Un (frs X.stack) [] H HZ s.heap s1.heap) (hns : h₁.Ns s1.heap.objs.size bs) (kp : ∀ b o, s1.heap.get? b = some o → h₁.get? b = some o) :
    Inv (LamX.lamCx X A outer s1 HZ E scope f c') [] σ HZ { s1 with heap := h₁, toks := tk } := by
  have hfree := L.has I.ok
  have cm : ∀ {y c}, (cloFrom X.env.cells scope.names []).lookup y = some c → X.env.cells.lookup y = some c := fun {y c} e => by
    rcases cloFrom_mem (PySem.mem_of_lookup e) with hm | ⟨h1, h2⟩
    · cases hm
    · obtain ⟨c1, hc⟩ := hfree _ h1 rfl
      have hc : X.env.cells.lookup y = some c1 := hc
      have e2 : c = c1 := by
        rw [h2, hc] <;> rfl
      rw [e2]
      exact hc
  have look : ∀ {y}, scope.names.lookup y = some .free → ∃ c, (cloFrom X.env.cells scope.names []).lookup y = some c := fun {y} hl => by
    have hy : (y, NameKind.free) ∈ scope.names := PySem.mem_of_lookup hl
    exact mem_lookup (cloFrom_has (cells := X.env.cells) (acc := []) hy)
  have cellK : ∀ {c : Addr} {v : Option Value}, H c = none → s.heap.IsCell c v → h₁.IsCell c v := fun {c v} n ⟨o, ho, hd⟩ => by
    obtain ⟨sl, q⟩ := un.any ho n (by simp)
    exact ⟨_, kp _ _ q, hd⟩
  have noA : ∀ b : Addr, b ∉ (LamX.lamCx X A outer s1 HZ E scope f c').ex := fun b z => absurd (show b ∈ ([] : List Addr) from z) (by simp)
  refine ⟨⟨e0.mod, L.kind, rfl, rfl, Nat.le_refl _, fun y z c e1 e2 => I.ok.inj y z c (cm e1) (cm e2), fun y hy => ?_, fun y c z _ => ?_, fun _ => hd, Around.frames_deeper e0.frames, .inr ⟨rfl, rfl⟩, fun b z => absurd z (noA b), e0.bs, e0.bsz, fun b _ _ => noA b,
      fun b z => absurd z (noA b), e0.funs, e0.frf⟩,
    rfl, e0.bare, Un.kept kp, ⟨_, hns, fun i y v e1 e2 e3 => ?_⟩, fun y c e => ?_, e0.hok.fresh (Nat.le_refl _), fun y c e => ?_, fun q hq => absurd (show q ∈ ([] : List (Addr × Obj)) ++ [] from hq) (by simp), e0.hok.kept kp, I.len⟩
  · have hy : scope.names.lookup y = some .cell ∨ scope.names.lookup y = some .free := hy
    rcases hy with hy | hy
    · exact absurd rfl (L.cell _ (PySem.mem_of_lookup hy))
    · exact look hy
  · have z : false = true := z
    cases z
  · have e3 : Vis scope y := e3
    rcases e3 with k | k | k
    · exact absurd (List.mem_of_getElem? e1) (L.apart y (L.own _ (PySem.mem_of_lookup k) rfl))
    · exact absurd rfl (L.cell _ (PySem.mem_of_lookup k))
    · obtain ⟨m, hn, hl⟩ := I.loc
      have hvis : Vis X.env.scope y := (L.free _ (PySem.mem_of_lookup k) rfl).elim (fun k => .inr (.inl k)) (fun k => .inr (.inr k))
      obtain ⟨w', r, q⟩ := hl i y v e1 e2 hvis
      obtain ⟨c2, h2⟩ := look k
      refine ⟨w', r, .inr ⟨.inr k, c2, h2, ?_⟩⟩
      have c1 := cm h2
      rcases q with ⟨k', _⟩ | ⟨_, c3, e', z⟩
      · have k' : X.env.scope.names.lookup y = some .local := k'
        rcases L.free _ (PySem.mem_of_lookup k) rfl with k2 | k2 <;> rw [show X.env.scope.names.lookup y = _ from k2] at k' <;> cases k'
      · rw [c1] at e'
        cases e'
        exact cellK (I.freeC y _ c1) z
  · obtain ⟨w', z⟩ := I.cell y c (cm e)
    exact ⟨w', cellK (I.freeC y c (cm e)) z⟩
  · obtain ⟨v, o, ho, hd⟩ := I.cell y c (cm e)
    exact un.free c o ho (I.freeC y c (cm e)) (by simp)
/-- a(), in the def that got the lambda -/
theorem pe_actG {CXg : CXT} {Eg : XK} {Ng : List Str} {qg : Str} {sg : Scope} {g f c' : Addr} {cdg dV doc pm ctv : Value} {params : Arguments} {body : Expr} {scope : Scope} {nm : List Str} {k i : Nat} {a : Str} {pn : List (Addr × Obj)} {xe : Value → Shared → Prop} {W : WX} {E : XK} {tb : TE} {p1 p2 : Pos} {DV : Hp → Prop}
    (I : Inv X pins σ H s) (L : LamN X.env.scope scope X.N nm) (hf : s.heap.get? f = some (PySem.W.kdv_obj "<lambda>" (X.env.qual ++ "<lambda>") params (.expr body) scope (cloFrom X.env.cells scope.names []) dV doc pm c' ctv)) (hfn : H f = none) (hfr : f ∉ frs X.stack)
    (hbind : ∀ (sZ : Shared) (HZ : Hp), HOk X.prog X.w HZ sZ.heap → DV HZ → ∃ vs : List Value, BindsTo sZ (PySem.W.kdv_fn "<lambda>" (X.env.qual ++ "<lambda>") params (.expr body) scope (cloFrom X.env.cells scope.names []) dV doc pm (.ref c') ctv) ⟨[], []⟩ (nm.zip vs))
    (tk : Takes ((cxOf CXg X.prog X.w X.K X.mg X.base Ng qg sg g cdg X.A X.stack s H Eg).tr pn xe) W) (hW : ∀ cls d σ' H', E cls d H' → W cls d σ' H') (hr : Room (k + 1) (X.A.deeper (envOfC qg sg s.heap.objs.size g cdg)))
    (hbody2 : ∀ (A : Around) (outer : List Env) (s : Shared) (H : Hp), A.guards = X.A.guards → Room k (A.deeper (LamX.lamEnv X scope s.heap.objs.size f c')) → PE (LamX.lamCx X A outer s H E scope f c') body tb)
    (hN : Ng[i]? = some a) (hv : Vis sg a) (hd : (a == ("__debug__" : Str)) = false := by decide) (hcd : (a == ("__classdict__" : Str)) = false := by decide) :
    PE ((cxOf CXg X.prog X.w X.K X.mg X.base Ng qg sg g cdg X.A X.stack s H Eg).tr pn xe) (.Call (.Name a p1) [] [] p2)
      (fun σZ HZ Q => σZ[i]? = some (some (.ref f)) ∧ HZ c' = some (LamX.CodeO c' (X.env.qual ++ "<lambda>")) ∧ DV HZ ∧ tb σ HZ Q) := by
  refine ⟨fun pinsZ sZ σZ HZ Q IZ h => ?_⟩
  obtain ⟨hs, hc, hdv, ht⟩ := h
  refine wpAny_Call_Name_kw (thn ((pe_var (pos := p1) (i := i) hN hv hd hcd).run pinsZ sZ σZ HZ (fun v H1 => v = .ref f ∧ H1 = HZ) IZ ⟨.ref f, hs, rfl, rfl⟩) fun u s1 ⟨v, H1, I1, r1, q1⟩ => ?_)
  obtain ⟨ev, eH⟩ := q1
  subst ev
  rw [eH] at I1
  obtain rfl : u = Value.ref f := r1
  have of1 : s1.heap.get? f = some (PySem.W.kdv_obj "<lambda>" (X.env.qual ++ "<lambda>") params (.expr body) scope (cloFrom X.env.cells scope.names []) dV doc pm c' ctv) := I1.base.keep f _ hf hfn hfr (fun z => nomatch (show f ∈ ([] : List Addr) from z))
  refine PySem.W.callWith_F0 ⟨_, _, _, _, of1⟩ ?_
  have un : Un (frs X.stack) [] H HZ s.heap s1.heap := I1.base
  obtain ⟨⟨oc, vs, t, hoc, hdc, hvc⟩, _, _⟩ := I1.hok c' _ hc
  obtain ⟨bvs, hb⟩ := hbind s1 HZ I1.hok hdv
  have rc : codeAny (model X.prog X.w) (X.A.deeper (envOfC qg sg s.heap.objs.size g cdg)) (.call (.ref f) ⟨[], []⟩) (CR (L2.CX X.prog X.w) (envOfC qg sg s.heap.objs.size g cdg :: X.stack) X.prog X.w HZ s1 Q E) s1 := by
    refine PySem.W.kla_callFunE hr.depth of1 rfl L.co L.gen rfl ⟨c', oc, vs, t, rfl, hoc, hdc, hvc⟩ (hb _ _ _ _ ?_)
    refine wpAny_newFunctionEnv L.cell (fun y hy => L.bind y.1 (List.of_mem_zip hy).1) (fun h₁ hns hsb => ⟨I1.nolimit.fresh _ hsb, ?_⟩) L.kind
    show codeAny _ _ (.expr body (LamX.lamEnv X scope s1.heap.objs.size f c')) _ _
    have kp : ∀ b o, s1.heap.get? b = some o → h₁.get? b = some o := fun b o e => hsb.extBut b o (Nat.ne_of_lt (Heap.lt_size e)) (Heap.get?_push_of_some _ e)
    have J := lam_startG (A := X.A.deeper (envOfC qg sg s.heap.objs.size g cdg)) (outer := envOfC qg sg s.heap.objs.size g cdg :: X.stack) (E := E) (f := f) (c' := c') (tk := s1.toks + (nm.zip bvs).length) I L I1.env0 hr.hd un hns kp
    refine PySem.W.kla_codeExpr (wpAny_mono ((hbody2 (X.A.deeper (envOfC qg sg s.heap.objs.size g cdg)) _ s1 HZ rfl (hr.deeper _)).run [] _ _ HZ Q J ht) (fun v s' hq => ?_) fun e s' hq => hq)
    obtain ⟨w', H', J', rv, q⟩ := hq
    exact ⟨w', H', J'.os, J'.bare, J'.base, J'.hok, rv, q⟩
  have hx : Passes (L2.CX X.prog X.w) ((cxOf CXg X.prog X.w X.K X.mg X.base Ng qg sg g cdg X.A X.stack s H Eg).tr pn xe) E := passes_call tk hW
  refine wpAny_call (codeAny_mono rc fun r s' hq => ?_)
  match r, hq with
  | .error e, hq => exact hx pinsZ σZ HZ s1 e s' I1 hq
  | .ok (.ret u), hq => exact I1.after hq
end
end DL

set_option Elab.async false
set_option linter.all false
set_option maxRecDepth 100000
set_option maxHeartbeats 2000000
namespace DL
open PySem PySem.Spec PyProof.Rows L2

/-! ### list.count of flat items -/
theorem count_eqU {x : V} : ∀ {xs : List V} {us : List Value}, Vals xs us → xs.all flatV = true → us.countP (eqU x) = xs.countP fun y => eqV y x
  | _, _, .nil, _ => rfl
  | y :: xs, u :: us, .cons r t, f => by
    rw [List.all_cons, Bool.and_eq_true] at f
    rw [List.countP_cons, List.countP_cons, eqU_of r f.1, count_eqU t f.2]
def rCount (K : PySem.W.Frag) : V → List V → Hp → VK → Prop := fun x xs H Q => ∃ (a : Addr) (ys : List V) (y : V), x = V.ref a ∧ xs = [y] ∧ SqL K H a ys ∧ flatV y = true ∧ ys.all flatV = true ∧ Q (.int ((ys.countP fun z => eqV z y : Nat) : Int)) H
theorem mt_count {X : Cx} : MtR X "list.count" (rCount X.K) := by
  intro pins s σ H x xs v us Q I rx rxs h
  obtain ⟨a, ys, y, rfl, rfl, hs, fy, fys, q⟩ := h
  cases rx
  obtain ⟨u, rfl, ru⟩ := rxs.one
  obtain ⟨its, rv, ⟨⟨cls, dd, data, sl⟩, n, ho, hc, hdn, hd⟩, hlen⟩ := I.list hs
  simp only at hc hd
  subst hc hd
  refine call_meets PySem.F.slot_list_count ⟨_, ho, rfl⟩ PySem.F.entry_list_count (PySem.F.args_list_count_2 _ _)
    (SeqAt.list_countAt a its.toArray n dd sl u (eqU y)) ⟨ho, fun u' hu' => mem_eqAt ru fy rv fys u' (by simpa using hu'), ?_⟩
  refine ⟨.int ((ys.countP fun z => eqV z y : Nat) : Int), H, I.tok _, ⟨s.toks, ?_⟩, q⟩
  show Value.int ((its.toArray.toList.countP (eqU y) : Nat) : Int) s.toks = _
  rw [← count_eqU rv fys]

/-! ### the suite that tells an error's word -/
def tIs (ie : Nat) (a : Addr) (bs : List Bool) : TA := fun σ H Q => σ[ie]? = some (some (.ref a)) ∧ Q (bs.map V.bl) H
def tStrs (ws : List Str) : TA := fun σ H Q => Q (ws.map V.str) H
section
variable {X : Cx} {a Dc A : Addr} {oe : Obj} {pn : List (Addr × Obj)} {ie : Nat} {e n : Str} {es : List Expr} {bs : List Bool} {b : Bool} {p p1 p2 pos : Pos} {ws : List Str}
theorem isE_one (EC : ExcC X.K Dc) (hz : Zc (.ref Dc) none oe) (hf : ∃ vs, oe.data = .fields vs) (hgi : Gl (X.suite a ((a, oe) :: pn)) "isinstance") (hmi : X.mg "isinstance" = none) (hi : X.N[ie]? = some e) (hv : Vis X.env.scope e) (hg : Gl (X.suite a ((a, oe) :: pn)) n) (hm : X.mg n = some (.ref A)) (kt : PySem.W.kitOne X.K (.ref Dc) (.ref A) = some b)
    (hn : n ≠ "__name__" := by decide) (hd : (n == ("__debug__" : Str)) = false := by decide) (hd2 : (e == ("__debug__" : Str)) = false := by decide) (hcd : (e == ("__classdict__" : Str)) = false := by decide)
    (he : starEach [.Name e p1, .Name n p2] X.env = (false, eval (.Name e p1) X.env) :: starEach [.Name n p2] X.env := by rfl) (he2 : starEach [.Name n p2] X.env = (false, eval (.Name n p2) X.env) :: starEach [] X.env := by rfl) (hpl : (backTo pos (starEach [.Name n p2] X.env)).any (·.1) = false := by rfl) :
    PE (X.suite a ((a, oe) :: pn)) (.Call (.Name "isinstance" p) [.Name e p1, .Name n p2] [] pos) (fun σ H Q => σ[ie]? = some (some (.ref a)) ∧ Q (.bl b) H) := by
  refine (pe_callB (X := X.suite a ((a, oe) :: pn)) (call_isE EC hz hf) hgi hmi (by decide +kernel) (pa_cons (pe_var (i := ie) hi hv hd2 hcd) (pa_cons (pe_glob (v := .ref A) hg hm rfl hd) pa_nil he2) he) (by decide) (by decide) he hpl).impD fun σ H Q ⟨h1, h2⟩ => ?_
  exact ⟨.ref a, h1, .ref A, .ref A, b, rfl, fun u r => r, kt, h2⟩
theorem isE_ve (EC : ExcC X.K Dc) (hz : Zc (.ref Dc) none oe) (hf : ∃ vs, oe.data = .fields vs) (hgi : Gl (X.suite a ((a, oe) :: pn)) "isinstance") (hmi : X.mg "isinstance" = none) (hi : X.N[ie]? = some e) (hv : Vis X.env.scope e) (hg : Gl (X.suite a ((a, oe) :: pn)) "ValueError") (hm : X.mg "ValueError" = none) (kt : PySem.W.kitOne X.K (.ref Dc) (.type "ValueError") = some b)
    (hd2 : (e == ("__debug__" : Str)) = false := by decide) (hcd : (e == ("__classdict__" : Str)) = false := by decide)
    (he : starEach [.Name e p1, .Name "ValueError" p2] X.env = (false, eval (.Name e p1) X.env) :: starEach [.Name "ValueError" p2] X.env := by rfl) (he2 : starEach [.Name "ValueError" p2] X.env = (false, eval (.Name "ValueError" p2) X.env) :: starEach [] X.env := by rfl) (hpl : (backTo pos (starEach [.Name "ValueError" p2] X.env)).any (·.1) = false := by rfl) :
    PE (X.suite a ((a, oe) :: pn)) (.Call (.Name "isinstance" p) [.Name e p1, .Name "ValueError" p2] [] pos) (fun σ H Q => σ[ie]? = some (some (.ref a)) ∧ Q (.bl b) H) := by
  refine (pe_callB (X := X.suite a ((a, oe) :: pn)) (call_isE EC hz hf) hgi hmi (by decide +kernel) (pa_cons (pe_var (i := ie) hi hv hd2 hcd) (pa_cons (pe_bltn (v := .ty "ValueError") hg hm (by decide +kernel) rfl) pa_nil he2) he) (by decide) (by decide) he hpl).impD fun σ H Q ⟨h1, h2⟩ => ?_
  exact ⟨.ref a, h1, .ty "ValueError", .type "ValueError", b, rfl, fun u r => r, kt, h2⟩
theorem ise_nil : PA (X.suite a ((a, oe) :: pn)) [] (tIs ie a []) := pa_nil.impD fun σ H Q h => h.2
theorem ise_cons {e0 : Expr} (h1 : PE (X.suite a ((a, oe) :: pn)) e0 (fun σ H Q => σ[ie]? = some (some (.ref a)) ∧ Q (.bl b) H)) (h2 : PA (X.suite a ((a, oe) :: pn)) es (tIs ie a bs)) (hs : starEach (e0 :: es) X.env = (false, eval e0 X.env) :: starEach es X.env := by rfl) : PA (X.suite a ((a, oe) :: pn)) (e0 :: es) (tIs ie a (b :: bs)) :=
  (pa_cons h1 h2 hs).impD fun σ H Q h => ⟨h.1, h.1, h.2⟩
theorem strs_nil {X : Cx} : PA X [] (tStrs []) := pa_nil
theorem strs_cons {X : Cx} {w : Str} {j : Nat} (h2 : PA X es (tStrs ws)) (hs : starEach (.Constant (.str w) j pos :: es) X.env = (false, eval (.Constant (.str w) j pos) X.env) :: starEach es X.env := by rfl) : PA X (.Constant (.str w) j pos :: es) (tStrs (w :: ws)) :=
  (pa_cons pe_str h2 hs).impD fun σ H Q h => h
theorem one_hot {bs : List Bool} {j : Nat} (h : bs[j]? = some true) (h2 : ∀ m, m ≠ j → bs[m]? ≠ some true) : (bs.map V.bl).countP (fun z => eqV z (.bl true)) = 1 := by
  induction bs generalizing j with
  | nil => cases h
  | cons b bs ih =>
    rw [List.map_cons, List.countP_cons]
    cases j with
    | zero =>
      cases h
      have z : (bs.map V.bl).countP (fun z => eqV z (.bl true)) = 0 := by
        rw [List.countP_eq_zero]
        intro v hv
        obtain ⟨c, hc, rfl⟩ := List.mem_map.mp hv
        obtain ⟨m, hm⟩ := List.getElem?_of_mem hc
        cases c with
        | true => exact absurd hm (by simpa using h2 (m + 1) (by omega))
        | false => decide
      rw [z]; rfl
    | succ j =>
      have hb : b = false := by
        cases b with
        | true => exact absurd rfl (h2 0 (by omega))
        | false => rfl
      subst hb
      have := ih (j := j) (by simpa using h) (fun m hm => by simpa using h2 (m + 1) (by omega))
      rw [this]; rfl
theorem flat_bls (bs : List Bool) : (bs.map V.bl).all flatV = true := by
  rw [List.all_eq_true]
  intro v hv
  obtain ⟨c, _, rfl⟩ := List.mem_map.mp hv
  rfl
end
def tWord (a : Addr) (ie iF iG : Nat) (bs : List Bool) (ws : List Str) : TS := fun D σ H => iF < σ.length ∧ iG < σ.length ∧ σ[ie]? = some (some (.ref a)) ∧ (∃ (j : Nat) (r : Str), bs[j]? = some true ∧ (∀ m, m ≠ j → bs[m]? ≠ some true) ∧ ws[j]? = some r ∧
  ∀ σ2 H2, Sub H H2 → σ2[iF]? = some (some (.str r)) → D.nx σ2 H2)
theorem suite_std {X : Cx} {a : Addr} {oe : Obj} {pn : List (Addr × Obj)} {ie iF iG : Nat} {e fn gn : Str} {es wsE : List Expr} {eV : Expr} {bs : List Bool} {ws : List Str} {j1 j2 j3 : Nat} {q1 q2 q3 q4 q5 q6 q7 q8 q9 q10 q11 q12 q13 q14 q15 q16 q17 q18 q19 q20 q21 q22 : Pos}
    (nd : X.N.Nodup) (he : X.N[ie]? = some e) (hF : X.N[iF]? = some fn) (hG : X.N[iG]? = some gn) (hlF : X.env.scope.names.lookup fn = some .local) (hlG : X.env.scope.names.lookup gn = some .local) (hEG : ie ≠ iG) (hEF : ie ≠ iF) (hFG : iF ≠ iG)
    (hes : PA (X.suite a ((a, oe) :: pn)) es (tIs ie a bs)) (hws : PA (X.suite a ((a, oe) :: pn)) wsE (tStrs ws)) (hve : PE (X.suite a ((a, oe) :: pn)) eV (fun σ H Q => σ[ie]? = some (some (.ref a)) ∧ Q (.bl true) H))
    (hvt : ∀ whole, isTrue eV X.env whole = (do let v ← whole; standAt eV.pos; holding [v] (truthy v))) (hz : bs.length ≤ sizeLine) (hz2 : ws.length ≤ sizeLine)
    (hpl : PlainIx (.Call (.Attribute (.Name gn q15) "index" q16) [.Constant (.bool true) j3 q17] [] q18))
    (d1 : (gn == ("__debug__" : Str)) = false := by decide) (d2 : (gn == ("__classdict__" : Str)) = false := by decide)
    (s1 : swapsWith (.List es q2) (some (.Name gn q1)) q3.line X.env = pure false := by rfl) (s2 : swapsWith (.Constant (.str "other") j1 q5) (some (.Name fn q4)) q6.line X.env = pure false := by rfl) (s3 : swapsWith (.Subscript (.List wsE q14) (.Call (.Attribute (.Name gn q15) "index" q16) [.Constant (.bool true) j3 q17] [] q18) q19) (some (.Name fn q13)) q20.line X.env = pure false := by rfl)
    (b1 : attributeBase (.Name gn q7) "count" X.env (eval (.Name gn q7) X.env) = eval (.Name gn q7) X.env := by rfl)
    (f1 : ((backTo q10 (starEach [.Constant (.bool true) j2 q9] X.env)).all (fun x => !x.1) && (backToKw q10 (keywordEach [] X.env)).all (fun x => x.1.isSome)
      && decide ([Expr.Constant (.bool true) j2 q9].length + ([] : List Keyword).length + (if ([] : List Keyword).isEmpty then 0 else 1) < 30)) = true := by rfl)
    (l1 : (q8.endLine == q10.line) = true := by rfl) (st1 : starEach [.Constant (.bool true) j2 q9] X.env = (false, eval (.Constant (.bool true) j2 q9) X.env) :: starEach [] X.env := by rfl) (p1 : (backTo q10 (starEach [] X.env)).any (·.1) = false := by rfl)
    (b2 : attributeBase (.Name gn q15) "index" X.env (eval (.Name gn q15) X.env) = eval (.Name gn q15) X.env := by rfl)
    (f2 : ((backTo q18 (starEach [.Constant (.bool true) j3 q17] X.env)).all (fun x => !x.1) && (backToKw q18 (keywordEach [] X.env)).all (fun x => x.1.isSome)
      && decide ([Expr.Constant (.bool true) j3 q17].length + ([] : List Keyword).length + (if ([] : List Keyword).isEmpty then 0 else 1) < 30)) = true := by rfl)
    (l2 : (q16.endLine == q18.line) = true := by rfl) (st2 : starEach [.Constant (.bool true) j3 q17] X.env = (false, eval (.Constant (.bool true) j3 q17) X.env) :: starEach [] X.env := by rfl) (p2 : (backTo q18 (starEach [] X.env)).any (·.1) = false := by rfl)
    (hm : behindInMarks .Eq (.Constant (.int 1) j2 q11) = false := by rfl) :
    PSs (X.suite a ((a, oe) :: pn)) [.Assign [.Name gn q1] (.List es q2) q3, .Assign [.Name fn q4] (.Constant (.str "other") j1 q5) q6,
      .If (.BoolOp .And [.Compare (.Call (.Attribute (.Name gn q7) "count" q8) [.Constant (.bool true) j2 q9] [] q10) [.Eq] [.Constant (.int 1) j2 q11] q12, eV] q21)
        [.Assign [.Name fn q13] (.Subscript (.List wsE q14) (.Call (.Attribute (.Name gn q15) "index" q16) [.Constant (.bool true) j3 q17] [] q18) q19) q20] [] q22]
      (tWord a ie iF iG bs ws) := by
  have vG : Vis X.env.scope gn := .inl hlG
  have c1 := pe_bm (X := X.suite a ((a, oe) :: pn)) (apos := q8) (cpos := q10) PySem.F.plainAttrs_list PySem.F.slot_list_count PySem.F.type_list_count mt_count (pe_var (pos := q7) (i := iG) hG vG d1 d2) (pa_cons (pe_bl (b := true) (j := j2) (pos := q9)) pa_nil st1) b1 f1 l1 st1 p1
  have c2 := pe_bm (X := X.suite a ((a, oe) :: pn)) (apos := q16) (cpos := q18) PySem.F.plainAttrs_list PySem.F.slot_list_index PySem.F.type_list_index mt_index (pe_var (pos := q15) (i := iG) hG vG d1 d2) (pa_cons (pe_bl (b := true) (j := j3) (pos := q17)) pa_nil st2) b2 f2 l2 st2 p2
  have t1 := pw_and (pt_cmpR (pos := q12) op_eq c1 (pe_int (i := 1) (j := j2) (pos := q11)) hm) (pw_and1 (pos := q21) (pt_truth hve hvt))
  have f1 : PS (X.suite a ((a, oe) :: pn)) _ _ := ps_set (i := iG) nd hG (.inl hlG) (pe_lst hes) s1 (.inr hlG)
  have f2 : PS (X.suite a ((a, oe) :: pn)) _ _ := ps_set (i := iF) nd hF (.inl hlF) (pe_str (X := X.suite a ((a, oe) :: pn)) (x := "other") (j := j1) (pos := q5)) s2 (.inr hlF)
  have f3 : PS (X.suite a ((a, oe) :: pn)) _ _ := ps_set (i := iF) nd hF (.inl hlF) (pe_ix ix_list (pe_lst (pos := q14) hws) c2 hpl) s3 (.inr hlF)
  have f4 : PS (X.suite a ((a, oe) :: pn)) _ _ := ps_if (pos := q22) t1.pt (pss_one f3) pss_nil
  refine (pss_cons f1 (pss_cons f2 (pss_one f4))).impD fun D σ H h => ?_
  obtain ⟨lF, lG, h1, j, r, h2, h3, h4, h5⟩ := h
  refine ⟨h1, by rw [List.length_map]; exact hz, fun p hp => ?_⟩
  have g1 : ((σ.set iG (some (.ref p))).set iF (some (.str "other")))[iG]? = some (some (.ref p)) := by
    rw [List.getElem?_set_ne hFG, List.getElem?_set_self lG]
  have g2 : ((σ.set iG (some (.ref p))).set iF (some (.str "other")))[ie]? = some (some (.ref a)) := by
    rw [List.getElem?_set_ne (Ne.symm hEF), List.getElem?_set_ne (Ne.symm hEG), h1]
  have sq : SqL X.K (upd H p (.lst (bs.map V.bl))) p (bs.map V.bl) := .inl (.inl upd_same)
  refine ⟨.ref p, g1, .inl ⟨rfl, _, sq⟩, p, bs.map V.bl, .bl true, rfl, rfl, sq, rfl, flat_bls bs, ?_⟩
  rw [one_hot h2 h3]
  refine ⟨rfl, true, by rw [decide_eq_true (show V.int ((1 : Nat) : Int) = V.int 1 from rfl)], iteT ⟨g2, true, rfl, iteT ?_⟩⟩
  refine ⟨by rw [List.length_map]; exact hz2, fun p2 hp2 => ?_⟩
  have npp : p ≠ p2 := fun z => by rw [← z, upd_same] at hp2; cases hp2
  have sq2 : SqL X.K (upd (upd H p (.lst (bs.map V.bl))) p2 (.lst (ws.map V.str))) p (bs.map V.bl) := .inl (.inl (by rw [upd_ne npp, upd_same]))
  refine ⟨.ref p, g1, .inl ⟨rfl, _, sq2⟩, p, bs.map V.bl, .bl true, j, .bl true, rfl, rfl, sq2, rfl, flat_bls bs, by rw [List.getElem?_map, h2]; rfl, rfl, fun m z' hm hz' => ?_, p2, ws.map V.str, (j : Int), .str r, rfl, rfl, .inl (.inl upd_same), atI_nat (by rw [List.getElem?_map, h4]; rfl), ?_⟩
  · rw [List.getElem?_map, Option.map_eq_some_iff] at hz'
    obtain ⟨c, hc, rfl⟩ := hz'
    cases c with
    | true => exact absurd hc (h3 m (by omega))
    | false => rfl
  · exact h5 _ _ ((sub_upd hp).trans (sub_upd hp2)) (List.getElem?_set_self (by rw [List.length_set, List.length_set]; exact lF))
end DL

set_option Elab.async false
set_option linter.all false
set_option maxRecDepth 100000
set_option maxHeartbeats 2000000
namespace DL
open PySem PySem.Spec PyProof.Rows L2

/-- the class c, as it is raised, caught by the class at FEa, asked for each of ask -/
structure RaisedAt (K : PySem.W.Frag) (mg : Str → Option Value) (FEa : Addr) (ask : List Str) (c : Str) (Dc : Addr) : Prop where
  gm : mg c = some (.ref Dc)
  ec : ExcC K Dc
  ex : PySem.W.exmOne K (.ref Dc) (.ref FEa) = some true
  ve : PySem.W.kitOne K (.ref Dc) (.type "ValueError") = some true
  ask : ∀ n ∈ ask, ∃ A, mg n = some (.ref A) ∧ PySem.W.kitOne K (.ref Dc) (.ref A) = some (decide (c = n))
theorem _root_.L2.Takes.sized {X : Cx} {W : WX} (t : Takes X W) : Takes X (fun c d σ H => σ.length = X.N.length → W c d σ H) := fun u s' ⟨a, B, sI, pins, σ, H, cls, d, e, I, nb, up, sky, na, os, ag, w⟩ =>
  t u s' ⟨a, B, sI, pins, σ, H, cls, d, e, I, nb, up, sky, na, os, ag, w I.len⟩
def hotL (ask : List Str) (c : Str) : List Bool := ask.map fun n => decide (c = n)
theorem hotL_at {ask : List Str} (nd : ask.Nodup) {ws : List Str} {c r : Str} (h : (ask.zip ws).lookup c = some r) : ∃ j : Nat, (hotL ask c)[j]? = some true ∧ (∀ m, m ≠ j → (hotL ask c)[m]? ≠ some true) ∧ ws[j]? = some r := by
  induction ask generalizing ws with
  | nil => cases h
  | cons n ask ih =>
    cases ws with
    | nil => cases h
    | cons w ws =>
      obtain ⟨n1, n2⟩ := List.nodup_cons.mp nd
      rw [List.zip_cons_cons, List.lookup_cons] at h
      by_cases e : c = n
      · subst e
        rw [beq_self_eq_true] at h
        cases h
        refine ⟨0, by simp [hotL], fun m hm => ?_, rfl⟩
        cases m with
        | zero => exact absurd rfl hm
        | succ m =>
          intro z
          unfold hotL at z
          rw [List.map_cons, List.getElem?_cons_succ, List.getElem?_map, Option.map_eq_some_iff] at z
          obtain ⟨y, hy, hc⟩ := z
          have : c = y := by simpa using hc
          subst this
          exact n1 (List.mem_of_getElem? hy)
      · have e2 : (c == n) = false := beq_eq_false_iff_ne.mpr e
        rw [e2] at h
        obtain ⟨j, h1, h2, h3⟩ := ih n2 h
        refine ⟨j + 1, by unfold hotL at h1 ⊢; rw [List.map_cons, List.getElem?_cons_succ]; exact h1, fun m hm => ?_, by rw [List.getElem?_cons_succ]; exact h3⟩
        cases m with
        | zero =>
          unfold hotL
          rw [List.map_cons, List.getElem?_cons_zero]
          intro z
          have : decide (c = n) = true := by simpa using z
          exact e (of_decide_eq_true this)
        | succ m =>
          have := h2 m (by omega)
          unfold hotL at this ⊢
          rw [List.map_cons, List.getElem?_cons_succ]
          exact this
/-- what the caller wants of an error within a lambda that is told as a word -/
def wordE (K : PySem.W.Frag) (mg : Str → Option Value) (FEa : Addr) (ask ws : List Str) (Q : VK) : XK := fun cls d H' => ∃ c Dc r, cls = .ref Dc ∧ d = none ∧ RaisedAt K mg FEa ask c Dc ∧ (ask.zip ws).lookup c = some r ∧ ∀ H2, Sub H' H2 → Q (.str r) H2
section
variable {X : Cx}
abbrev zOf (X : Cx) (Ng : List Str) (x : Str) (sg : Scope) (g : Addr) (cdg : Value) (s : Shared) (H : Hp) : Cx := (cxOf C8.CX0 X.prog X.w X.K X.mg X.base Ng x sg g cdg X.A X.stack s H C8.E0).nox
/-- the body of the def that tells the word -/
theorem word_gives {x a fe e fn gn : Str} {sg : Scope} {g FEa f : Addr} {cdg : Value} {ask ws : List Str} {suite : List Stmt} {b₀ : Stmt} {j : Nat} {p1 p2 p3 p4 p5 p6 p7 p8 p9 p10 p11 : Pos} {s : Shared} {H : Hp} {Q : VK} {tl : XK → Hp → VK → Prop} {PH : Hp → Prop}
    (nd : [a, fn, e, gn].Nodup) (hlF : sg.names.lookup fn = some .local) (hlE : sg.names.lookup e = some .local) (hge : sg.names.lookup fe = some .globalImplicit) (hme : X.mg fe = some (.ref FEa)) (hde : (fe == ("__debug__" : Str)) = false) (hak : ask.Nodup)
    (hsu : ∀ (o : Addr) (oe : Obj) (pn : List (Addr × Obj)) (Dc : Addr) (c : Str), RaisedAt X.K X.mg FEa ask c Dc → Zc (.ref Dc) none oe → (∃ vs, oe.data = .fields vs) → PSs ((zOf X [a, fn, e, gn] x sg g cdg s H).suite o ((o, oe) :: pn)) (b₀ :: suite) (tWord o 2 1 3 (hotL ask c) ws))
    (act : ∀ (W : WX) (pn : List (Addr × Obj)) (xe : Value → Shared → Prop) (E : XK) (p1 p2 : Pos), Takes ((cxOf C8.CX0 X.prog X.w X.K X.mg X.base [a, fn, e, gn] x sg g cdg X.A X.stack s H C8.E0).tr pn xe) W → (∀ cls d σ' H', E cls d H' → W cls d σ' H') →
      PE ((cxOf C8.CX0 X.prog X.w X.K X.mg X.base [a, fn, e, gn] x sg g cdg X.A X.stack s H C8.E0).tr pn xe) (.Call (.Name a p1) [] [] p2) (fun σZ HZ Q => σZ[0]? = some (some (.ref f)) ∧ PH HZ ∧ tl E HZ Q))
    (hP : PH H) (h : ∀ Q' : Hp → Prop, (∀ H', Q (.str "told") H' → Q' H') → tl (wordE X.K X.mg FEa ask ws Q) H (fun _ H' => Q' H'))
    (d1 : (fn == ("__debug__" : Str)) = false := by decide) (d2 : (fn == ("__classdict__" : Str)) = false := by decide)
    (s1 : swapsWith (.Constant (.str "told") j p2) (some (.Name fn p1)) p3.line (zOf X [a, fn, e, gn] x sg g cdg s H).env = pure false := by rfl) (s2 : swapsWith (.Call (.Name a p4) [] [] p5) none p6.line (zOf X [a, fn, e, gn] x sg g cdg s H).env = pure false := by rfl) :
    ∃ t, PSs (zOf X [a, fn, e, gn] x sg g cdg s H) [.Assign [.Name fn p1] (.Constant (.str "told") j p2) p3,
      .Try [.Expr (.Call (.Name a p4) [] [] p5) p6] [.ExceptHandler (some (.Name fe p7)) (some e) (b₀ :: suite) p8] [] [] p9, .Return (some (.Name fn p10)) p11] t ∧ t { nx := fun _ H' => Q .non H', rt := Q } (L2.start [a, fn, e, gn] [.ref f]) H := by
  have hgl : Gl (zOf X [a, fn, e, gn] x sg g cdg s H) fe := hge
  have f1 : PS (zOf X [a, fn, e, gn] x sg g cdg s H) _ _ := ps_set (i := 1) nd rfl (.inl hlF) (pe_str (x := "told") (j := j) (pos := p2)) s1 (.inr hlF)
  have f2 : PS (zOf X [a, fn, e, gn] x sg g cdg s H) _ _ := ps_try_as (pos := p9) (pos' := p8) (np := p7) (X := zOf X [a, fn, e, gn] x sg g cdg s H) (i := 2) (c := .ref FEa)
    (tb := fun W D σ H => ∃ Ech : XK, (∀ cls d σ' H', Ech cls d H' → σ'.length = 4 → W cls d σ' H') ∧ σ[0]? = some (some (.ref f)) ∧ PH H ∧ tl Ech H (fun _ H' => D.nx σ H'))
    (ts := fun o cls d D σ H => ∃ Dc c, cls = .ref Dc ∧ d = none ∧ RaisedAt X.K X.mg FEa ask c Dc ∧ tWord o 2 1 3 (hotL ask c) ws D σ H)
    rfl rfl nd rfl hlE ⟨hgl, hde, .inl hme⟩ LamX.takes0
    (fun W pn xe tk _ => ⟨fun pins s' σ H' D I ⟨Ech, hW, h1, h2, h3⟩ => by
      have hp := act (fun c d σ H => σ.length = 4 → W c d σ H) pn xe Ech p4 p5 tk.sized (fun cls d σ' H' q => hW cls d σ' H' q)
      exact (pss_one (ps_expr (pos := p6) hp s2)).run pins s' σ H' D I ⟨h1, h2, h3⟩⟩)
    (fun o oe cls d pn hz hf => ⟨fun pins s' σ H' D I ⟨Dc, c, e1, e2, R, hw⟩ => by
      subst e1 e2
      exact (hsu o oe pn Dc c R hz hf).run pins s' σ H' D I hw⟩)
  have f3 : PS (zOf X [a, fn, e, gn] x sg g cdg s H) _ _ := ps_ret (pos := p11) (pe_var (pos := p10) (i := 1) rfl (.inl hlF) d1 d2)
  refine ⟨_, pss_cons f1 (pss_cons f2 (pss_one f3)), wordE X.K X.mg FEa ask ws Q, fun cls d σ' H' ⟨c, Dc, r, e1, e2, R, hr, hq⟩ hl => ?_, rfl, hP, ?_⟩
  · subst e1 e2
    refine ⟨true, R.ex, fun _ o ho => ⟨Dc, c, rfl, rfl, R, by rw [List.length_set]; omega, by rw [List.length_set]; omega, List.getElem?_set_self (by omega), ?_⟩, fun z => by cases z⟩
    obtain ⟨j, h1, h2, h3⟩ := hotL_at hak hr
    refine ⟨j, r, h1, h2, h3, fun σ2 H2 sb hs => ⟨.str r, ?_, hq H2 sb⟩⟩
    rw [List.getElem?_set_ne (by decide)]
    exact hs
  · exact h _ fun H' q => ⟨.str "told", rfl, q⟩
end
/-! ### x(lambda: body), told as a word -/
def eWord (ask ws : List Str) (f : EM D) : EM D := fun env g => match f env g with
  | .ok _ g => .ok (.str "told") g
  | .err c g => match (ask.zip ws).lookup c with
    | some r => .ok (.str r) g
    | none => .stuck
  | .stuck => .stuck
theorem SOK.later {C : Cz} {F H H1 : Hp} {σ : L2.St} {env : List Sl} {g : G} (S : SOK C F H σ env g) (eN : LamX.ExtN H H1) (back : ∀ b, H1 b = none → H b = none) (T1 : LamX.Tabs C.T H1) : SOK C F H1 σ env g where
  grow := ⟨fun b o h n t => eN b o (S.grow.keep b o h n t) t, S.grow.frz, S.grow.new, fun b h => S.grow.there b (back b h)⟩
  sub := fun b o e => eN b o (S.sub b o e) (S.ntb b o e)
  ntb := S.ntb
  tabs := T1
  hand := fun a e => by
    obtain ⟨h1, ⟨h2, h3⟩, h4⟩ := S.hand a e
    exact ⟨h1, ⟨eN _ _ h2 (fun _ z => by cases z), h3⟩, h4⟩
  len := S.len
  slot := fun i sl e => by
    obtain ⟨x, h1, h2⟩ := S.slot i sl e
    refine ⟨x, h1, ?_⟩
    cases sl with
    | own ds =>
      obtain ⟨p, vs, h3, h4, h5, h6, h7⟩ := h2
      exact ⟨p, vs, h3, h4, h5, eN _ _ h6 (fun _ z => by cases z), h7⟩
    | ownd _ ds =>
      obtain ⟨p, vs, h3, h4, h5, h6, h7⟩ := h2
      exact ⟨p, vs, h3, h4, h5, eN _ _ h6 h7.own.notT, h7⟩
    | un => trivial
    | dat d => exact h2
    | hand => exact h2
    | fn a => exact h2
    | scr a => exact h2
  apart := S.apart
theorem Grow.ofExtN {ha : Option Addr} {F H H1 : Hp} (eN : LamX.ExtN H H1) (back : ∀ b, H1 b = none → H b = none) : Grow ha F H F H1 := ⟨fun b o h _ t => eN b o h t, Sub.refl _, fun b h n => absurd h n, back⟩
/-- the classes that may be told -/
def Telled (K : PySem.W.Frag) (mg : Str → Option Value) (FEa : Addr) (ask : List Str) (cs : List Str) : Prop := ∀ c ∈ cs, ∃ Dc, RaisedAt K mg FEa ask c Dc
def wordOk (cs ask ws : List Str) : Bool := cs.all fun c => ((ask.zip ws).lookup c).isSome
section
variable {X : Cx} {C : Cz} {E : XK} {k : Nat} {body : Expr} {fb : EM D} {params : Arguments} {scope : Scope} {nm : List Str} {ask ws : List Str} {FEa : Addr}
/-- a def that tells a word of what it gets -/
structure WordDef (X : Cx) (x a fe e fn gn : Str) (st : Stmt) (g FEa : Addr) (ask ws : List Str) : Prop where
  ex : ∃ fd, Fun X.K x x st g fd ∧ X.mg x = some (.ref g) ∧ L2.Binds X.K fd [a] []
  sc : FnScope [a, fn, e, gn] [a] (defScope st)
  gv : ∀ (cdg : Value) (s : Shared) (H : Hp) (f : Addr) (Q : VK) (tl : XK → Hp → VK → Prop) (PH : Hp → Prop),
    (∀ (W : WX) (pn : List (Addr × Obj)) (xe : Value → Shared → Prop) (E : XK) (p1 p2 : Pos), Takes ((cxOf C8.CX0 X.prog X.w X.K X.mg X.base [a, fn, e, gn] x (defScope st) g cdg X.A X.stack s H C8.E0).tr pn xe) W → (∀ cls d σ' H', E cls d H' → W cls d σ' H') →
      PE ((cxOf C8.CX0 X.prog X.w X.K X.mg X.base [a, fn, e, gn] x (defScope st) g cdg X.A X.stack s H C8.E0).tr pn xe) (.Call (.Name a p1) [] [] p2) (fun σZ HZ Q => σZ[0]? = some (some (.ref f)) ∧ PH HZ ∧ tl E HZ Q)) →
    PH H → (∀ Q' : Hp → Prop, (∀ H', Q (.str "told") H' → Q' H') → tl (wordE X.K X.mg FEa ask ws Q) H (fun _ H' => Q' H')) →
    ∃ t, PSs (zOf X [a, fn, e, gn] x (defScope st) g cdg s H) (defBody st) t ∧ t { nx := fun _ H' => Q .non H', rt := Q } (L2.start [a, fn, e, gn] [.ref f]) H
theorem word_core {x a fe e fn gn : Str} {st : Stmt} {g f c' : Addr} {dV doc pm ctv : Value} {pins : List (Addr × Obj)} {σ : L2.St} {F H : Hp} {s : Shared} {env : List Sl} {gs : G} {Q : VK} {DV : Hp → Prop}
    (t : Ties X C (k + 3)) (wd : WordDef X x a fe e fn gn st g FEa ask ws) (hva : Vis (defScope st) a) (hT : Telled X.K X.mg FEa ask ask) (L : LamN X.env.scope scope X.N nm)
    (hbind : ∀ (sZ : Shared) (HZ : Hp) (q : Str) (cl : List (Str × Addr)) (doc pm cv ctv : Value), HOk X.prog X.w HZ sZ.heap → DV HZ → ∃ vs : List Value, BindsTo sZ (PySem.W.kdv_fn "<lambda>" q params (.expr body) scope cl dV doc pm cv ctv) ⟨[], []⟩ (nm.zip vs))
    (hbody : ∀ (A : Around) (outer : List Env) (s : Shared) (H : Hp) (E : XK) (f c' : Addr), Ties (LamX.lamCx X A outer s H E scope f c') C (k + 1) → Passes (L2.CX X.prog X.w) (LamX.lamCx X A outer s H E scope f c') E → FE (LamX.lamCx X A outer s H E scope f c') C E body fb)
    (I : Inv X pins σ H s) (hf : s.heap.get? f = some (PySem.W.kdv_obj "<lambda>" (X.env.qual ++ "<lambda>") params (.expr body) scope (cloFrom X.env.cells scope.names []) dV doc pm c' ctv)) (hfn : H f = none) (hfr : f ∉ frs X.stack)
    (hco : H c' = some (LamX.CodeO c' (X.env.qual ++ "<lambda>"))) (hdv : DV H) (S : SOK C F H σ env gs) (h : Run C E (Rep C.K) F H σ env (eWord ask ws fb env gs) Q)
    (hd : (a == ("__debug__" : Str)) = false := by decide) (hcd : (a == ("__classdict__" : Str)) = false := by decide) :
    wpAny (model X.prog X.w) X.A (call (.ref g) [.ref f]) (EP X pins σ Q) X.xe s := by
  obtain ⟨fd, Fn, hmg, hb⟩ := wd.ex
  obtain ⟨oc, od, kV, doc2, pm2, an, cdv, ct, osl, rfl, lk, hcg⟩ := Fn.ex
  have rc : codeAny (model X.prog X.w) X.A (.call (.ref g) ⟨[.ref f], []⟩) (CR C8.CX0 X.stack X.prog X.w H s Q C8.E0) s := by
    have hb1 := hb s [.ref f] I.kIn rfl
    refine LamX.run_ofS (us := [.ref f]) (vs := [.ref f]) lk hcg wd.sc t.room I.env0 hb1 (.cons rfl .nil) rfl fun hr' => ?_
    have hr' : Room (k + 2) (X.A.deeper (envOfC x (defScope st) s.heap.objs.size g cdv)) := hr'
    have K1 : ∀ (W : WX) (pn : List (Addr × Obj)) (xe : Value → Shared → Prop) (E' : XK) (p1 p2 : Pos), Takes ((cxOf C8.CX0 X.prog X.w X.K X.mg X.base [a, fn, e, gn] x (defScope st) g cdv X.A X.stack s H C8.E0).tr pn xe) W → (∀ cls d σ' H', E' cls d H' → W cls d σ' H') →
        PE ((cxOf C8.CX0 X.prog X.w X.K X.mg X.base [a, fn, e, gn] x (defScope st) g cdv X.A X.stack s H C8.E0).tr pn xe) (.Call (.Name a p1) [] [] p2) (fun σZ HZ Q => σZ[0]? = some (some (.ref f)) ∧ HZ = H ∧ tM C E' (Rep C.K) fb σ HZ Q) := by
      intro W pn xe E' p1 p2 tk hW
      refine (pe_actG (k := k + 1) (i := 0) (DV := DV) I L hf hfn hfr (fun sZ HZ ok dv => hbind sZ HZ _ _ _ _ _ _ ok dv) tk hW hr' (fun A outer s2 H2 hg2 hr2 => ?_) rfl hva hd hcd).impD fun σZ HZ Q' ⟨h1, h2, h3⟩ => ⟨h1, by rw [h2]; exact hco, by rw [h2]; exact hdv, h3⟩
      refine hbody A outer s2 H2 E' f c' ⟨t.K, t.mg, t.nd, hr2.units, ?_, fun _ => rfl, fun _ => hr2⟩ ?_
      · show A.guards = some []
        rw [hg2]; exact t.gd
      · exact passes_call (takes_of rfl rfl rfl rfl) fun _ _ _ _ h => h
    have K2 : ∀ Q' : Hp → Prop, (∀ H', Q (.str "told") H' → Q' H') → tM C (wordE X.K X.mg FEa ask ws Q) (Rep C.K) fb σ H (fun _ H' => Q' H') := by
      intro Q' hQ'
      refine ⟨F, env, gs, S, ?_⟩
      unfold eWord at h
      cases q : fb env gs with
      | stuck => rw [q] at h; exact h
      | ok d g1 =>
        rw [q] at h
        exact fun F' H' v S' gr r => hQ' _ (h F' H' _ S' gr (.str _))
      | err c g1 =>
        rw [q] at h
        have h : Run C E (Rep C.K) F H σ env (match (ask.zip ws).lookup c with
          | some r => .ok (.str r) g1
          | none => .stuck) Q := h
        cases ql : (ask.zip ws).lookup c with
        | none => rw [ql] at h; exact (show False from h).elim
        | some r =>
          rw [ql] at h
          intro F' H' S' gr A hA
          have hmem : c ∈ ask := (List.of_mem_zip (PySem.mem_of_lookup ql)).1
          obtain ⟨Dc, R⟩ := hT c hmem
          have : A = Dc := by
            have z := R.gm
            rw [← t.mg, hA] at z
            cases z; rfl
          subst this
          refine ⟨c, A, r, rfl, rfl, R, ql, fun H2 sb => ?_⟩
          have l : Laid F' H' F' H2 := Laid.mk sb (Sub.refl _) (S'.sub.trans sb) (fun _ a n => absurd a n) (fun _ _ a e => by rw [a] at e; cases e)
          exact h F' H2 _ (S'.laid l) (gr.trans l.grow) (.str _)
    obtain ⟨tt, ht, hq⟩ := wd.gv cdv s H f Q (fun E' H' Q' => tM C E' (Rep C.K) fb σ H' Q') (fun HZ => HZ = H) K1 rfl K2
    exact ⟨tt, ht.nox, hq⟩
  refine wpAny_call (codeAny_mono rc fun r s2 hq => ?_)
  match r, hq with
  | .error e, hq => exact (show False from hq).elim
  | .ok (.ret u), hq => exact I.after hq
end
end DL

set_option Elab.async false
set_option linter.all false
set_option maxRecDepth 100000
set_option maxHeartbeats 2000000
namespace DL
open PySem PySem.Spec PyProof.Rows L2

/-- the code object of the def that stands in X, its table -/
structure CodeAt (X : Cx) (C : Cz) (c P : Addr) : Prop where
  tb : LamX.TabB X.base X.mg c P
  code : X.env.code = .ref c
  mem : (P, X.env.qual ++ "<lambda>") ∈ C.T
  uniq : ∀ p ∈ C.T, p.1 = P → p.2 = X.env.qual ++ "<lambda>"
section
variable {X : Cx} {C : Cz} {E : XK} {k : Nat} {body : Expr} {fb : EM D} {params : Arguments} {scope : Scope} {nm : List Str} {ask ws : List Str} {FEa : Addr} {x a fe e fn gn : Str} {st : Stmt} {g c P : Addr} {p lpos pos : Pos}
theorem fe_word0 (t : Ties X C (k + 3)) (wd : WordDef X x a fe e fn gn st g FEa ask ws) (hva : Vis (defScope st) a) (hT : Telled X.K X.mg FEa ask ask) (hk : PySem.W.keepIn X.K (.ref g) = true) (hg : Gl X x) (ca : CodeAt X C c P) (L : LamN X.env.scope scope X.N [])
    (hdef : defaultsOf params X.env = ([], []))
    (hbind : ∀ (q : Str) (cl : List (Str × Addr)) (doc pm cv ctv : Value), bindArgs (PySem.W.kdv_fn "<lambda>" q params (.expr body) scope cl .none doc pm cv ctv) ⟨[], []⟩ = pure [])
    (hbody : ∀ (A : Around) (outer : List Env) (s : Shared) (H : Hp) (E : XK) (f c' : Addr), Ties (LamX.lamCx X A outer s H E scope f c') C (k + 1) → Passes (L2.CX X.prog X.w) (LamX.lamCx X A outer s H E scope f c') E → FE (LamX.lamCx X A outer s H E scope f c') C E body fb)
    (hdb : (x == ("__debug__" : Str)) = false := by decide) (hd : (a == ("__debug__" : Str)) = false := by decide) (hcd : (a == ("__classdict__" : Str)) = false := by decide) :
    FE X C E (.Call (.Name x p) [.Lambda params body scope lpos] [] pos) (eWord ask ws fb) := by
  refine ⟨fun pins s σ H Q I ⟨F, env, gs, S, h⟩ => ?_⟩
  obtain ⟨fd, Fn, hmg, hb⟩ := wd.ex
  refine wpAny_Call_Name_kw (ld_glob I hg hmg ?_ hdb)
  refine PySem.W.callWith_K (h₀ := X.base) I.ok.mod.kin hk ?_ (by rfl) (by rfl)
  show wpAny _ _ (spliced ((false, eval (.Lambda params body scope lpos) X.env) :: backTo pos (starEach [] X.env))) _ _ s
  refine Calls.spliced_cons (PySem.W.kla_eval hdef ?_)
  rw [makeFunction_eq]
  simp only [List.zip_nil_right, List.filterMap_nil, List.isEmpty_nil, if_true, pure_bind]
  refine lam_makeG I ca.tb ca.code ca.mem ca.uniq S.tabs (L.has I.ok) fun f c' doc pm ctv H1 s' I1 eN bk T1 hf hfn hfr hco => ?_
  refine Calls.spliced_nil ⟨I1.kIn, ?_⟩
  exact word_core (DV := fun _ => True) t wd hva hT L (fun sZ HZ q cl doc pm cv ctv _ _ => ⟨[], .of_eq (hbind q cl doc pm cv ctv)⟩) hbody I1 hf hfn hfr hco trivial (S.later eN bk T1) (Run.shift (Grow.ofExtN eN bk) h) hd hcd
theorem fe_word1 {j : Nat} {i : Int} {ip : Pos} (t : Ties X C (k + 3)) (wd : WordDef X x a fe e fn gn st g FEa ask ws) (hva : Vis (defScope st) a) (hT : Telled X.K X.mg FEa ask ask) (hk : PySem.W.keepIn X.K (.ref g) = true) (hg : Gl X x) (ca : CodeAt X C c P) {y : Str} (L : LamN X.env.scope scope X.N [y])
    (hdf : params.defaults = [.Constant (.int i) j ip]) (hk0 : params.kw_defaults = [])
    (hbind : ∀ (q : Str) (cl : List (Str × Addr)) (dV doc pm cv ctv : Value), ∃ kk : Option (Array Value) → Sem (List (Str × Value)), bindArgs (PySem.W.kdv_fn "<lambda>" q params (.expr body) scope cl dV doc pm cv ctv) ⟨[], []⟩ = seqItems? dV >>= kk ∧ ∀ v : Value, kk (some #[v]) = pure [(y, v)])
    (hbody : ∀ (A : Around) (outer : List Env) (s : Shared) (H : Hp) (E : XK) (f c' : Addr), Ties (LamX.lamCx X A outer s H E scope f c') C (k + 1) → Passes (L2.CX X.prog X.w) (LamX.lamCx X A outer s H E scope f c') E → FE (LamX.lamCx X A outer s H E scope f c') C E body fb)
    (hdb : (x == ("__debug__" : Str)) = false := by decide) (hd : (a == ("__debug__" : Str)) = false := by decide) (hcd : (a == ("__classdict__" : Str)) = false := by decide) :
    FE X C E (.Call (.Name x p) [.Lambda params body scope lpos] [] pos) (eWord ask ws fb) := by
  refine ⟨fun pins s σ H Q I ⟨F, env, gs, S, h⟩ => ?_⟩
  obtain ⟨fd, Fn, hmg, hb⟩ := wd.ex
  refine wpAny_Call_Name_kw (ld_glob I hg hmg ?_ hdb)
  refine PySem.W.callWith_K (h₀ := X.base) I.ok.mod.kin hk ?_ (by rfl) (by rfl)
  show wpAny _ _ (spliced ((false, eval (.Lambda params body scope lpos) X.env) :: backTo pos (starEach [] X.env))) _ _ s
  refine Calls.spliced_cons (PySem.W.kdv_lam (by rw [hdf]; rfl) hk0 ?_)
  rw [hdf]
  refine PySem.W.kdv_all1 (thn ((pe_int (X := X) (i := i) (j := j) (pos := ip)).run pins s σ H (fun v H1 => v = .int i ∧ H1 = H) I ⟨rfl, rfl⟩) fun u s1 ⟨v, H1, I1, r1, q1⟩ => ?_)
  obtain ⟨ev, eH⟩ := q1
  subst ev eH
  obtain ⟨tk, rfl⟩ := r1
  refine PySem.W.kdv_all0 ?_
  rw [makeFunction_eq]
  simp only [List.zip_nil_right, List.filterMap_nil, List.isEmpty_nil, List.isEmpty_cons, Bool.false_eq_true, if_false, if_true, pure_bind]
  refine wpAny_bind (wpAny_newTextTuple ?_)
  have nT : H1 s1.heap.objs.size = none := I1.hok.fresh (Nat.le_refl _)
  have I2 : Inv X pins σ (upd H1 s1.heap.objs.size (.tup [.int i])) { s1 with heap := s1.heap.push { cls := .type "tuple", data := .seq [Value.int i tk].toArray } } :=
    I1.laid (t' := s1.toks) (fun b u e => Heap.get?_push_of_some _ e) (Nat.le_refl _) ⟨by show 1 ≤ sizeLine; decide, [.int i tk], .cons ⟨_, rfl⟩ .nil, ⟨_, Heap.get?_push_size _ rfl, rfl, _, rfl⟩⟩
  have l0 : Laid F H1 F (upd H1 s1.heap.objs.size (.tup [.int i])) := Laid.mk (sub_upd nT) (Sub.refl _) (S.sub.trans (sub_upd nT)) (fun _ a n => absurd a n) (fun _ _ a e => by rw [a] at e; cases e)
  have S2 := S.laid l0
  refine lam_makeG I2 ca.tb ca.code ca.mem ca.uniq S2.tabs (L.has I.ok) fun f c' doc pm ctv H3 s' I3 eN bk T1 hf hfn hfr hco => ?_
  refine Calls.spliced_nil ⟨I3.kIn, ?_⟩
  refine word_core (DV := fun H => H s1.heap.objs.size = some (.tup [.int i])) t wd hva hT L (fun sZ HZ q cl doc pm cv ctv ok dv => ?_) hbody I3 hf hfn hfr hco (eN _ _ upd_same (fun _ z => by cases z)) (S2.later eN bk T1) (Run.shift (Grow.ofExtN eN bk) (Run.shift l0.grow h)) hd hcd
  obtain ⟨z, its, rv, o, ho, hc, n, hdd⟩ := ok _ _ dv
  obtain ⟨w, rfl, rw'⟩ := rv.one
  obtain ⟨kk, b1, b2⟩ := hbind q cl (.ref s1.heap.objs.size) doc pm cv ctv
  exact ⟨[w], BindsTo.of_defaults rfl ho hdd b1 (b2 w)⟩
end
/-! ### defs as values -/
def TabK (X : Cx) (C : Cz) (k : Nat) (tab : List (Str × (List D → PR))) : Prop := ∀ q ∈ tab, ∃ j, j ≤ k ∧ KF X.prog X.w X.K X.mg X.base q.1 j (spP X.K X.mg C.T q.2)
theorem tk_nil {X : Cx} {C : Cz} {k : Nat} : TabK X C k [] := fun _ h => by cases h
theorem tk_cons {X : Cx} {C : Cz} {k j : Nat} {nm : Str} {m : List D → PR} {tab : List (Str × (List D → PR))} (h : KF X.prog X.w X.K X.mg X.base nm j (spP X.K X.mg C.T m)) (hj : j ≤ k) (r : TabK X C k tab) : TabK X C k ((nm, m) :: tab) := fun q hq => by
  rcases List.mem_cons.mp hq with rfl | hq
  · exact ⟨j, hj, h⟩
  · exact r q hq
def eFnV (i : Nat) (tab : List (Str × (List D → PR))) (a : EM (List D)) : EM D := fun env g => match env[i]? with
  | some (.fn nm) => match tab.lookup nm with
    | some m => eFn m a env g
    | none => .stuck
  | _ => .stuck
def PFns (X : Cx) (es : List Expr) (names : List Str) : Prop := ∃ as : List Addr, as.length = names.length ∧ (∀ (n : Nat) (nm : Str) (a : Addr), names[n]? = some nm → as[n]? = some a → X.mg nm = some (.ref a)) ∧ PA X es (fun σ H Q => Q (as.map V.ref) H)
theorem pfn_nil {X : Cx} : PFns X [] [] := ⟨[], rfl, (fun n nm a h _ => by simp at h), pa_nil⟩
theorem pfn_cons {X : Cx} {nm : Str} {j : Nat} {sp : Sp} {es : List Expr} {names : List Str} {p : Pos} (h : KF X.prog X.w X.K X.mg X.base nm j sp) (hg : Gl X nm) (r : PFns X es names) (hd : (nm == ("__debug__" : Str)) = false := by decide)
    (hs : starEach (.Name nm p :: es) X.env = (false, eval (.Name nm p) X.env) :: starEach es X.env := by rfl) : PFns X (.Name nm p :: es) (nm :: names) := by
  obtain ⟨f, fd, ps, _, hm, _⟩ := h
  obtain ⟨as, h1, h2, h3⟩ := r
  refine ⟨f :: as, by simp [h1], fun n nm' a e1 e2 => ?_, (pa_cons (pe_glob (v := .ref f) hg hm rfl hd) h3 hs).impD fun σ H Q h => h⟩
  cases n with
  | zero => cases e1; cases e2; exact hm
  | succ n => exact h2 n nm' a (by simpa using e1) (by simpa using e2)
def forFn (i : Nat) (body : SM) : List Str → List Sl → G → Out (Fl × List Sl)
  | [], env, g => .ok (.next, env) g
  | nm :: ns, env, g => (body (env.set i (.fn nm)) g).bind fun r g => match r with
      | (.next, env2) => forFn i body ns env2 g
      | (.cont, env2) => forFn i body ns env2 g
      | (.brk, env2) => .ok (.next, env2) g
      | (.ret d, env2) => .ok (.ret d, env2) g
      | (.new d, env2) => .ok (.new d, env2) g
def sForFn (i : Nat) (ns : List Str) (body : SM) : SM := fun env g => forFn i body ns env g
theorem SOK.setFn {C : Cz} {F H : Hp} {σ : L2.St} {env : List Sl} {g : G} (S : SOK C F H σ env g) {a : Addr} {nm : Str} (r : C.mg nm = some (.ref a)) (i : Nat) : SOK C F H (σ.set i (some (.ref a))) (env.set i (.fn nm)) g where
  grow := S.grow
  sub := S.sub
  ntb := S.ntb
  tabs := S.tabs
  hand := S.hand
  len := by rw [List.length_set, List.length_set]; exact S.len
  slot := fun j sl e => by
    by_cases h : i = j
    · subst h
      have hl : i < env.length := by
        have := (List.getElem?_eq_some_iff.mp e).1
        rwa [List.length_set] at this
      rw [List.getElem?_set_self hl] at e
      cases e
      exact ⟨some (.ref a), by rw [List.getElem?_set_self (by rw [← S.len]; exact hl)], a, rfl, r⟩
    · rw [List.getElem?_set_ne h] at e
      obtain ⟨x, h1, h2⟩ := S.slot j sl e
      exact ⟨x, by rw [List.getElem?_set_ne h]; exact h1, h2⟩
  apart := fun p q b ds ds' e1 e2 o1 o2 e3 e4 => by
    have hp : i ≠ p := fun z => by
      subst z
      have hl : i < env.length := by
        have := (List.getElem?_eq_some_iff.mp e1).1
        rwa [List.length_set] at this
      rw [List.getElem?_set_self hl] at e1
      cases e1
      cases o1
    have hq : i ≠ q := fun z => by
      subst z
      have hl : i < env.length := by
        have := (List.getElem?_eq_some_iff.mp e2).1
        rwa [List.length_set] at this
      rw [List.getElem?_set_self hl] at e2
      cases e2
      cases o2
    rw [List.getElem?_set_ne hp] at e1 e3
    rw [List.getElem?_set_ne hq] at e2 e4
    exact S.apart p q b ds ds' e1 e2 o1 o2 e3 e4
section
variable {X : Cx} {C : Cz} {E : XK} {k i : Nat} {e : Expr} {es : List Expr} {fs : EM (List D)} {m : SM} {body : List Stmt} {names : List Str} {y : Str} {p pos tp tgp : Pos} {kk : Nat}
theorem fe_callV {tab : List (Str × (List D → PR))} (t : Ties X C (k + 1)) (hx : Passes (L2.CX X.prog X.w) X E) (hT : TabK X C (k + 1) tab) (hN : X.N[i]? = some y) (hv : Vis X.env.scope y) (ha : FA X C E (e :: es) fs) (hd : (y == ("__debug__" : Str)) = false := by decide) (hcd : (y == ("__classdict__" : Str)) = false := by decide)
    (he : starEach (e :: es) X.env = (false, eval e X.env) :: starEach es X.env := by rfl) (hpl : (backTo pos (starEach es X.env)).any (·.1) = false := by rfl) : FE X C E (.Call (.Name y p) (e :: es) [] pos) (eFnV i tab fs) := by
  refine ⟨fun pins s σ H Q I ⟨F, env, g, S, h⟩ => ?_⟩
  unfold eFnV at h
  cases q : env[i]? with
  | none => rw [q] at h; exact (show False from h).elim
  | some sl =>
    rw [q] at h
    cases sl with
    | fn nm =>
      have h : Run C E (Rep C.K) F H σ env (match tab.lookup nm with
        | some m => eFn m fs env g
        | none => .stuck) Q := h
      cases ql : tab.lookup nm with
      | none => rw [ql] at h; exact (show False from h).elim
      | some m =>
        rw [ql] at h
        obtain ⟨x, h1, a, rfl, hm⟩ := S.slot i _ q
        obtain ⟨j, hj, f, fd, ps, Fn, hm2, hk, hb⟩ := hT (nm, m) (PySem.mem_of_lookup ql)
        have e2 : a = f := by
          rw [t.mg, hm2] at hm
          cases hm; rfl
        subst e2
        refine wpAny_Call_Name_kw (thn ((pe_var (pos := p) hN hv hd hcd).run pins s σ H (fun v H1 => v = .ref a ∧ H1 = H) I ⟨.ref a, h1, rfl, rfl⟩) fun u s1 ⟨v, H1, I1, r1, q1⟩ => ?_)
        obtain ⟨rfl, rfl⟩ := q1
        cases r1
        have hcore := fn_core (fs := fs) (m := m) (Q := Q) t ⟨F, env, g, S, h⟩
        refine PySem.W.callWith_K (h₀ := X.base) I.ok.mod.kin hk (thn (ha.run pos pins s1 σ _ _ I1 hcore) fun us s2 ⟨vs, H2, I2, r, q⟩ => ⟨I2.kIn, ?_⟩) he hpl
        exact run_fnG Fn (t.room.mono hj) t.gd hb hx I2 r q
    | un => exact (show False from h).elim
    | dat d => exact (show False from h).elim
    | own ds => exact (show False from h).elim
    | hand => exact (show False from h).elim
    | scr ns => exact (show False from h).elim
    | ownd _ a => exact (show False from h).elim
theorem fs_forFn (t : Ties X C (k + 1)) (hp : PassesOwn (model X.prog X.w) X.A X.env X.xe) (hF : PFns X es names) (hi : X.N[i]? = some y) (hx : Loc X.env.scope y) (hz : names.length ≤ sizeLine) (hb : FSs X C E body m)
    (hf : X.fn y = true ∨ X.env.scope.names.lookup y = some .local := by first | exact .inl rfl | exact .inr rfl | assumption)
    (hs : ∀ x, foldedSetIterable (.Tuple es kk tp) X.env x = pure x := by intro _; rfl) : FS X C E (.For (.Name y tgp) (.Tuple es kk tp) body [] pos) (sForFn i names m) := by
  obtain ⟨as, hl, hmg, hpa⟩ := hF
  refine (ps_for hp t.calm (pi_tup (tg := .Name y tgp) (pe_tup (pos := tp) (x1 := kk) hpa)) (pg_name t.nd hi hx hf) hb hs).impD fun D σ H ⟨F, env, g, S, h⟩ => ?_
  refine ⟨by rw [List.length_map, hl]; exact hz, fun a ha => ?_⟩
  have l0 : Laid F H (upd F a (.tup (as.map V.ref))) (upd H a (.tup (as.map V.ref))) := Laid.one S.sub ha notT_tup
  have S0 := S.laid l0
  have sq0 : SqT X.K (upd F a (.tup (as.map V.ref))) a (as.map V.ref) := .inl (.inl upd_same)
  refine ⟨a, rfl, ⟨_, l0.sub.sqT sq0⟩, ?_⟩
  refine ⟨fun n mm σ H => mm = names.length - n ∧ n ≤ names.length ∧ ∃ F1 env g, SOK C F1 H σ env g ∧ Sub (upd F a (.tup (as.map V.ref))) F1 ∧ RunS C E F1 (forFn i m (names.drop n) env g) D, ⟨names.length, by simp, Nat.zero_le _, _, env, g, S0, Sub.refl _, by rw [List.drop_zero]; exact RunS.shift l0.frz h⟩, ?_⟩
  rintro n mm σ2 H2 ⟨rfl, hn, F2, env2, g2, S2, sb2, h2⟩
  have sq2 : SqT X.K H2 a (as.map V.ref) := (sb2.trans S2.sub).sqT sq0
  by_cases hlt : n < names.length
  · rw [drop_cons hlt] at h2
    unfold forFn at h2
    obtain ⟨f, hf1⟩ : ∃ f, as[n]? = some f := ⟨_, List.getElem?_eq_getElem (by omega)⟩
    have hv : (as.map V.ref)[n]? = some (.ref f) := by rw [List.getElem?_map, hf1]; rfl
    refine .inr ⟨⟨_, _, sq2, hv⟩, fun σ' H' => ∃ F1 env g, SOK C F1 H' σ' env g ∧ Sub (upd F a (.tup (as.map V.ref))) F1 ∧ RunS C E F1 (forFn i m (names.drop (n + 1)) env g) D, fun σ' H' q => ⟨names.length - (n + 1), by omega, rfl, hlt, q⟩, fun x H' yy => ?_⟩
    obtain ⟨e1, e2⟩ := yy
    have := e2 _ sq2
    rw [hv] at this
    cases this
    subst e1
    have hm0 : C.mg names[n] = some (.ref f) := by rw [t.mg]; exact hmg n _ f (List.getElem?_eq_getElem hlt) hf1
    refine ⟨F2, env2.set i (.fn names[n]), g2, S2.setFn hm0 i, ?_⟩
    have h3 : RunS C E F2 ((m (env2.set i (.fn names[n])) g2).bind fun r g => match r with
      | (.next, env2) => forFn i m (names.drop (n + 1)) env2 g
      | (.cont, env2) => forFn i m (names.drop (n + 1)) env2 g
      | (.brk, env2) => .ok (.next, env2) g
      | (.ret d, env2) => .ok (.ret d, env2) g
      | (.new d, env2) => .ok (.new d, env2) g) D := h2
    clear h2
    cases q5 : m (env2.set i (.fn names[n])) g2 with
    | stuck => rw [q5] at h3; exact h3
    | err c g5 => rw [q5] at h3; exact h3
    | ok r g5 =>
      rw [q5] at h3
      obtain ⟨fl, env5⟩ := r
      intro F5 H5 σ5 S5 sb5
      cases fl with
      | next => exact ⟨F5, env5, g5, S5, sb2.trans sb5, RunS.shift sb5 h3⟩
      | cont => exact ⟨F5, env5, g5, S5, sb2.trans sb5, RunS.shift sb5 h3⟩
      | brk => exact h3 F5 H5 σ5 S5 sb5
      | ret d => exact h3 F5 H5 σ5 S5 sb5
      | new d => exact h3 F5 H5 σ5 S5 sb5
  · have e : n = names.length := by omega
    subst e
    rw [List.drop_length] at h2
    exact .inl ⟨⟨_, sq2, by rw [List.length_map, hl]; exact Nat.le_refl _⟩, h2 F2 H2 σ2 S2 (Sub.refl _)⟩
end
end DL

set_option Elab.async false
set_option linter.all false
set_option maxRecDepth 100000
set_option maxHeartbeats 2000000
namespace DL
open PySem PySem.Spec PyProof.Rows L2

/-! ### the script -/
def eScr (i n : Nat) : EM D := fun env g => match env[i]? with
  | some (.scr ns) => .ok (.list ((cut ns none (some (n : Int))).map .int)) g
  | _ => .stuck
theorem cut_map {α β : Type} (f : α → β) (xs : List α) (lo hi : Option Int) : cut (xs.map f) lo hi = (cut xs lo hi).map f := by
  unfold cut
  rw [List.length_map, List.map_take, List.map_drop]
section
variable {X : Cx} {C : Cz} {E : XK} {k i : Nat} {x : Str} {pos : Pos}
theorem fe_scr {n jj : Nat} {np kp p2 : Pos} (t : Ties X C k) (hi : X.N[i]? = some x) (hv : Vis X.env.scope x) (hd : (x == ("__debug__" : Str)) = false := by decide) (hcd : (x == ("__classdict__" : Str)) = false := by decide) :
    FE X C E (.Subscript (.Name x np) (.Slice none (some (.Constant (.int (n : Int)) jj kp)) none p2) pos) (eScr i n) := by
  refine (pe_slice sl_list (pe_var hi hv hd hcd) po_none (po_some pe_int)).impD fun σ H Q ⟨F, env, g, S, h⟩ => ?_
  unfold eScr at h
  cases q : env[i]? with
  | none => rw [q] at h; exact (show False from h).elim
  | some sl =>
    rw [q] at h
    cases sl with
    | scr ns =>
      obtain ⟨y, h1, a, rfl, hs⟩ := S.slot i _ q
      rw [t.K] at hs
      refine ⟨.ref a, h1, (n : Int), rfl, a, ns.map V.int, rfl, S.sub.sqL hs, fun p hp => ?_⟩
      have e : cutV (ns.map V.int) none (some (n : Int)) = (cut ns none (some (n : Int))).map V.int := cut_map V.int ns _ _
      rw [e]
      obtain ⟨l, r⟩ := lay_lst (K := C.K) S.sub hp (Reps.ofInts (cut ns none (some (n : Int))))
      exact Run.val S h _ _ _ l r
    | un => exact (show False from h).elim
    | dat d => exact (show False from h).elim
    | own ds => exact (show False from h).elim
    | hand => exact (show False from h).elim
    | fn a => exact (show False from h).elim
    | ownd _ a => exact (show False from h).elim
end
def spScr (K : PySem.W.Frag) (mg : Str → Option Value) (T : List (Addr × Str)) (m : List Int → PRN) : Sp := fun vs H Q E =>
  ∃ F a ns, vs = [.ref a] ∧ Sub F H ∧ (∀ b o, F b = some o → notT o) ∧ LamX.Tabs T H ∧ SqL K F a (ns.map V.int) ∧ match m ns with
    | .ok es => ∀ F' H' p xs, Post T none F H F' H' → F' p = none → H p = none → H' p = some (.lst xs) → Reps K F' xs es → Q (.ref p) H'
    | .err _ => False
    | .stuck => False
def runScr (N : Nat) (m : SM) (ns : List Int) : PRN := match m (Sl.scr ns :: List.replicate (N - 1) Sl.un) gZ with
  | .ok (.new d, _) _ => .ok d
  | _ => .stuck
section
variable {P : Program} {w : World} {K : PySem.W.Frag} {mg : Str → Option Value} {base : Heap}
theorem start_one {N : List Str} {v : V} (h : 1 ≤ N.length) : L2.start N [v] = some v :: List.replicate (N.length - 1) none := rfl
theorem un_tail {n i : Nat} {sl : Sl} (e : (List.replicate n Sl.un)[i]? = some sl) : sl = .un ∧ i < n := by
  rw [List.getElem?_replicate] at e
  split at e
  · cases e; exact ⟨rfl, by assumption⟩
  · cases e
theorem kf_scr {x qual : Str} {st : Stmt} {f : Addr} {fd : FuncData} {N : List Str} {sn : Str} {k : Nat} {T : List (Addr × Str)} (Fn : Fun K x qual st f fd) (hm : mg x = some (.ref f)) (hb : Binds K fd [sn] []) (Sc : FnScope N [sn] (defScope st)) (hpn : 1 ≤ N.length) (m : SM)
    (hd : ∀ (cdv : Value) (A : Around) (outer : List Env) (s : Shared) (H : Hp) (E : XK) (C : Cz), C.T = T → C.ha = none → Ties (cxOf (L2.CX P w) P w K mg base N qual (defScope st) f cdv A outer s H E) C k → Takes (cxOf (L2.CX P w) P w K mg base N qual (defScope st) f cdv A outer s H E) (fun c d _ H => E c d H) →
      Passes (L2.CX P w) (cxOf (L2.CX P w) P w K mg base N qual (defScope st) f cdv A outer s H E) E → PassesOwn (model P w) (A.deeper (envOfC qual (defScope st) s.heap.objs.size f cdv)) (envOfC qual (defScope st) s.heap.objs.size f cdv) (cxOf (L2.CX P w) P w K mg base N qual (defScope st) f cdv A outer s H E).xe →
      FSs (cxOf (L2.CX P w) P w K mg base N qual (defScope st) f cdv A outer s H E) C E (defBody st) m) :
    KF P w K mg base x (k + 1) (spScr K mg T (runScr N.length m)) := by
  refine ⟨f, fd, [sn], ?_, hm, Fn.kp, hb⟩
  refine FnG.of Fn Sc (fun vs H Q E ⟨F, a, ns, e, _⟩ => by rw [e]; rfl) fun cdv A outer s H vs Q E hg hr hsp => ?_
  obtain ⟨F, a, ns, rfl, sb, nt, tb, sq, h⟩ := hsp
  have tk : Takes (cxOf (L2.CX P w) P w K mg base N qual (defScope st) f cdv A outer s H E) (fun c d _ H => E c d H) := takes_of rfl rfl rfl rfl
  refine ⟨_, hd cdv A outer s H E ⟨K, mg, T, F, H, none, 0⟩ rfl rfl ⟨rfl, rfl, Sc.nd, hr.units, hg, fun _ => rfl, fun _ => hr⟩ tk (passes_call tk fun _ _ _ _ h => h) (passes_of (X := cxOf (L2.CX P w) P w K mg base N qual (defScope st) f cdv A outer s H E) rfl), ?_⟩
  have S0 : SOK ⟨K, mg, T, F, H, none, 0⟩ F H (start N [.ref a]) (Sl.scr ns :: List.replicate (N.length - 1) Sl.un) gZ := by
    rw [start_one hpn]
    refine ⟨Grow.refl _ _ _, sb, nt, tb, (fun a e => by cases e), by simp, fun i sl e => ?_, fun i j b ds ds' e1 _ w1 _ _ _ => ?_⟩
    · cases i with
      | zero => cases e; exact ⟨_, rfl, a, rfl, sq⟩
      | succ i =>
        rw [List.getElem?_cons_succ] at e
        obtain ⟨rfl, hi⟩ := un_tail e
        exact ⟨none, by rw [List.getElem?_cons_succ, List.getElem?_replicate, if_pos hi], trivial⟩
    · cases i with
      | zero => cases e1; cases w1
      | succ i =>
        rw [List.getElem?_cons_succ] at e1
        have := (un_tail e1).1
        subst this
        cases w1
  refine ⟨F, _, gZ, S0, ?_⟩
  unfold runScr at h
  cases q : m (Sl.scr ns :: List.replicate (N.length - 1) Sl.un) gZ with
  | stuck => rw [q] at h; exact h.elim
  | err c g1 => rw [q] at h; exact h.elim
  | ok rr g1 =>
    rw [q] at h
    obtain ⟨fl, env1⟩ := rr
    intro F' H' σ' S' _
    cases fl with
    | new ds => exact fun p xs h1 h2 h3 h4 => h F' H' p xs ⟨S'.grow, S'.sub, S'.ntb, S'.tabs⟩ h1 h2 h3 h4
    | next => exact h.elim
    | ret d => exact h.elim
    | brk => exact h.elim
    | cont => exact h.elim
/-! ### the law's def -/
def handOf : List D → Option G
  | [.list cells, .int i, .int b, .int mx, .int n] => (allInts cells).map fun cs => ⟨cs, i, b, mx, n⟩
  | _ => none
def runLaw (iH N : Nat) (mh : List Int → PRN) (m : SM) (ns : List Int) : Prop := match mh ns with
  | .ok es => match handOf es with
    | some g => match m ((List.replicate N Sl.un).set iH .hand) g with
      | .ok (.ret (.bool true), _) _ => True
      | _ => False
    | none => False
  | _ => False
def spLaw (K : PySem.W.Frag) (T : List (Addr × Str)) (m : List Int → Prop) : Sp := fun vs H Q E =>
  ∃ F a ns, vs = [.ref a] ∧ Sub F H ∧ (∀ b o, F b = some o → notT o) ∧ LamX.Tabs T H ∧ SqL K F a (ns.map V.int) ∧ m ns ∧ ∀ H', Q (.bl true) H'
theorem hand_reps {F : Hp} {xs : List V} {es : List D} {g : G} (r : Reps K F xs es) (h : handOf es = some g) : ∃ c, xs = [.ref c, .int g.i, .int g.big, .int g.mix, .int g.n] ∧ F c = some (.lst (g.cells.map V.int)) := by
  match es, h with
  | [.list cells, .int i, .int b, .int mx, .int n], h =>
    obtain ⟨cs, e1, rfl⟩ := Option.map_eq_some_iff.mp h
    cases r with
    | cons r1 r2 => cases r2 with
      | cons r2 r3 => cases r3 with
        | cons r3 r4 => cases r4 with
          | cons r4 r5 => cases r5 with
            | cons r5 r6 =>
              cases r6; cases r2; cases r3; cases r4; cases r5
              obtain ⟨c, rfl, hc⟩ := ints_list r1 e1
              exact ⟨c, rfl, hc⟩
theorem kf_law {x qual : Str} {st : Stmt} {f : Addr} {fd : FuncData} {N : List Str} {sn hn dn : Str} {k j iH : Nat} {T : List (Addr × Str)} {sts : List Stmt} {p1 p2 p3 p4 p5 : Pos} {mh : List Int → PRN} (Fn : Fun K x qual st f fd) (Sc : FnScope N [sn] (defScope st)) (hst : defBody st = .Assign [.Name hn p1] (.Call (.Name dn p2) [.Name sn p3] [] p4) p5 :: sts)
    (G : KF P w K mg base dn j (spScr K mg T mh)) (hj : j ≤ k + 1) (hdn : (defScope st).names.lookup dn = some .globalImplicit) (h0 : N[0]? = some sn) (hN : N[iH]? = some hn) (hv : Vis (defScope st) sn) (hx : Loc (defScope st) hn) (hi0 : iH ≠ 0) (m : SM)
    (hd : ∀ (cdv : Value) (A : Around) (outer : List Env) (s : Shared) (H : Hp) (E : XK) (C : Cz), C.T = T → Ties (cxOf (L2.CX P w) P w K mg base N qual (defScope st) f cdv A outer s H E) C (k + 1) → Takes (cxOf (L2.CX P w) P w K mg base N qual (defScope st) f cdv A outer s H E) (fun c d _ H => E c d H) →
      Passes (L2.CX P w) (cxOf (L2.CX P w) P w K mg base N qual (defScope st) f cdv A outer s H E) E → PassesOwn (model P w) (A.deeper (envOfC qual (defScope st) s.heap.objs.size f cdv)) (envOfC qual (defScope st) s.heap.objs.size f cdv) (cxOf (L2.CX P w) P w K mg base N qual (defScope st) f cdv A outer s H E).xe →
      FSs (cxOf (L2.CX P w) P w K mg base N qual (defScope st) f cdv A outer s H E) C E sts m)
    (d1 : (dn == ("__debug__" : Str)) = false := by decide) (d2 : (sn == ("__debug__" : Str)) = false := by decide) (d3 : (sn == ("__classdict__" : Str)) = false := by decide)
    (s1 : ∀ env, swapsWith (.Call (.Name dn p2) [.Name sn p3] [] p4) (some (.Name hn p1)) p5.line env = pure false := by intro _; rfl) :
    FnG P w K mg base (k + 2) f fd [sn] (spLaw K T (runLaw iH N.length mh m)) := by
  refine FnG.of Fn Sc (fun vs H Q E ⟨F, a, ns, e, _⟩ => by rw [e]; rfl) fun cdv A outer s H vs Q E hg hr hsp => ?_
  obtain ⟨F, a, ns, rfl, sb, nt, tb, sq, hmn, hq⟩ := hsp
  obtain ⟨fh, fdh, psh, Fnh, hmh, hkh, hbh⟩ := G
  have tk : Takes (cxOf (L2.CX P w) P w K mg base N qual (defScope st) f cdv A outer s H E) (fun c d _ H => E c d H) := takes_of rfl rfl rfl rfl
  have hx1 : Passes (L2.CX P w) (cxOf (L2.CX P w) P w K mg base N qual (defScope st) f cdv A outer s H E) E := passes_call tk fun _ _ _ _ h => h
  have f1 : PS (cxOf (L2.CX P w) P w K mg base N qual (defScope st) f cdv A outer s H E) _ _ := ps_set (i := iH) (pos' := p1) (pos := p5) Sc.nd hN hx (pe_callG (p := p2) (pos := p4) Fnh (hr.mono hj) hg hdn hmh hkh hbh hx1 (pa_cons (pe_var (pos := p3) (i := 0) h0 hv d2 d3) pa_nil) d1) (s1 _) (.inl rfl)
  have f2 : PSs (cxOf (L2.CX P w) P w K mg base N qual (defScope st) f cdv A outer s H E) sts (fun D σ H2 => ∃ C : Cz, C.T = T ∧ C.K = K ∧ C.mg = mg ∧ tS C E m D σ H2) := ⟨fun pins s2 σ H2 D I ⟨C, e1, e2, e3, h⟩ =>
    (hd cdv A outer s H E C e1 ⟨e2, e3, Sc.nd, hr.units, hg, fun _ => rfl, fun _ => hr⟩ tk hx1 (passes_of (X := cxOf (L2.CX P w) P w K mg base N qual (defScope st) f cdv A outer s H E) rfl)).run pins s2 σ H2 D I h⟩
  rw [hst]
  refine ⟨_, pss_cons f1 f2, .ref a, ?_, ?_⟩
  · have hl : 1 ≤ N.length := by
      have := (List.getElem?_eq_some_iff.mp h0).1
      omega
    rw [start_one hl]; rfl
  refine ⟨F, a, ns, rfl, sb, nt, tb, sq, ?_⟩
  unfold runLaw at hmn
  cases q : mh ns with
  | stuck => rw [q] at hmn; exact hmn.elim
  | err c => rw [q] at hmn; exact hmn.elim
  | ok es =>
    rw [q] at hmn
    intro F' H' p xs po hF hp0 hp r
    have hmn : (match handOf es with
      | some g => match m ((List.replicate N.length Sl.un).set iH .hand) g with
        | .ok (.ret (.bool true), _) _ => True
        | _ => False
      | none => False) := hmn
    cases q2 : handOf es with
    | none => rw [q2] at hmn; exact hmn.elim
    | some g =>
      rw [q2] at hmn
      obtain ⟨c, rfl, hc⟩ := hand_reps r q2
      refine ⟨⟨K, mg, T, F', H', some p, c⟩, rfl, rfl, rfl, F', (List.replicate N.length Sl.un).set iH .hand, g, ?_, ?_⟩
      · have hlN : iH < N.length := (List.getElem?_eq_some_iff.mp hN).1
        have hls : (L2.start N [.ref a]).length = N.length := by
          rw [start_one (by omega)]; simp; omega
        refine ⟨Grow.refl _ _ _, po.sub, po.ntb, po.tabs, fun b e => ?_, by rw [List.length_set, List.length_set, List.length_replicate, hls], fun i sl e => ?_, fun i jj b ds ds' e1 _ w1 _ _ _ => ?_⟩
        · cases e
          exact ⟨hF, ⟨hp, hc⟩, fun z => by have z : H' p = none := z; rw [hp] at z; cases z⟩
        · by_cases hi : iH = i
          · subst hi
            rw [List.getElem?_set_self (by rw [List.length_replicate]; exact hlN)] at e
            cases e
            exact ⟨_, List.getElem?_set_self (by rw [hls]; exact hlN), p, rfl, rfl⟩
          · rw [List.getElem?_set_ne hi] at e
            obtain ⟨rfl, hi2⟩ := un_tail e
            exact ⟨_, List.getElem?_eq_getElem (by rw [List.length_set, hls]; exact hi2), trivial⟩
        · by_cases hi : iH = i
          · subst hi
            rw [List.getElem?_set_self (by rw [List.length_replicate]; exact hlN)] at e1
            cases e1
            cases w1
          · rw [List.getElem?_set_ne hi] at e1
            have := (un_tail e1).1
            subst this
            cases w1
      · have hmn : (match m ((List.replicate N.length Sl.un).set iH .hand) g with
          | .ok (.ret (.bool true), _) _ => True
          | _ => False) := hmn
        split at hmn
        · rename_i q3
          rw [q3]
          intro F2 H2 σ2 S2 _ v rv
          cases rv
          exact hq H2
        · exact hmn.elim
end
end DL

set_option Elab.async false
set_option linter.all false
set_option maxRecDepth 100000
set_option maxHeartbeats 2000000
namespace DL
open PySem PySem.Spec PyProof.Rows L2

section
variable {P' : Program} {w : World} {K : PySem.W.Frag} {mg : Str → Option Value} {base : Heap}
theorem FnG.ofC {x qual : Str} {st : Stmt} {f : Addr} {fd : FuncData} {N ps : List Str} {k : Nat} {sp : Sp} (F : Fun K x qual st f fd) (S : FnScope N ps (defScope st)) (len : ∀ vs H Q E, sp vs H Q E → vs.length = ps.length)
    (hbody : ∀ (cdv : Value) (A : Around) (outer : List Env) (s : Shared) (H : Hp) (vs : List V) (Q : VK) (E : XK), fd.code = cdv → (A.deeper (envOfC qual (defScope st) s.heap.objs.size f cdv)).guards = some [] → Room k (A.deeper (envOfC qual (defScope st) s.heap.objs.size f cdv)) → sp vs H Q E →
      ∃ t, PSs (cxOf (L2.CX P' w) P' w K mg base N qual (defScope st) f cdv A outer s H E) (defBody st) t ∧ t { nx := fun _ H' => Q .non H', rt := Q } (start N vs) H) : FnG P' w K mg base (k + 1) f fd ps sp := by
  obtain ⟨oc, od, kV, doc, pm, an, cdv, ct, osl, rfl, lk, hcd⟩ := F.ex
  exact ⟨len, fun A outer s H args us vs Q E hg hr e0 hb r hs => LamX.run_ofS lk hcd S hr e0 hb r (len _ _ _ _ hs) fun hr' => hbody cdv A outer s H vs Q E rfl hg hr' hs⟩
theorem kf_handL {x qual : Str} {st : Stmt} {f : Addr} {fd : FuncData} {N ps : List Str} {k : Nat} {T : List (Addr × Str)} {c P : Addr} (Fn : Fun K x qual st f fd) (hcode : fd.code = .ref c) (TB : LamX.TabB base mg c P) (hmT : (P, qual ++ ".<locals>." ++ "<lambda>") ∈ T) (huT : ∀ p ∈ T, p.1 = P → p.2 = qual ++ ".<locals>." ++ "<lambda>") (hm : mg x = some (.ref f)) (hb : Binds K fd ps []) (Sc : FnScope N ps (defScope st)) (hpn : ps.length ≤ N.length) (m : SM)
    (hd : ∀ (cdv : Value) (A : Around) (outer : List Env) (s : Shared) (H : Hp) (E : XK) (C : Cz), C.T = T → CodeAt (cxOf (L2.CX P' w) P' w K mg base N qual (defScope st) f cdv A outer s H E) C c P → Ties (cxOf (L2.CX P' w) P' w K mg base N qual (defScope st) f cdv A outer s H E) C k → Takes (cxOf (L2.CX P' w) P' w K mg base N qual (defScope st) f cdv A outer s H E) (fun c d _ H => E c d H) →
      Passes (L2.CX P' w) (cxOf (L2.CX P' w) P' w K mg base N qual (defScope st) f cdv A outer s H E) E → PassesOwn (model P' w) (A.deeper (envOfC qual (defScope st) s.heap.objs.size f cdv)) (envOfC qual (defScope st) s.heap.objs.size f cdv) (cxOf (L2.CX P' w) P' w K mg base N qual (defScope st) f cdv A outer s H E).xe →
      FSs (cxOf (L2.CX P' w) P' w K mg base N qual (defScope st) f cdv A outer s H E) C E (defBody st) m) :
    KF P' w K mg base x (k + 1) (spH K mg T (runH ps.length N.length m)) := by
  have hlen : ∀ vs H Q E, spH K mg T (runH ps.length N.length m) vs H Q E → vs.length = ps.length := fun vs H Q E ⟨F, a, c, g, vs', ds, e, _, _, _, _, _, r, h⟩ => by
    rw [e, List.length_cons, r.length]
    unfold runH at h
    by_cases z : ds.length + 1 = ps.length
    · exact z
    · rw [if_neg z] at h; exact h.elim
  refine ⟨f, fd, ps, ?_, hm, Fn.kp, hb⟩
  refine FnG.ofC Fn Sc hlen fun cdv A outer s H vs Q E hcd hg hr hsp => ?_
  obtain ⟨F, a, hc0, g, vs', ds, rfl, sb, nt, tb, fa, hh, r, h⟩ := hsp
  have tk : Takes (cxOf (L2.CX P' w) P' w K mg base N qual (defScope st) f cdv A outer s H E) (fun c d _ H => E c d H) := takes_of rfl rfl rfl rfl
  refine ⟨_, hd cdv A outer s H E ⟨K, mg, T, F, H, some a, hc0⟩ rfl ⟨TB, by rw [hcode] at hcd; exact hcd.symm, hmT, huT⟩ ⟨rfl, rfl, Sc.nd, hr.units, hg, fun _ => rfl, fun _ => hr⟩ tk (passes_call tk fun _ _ _ _ h => h) (passes_of (X := cxOf (L2.CX P' w) P' w K mg base N qual (defScope st) f cdv A outer s H E) rfl), ?_⟩
  unfold runH at h
  by_cases hl : ds.length + 1 = ps.length
  · rw [if_pos hl] at h
    have S0 : SOK ⟨K, mg, T, F, H, some a, hc0⟩ F H (start N (.ref a :: vs')) (Sl.hand :: ds.map Sl.dat ++ List.replicate (N.length - ps.length) Sl.un) g := by
      have e1 : start N (.ref a :: vs') = some (.ref a) :: (vs'.map some ++ List.replicate (N.length - ps.length) none) := by
        unfold L2.start
        rw [List.map_cons, List.cons_append, List.length_cons, r.length, hl]
      rw [e1]
      refine ⟨Grow.refl _ _ _, sb, nt, tb, (fun b e => by cases e; exact ⟨fa, hh, fun z => by have z : H a = none := z; rw [hh.1] at z; cases z⟩), ?_, fun i sl e => ?_, fun i j b ds1 ds2 h1 _ w1 _ _ _ => ?_⟩
      · simp only [List.cons_append, List.length_cons, List.length_append, List.length_map, List.length_replicate, r.length]
      · cases i with
        | zero =>
          rw [List.cons_append, List.getElem?_cons_zero] at e
          cases e
          exact ⟨some (.ref a), rfl, a, rfl, rfl⟩
        | succ i =>
          rw [List.cons_append, List.getElem?_cons_succ] at e
          rw [List.getElem?_cons_succ]
          by_cases h : i < ds.length
          · rw [List.getElem?_append_left (by simpa using h), List.getElem?_map, Option.map_eq_some_iff] at e
            obtain ⟨d, e, rfl⟩ := e
            obtain ⟨v, h1, h2⟩ := r.get e
            exact ⟨some v, by rw [List.getElem?_append_left (by rw [List.length_map, r.length]; exact h), List.getElem?_map, h1]; rfl, v, rfl, h2⟩
          · rw [List.getElem?_append_right (by simpa using h), List.length_map, List.getElem?_replicate] at e
            split at e
            · cases e
              rename_i hl
              exact ⟨none, by rw [List.getElem?_append_right (by rw [List.length_map, r.length]; omega), List.length_map, r.length, List.getElem?_replicate, if_pos hl], trivial⟩
            · cases e
      · cases i with
        | zero => rw [List.cons_append, List.getElem?_cons_zero] at h1; cases h1; cases w1
        | succ i => rw [List.cons_append, List.getElem?_cons_succ] at h1; exact (start_noown h1 w1).elim
    refine ⟨F, _, g, S0, ?_⟩
    cases q : m (Sl.hand :: ds.map Sl.dat ++ List.replicate (N.length - ps.length) Sl.un) g with
    | stuck => rw [q] at h; exact h.elim
    | err c g1 =>
      rw [q] at h
      intro F' H' σ' env' S'
      obtain ⟨z1, z2, _⟩ := S'.hand a rfl
      exact h F' H' ⟨S'.grow, S'.sub, S'.ntb, S'.tabs⟩ z1 z2
    | ok rr g1 =>
      rw [q] at h
      obtain ⟨fl, env1⟩ := rr
      intro F' H' σ' S' _
      obtain ⟨z1, z2, _⟩ := S'.hand a rfl
      cases fl with
      | next => exact h F' H' _ ⟨S'.grow, S'.sub, S'.ntb, S'.tabs⟩ z1 z2 .non
      | ret d => exact fun v rv => h F' H' v ⟨S'.grow, S'.sub, S'.ntb, S'.tabs⟩ z1 z2 rv
      | brk => exact h.elim
      | cont => exact h.elim
      | new ds => exact h.elim
  · rw [if_neg hl] at h; exact h.elim
end
section
variable {P : Program} {w : World} {K : PySem.W.Frag} {mg : Str → Option Value} {base : Heap}
theorem kf_lawL {x qual : Str} {st : Stmt} {f : Addr} {fd : FuncData} {N : List Str} {sn hn dn : Str} {k j iH : Nat} {T : List (Addr × Str)} {sts : List Stmt} {p1 p2 p3 p4 p5 : Pos} {mh : List Int → PRN} {c0 P0 : Addr} (Fn : Fun K x qual st f fd) (hcode : fd.code = .ref c0) (TB : LamX.TabB base mg c0 P0) (hmT : (P0, qual ++ ".<locals>." ++ "<lambda>") ∈ T) (huT : ∀ p ∈ T, p.1 = P0 → p.2 = qual ++ ".<locals>." ++ "<lambda>") (Sc : FnScope N [sn] (defScope st)) (hst : defBody st = .Assign [.Name hn p1] (.Call (.Name dn p2) [.Name sn p3] [] p4) p5 :: sts)
    (G : KF P w K mg base dn j (spScr K mg T mh)) (hj : j ≤ k + 1) (hdn : (defScope st).names.lookup dn = some .globalImplicit) (h0 : N[0]? = some sn) (hN : N[iH]? = some hn) (hv : Vis (defScope st) sn) (hx : Loc (defScope st) hn) (hi0 : iH ≠ 0) (m : SM)
    (hd : ∀ (cdv : Value) (A : Around) (outer : List Env) (s : Shared) (H : Hp) (E : XK) (C : Cz), C.T = T → CodeAt (cxOf (L2.CX P w) P w K mg base N qual (defScope st) f cdv A outer s H E) C c0 P0 → Ties (cxOf (L2.CX P w) P w K mg base N qual (defScope st) f cdv A outer s H E) C (k + 1) → Takes (cxOf (L2.CX P w) P w K mg base N qual (defScope st) f cdv A outer s H E) (fun c d _ H => E c d H) →
      Passes (L2.CX P w) (cxOf (L2.CX P w) P w K mg base N qual (defScope st) f cdv A outer s H E) E → PassesOwn (model P w) (A.deeper (envOfC qual (defScope st) s.heap.objs.size f cdv)) (envOfC qual (defScope st) s.heap.objs.size f cdv) (cxOf (L2.CX P w) P w K mg base N qual (defScope st) f cdv A outer s H E).xe →
      FSs (cxOf (L2.CX P w) P w K mg base N qual (defScope st) f cdv A outer s H E) C E sts m)
    (d1 : (dn == ("__debug__" : Str)) = false := by decide) (d2 : (sn == ("__debug__" : Str)) = false := by decide) (d3 : (sn == ("__classdict__" : Str)) = false := by decide)
    (s1 : ∀ env, swapsWith (.Call (.Name dn p2) [.Name sn p3] [] p4) (some (.Name hn p1)) p5.line env = pure false := by intro _; rfl) :
    FnG P w K mg base (k + 2) f fd [sn] (spLaw K T (runLaw iH N.length mh m)) := by
  refine FnG.ofC Fn Sc (fun vs H Q E ⟨F, a, ns, e, _⟩ => by rw [e]; rfl) fun cdv A outer s H vs Q E hcd hg hr hsp => ?_
  obtain ⟨F, a, ns, rfl, sb, nt, tb, sq, hmn, hq⟩ := hsp
  obtain ⟨fh, fdh, psh, Fnh, hmh, hkh, hbh⟩ := G
  have tk : Takes (cxOf (L2.CX P w) P w K mg base N qual (defScope st) f cdv A outer s H E) (fun c d _ H => E c d H) := takes_of rfl rfl rfl rfl
  have hx1 : Passes (L2.CX P w) (cxOf (L2.CX P w) P w K mg base N qual (defScope st) f cdv A outer s H E) E := passes_call tk fun _ _ _ _ h => h
  have f1 : PS (cxOf (L2.CX P w) P w K mg base N qual (defScope st) f cdv A outer s H E) _ _ := ps_set (i := iH) (pos' := p1) (pos := p5) Sc.nd hN hx (pe_callG (p := p2) (pos := p4) Fnh (hr.mono hj) hg hdn hmh hkh hbh hx1 (pa_cons (pe_var (pos := p3) (i := 0) h0 hv d2 d3) pa_nil) d1) (s1 _) (.inl rfl)
  have f2 : PSs (cxOf (L2.CX P w) P w K mg base N qual (defScope st) f cdv A outer s H E) sts (fun D σ H2 => ∃ C : Cz, C.T = T ∧ C.K = K ∧ C.mg = mg ∧ tS C E m D σ H2) := ⟨fun pins s2 σ H2 D I ⟨C, e1, e2, e3, h⟩ =>
    (hd cdv A outer s H E C e1 ⟨TB, by rw [hcode] at hcd; exact hcd.symm, by rw [e1]; exact hmT, by rw [e1]; exact huT⟩ ⟨e2, e3, Sc.nd, hr.units, hg, fun _ => rfl, fun _ => hr⟩ tk hx1 (passes_of (X := cxOf (L2.CX P w) P w K mg base N qual (defScope st) f cdv A outer s H E) rfl)).run pins s2 σ H2 D I h⟩
  rw [hst]
  refine ⟨_, pss_cons f1 f2, .ref a, ?_, ?_⟩
  · have hl : 1 ≤ N.length := by
      have := (List.getElem?_eq_some_iff.mp h0).1
      omega
    rw [start_one hl]; rfl
  refine ⟨F, a, ns, rfl, sb, nt, tb, sq, ?_⟩
  unfold runLaw at hmn
  cases q : mh ns with
  | stuck => rw [q] at hmn; exact hmn.elim
  | err c => rw [q] at hmn; exact hmn.elim
  | ok es =>
    rw [q] at hmn
    intro F' H' p xs po hF hp0 hp r
    have hmn : (match handOf es with
      | some g => match m ((List.replicate N.length Sl.un).set iH .hand) g with
        | .ok (.ret (.bool true), _) _ => True
        | _ => False
      | none => False) := hmn
    cases q2 : handOf es with
    | none => rw [q2] at hmn; exact hmn.elim
    | some g =>
      rw [q2] at hmn
      obtain ⟨c, rfl, hc⟩ := hand_reps r q2
      refine ⟨⟨K, mg, T, F', H', some p, c⟩, rfl, rfl, rfl, F', (List.replicate N.length Sl.un).set iH .hand, g, ?_, ?_⟩
      · have hlN : iH < N.length := (List.getElem?_eq_some_iff.mp hN).1
        have hls : (L2.start N [.ref a]).length = N.length := by
          rw [start_one (by omega)]; simp; omega
        refine ⟨Grow.refl _ _ _, po.sub, po.ntb, po.tabs, fun b e => ?_, by rw [List.length_set, List.length_set, List.length_replicate, hls], fun i sl e => ?_, fun i jj b ds ds' e1 _ w1 _ _ _ => ?_⟩
        · cases e
          exact ⟨hF, ⟨hp, hc⟩, fun z => by have z : H' p = none := z; rw [hp] at z; cases z⟩
        · by_cases hi : iH = i
          · subst hi
            rw [List.getElem?_set_self (by rw [List.length_replicate]; exact hlN)] at e
            cases e
            exact ⟨_, List.getElem?_set_self (by rw [hls]; exact hlN), p, rfl, rfl⟩
          · rw [List.getElem?_set_ne hi] at e
            obtain ⟨rfl, hi2⟩ := un_tail e
            exact ⟨_, List.getElem?_eq_getElem (by rw [List.length_set, hls]; exact hi2), trivial⟩
        · by_cases hi : iH = i
          · subst hi
            rw [List.getElem?_set_self (by rw [List.length_replicate]; exact hlN)] at e1
            cases e1
            cases w1
          · rw [List.getElem?_set_ne hi] at e1
            have := (un_tail e1).1
            subst this
            cases w1
      · have hmn : (match m ((List.replicate N.length Sl.un).set iH .hand) g with
          | .ok (.ret (.bool true), _) _ => True
          | _ => False) := hmn
        split at hmn
        · rename_i q3
          rw [q3]
          intro F2 H2 σ2 S2 _ v rv
          cases rv
          exact hq H2
        · exact hmn.elim
end
/-- a def with lambdas within: its code object, its table -/
def DefLam (K : PySem.W.Frag) (mg : Str → Option Value) (base : Heap) (T : List (Addr × Str)) (x nm : Str) (st : Stmt) (ps : List Str) : Prop := ∃ (f : Addr) (fd : FuncData) (c P : Addr), Fun K nm nm st f fd ∧ mg x = some (.ref f) ∧ Binds K fd ps [] ∧ fd.code = .ref c ∧ LamX.TabB base mg c P ∧ (P, nm ++ ".<locals>." ++ "<lambda>") ∈ T ∧ ∀ p ∈ T, p.1 = P → p.2 = nm ++ ".<locals>." ++ "<lambda>"
end DL

set_option Elab.async false
set_option linter.all false
set_option maxRecDepth 100000
set_option maxHeartbeats 2000000
namespace DL
open PySem PySem.Spec PyProof.Rows L2
/-- law_call with tables: cs, the code objects and their tables -/
theorem law_callG {P : Program} {w : World} {K : PySem.W.Frag} {mg mb : Str → Option Value} {k : Nat} {fa a : Addr} {cs : List (Addr × Addr)} {fd : FuncData} {x : Str} {sp : Sp} {s₁ : Shared} {vs : List Value} {ns : List Int}
    (KX : K.In s₁.heap) (hns : s₁.heap.Ns mainGlobals mg) (hb : s₁.heap.Ns builtinsNs mb) (hbb : ∀ x : Str, x ≠ "__name__" → mb x = bootBuiltins x) (hlim : s₁.heap.NoLimit) (hg : s₁.gens = #[])
    (hT : ∀ p ∈ cs, s₁.heap.get? p.2 = some { cls := .none, data := .fields #[] }) (nT : ∀ p ∈ cs, K.lookup p.2 = none) (C : ∀ p ∈ cs, PySem.W.CodeHd s₁.heap p.1 p.2)
    (hbm : ∃ (bm : Addr) (ob : Obj), mg "__builtins__" = some (.ref bm) ∧ bm ≠ builtinsNs ∧ s₁.heap.get? bm = some ob ∧ ob.cls = .type "module" ∧ ob.dict = some builtinsNs ∧ ob.data = .plain)
    (ha : s₁.heap.get? a = some { cls := .type "list", data := .seq vs.toArray }) (hi : IntsAre vs ns) (hl : ns.length ≤ sizeLine) (hr : Room k callerA)
    (F : ∀ base : Heap, K.In base → base.Ns mainGlobals mg → (∀ p ∈ cs, LamX.TabB base mg p.1 p.2) → FnG P w K mg base k fa fd [x] sp) (hbind : ∀ (s : Shared) (u : Value), BindsTo s fd ⟨[u], []⟩ [(x, u)])
    (hsp : ∀ H : Hp, (∀ p ∈ cs, H p.2 = some (.tbl #[])) → SqL K H a (ns.map V.int) → sp [.ref a] H (fun v _ => v = .bl true) fun _ _ _ => False)
    :
    codeAny (model P w) callerA (.call (.ref fa) ⟨[.ref a], []⟩) (fun r s' => r = .ok (.ret (.bool true)) ∧ OldK s₁.heap s'.heap ∧ s'.os = s₁.os ∧ AllBare s'.gens) s₁ := by
  have rv := vals_ints hi
  have lenV := hi.length
  have isT : ∀ b : Addr, b ∈ cs.map (·.2) → s₁.heap.get? b = some { cls := .none, data := .fields #[] } := fun b hb => by
    obtain ⟨p, hp, e⟩ := List.mem_map.mp hb
    rw [← e]
    exact hT p hp
  have aT : a ∉ cs.map (·.2) := fun z => by
    have q := isT a z
    rw [ha] at q
    have z' : Data.seq vs.toArray _ = Data.fields #[] := congrArg Obj.data (Option.some.inj q)
    cases z'
  have memT : ∀ p ∈ cs, p.2 ∈ cs.map (·.2) := fun p hp => List.mem_map.mpr ⟨p, hp, rfl⟩
  -- from an abstract heap in which nothing but the script and the tables may be tracked
  have core : ∀ H : Hp, (∀ p ∈ cs, H p.2 = some (.tbl #[])) → (∀ b, H b = none ∨ b ∈ cs.map (·.2) ∨ ∃ o xs, H b = some (.frz o (.lst xs))) → SqL K H a (ns.map V.int) → HOk P w H s₁.heap → (∀ b, H b ≠ none → b = a ∨ b ∈ cs.map (·.2)) → (H a ≠ none → K.lookup a = none) →
      codeAny (model P w) callerA (.call (.ref fa) ⟨[.ref a], []⟩) (fun r s' => r = .ok (.ret (.bool true)) ∧ OldK s₁.heap s'.heap ∧ s'.os = s₁.os ∧ AllBare s'.gens) s₁ := by
    intro H hH hO hS hok hA hK
    have base_of : ∀ {b : Addr} {o : Obj}, s₁.heap.get? b = some o → H b = none → (hidT s₁.heap H).get? b = some o := fun e n => hidT_get e n
    have noD : ∀ {b : Addr} {o : Obj}, s₁.heap.get? b = some o → (∀ vs n, o.data ≠ .seq vs n) → o.data ≠ .fields #[] → H b = none := fun {b o} e h1 h2 => by
      cases q : H b with
      | none => rfl
      | some u =>
        rcases hA b (by rw [q]; simp) with e' | e'
        · rw [e', ha] at e
          cases e
          exact (h1 _ _ rfl).elim
        · rw [isT b e'] at e
          cases e
          exact (h2 rfl).elim
    have noA : ∀ {b : Addr} {o : Obj} {es : Array DictEntry} {ep : Nat}, s₁.heap.get? b = some o → o.data = .dict es ep → H b = none := fun {b o es ep} e d => by
      refine noD e (fun vs n z => ?_) fun z => ?_
      · rw [d] at z
        cases z
      · rw [d] at z
        cases z
    have nsK : ∀ {b : Addr} {m : Str → Option Value}, s₁.heap.Ns b m → (hidT s₁.heap H).Ns b m := fun {b m} ⟨o, es, ep, e, d, r⟩ => ⟨o, es, ep, base_of e (noA e d), d, r⟩
    have hKb : K.In (hidT s₁.heap H) := fun b o e => base_of (KX b o e) (by
      cases q : H b with
      | none => rfl
      | some u =>
        rcases hA b (by rw [q]; simp) with e' | e'
        · rw [e'] at e q
          rw [hK (by rw [q]; simp)] at e
          cases e
        · obtain ⟨p, hp, ep⟩ := List.mem_map.mp e'
          rw [← ep, nT p hp] at e
          cases e)
    have hM : L2.Mod K mg (hidT s₁.heap H) := ⟨hKb, nsK hns, ⟨mb, nsK hb, hbb⟩, let ⟨mc, h1, h2⟩ := hlim; ⟨mc, nsK h1, h2⟩⟩
    have TB : ∀ p ∈ cs, LamX.TabB (hidT s₁.heap H) mg p.1 p.2 := fun p hp => by
      have hTp := hT p hp
      refine ⟨?_, ?_, fun z => ?_⟩
      · obtain ⟨o, us, file, tf, flags, tg, inF, text, tt, e1, r1, r2, r3, r4, r5, r6, r7, r8, hne⟩ := C p hp
        refine ⟨o, us, file, tf, flags, tg, inF, text, tt, base_of e1 (noD e1 (fun vs n z => ?_) fun z => ?_), r1, r2, r3, r4, r5, r6, r7, r8, hne⟩
        · rw [r2] at z
          cases z
        · rw [r2] at z
          cases z
          simp at r3
      · obtain ⟨bm, ob, b1, b2, b3, b4, b5, b6⟩ := hbm
        have nG : bm ≠ mainGlobals := fun q => by
          obtain ⟨o, es, ep, e, hd, _⟩ := hns
          rw [q, e] at b3
          cases b3
          rw [hd] at b6
          cases b6
        have nP : bm ≠ p.2 := fun q => by
          rw [q, hTp] at b3
          cases b3
          cases b6
        refine ⟨bm, ob, b1, b2, nG, nP, base_of b3 (noD b3 (fun vs n z => ?_) fun z => ?_), b4, b5, b6⟩
        · rw [b6] at z
          cases z
        · rw [b6] at z
          cases z
      · obtain ⟨o, es, ep, e, hd, _⟩ := hns
        rw [z, hTp] at e
        cases e
        cases hd
    have e0 : Env0 P w K mg (hidT s₁.heap H) callerA [] s₁ H := ⟨rfl, hM, fun b o e => of_hidT e, Nat.le_of_eq (hidT_size _ _), trivial, fun b hb => absurd (show b ∈ ([] : List Addr) from hb) (by simp), hok, .of_eq hg⟩
    refine codeAny_mono ((F _ hKb (nsK hns) TB).run callerA [] s₁ H ⟨[.ref a], []⟩ [.ref a] [.ref a] _ (fun _ _ _ => False) rfl hr e0 (hbind s₁ (.ref a)) (.cons rfl .nil) (hsp H hH hS)) fun r s' h => ?_
    cases r with
    | error e => obtain ⟨_, _, _, _, _, _, _, _, _, _, _, _, z⟩ := h; exact z.elim
    | ok fl =>
      cases fl with
      | next => exact False.elim h
      | brk => exact False.elim h
      | cont => exact False.elim h
      | ret u =>
        obtain ⟨v, H', os, bare, un, hok', r', q⟩ := h
        have q' : v = .bl true := q
        subst q'
        obtain rfl : u = Value.bool true := r'
        have key : ∀ b o, b ∉ cs.map (·.2) → s₁.heap.get? b = some o → s'.heap.get? b = some o := fun b o nb e => by
          cases q : H b with
          | none => exact un.keep b o e q (by intro z; exact absurd (show b ∈ ([] : List Addr) from z) (by simp)) (by simp)
          | some u =>
            rcases hO b with z | z | ⟨ob, xs, z⟩
            · rw [q] at z; cases z
            · exact absurd z nb
            · have z2 := un.frzs b ob _ z
              obtain ⟨e1, _⟩ := hok b _ z
              obtain ⟨e2, _⟩ := hok' b _ z2
              rw [e] at e1; cases e1
              exact e2
        have grown : ∀ p ∈ cs, ∃ more : Array Value, s'.heap.get? p.2 = some { cls := .none, data := .fields more } := fun p hp => by
          obtain ⟨more, z⟩ := un.tbls p.2 #[] (hH p hp)
          exact ⟨_, hok' p.2 _ z⟩
        refine ⟨rfl, ⟨fun b o e => ?_, fun b o e => ?_⟩, os, bare⟩
        · by_cases hb : b ∈ cs.map (·.2)
          · obtain ⟨p, hp, ep⟩ := List.mem_map.mp hb
            obtain ⟨more, hm⟩ := grown p hp
            rw [← ep] at e ⊢
            rw [hT p hp] at e
            cases e
            exact .inr (.inl ⟨((C p hp).tab (hT p hp)).isCodeTable, rfl, #[], more, rfl, by rw [Array.empty_append]; exact hm⟩)
          · exact .inl (key b o hb e)
        · by_cases hb : b ∈ cs.map (·.2)
          · obtain ⟨p, hp, ep⟩ := List.mem_map.mp hb
            obtain ⟨more, hm⟩ := grown p hp
            rw [← ep]
            exact ⟨_, hm⟩
          · exact ⟨o, key b o hb e⟩
  cases hk : K.lookup a with
  | some o =>
    have e := KX a o hk
    rw [ha] at e
    cases e
    refine core (fun b => if b ∈ cs.map (·.2) then some (.tbl #[]) else none) (fun p hp => if_pos (memT p hp)) (fun b => ?_) (.inr ⟨_, vs.toArray, _, hk, rfl, rfl, rfl, by rw [List.size_toArray, lenV]; exact hl, by simpa using rv⟩) (fun b u z => ?_) (fun b z => ?_) fun z => absurd (show (if a ∈ cs.map (·.2) then some (HO.tbl #[]) else none) = none from if_neg aT) z
    · by_cases hb : b ∈ cs.map (·.2)
      · exact .inr (.inl hb)
      · exact .inl (if_neg hb)
    · by_cases hb : b ∈ cs.map (·.2)
      · have z' := (if_pos hb).symm.trans z
        cases z'
        exact isT b hb
      · have z' := (if_neg hb).symm.trans z
        cases z'
    · by_cases hb : b ∈ cs.map (·.2)
      · exact .inr hb
      · exact absurd (if_neg hb) z
  | none =>
    refine core (fun b => if b = a then some (.frz { cls := .type "list", data := .seq vs.toArray } (.lst (ns.map V.int))) else if b ∈ cs.map (·.2) then some (.tbl #[]) else none) (fun p hp => (if_neg (show ¬ p.2 = a from fun z => aT (by rw [← z]; exact memT p hp))).trans (if_pos (memT p hp))) (fun b => ?_)
      (.inl (.inr ⟨{ cls := .type "list", data := .seq vs.toArray }, if_pos rfl⟩)) (fun b u z => ?_) (fun b z => ?_) fun _ => hk
    · by_cases hb : b = a
      · exact .inr (.inr ⟨_, _, if_pos hb⟩)
      · by_cases hb2 : b ∈ cs.map (·.2)
        · exact .inr (.inl hb2)
        · exact .inl ((if_neg hb).trans (if_neg hb2))
    · by_cases hb : b = a
      · have z' := (if_pos hb).symm.trans z
        cases z'
        rw [hb]
        exact ⟨ha, by rw [List.length_map]; exact hl, vs, _, rv, ha⟩
      · have z1 := (if_neg hb).symm.trans z
        by_cases hb2 : b ∈ cs.map (·.2)
        · have z' := (if_pos hb2).symm.trans z1
          cases z'
          exact isT b hb2
        · have z' := (if_neg hb2).symm.trans z1
          cases z'
    · by_cases hb : b = a
      · exact .inl hb
      · by_cases hb2 : b ∈ cs.map (·.2)
        · exact .inr hb2
        · exact absurd ((if_neg hb).trans (if_neg hb2)) z
theorem law_sp {K : PySem.W.Frag} {T : List (Addr × Str)} {m : List Int → Prop} {H : Hp} {a : Addr} {ns : List Int} {E : XK} (hT : ∀ p ∈ T, H p.1 = some (.tbl #[])) (hS : SqL K H a (ns.map V.int)) (hm : m ns) : spLaw K T m [.ref a] H (fun v _ => v = .bl true) E := by
  refine ⟨fun b => match H b with
    | some (.tbl _) => none
    | o => o, a, ns, rfl, fun b o e => ?_, fun b o e => ?_, fun p hp => LamX.TabS.nil (hT p hp), ?_, hm, fun _ => rfl⟩
  · have e : (match H b with
      | some (.tbl _) => none
      | o => o) = some o := e
    split at e
    · cases e
    · exact e
  · have e : (match H b with
      | some (.tbl _) => none
      | o => o) = some o := e
    split at e
    · cases e
    · rename_i hne
      intro ps z
      subst z
      exact hne ps e
  · rcases hS with (h | ⟨o, h⟩) | h
    · exact .inl (.inl (by simp only [h]))
    · exact .inl (.inr ⟨o, by simp only [h]⟩)
    · exact .inr h
/-- what the head leaves to be shown -/
def LawAtG (l : PySem.W.OpenLaw) (w : World) (K : PySem.W.Frag) (k n : Nat) (x : Str) (mg : Str → Option Value) (fa : Addr) (h : Heap) : Prop :=
  ∃ (fd : FuncData) (cs : List (Addr × Addr)) (sp : Sp), (∀ p ∈ cs, h.get? p.2 = some { cls := .none, data := .fields #[] }) ∧ (∀ p ∈ cs, K.lookup p.2 = none) ∧ (∀ p ∈ cs, PySem.W.CodeHd h p.1 p.2) ∧ (∀ (s : Shared) (u : Value), BindsTo s fd ⟨[u], []⟩ [(x, u)]) ∧
    (∀ (H : Hp) (a : Addr) (ns : List Int), ns.length ≤ n → (∀ z ∈ ns, Builtin.Int.intBits z ≤ 1048576) → (∀ p ∈ cs, H p.2 = some (.tbl #[])) → SqL K H a (ns.map V.int) → sp [.ref a] H (fun v _ => v = .bl true) fun _ _ _ => False) ∧
    ∀ base : Heap, K.In base → base.Ns mainGlobals mg → (∀ p ∈ cs, LamX.TabB base mg p.1 p.2) → FnG l.prog w K mg base k fa fd [x] sp
theorem walk_ofG {l : PySem.W.OpenLaw} {n k : Nat} {q : Program} {loose : List Str} {XP : (Str → Option Value) → Heap → Prop} {YP : World → Heap → Prop} {d : DefRec} {x : Str}
    (hn : l.most = some n) (hn2 : n ≤ sizeLine) (hdf : d.params.defaults = []) (hr : Room k callerA)
    (F : ∀ (w : World) (mg : Str → Option Value) (fa : Addr) (h : Heap), YP w h → h.Ns mainGlobals mg → mg d.name = some (.ref fa) → ∃ K : PySem.W.Frag, K.In h ∧ LawAtG l w K k n x mg fa h) :
    PySem.W.WalkO q loose XP YP l.row.toRowW d [] (fun f vs => PySem.call f vs) := by
  refine Att.attach_callB hn hdf fun w s₀ s₁ mg mb fa o pm cd doc a vs ns G Y ho hd hcd hmg hobj hints hlen hbits hg => ?_
  obtain ⟨K, KX, fd, cs, sp, hT, nT, C, hb, hsp, hF⟩ := F w mg fa _ Y G.T.g hmg
  exact law_callG KX G.T.g G.T.b G.T.builtins G.T.nolimit hg hT nT C G.T.bmain hobj hints (Nat.le_trans hlen hn2) hr hF hb (fun H hH hS => hsp H a ns hlen hbits hH hS)

/-! ### facts off the head's hook -/
section
variable {K : PySem.W.Frag} {h : Heap} {mg : Str → Option Value}
theorem fun_of {x qual : Str} {st : Stmt} {f : Addr} {fd : FuncData} (F : FunD K x qual (defArgs st) (defBody st) (defScope st) [] [] f fd) : Fun K x qual st f fd := by
  obtain ⟨oc, od, dV, kV, doc, pm, an, cdv, ct, osl, e, lk, hcd, hD, _⟩ := F.ex
  rcases hD with ⟨_, rfl⟩ | ⟨z, _⟩
  · exact ⟨⟨oc, od, kV, doc, pm, an, cdv, ct, osl, e, lk, hcd⟩, F.kp⟩
  · exact absurd rfl z
def mkD (x nm : Str) (st : Stmt) : He.DefD := ⟨(x, none), nm, nm, defArgs st, defBody st, defScope st, [], []⟩
theorem defAt_of {x nm : Str} {st : Stmt} {ps : List Str} (hd : ∃ fd, FunD K nm nm (defArgs st) (defBody st) (defScope st) [] [] (He.ga K x) fd) (hm : mg x = some (.ref (He.ga K x)))
    (hb : ∀ (kV doc pm : Value) (an : Option Addr) (cdv ct : Value) (us : List Value), us.length = ps.length → bindArgs (PySem.W.fnOf nm nm (defArgs st) (defBody st) (defScope st) .none kV doc pm an cdv ct) ⟨us, []⟩ = pure (ps.zip us)) : DefAt K mg x nm st ps := by
  obtain ⟨fd, F⟩ := hd
  exact ⟨_, fd, fun_of F, hm, F.bindsN hb⟩
/-- the tables of the defs with lambdas within -/
def tabsT (K : PySem.W.Frag) (tf : List (Str × Str)) : List (Addr × Str) := tf.map fun p => ((He.cT K (p.1, none)).2, p.2 ++ ".<locals>." ++ "<lambda>")
def tabsC (K : PySem.W.Frag) (tf : List (Str × Str)) : List (Addr × Addr) := tf.map fun p => He.cT K (p.1, none)
def apartB (K : PySem.W.Frag) (tf : List (Str × Str)) : Bool := tf.all fun p => tf.all fun q => decide ((He.cT K (p.1, none)).2 ≠ (He.cT K (q.1, none)).2) || decide (p.2 = q.2)
theorem defLam_of {base : Heap} {x nm : Str} {st : Stmt} {ps : List Str} {tf : List (Str × Str)} (hd : ∃ fd, FunD K nm nm (defArgs st) (defBody st) (defScope st) [] [] (He.ga K x) fd) (hm : mg x = some (.ref (He.ga K x)))
    (hb : ∀ (kV doc pm : Value) (an : Option Addr) (cdv ct : Value) (us : List Value), us.length = ps.length → bindArgs (PySem.W.fnOf nm nm (defArgs st) (defBody st) (defScope st) .none kV doc pm an cdv ct) ⟨us, []⟩ = pure (ps.zip us))
    (mem : (x, nm) ∈ tf) (ap : apartB K tf = true) (hTB : ∀ p ∈ tabsC K tf, LamX.TabB base mg p.1 p.2) : DefLam K mg base (tabsT K tf) x nm st ps := by
  obtain ⟨fd, F⟩ := hd
  have F2 := fun_of F
  obtain ⟨oc, od, kV, doc, pm, an, cdv, ct, osl, rfl, lk, hcd⟩ := F2.ex
  obtain ⟨c, rfl⟩ := He.codeIn_ref hcd
  have ec : He.codeOf K (x, none) = c := He.codeOf_eq (p := (x, none)) lk rfl
  refine ⟨_, _, c, (He.cT K (x, none)).2, F2, hm, F.bindsN hb, rfl, ?_, List.mem_map.mpr ⟨(x, nm), mem, rfl⟩, fun p hp e => ?_⟩
  · have := hTB (He.cT K (x, none)) (List.mem_map.mpr ⟨(x, nm), mem, rfl⟩)
    rw [show (He.cT K (x, none)).1 = c from ec] at this
    exact this
  · obtain ⟨q, hq, rfl⟩ := List.mem_map.mp hp
    have z := List.all_eq_true.mp (List.all_eq_true.mp ap q hq) (x, nm) mem
    rw [Bool.or_eq_true, decide_eq_true_eq, decide_eq_true_eq] at z
    rcases z with z | z
    · exact absurd e z
    · show q.2 ++ ".<locals>." ++ "<lambda>" = nm ++ ".<locals>." ++ "<lambda>"
      rw [z]
theorem lam_of {base : Heap} {x nm : Str} {st : Stmt} {tf : List (Str × Str)} {fd : FuncData} (F : FunD K nm nm (defArgs st) (defBody st) (defScope st) [] [] (He.ga K x) fd)
    (mem : (x, nm) ∈ tf) (ap : apartB K tf = true) (hTB : ∀ p ∈ tabsC K tf, LamX.TabB base mg p.1 p.2) : ∃ c P, fd.code = .ref c ∧ LamX.TabB base mg c P ∧ (P, nm ++ ".<locals>." ++ "<lambda>") ∈ tabsT K tf ∧ ∀ p ∈ tabsT K tf, p.1 = P → p.2 = nm ++ ".<locals>." ++ "<lambda>" := by
  have F2 := fun_of F
  obtain ⟨oc, od, kV, doc, pm, an, cdv, ct, osl, rfl, lk, hcd⟩ := F2.ex
  obtain ⟨c, rfl⟩ := He.codeIn_ref hcd
  have ec : He.codeOf K (x, none) = c := He.codeOf_eq (p := (x, none)) lk rfl
  refine ⟨c, (He.cT K (x, none)).2, rfl, ?_, List.mem_map.mpr ⟨(x, nm), mem, rfl⟩, fun p hp e => ?_⟩
  · have := hTB (He.cT K (x, none)) (List.mem_map.mpr ⟨(x, nm), mem, rfl⟩)
    rw [show (He.cT K (x, none)).1 = c from ec] at this
    exact this
  · obtain ⟨q, hq, rfl⟩ := List.mem_map.mp hp
    have z := List.all_eq_true.mp (List.all_eq_true.mp ap q hq) (x, nm) mem
    rw [Bool.or_eq_true, decide_eq_true_eq, decide_eq_true_eq] at z
    rcases z with z | z
    · exact absurd e z
    · show q.2 ++ ".<locals>." ++ "<lambda>" = nm ++ ".<locals>." ++ "<lambda>"
      rw [z]
theorem ecls_of {x : Str} (hm : mg x = some (.ref (He.ga K x))) (c : (He.Fa.exc x).ok K = true) : ∃ A, ECls K mg x A := by
  obtain ⟨h1, h2, h3, h4⟩ := He.exc_ok c
  exact ⟨_, hm, h1, h2, h3, h4⟩
def excCB (K : PySem.W.Frag) (D : Addr) : Bool :=
  decide (PySem.W.findIn K (.ref D) "__getattribute__" = some (some (.builtin "BaseException.__getattribute__"))) && decide (PySem.W.findIn K (.ref D) "__getattr__" = some none) && decide (PySem.W.subIn K (.ref D) (.type "BaseException") = some true)
    && PySem.W.hasDictIn K D && decide (PySem.W.findIn K (.ref D) "__class__" = some (some (.builtin "object.__class__"))) && decide (PySem.W.specialIn K (.builtin "object.__class__") "__get__" = some (some (.builtin "getset_descriptor.__get__")))
    && decide (PySem.W.takesIn K (.builtin "object.__class__") = some true) && decide (PySem.W.mroIn K D (.type "object") = some true)
theorem excC_of {D : Addr} (c : excCB K D = true) : ExcC K D := by
  unfold excCB at c
  simp only [Bool.and_eq_true, decide_eq_true_eq] at c
  obtain ⟨⟨⟨⟨⟨⟨⟨c1, c2⟩, c3⟩, c4⟩, c5⟩, c6⟩, c7⟩, c8⟩ := c
  exact ⟨c1, c2, c3, c4, c5, c6, c7, c8⟩
def tellB (K : PySem.W.Frag) (fe : Str) (ask : List Str) : Bool := ask.all fun c => excCB K (He.ga K c) && decide (PySem.W.exmOne K (.ref (He.ga K c)) (.ref (He.ga K fe)) = some true) && decide (PySem.W.kitOne K (.ref (He.ga K c)) (.type "ValueError") = some true)
  && ask.all fun n => decide (PySem.W.kitOne K (.ref (He.ga K c)) (.ref (He.ga K n)) = some (decide (c = n)))
theorem telled_of {fe : Str} {ask : List Str} (c : tellB K fe ask = true) (hm : ∀ n ∈ ask, mg n = some (.ref (He.ga K n))) (hf : mg fe = some (.ref (He.ga K fe))) : ∃ FEa, mg fe = some (.ref FEa) ∧ Telled K mg FEa ask ask := by
  refine ⟨_, hf, fun n hn => ⟨He.ga K n, ?_⟩⟩
  have z := List.all_eq_true.mp c n hn
  simp only [Bool.and_eq_true, decide_eq_true_eq, List.all_eq_true] at z
  obtain ⟨⟨⟨z1, z2⟩, z3⟩, z4⟩ := z
  exact ⟨hm n hn, excC_of z1, z2, z3, fun k hk => ⟨_, hm k hk, z4 k hk⟩⟩
end
end DL

set_option Elab.async false
set_option linter.all false
set_option maxRecDepth 100000
set_option maxHeartbeats 2000000
/-! several values set at once, some of them new lists -/
namespace DL
open PySem PySem.Spec PyProof.Rows L2

inductive Itm where
  | dat (d : D)
  | new (ds : List D)
def NotNew (p : Addr) (vs : List V) (its : List Itm) : Prop := ∀ (k : Nat) (ds : List D), its[k]? = some (Itm.new ds) → vs[k]? ≠ some (V.ref p)
abbrev NoOwn (σ : L2.St) (env : List Sl) (p : Addr) : Prop := NoO σ env p
inductive ItmsOK (C : Cz) (F H Hs : Hp) (σ : L2.St) (env : List Sl) : List V → List Itm → Prop
  | nil : ItmsOK C F H Hs σ env [] []
  | dat {v vs d its} (r : Rep C.K F v d) (t : ItmsOK C F H Hs σ env vs its) : ItmsOK C F H Hs σ env (v :: vs) (.dat d :: its)
  | new {p xs vs ds its} (hF : F p = none) (h0 : C.H₀ p = none) (hs : Hs p = none) (hp : H p = some (.lst xs)) (r : Reps C.K F xs ds) (no : NoOwn σ env p) (nn : NotNew p vs its) (t : ItmsOK C F H Hs σ env vs its) :
      ItmsOK C F H Hs σ env (.ref p :: vs) (.new ds :: its)
section
variable {C : Cz} {F H Hs F1 H1 Hs' : Hp} {σ : L2.St} {env : List Sl} {g : G} {vs : List V} {its : List Itm}
theorem ItmsOK.weak (t : ItmsOK C F H Hs σ env vs its) (h : ∀ b, Hs b = none → Hs' b = none) : ItmsOK C F H Hs' σ env vs its := by
  induction t with
  | nil => exact .nil
  | dat r _ ih => exact .dat r ih
  | new hF h0 hs hp r no nn _ ih => exact .new hF h0 (h _ hs) hp r no nn ih
theorem ItmsOK.len (t : ItmsOK C F H Hs σ env vs its) : vs.length = its.length := by
  induction t with
  | nil => rfl
  | dat r _ ih => simp [ih]
  | new hF h0 hs hp r no nn _ ih => simp [ih]
theorem ItmsOK.notNew (t : ItmsOK C F H Hs σ env vs its) {p : Addr} (h : Hs p ≠ none) : NotNew p vs its := by
  induction t with
  | nil => intro k ds e; cases e
  | dat r _ ih =>
    intro k ds e
    cases k with
    | zero => cases e
    | succ k => exact ih k ds e
  | new hF h0 hs hp r no nn _ ih =>
    intro k ds e
    cases k with
    | zero =>
      intro z
      cases z
      exact h hs
    | succ k => exact ih k ds e
/-- something else is put where nothing was -/
theorem ItmsOK.upd (t : ItmsOK C F H Hs σ env vs its) {p : Addr} {o : HO} (h : H p = none) : ItmsOK C F (L2.upd H p o) Hs σ env vs its := by
  induction t with
  | nil => exact .nil
  | dat r _ ih => exact .dat r ih
  | new hF h0 hs hp r no nn _ ih => exact .new hF h0 hs (by rw [upd_ne (fun z => by rw [z, h] at hp; cases hp)]; exact hp) r no nn ih
/-- the frame is set at i -/
theorem ItmsOK.set (t : ItmsOK C F H Hs σ env vs its) {i : Nat} {v : V} {sl : Sl} (hl : env.length = σ.length) (hv : isOwn sl = true → ∃ p, v = .ref p ∧ NotNew p vs its) : ItmsOK C F H Hs (σ.set i (some v)) (env.set i sl) vs its := by
  have key : ∀ {p : Addr} {k : Nat} {ds : List D}, its[k]? = some (Itm.new ds) → vs[k]? = some (V.ref p) → NoOwn σ env p → NoOwn (σ.set i (some v)) (env.set i sl) p := by
    intro p k ds e1 e2 no j es e w
    by_cases hj : i = j
    · subst hj
      have hi : i < env.length := by
        have := (List.getElem?_eq_some_iff.mp e).1
        rwa [List.length_set] at this
      rw [List.getElem?_set_self hi] at e
      cases e
      obtain ⟨q, rfl, hq⟩ := hv w
      rw [List.getElem?_set_self (by rw [← hl]; exact hi)]
      intro z
      cases z
      exact hq k ds e1 e2
    · rw [List.getElem?_set_ne hj] at e
      rw [List.getElem?_set_ne hj]
      exact no j es e w
  clear hv
  induction t with
  | nil => exact .nil
  | dat r _ ih => exact .dat r (ih fun {p k ds} e1 e2 no => key (k := k + 1) (by simpa using e1) (by simpa using e2) no)
  | new hF h0 hs hp r no nn _ ih => exact .new hF h0 hs hp r (key (k := 0) rfl rfl no) nn (ih fun {p k ds} e1 e2 no => key (k := k + 1) (by simpa using e1) (by simpa using e2) no)
def slotOf : Itm → Sl
  | .dat d => .dat d
  | .new ds => .own ds
def setItms : List Nat → List Itm → List Sl → Option (List Sl)
  | [], [], env => some env
  | i :: L, it :: its, env => setItms L its (env.set i (slotOf it))
  | _, _, _ => none
def setVs : List Nat → List V → L2.St → L2.St
  | i :: L, v :: vs, σ => setVs L vs (σ.set i (some v))
  | _, _, σ => σ
theorem SOK.setItms : ∀ {L : List Nat} {its : List Itm} {vs : List V} {σ : L2.St} {env env' : List Sl}, SOK C F H σ env g → ItmsOK C F H Hs σ env vs its → DL.setItms L its env = some env' → SOK C F H (setVs L vs σ) env' g
  | [], [], vs, σ, env, env', S, t, e => by
    cases t
    cases e
    exact S
  | i :: L, .dat d :: its, vs, σ, env, env', S, t, e => by
    cases t with
    | dat r t => exact SOK.setItms (L := L) (S.setDat r i) (t.set S.len (fun z => by cases z)) e
  | i :: L, .new ds :: its, vs, σ, env, env', S, t, e => by
    cases t with
    | new hF h0 hs hp r no nn t => exact SOK.setItms (L := L) (S.setOwn hF h0 hp r no i) (t.set S.len (fun z => ⟨_, rfl, nn⟩)) e
  | [], _ :: _, vs, σ, env, env', S, t, e => by cases e
  | _ :: _, [], vs, σ, env, env', S, t, e => by cases e
end
def RunM (C : Cz) (E : XK) (F H : Hp) (σ : L2.St) (env : List Sl) (o : Out (List Itm)) (Q : List V → Hp → Prop) : Prop :=
  match o with
  | .ok its g => ∀ F' H' vs, SOK C F' H' σ env g → Grow C.ha F H F' H' → ItmsOK C F' H' H σ env vs its → Q vs H'
  | .err c g => ∀ F' H', SOK C F' H' σ env g → Grow C.ha F H F' H' → Er C E c H'
  | .stuck => False
def tI (C : Cz) (E : XK) (f : EM (List Itm)) : TA := fun σ H Q => ∃ F env g, SOK C F H σ env g ∧ RunM C E F H σ env (f env g) Q
abbrev FM (X : Cx) (C : Cz) (E : XK) (es : List Expr) (f : EM (List Itm)) : Prop := PA X es (tI C E f)
def mNil : EM (List Itm) := fun _ g => .ok [] g
def mDat (a : EM D) (f : EM (List Itm)) : EM (List Itm) := fun env g => (a env g).bind fun d g => (f env g).bind fun its g => .ok (.dat d :: its) g
def mNew (a : EM (List D)) (f : EM (List Itm)) : EM (List Itm) := fun env g => (a env g).bind fun ds g => (f env g).bind fun its g => .ok (.new ds :: its) g
section
variable {X : Cx} {C : Cz} {E : XK} {k i : Nat} {e : Expr} {es : List Expr} {fa : EM D} {f : EM (List D)} {fm : EM (List Itm)} {pos : Pos}
theorem fm_nil : FM X C E [] mNil := pa_nil.impD fun σ H Q ⟨F, env, g, S, h⟩ => h F H [] S (Grow.refl _ _ _) .nil
theorem fm_dat (ha : FE X C E e fa) (hr : FM X C E es fm) (hs : starEach (e :: es) X.env = (false, eval e X.env) :: starEach es X.env := by rfl) : FM X C E (e :: es) (mDat fa fm) := by
  refine (pa_cons ha hr hs).impD fun σ H Q ⟨F, env, g, S, h⟩ => ?_
  refine ⟨F, env, g, S, ?_⟩
  unfold mDat at h
  cases q : fa env g with
  | stuck => rw [q] at h; exact h
  | err c g1 => rw [q] at h; exact h
  | ok d g1 =>
    rw [q] at h
    have h : RunM C E F H σ env ((fm env g1).bind fun its g => .ok (.dat d :: its) g) Q := h
    intro F1 H1 v S1 gr1 r1
    refine ⟨F1, env, g1, S1, ?_⟩
    cases q2 : fm env g1 with
    | stuck => rw [q2] at h; exact h
    | err c g2 => rw [q2] at h; exact fun F2 H2 S2 gr2 => h F2 H2 S2 (gr1.trans gr2)
    | ok its g2 =>
      rw [q2] at h
      exact fun F2 H2 vs S2 gr2 it => h F2 H2 (v :: vs) S2 (gr1.trans gr2) (.dat (r1.mono gr2.frz) (it.weak gr1.there))
theorem fm_new (ha : FN X C E e f) (hr : FM X C E es fm) (hs : starEach (e :: es) X.env = (false, eval e X.env) :: starEach es X.env := by rfl) : FM X C E (e :: es) (mNew f fm) := by
  refine (pa_cons ha hr hs).impD fun σ H Q ⟨F, env, g, S, h⟩ => ?_
  refine ⟨F, env, g, S, ?_⟩
  unfold mNew at h
  cases q : f env g with
  | stuck => rw [q] at h; exact h
  | err c g1 => rw [q] at h; exact h
  | ok ds g1 =>
    rw [q] at h
    have h : RunM C E F H σ env ((fm env g1).bind fun its g => .ok (.new ds :: its) g) Q := h
    intro F1 H1 p xs S1 gr1 hF hn hp r no
    refine ⟨F1, env, g1, S1, ?_⟩
    cases q2 : fm env g1 with
    | stuck => rw [q2] at h; exact h
    | err c g2 => rw [q2] at h; exact fun F2 H2 S2 gr2 => h F2 H2 S2 (gr1.trans gr2)
    | ok its g2 =>
      rw [q2] at h
      refine fun F2 H2 vs S2 gr2 it => h F2 H2 (.ref p :: vs) S2 (gr1.trans gr2) (.new ?_ (S.grow.there p hn) hn ?_ (r.mono gr2.frz) no (it.notNew (by rw [hp]; simp)) (it.weak gr1.there))
      · cases z : F2 p with
        | none => rfl
        | some o => exact absurd (gr2.new p hF (by rw [z]; simp)) (by rw [hp]; simp)
      · refine gr2.keep p _ hp (fun z => ?_) notT_lst
        exact (S.hand p z).2.2 (S.grow.there p hn)
theorem RunM.toS {F H : Hp} {σ : L2.St} {env : List Sl} {o : Out (List Itm)} {kk : List Itm → G → Out (Fl × List Sl)} {D : Ends} {Q : List V → Hp → Prop} (h0 : RunS C E F (o.bind kk) D)
    (hq : ∀ (its : List Itm) g F' H' vs, SOK C F' H' σ env g → Grow C.ha F H F' H' → ItmsOK C F' H' H σ env vs its → RunS C E F' (kk its g) D → Q vs H') : RunM C E F H σ env o Q := by
  cases o with
  | ok its g => exact fun F' H' vs S gr it => hq its g F' H' vs S gr it (RunS.shift gr.frz h0)
  | err c g => exact fun F' H' S gr => h0 F' H' σ env S
  | stuck => exact h0
/-- the slots of L, by values some of which are new lists -/
def sMix (L : List Nat) (f : EM (List Itm)) : SM := fun env g => (f env g).bind fun its g => match setItms L its env with
  | some env' => .ok (.next, env') g
  | none => .stuck
theorem sMix_at {F : Hp} {L : List Nat} {its : List Itm} {env : List Sl} {g : G} {D : Ends} (h : RunS C E F (match setItms L its env with
  | some env' => .ok (.next, env') g
  | none => .stuck) D) : ∃ env', setItms L its env = some env' ∧ RunS C E F (.ok (.next, env') g) D := by
  cases q : setItms L its env with
  | none => rw [q] at h; exact (show False from h).elim
  | some env' => rw [q] at h; exact ⟨env', rfl, h⟩
theorem setItms_len : ∀ {L : List Nat} {its : List Itm} {env env' : List Sl}, setItms L its env = some env' → L.length = its.length
  | [], [], _, _, _ => rfl
  | i :: L, it :: its, env, env', e => by simp [setItms_len (L := L) (its := its) e]
  | [], _ :: _, _, _, e => by cases e
  | _ :: _, [], _, _, e => by cases e
theorem fs_mix2 {i j : Nat} {x y : Str} {a b : Expr} {px py pt : Pos} {kt k2 pt2} (t : Ties X C (k + 1)) (hi : X.N[i]? = some x) (hj : X.N[j]? = some y) (hij : i ≠ j)
    (hx : X.env.scope.names.lookup x = some .local) (hy : X.env.scope.names.lookup y = some .local) (ha : FM X C E [a, b] fm)
    (hw : swappedStores [.Tuple [.Name x px, .Name y py] kt pt] (.Tuple [a, b] k2 pt2) X.env = pure (some [x, y]))
    (hs : swapsWithSole [.Tuple [.Name x px, .Name y py] kt pt] (.Tuple [a, b] k2 pt2) pos.line X.env = pure false := by rfl) :
    FS X C E (.Assign [.Tuple [.Name x px, .Name y py] kt pt] (.Tuple [a, b] k2 pt2) pos) (sMix [i, j] fm) := by
  refine (ps_par t.calm t.nd hi hj hij hx hy ha hw hs).impD fun D σ H ⟨F, env, g, S, h⟩ => ?_
  refine ⟨F, env, g, S, RunM.toS h fun its g1 F1 H1 vs S1 gr1 it h1 => ?_⟩
  obtain ⟨env', e, h1⟩ := sMix_at h1
  have hl := setItms_len e
  have hv := it.len
  match vs, hv.trans hl.symm, it with
  | [v, w], _, it => exact ⟨v, w, rfl, h1 F1 H1 _ (S1.setItms it e) (Sub.refl _)⟩
theorem fs_mix3 {i j l : Nat} {x y z : Str} {a b c : Expr} {px py pz pt : Pos} {kt k2 pt2} (t : Ties X C (k + 1)) (hi : X.N[i]? = some x) (hj : X.N[j]? = some y) (hl : X.N[l]? = some z) (hij : i ≠ j) (hil : i ≠ l) (hjl : j ≠ l)
    (hx : X.env.scope.names.lookup x = some .local) (hy : X.env.scope.names.lookup y = some .local) (hz : X.env.scope.names.lookup z = some .local) (ha : FM X C E [a, b, c] fm)
    (hw : swappedStores [.Tuple [.Name x px, .Name y py, .Name z pz] kt pt] (.Tuple [a, b, c] k2 pt2) X.env = pure (some [x, y, z]))
    (hs : swapsWithSole [.Tuple [.Name x px, .Name y py, .Name z pz] kt pt] (.Tuple [a, b, c] k2 pt2) pos.line X.env = pure false := by rfl) :
    FS X C E (.Assign [.Tuple [.Name x px, .Name y py, .Name z pz] kt pt] (.Tuple [a, b, c] k2 pt2) pos) (sMix [i, j, l] fm) := by
  refine (ps_par3 t.calm t.nd hi hj hl hij hil hjl hx hy hz ha hw hs).impD fun D σ H ⟨F, env, g, S, h⟩ => ?_
  refine ⟨F, env, g, S, RunM.toS h fun its g1 F1 H1 vs S1 gr1 it h1 => ?_⟩
  obtain ⟨env', e, h1⟩ := sMix_at h1
  have hl := setItms_len e
  have hv := it.len
  match vs, hv.trans hl.symm, it with
  | [u, v, w], _, it => exact ⟨u, v, w, rfl, h1 F1 H1 _ (S1.setItms it e) (Sub.refl _)⟩
def gNames : List Nat → TGs
  | [] => gNil
  | i :: L => gCons (gName i) (gNames L)
theorem gNames_of : ∀ {L : List Nat} {vs : List V} {σ : L2.St} {H : Hp} {Q : L2.St → Hp → Prop}, vs.length = L.length → Q (setVs L vs σ) H → gNames L vs σ H Q
  | [], [], σ, H, Q, _, h => ⟨rfl, h⟩
  | i :: L, v :: vs, σ, H, Q, e, h => ⟨v, vs, rfl, gNames_of (L := L) (by simpa using e) h⟩
  | [], _ :: _, _, _, _, e, _ => by simp at e
  | _ :: _, [], _, _, _, e, _ => by simp at e
theorem gns_nil : PGs X [] (gNames []) := pgs_nil
theorem gns_cons {x : Str} {L : List Nat} {px : Pos} (t : Ties X C k) (hi : X.N[i]? = some x) (hx : Loc X.env.scope x) (h : PGs X es (gNames L)) (hs : (assignEach (.Name x px :: es) X.env).map (·.2) = assign (.Name x px) X.env :: (assignEach es X.env).map (·.2) := by rfl)
    (hf : X.fn x = true ∨ X.env.scope.names.lookup x = some .local := by first | exact .inl rfl | exact .inr rfl | assumption) : PGs X (.Name x px :: es) (gNames (i :: L)) := pgs_cons (pg_name t.nd hi hx hf) h hs
theorem fs_mixG {L : List Nat} {ts : List Expr} {kt k2 : Nat} {pt pt2 : Pos} (t : Ties X C (k + 1)) (hg : PGs X ts (gNames L)) (ha : FM X C E es fm)
    (hz : L.length ≤ sizeLine := by decide) (hn : (assignEach ts X.env).length = L.length := by rfl) (hst : (assignEach ts X.env).findIdx? (·.1) = none := by rfl)
    (hs : swapsWithSole [.Tuple ts kt pt] (.Tuple es k2 pt2) pos.line X.env = pure false := by rfl) (hw : swappedStores [.Tuple ts kt pt] (.Tuple es k2 pt2) X.env = pure none := by rfl)
    (h1 : (assignEach [.Tuple ts kt pt] X.env).map (·.2) = [assign (.Tuple ts kt pt) X.env] := by rfl) :
    FS X C E (.Assign [.Tuple ts kt pt] (.Tuple es k2 pt2) pos) (sMix L fm) := by
  refine (ps_asg (pe_tup ha) (pg_tup t.calm hg hn hst) hs hw h1).impD fun D σ H ⟨F, env, g, S, h⟩ => ?_
  refine ⟨F, env, g, S, RunM.toS h fun its g1 F1 H1 vs S1 gr1 it h1 => ?_⟩
  obtain ⟨env', e, h1⟩ := sMix_at h1
  have hl := it.len.trans (setItms_len e).symm
  refine ⟨by rw [hl]; exact hz, fun T n => ⟨T, vs, rfl, .inl (.inl upd_same), hl, gNames_of hl ?_⟩⟩
  have S2 : SOK C F1 (L2.upd H1 T (.tup vs)) σ env g1 := S1.pokeO (S1.sub.free n) (S1.grow.there T n) (fun ps z => by rw [n] at z; cases z) (fun φ z => by rw [n] at z; cases z) (S1.noOwn n)
  exact h1 F1 _ _ (S2.setItms (it.upd n) e) (Sub.refl _)
end
end DL

set_option Elab.async false
set_option linter.all false
set_option maxRecDepth 100000
set_option maxHeartbeats 2000000
/-! sorted(t), t a tuple -/
namespace DL
open PySem PySem.Calls PyProof.Rows PySem.W
section
variable {prog : Program} {w : World} {A : Around} {E : Value → Shared → Prop} {s : Shared}
theorem collect_tup {l : Addr} {vs : List Value} {Q : List Value → Shared → Prop} (hl : s.heap.IsTuple l vs.toArray)
    (h : Q vs { s with heap := (s.heap.push (seqObj "list" #[] 0)).update s.heap.objs.size (Obj.mapSeq (· ++ vs.toArray)) }) (hsz : vs.length ≤ sizeLine) :
    wpAny (model prog w) A (collect (.ref l)) Q E s := by
  obtain ⟨o, ho, hc, n, hd⟩ := id hl
  unfold collect
  refine wpAny_bind (wpAny_runValue (codeAny_builtin entry_proto_collect' ?_))
  show wpAny _ _ (do again (.builtin "list.__iadd__" ⟨[← newList [], .ref l], []⟩)) _ _ s
  refine wpAny_bind (wpAny_newList (wpAny_pure ⟨Code.quiet_builtin _ (by decide +kernel), codeAny_builtin entry_list_iadd' ?_⟩))
  show wpAny _ _ (Builtin.List.listExtendWith (.ref s.heap.objs.size) (.ref l) (.ref s.heap.objs.size)) _ _ { s with heap := s.heap.push (seqObj "list" #[] 0) }
  unfold Builtin.List.listExtendWith
  have ho' : (s.heap.push (seqObj "list" #[] 0)).get? l = some o := Heap.get?_push_of_some _ ho
  refine wpAny_bind (wpAny_typeOf (T := "tuple") ⟨o, ho', hc⟩ ?_)
  have ht : (Value.type "tuple" == Value.type "tuple") = true := by rfl
  rw [if_pos (by rw [ht]; simp)]
  refine wpAny_bind (listItems_at ho' hd ?_)
  refine wpAny_bind (listItems_at (xs := #[]) (n := 0) (Heap.get?_push_size _ rfl) rfl ?_)
  rw [if_neg (by simp)]
  refine wpAny_bind (listUpdate_at (xs := #[]) (n := 0) (Heap.get?_push_size _ rfl) rfl ?_ (Nat.zero_le _) (by show (#[] ++ vs.toArray).size ≤ sizeLine + 1; simp only [Array.size_append, List.size_toArray, List.length_nil]; omega))
  refine wpAny_pure ?_
  show wpAny (model prog w) A (do
      let o ← load s.heap.objs.size
      match o.data with
      | .seq xs _ => pure xs.toList
      | _ => unsupported "internal:collect") Q E { s with heap := (s.heap.push (seqObj "list" #[] 0)).update s.heap.objs.size (Obj.mapSeq (· ++ vs.toArray)) }
  refine wpAny_bind (wpAny_load (get?_update_seq (Heap.get?_push_size _ rfl) _) ?_)
  show wpAny _ _ (pure ((#[] : Array Value) ++ vs.toArray).toList) Q E _
  rw [show ((#[] : Array Value) ++ vs.toArray).toList = vs by simp]
  exact wpAny_pure h
theorem sorted_of_sortT {l : Addr} {vs : List Value} {kw : List (Str × Value)} {Q : Value → Shared → Prop} (hl : s.heap.IsTuple l vs.toArray) (hL : vs.length ≤ sizeLine) (ha1 : argsOk "sorted" ⟨[.ref l], kw⟩) (ha2 : ∀ x, argsOk "list.sort" ⟨[.ref x], kw⟩)
    (body : ∀ E' : Value → Shared → Prop, wpAny (model prog w) A.in1.in1 (Builtin.«list.sort» ⟨[.ref (s.heap.objs.size + 1)], kw⟩) (fun f s' => f = .done (.ret .none) ∧ Q (.ref (s.heap.objs.size + 1)) s') E' { s with heap := copyHeap s.heap vs }) :
    wpAny (model prog w) A (call (.builtin "sorted") [.ref l] kw) Q E s := by
  refine call_function_entry_kw kind_sorted plain_sorted entry_sorted ha1 ?_
  unfold Builtin.«sorted»
  refine wpAny_bind (m := checkCount "sorted" 1 1 _) (wpAny_pure ?_)
  refine wpAny_bind (collect_tup hl ?_ hL)
  refine wpAny_bind (wpAny_newList ?_ hL)
  have hsz : ((s.heap.push (seqObj "list" #[] 0)).update s.heap.objs.size (Obj.mapSeq (· ++ vs.toArray))).objs.size = s.heap.objs.size + 1 := by
    rw [Heap.size_update, size_push']
  show wpAny _ _ _ _ _ { s with heap := copyHeap s.heap vs }
  rw [hsz]
  refine wpAny_bind (wpAny_holding (wpAny_call_entry_kw slot_list_sort ⟨_, copyHeap_at s.heap vs, rfl⟩ entry_list_sort ?body (ha2 _)))
  case body =>
    show wpAny (model prog w) A.in1.in1 (Builtin.«list.sort» ⟨[.ref (s.heap.objs.size + 1)], kw⟩) _ _ _
    refine wpAny_mono (body _) (fun f s' hf => ?_) fun _ _ e => e
    obtain ⟨rfl, hq⟩ := hf
    exact ⟨_, rfl, wpAny_pure ⟨_, rfl, hq⟩⟩
theorem sortedT_vals {κ : PyProof.Rows.KeyKind} {l : Addr} {vs : List Value} {Q : Value → Shared → Prop} (hl : s.heap.IsTuple l vs.toArray) (S : SortsAt prog w A.in1.in1 { s with heap := sortingHeap (copyHeap s.heap vs) (s.heap.objs.size + 1) vs } κ vs) (hL : vs.length ≤ sizeLine)
    (h : Q (.ref (s.heap.objs.size + 1)) { s with heap := sortedAll s.heap vs (sortVals κ false vs vs).toArray }) : wpAny (model prog w) A (call (.builtin "sorted") [.ref l]) Q E s :=
  sorted_of_sortT hl hL (args_sorted1 _) (fun _ => args_list_sort _) fun _ => list_sort_vals (s := { s with heap := copyHeap s.heap vs }) (copyHeap_at s.heap vs) S hL ⟨rfl, h⟩
theorem sortedT_data {β : Type} {enc : β → PyData} {R : Value → β → Prop} {vs : List Value} {bs : List β} {l : Addr} {Q : Value → Shared → Prop} (hl : s.heap.IsTuple l vs.toArray) (e : EachIs R vs bs) (er : EachIs (fun v b => ∃ as, Reads s.heap v (enc b) as) vs bs) (hal : AllAlike (bs.map enc)) (hk : Sortable (bs.map enc)) (hL : bs.length ≤ sizeLine)
    (hu : ∀ b, b ∈ bs → A.units + 2 + (enc b).depth < cLine) (h : ∀ out, out.length = bs.length → EachIs R out (bs.mergeSort (dataLe false enc)) → Q (.ref (s.heap.objs.size + 1)) { s with heap := sortedAll s.heap vs (List.toArray out) }) :
    wpAny (model prog w) A (call (.builtin "sorted") [.ref l]) Q E s := by
  have er' : EachIs (fun v b => ∃ as, Reads (sortingHeap (copyHeap s.heap vs) (s.heap.objs.size + 1) vs) v (enc b) as) vs bs := er.mono fun _ _ ⟨as, r⟩ => ⟨as, PyProof.Rows.Reads.keeps (fun _ _ => sorting_copy_old) r⟩
  exact sortedT_vals hl (SortsAt.data (s := { s with heap := sortingHeap (copyHeap s.heap vs) (s.heap.objs.size + 1) vs }) (each_map (R := fun v d => ∃ as, Reads (sortingHeap (copyHeap s.heap vs) (s.heap.objs.size + 1) vs) v d as) enc er') hal hk (bound_map hu)) (by rw [e.length]; exact hL)
    (h _ (by rw [sortVals_length false rfl]; exact e.length) (sortVals_data false e er' hal))
end
end DL

set_option Elab.async false
set_option linter.all false
set_option maxRecDepth 100000
set_option maxHeartbeats 2000000
/-! sorted(xs) of data alike -/
namespace DL
open PySem PySem.Spec PyProof.Rows L2

def tup1D : D → Bool
  | .tuple (_ :: _) => true
  | _ => false
def noTupD : D → Bool
  | .none => false
  | .tuple _ => false
  | _ => true
def sortableD (ds : List D) : Bool := (ds.all fun d => ds.all fun e => PySem.W.alike d e) && (ds.all fun d => flatD d && decide (d.depth ≤ 60)) && (ds.all tup1D || ds.all noTupD)
def sortD (ds : List D) : List D := ds.mergeSort (PySem.W.dataLe false fun d => d)
def isort (ks : List Int) : List Int := ks.mergeSort fun a b => decide (a ≤ b)
theorem isort_perm (ks : List Int) : (isort ks).Perm ks := List.mergeSort_perm ..
theorem isort_sorted (ks : List Int) : (isort ks).Pairwise (· ≤ ·) := by
  have h := List.pairwise_mergeSort (le := fun a b : Int => decide (a ≤ b)) (fun a b c h1 h2 => by simp at *; omega) (fun a b => by simp; omega) ks
  exact h.imp fun {a b} q => by simpa using q
theorem isort_of {ys ks : List Int} (hp : ys.Perm ks) (hs : ys.Pairwise (· ≤ ·)) : ys = isort ks := by
  exact PySem.W.Srt.one _ _ (hp.trans (isort_perm ks).symm) hs (isort_sorted ks)
def sortedF : List D → Option D
  | [.dict kvs] => if (dkD kvs && decide (kvs.length < 64) && !kvs.isEmpty) = true then (allInts (kvs.map (·.1))).map fun ks => .list ((isort ks).map .int) else none
  | [.list ds] => if sortableD ds = true then some (.list (sortD ds)) else none
  | [.tuple ds] => if sortableD ds = true then some (.list (sortD ds)) else none
  | _ => none
theorem sortableD_iff {ds : List D} (h : sortableD ds = true) : PySem.W.AllAlike ds ∧ (∀ d ∈ ds, flatD d = true ∧ d.depth ≤ 60) ∧ PySem.W.Sortable ds := by
  unfold sortableD at h
  rw [Bool.and_eq_true, Bool.and_eq_true, Bool.or_eq_true] at h
  obtain ⟨⟨h1, h2⟩, h3⟩ := h
  refine ⟨fun d hd e he => ?_, fun d hd => ?_, ?_⟩
  · exact List.all_eq_true.mp (List.all_eq_true.mp h1 d hd) e he
  · have := List.all_eq_true.mp h2 d hd
    rw [Bool.and_eq_true, decide_eq_true_eq] at this
    exact this
  · rcases h3 with h3 | h3
    · refine .inl fun d hd => ?_
      have := List.all_eq_true.mp h3 d hd
      cases d with
      | tuple xs => cases xs with
        | nil => cases this
        | cons x xs => exact ⟨x, xs, rfl⟩
      | _ => cases this
    · refine .inr fun d hd => ?_
      have := List.all_eq_true.mp h3 d hd
      exact ⟨fun z => by (rw [z] at this; cases this), fun xs z => by (rw [z] at this; cases this)⟩
theorem keys_inl : ∀ {kk : List (Key × V)} {ks : List Int}, (kk.map fun p => keyD p.1) = ks.map PyData.int → kk.map (·.1) = ks.map Sum.inl
  | [], [], _ => rfl
  | [], _ :: _, e => by cases e
  | _ :: _, [], e => by cases e
  | (a, v) :: kk, k :: ks, e => by
    rw [List.map_cons, List.map_cons] at e
    injection e with e1 e2
    rw [List.map_cons, List.map_cons, keys_inl e2]
    cases a with
    | inl i => injection e1 with e1; rw [show i = k from e1]
    | inr s => cases e1
section
variable {X : Cx} {C : Cz} {E : XK} {k : Nat} {pins : List (Addr × Obj)} {σ : L2.St} {F H : Hp} {s : Shared}
theorem each_of_reps (I : Inv X pins σ H s) (sb : Sub F H) : ∀ {xs : List V} {ds : List D} {us : List Value}, Reps X.K F xs ds → Vals xs us → (∀ d ∈ ds, flatD d = true) →
    PySem.W.EachIs (fun v d => ∃ x, RelV x v ∧ Rep X.K F x d) us ds ∧ PySem.W.EachIs (fun v d => ∃ as, Reads s.heap v d as) us ds
  | _, _, _, .nil, .nil, _ => ⟨.nil, .nil⟩
  | _, _, _, .cons h r, .cons rv rvs, hf =>
    have ih := each_of_reps I sb r rvs fun d m => hf d (List.mem_cons_of_mem _ m)
    ⟨.cons ⟨_, rv, h⟩ ih.1, .cons (reads_of I sb h rv (hf _ List.mem_cons_self)) ih.2⟩
theorem reps_of_each {K : PySem.W.Frag} : ∀ {us : List Value} {ds : List D}, PySem.W.EachIs (fun v d => ∃ x, RelV x v ∧ Rep K F x d) us ds → ∃ xs, Vals xs us ∧ Reps K F xs ds
  | _, _, .nil => ⟨[], .nil, .nil⟩
  | _, _, .cons ⟨x, h1, h2⟩ t => by
    obtain ⟨xs, h3, h4⟩ := reps_of_each t
    exact ⟨x :: xs, .cons h1 h3, .cons h2 h4⟩
theorem cSorted (t : Ties X C (k + 1)) : CallR X (.builtin "sorted") (rC C sortedF) := by
  intro pins s σ H xs us Q I r h
  obtain ⟨F, ds, z, sb, rd, hg, q⟩ := h
  rw [t.K] at rd q
  unfold sortedF at hg
  split at hg
  · rename_i kvs
    split at hg
    · rename_i hz
      rw [Bool.and_eq_true, Bool.and_eq_true, decide_eq_true_eq] at hz
      cases qa : allInts (kvs.map (·.1)) with
      | none => rw [qa] at hg; cases hg
      | some ks =>
        rw [qa] at hg
        cases hg
        have e := allInts_eq qa
        obtain ⟨x, rfl, h0⟩ := rd.one
        have hkk : ∃ (a : Addr) (kk : List (Key × V)), x = .ref a ∧ F a = some (.dK kk) ∧ kk.map (·.1) = ks.map Sum.inl := by
          generalize hd : PyData.dict kvs = dd at h0
          cases h0 with
          | dK h1 h2 =>
            rename_i a kk ds
            injection hd with hd
            have hl : (kk.map fun p => keyD p.1).length = ds.length := by rw [List.length_map, ← h2.length, List.length_map]
            have e1 : kvs.map (·.1) = kk.map fun p => keyD p.1 := by rw [hd, List.map_fst_zip (by omega)]
            refine ⟨a, kk, rfl, h1, keys_inl ?_⟩
            rw [← e1, e]
          | dT h1 h2 =>
            rename_i a kk ds
            injection hd with hd
            have hl : (kk.map fun p => PyData.tuple (p.1.map keyD)).length = ds.length := by rw [List.length_map, ← h2.length, List.length_map]
            have e1 : kvs.map (·.1) = kk.map fun p => PyData.tuple (p.1.map keyD) := by rw [hd, List.map_fst_zip (by omega)]
            cases kvs with
            | nil => simp at hz
            | cons p kvs =>
              cases kk with
              | nil => simp at e1
              | cons q kk =>
                rw [e1] at e
                cases ks with
                | nil => simp at e
                | cons k ks => simp at e
          | _ => cases hd
        obtain ⟨a, kk, rfl, h1, h2⟩ := hkk
        have hlen : ks.length = kvs.length := by
          have := congrArg List.length e
          rw [List.length_map, List.length_map] at this
          exact this.symm
        refine call_sortedDI t.calm pins s σ H _ us Q I r ⟨a, kk, ks, rfl, .inl (sb _ _ h1), h2, by omega, fun ys p hp hs hn => ?_⟩
        rw [isort_of hp hs]
        obtain ⟨l, rr⟩ := lay_lst (K := X.K) sb hn (Reps.ofInts (isort ks))
        exact q _ _ _ l rr
    · cases hg
  · rename_i ds
    split at hg
    · rename_i hs
      cases hg
      obtain ⟨al, fl, so⟩ := sortableD_iff hs
      obtain ⟨x, rfl, h0⟩ := rd.one
      obtain ⟨a, ys, rfl, h1, h2⟩ := h0.list_inv
      obtain ⟨its, rv, hl, hz⟩ := I.list (.inl (.inl (sb _ _ h1)))
      rw [Vals.ref1 r]
      obtain ⟨e1, e2⟩ := each_of_reps I sb h2 rv fun d m => (fl d m).1
      have hu := t.hu
      refine PySem.W.sorted_data (enc := fun d => d) hl.isList e1 e2 (by rw [List.map_id']; exact al) (by rw [List.map_id']; exact so) (by rw [← h2.length]; exact hz) (fun d m => ?_) fun out hlen ho => ?_
      · have h5 := (fl d m).2
        show X.A.units + 2 + d.depth < cLine
        omega
      · obtain ⟨zs, k1, k2⟩ := reps_of_each ho
        obtain ⟨ep, he⟩ := PyProof.Rows.sortedAll_at s.heap its out.toArray
        have hlen2 : zs.length ≤ sizeLine := by rw [k1.length, hlen, ← h2.length]; exact hz
        have hn : H (s.heap.objs.size + 1) = none := I.hok.fresh (Nat.le_succ _)
        obtain ⟨l, rr⟩ := lay_lst sb hn k2
        exact ⟨.ref _, upd H (s.heap.objs.size + 1) (.lst zs), I.laid (t' := s.toks) (fun _ _ => PyProof.Rows.sortedAll_old) (Nat.le_succ _) ⟨hlen2, out, ep, k1, he⟩, rfl, q _ _ _ l rr⟩
    · cases hg
  · rename_i ds
    split at hg
    · rename_i hs
      cases hg
      obtain ⟨al, fl, so⟩ := sortableD_iff hs
      obtain ⟨x, rfl, h0⟩ := rd.one
      obtain ⟨a, ys, rfl, h1, h2⟩ := h0.tup_inv
      obtain ⟨its, rv, hl, hz⟩ := I.tuple (sb.sqT h1)
      rw [Vals.ref1 r]
      obtain ⟨e1, e2⟩ := each_of_reps I sb h2 rv fun d m => (fl d m).1
      have hu := t.hu
      refine sortedT_data (enc := fun d => d) hl e1 e2 (by rw [List.map_id']; exact al) (by rw [List.map_id']; exact so) (by rw [← h2.length]; exact hz) (fun d m => ?_) fun out hlen ho => ?_
      · have h5 := (fl d m).2
        show X.A.units + 2 + d.depth < cLine
        omega
      · obtain ⟨zs, k1, k2⟩ := reps_of_each ho
        obtain ⟨ep, he⟩ := PyProof.Rows.sortedAll_at s.heap its out.toArray
        have hlen2 : zs.length ≤ sizeLine := by rw [k1.length, hlen, ← h2.length]; exact hz
        have hn : H (s.heap.objs.size + 1) = none := I.hok.fresh (Nat.le_succ _)
        obtain ⟨l, rr⟩ := lay_lst sb hn k2
        exact ⟨.ref _, upd H (s.heap.objs.size + 1) (.lst zs), I.laid (t' := s.toks) (fun _ _ => PyProof.Rows.sortedAll_old) (Nat.le_succ _) ⟨hlen2, out, ep, k1, he⟩, rfl, q _ _ _ l rr⟩
    · cases hg
  · cases hg
end
/-- x.extend(a) -/
def sExt (i : Nat) (a : EM D) : SM := fun env g => match env[i]? with
  | some (.own ds) => (a env g).bind fun d g => match d with
    | .list es => if ds.length + es.length ≤ sizeLine then .ok (.next, env.set i (.own (ds ++ es))) g else .stuck
    | _ => .stuck
  | _ => .stuck
theorem Reps.app {K : PySem.W.Frag} {F : Hp} : ∀ {xs ys : List V} {ds es : List D}, Reps K F xs ds → Reps K F ys es → Reps K F (xs ++ ys) (ds ++ es)
  | _, _, _, _, .nil, r => r
  | _, _, _, _, .cons h t, r => .cons h (Reps.app t r)
section
variable {X : Cx} {C : Cz} {E : XK} {k i : Nat} {e : Expr} {fa : EM D} {x : Str} {pos : Pos}
theorem fs_ext {np ap cp : Pos} (t : Ties X C k) (hi : X.N[i]? = some x) (hv : Vis X.env.scope x) (ha : FE X C E e fa) (hd : (x == ("__debug__" : Str)) = false := by decide) (hcd : (x == ("__classdict__" : Str)) = false := by decide)
    (hbase : attributeBase (.Name x np) "extend" X.env (eval (.Name x np) X.env) = eval (.Name x np) X.env := by rfl)
    (hfew : ((backTo cp (starEach [e] X.env)).all (fun x => !x.1) && (backToKw cp (keywordEach [] X.env)).all (fun x => x.1.isSome)
      && decide ([e].length + ([] : List Keyword).length + (if ([] : List Keyword).isEmpty then 0 else 1) < 30)) = true := by rfl)
    (hline : (ap.endLine == cp.line) = true := by rfl) (hst : starEach [e] X.env = (false, eval e X.env) :: starEach [] X.env := by rfl) (hplain : (backTo cp (starEach [] X.env)).any (·.1) = false := by rfl)
    (hs : swapsWith (.Call (.Attribute (.Name x np) "extend" ap) [e] [] cp) none pos.line X.env = pure false := by rfl) :
    FS X C E (.Expr (.Call (.Attribute (.Name x np) "extend" ap) [e] [] cp) pos) (sExt i fa) := by
  refine (ps_expr (pe_bm PySem.F.plainAttrs_list PySem.F.slot_list_extend PySem.F.type_list_extend mt_extend (pe_var hi hv hd hcd) (pa_cons ha pa_nil hst) hbase hfew hline hst hplain) hs).impD fun D σ H ⟨F, env, g, S, h⟩ => ?_
  unfold sExt at h
  cases q : env[i]? with
  | none => rw [q] at h; exact (show False from h).elim
  | some sl =>
    rw [q] at h
    cases sl with
    | own ds =>
      obtain ⟨y, h1, p, vs, rfl, h3, h4, h5, h6⟩ := S.slot i _ q
      refine ⟨.ref p, h1, .inl ⟨rfl, vs, .inl (.inl h5)⟩, F, env, g, S, (RunS.bind (R := Rep C.K) h).imp fun v H1 ⟨F1, d1, g1, S1, gr1, r1, h7⟩ => ?_⟩
      obtain ⟨y2, k1, p2, ws, k2, k3, k4, k5, k6⟩ := S1.slot i _ q
      rw [h1] at k1
      cases k1
      cases k2
      match d1, r1, h7 with
      | .list es, r1, h7 =>
        have h8 : RunS C E F1 (if ds.length + es.length ≤ sizeLine then .ok (.next, env.set i (.own (ds ++ es))) g1 else .stuck) D := h7
        obtain ⟨b, zs, rfl, hb, hr⟩ := r1.list_inv
        split at h8
        · rename_i hz
          exact ⟨p, b, ws, zs, rfl, rfl, k5, S1.sub _ _ hb, by rw [k6.length, hr.length]; exact hz, h8 F1 _ σ (S1.ownTo q h1 (Reps.app k6 hr)) (Sub.refl _)⟩
        · exact (show False from h8).elim
    | un => exact (show False from h).elim
    | dat d => exact (show False from h).elim
    | hand => exact (show False from h).elim
    | fn a => exact (show False from h).elim
    | scr a => exact (show False from h).elim
    | ownd _ a => exact (show False from h).elim
end
end DL

set_option Elab.async false
set_option linter.all false
set_option maxRecDepth 100000
set_option maxHeartbeats 2000000
/-! min, max of data alike -/
namespace DL
open PySem PySem.Spec PyProof.Rows L2

def alikeD (ds : List D) : Bool := (ds.all fun d => ds.all fun e => PySem.W.alike d e) && (ds.all fun d => !isNoneD d) && flatDs ds && decide (PyData.depthAll ds ≤ 60)
def minXF : List D → Option D
  | [d] => match seqD d with
    | some (x :: xs) => if alikeD (x :: xs) = true then some (PySem.W.minD x xs) else none
    | _ => none
  | _ => none
def maxXF : List D → Option D
  | [d] => match seqD d with
    | some (x :: xs) => if alikeD (x :: xs) = true then some (PySem.W.maxD x xs) else none
    | _ => none
  | _ => none
theorem alikeD_iff {ds : List D} (h : alikeD ds = true) : PySem.W.AlikeAll ds ∧ flatDs ds = true ∧ PyData.depthAll ds ≤ 60 := by
  unfold alikeD at h
  rw [Bool.and_eq_true, Bool.and_eq_true, Bool.and_eq_true, decide_eq_true_eq] at h
  obtain ⟨⟨⟨h1, h2⟩, h3⟩, h4⟩ := h
  refine ⟨⟨fun d hd e he => List.all_eq_true.mp (List.all_eq_true.mp h1 d hd) e he, fun d hd z => ?_⟩, h3, h4⟩
  have := List.all_eq_true.mp h2 d hd
  rw [z] at this
  cases this
theorem fold_mem (f : D → D → Bool) : ∀ (xs : List D) (x : D), xs.foldl (fun a y => if f y a then y else a) x ∈ x :: xs
  | [], x => List.mem_singleton.mpr rfl
  | y :: ys, x => by
    have ih := fold_mem f ys (if f y x then y else x)
    rw [List.foldl_cons]
    rcases List.mem_cons.mp ih with e | m
    · rw [e]
      split
      · exact List.mem_cons_of_mem _ List.mem_cons_self
      · exact List.mem_cons_self
    · exact List.mem_cons_of_mem _ (List.mem_cons_of_mem _ m)
theorem minD_mem (x : D) (xs : List D) : PySem.W.minD x xs ∈ x :: xs := fold_mem (fun y a => PySem.W.dataLt y a) xs x
theorem maxD_mem (x : D) (xs : List D) : PySem.W.maxD x xs ∈ x :: xs := fold_mem (fun y a => PySem.W.dataLt a y) xs x
section
variable {X : Cx} {C : Cz} {k : Nat} {pins : List (Addr × Obj)} {σ : L2.St} {F H : Hp} {s : Shared}
theorem Vals.at {xs : List V} {us : List Value} (r : Vals xs us) {i : Nat} {u : Value} (h : us[i]? = some u) : ∃ x, xs[i]? = some x ∧ RelV x u := by
  have hl := r.length
  have hi : i < xs.length := by rw [hl]; exact (List.getElem?_eq_some_iff.mp h).1
  obtain ⟨u', h1, h2⟩ := r.get (i := i) (x := xs[i]) (List.getElem?_eq_getElem hi)
  rw [h] at h1
  cases h1
  exact ⟨_, List.getElem?_eq_getElem hi, h2⟩
theorem best_at (I : Inv X pins σ H s) (sb : Sub F H) {ys : List V} {ds : List D} {its : List Value} (h2 : Reps X.K F ys ds) (rv : Vals ys its) (al : PySem.W.AlikeAll ds) (fl : flatDs ds = true) {m : D} (hm : m ∈ ds) {i : Nat} {v : Value} {h' : Heap} {bs : List Addr}
    (hv : its[i]? = some v) (hr : Reads h' v m bs) (hk : ∀ b o, s.heap.get? b = some o → h'.get? b = some o) : ∃ y, RelV y v ∧ Rep X.K F y m := by
  obtain ⟨y, hy, ry⟩ := Vals.at rv hv
  have hi : i < ds.length := by rw [← h2.length]; exact (List.getElem?_eq_some_iff.mp hy).1
  obtain ⟨y', h3, h4⟩ := h2.get (i := i) (d := ds[i]) (List.getElem?_eq_getElem hi)
  rw [hy] at h3
  cases h3
  have hmem : ds[i] ∈ ds := List.getElem_mem hi
  have hf : flatD ds[i] = true := by
    have : ∀ (l : List D), flatDs l = true → ∀ d ∈ l, flatD d = true := fun l => by
      induction l with
      | nil => intro _ d hd; cases hd
      | cons a l ih =>
        intro h d hd
        simp only [flatDs, Bool.and_eq_true] at h
        rcases List.mem_cons.mp hd with e | e
        · rw [e]; exact h.1
        · exact ih h.2 d e
    exact this ds fl _ hmem
  obtain ⟨as, r1⟩ := reads_of I sb h4 ry hf
  have e : ds[i] = m := PySem.W.alike_unique _ _ _ _ _ (al.1 _ hmem _ hm) (PyProof.Rows.Reads.keeps hk r1) hr
  exact ⟨y, ry, e ▸ h4⟩
theorem cMinX (t : Ties X C (k + 1)) : CallR X (.builtin "min") (rC C minXF) := by
  intro pins s σ H xs us Q I r h
  obtain ⟨F, ds, z, sb, rd, hg, q⟩ := h
  rw [t.K] at rd q
  unfold minXF at hg
  split at hg
  · rename_i d
    cases q1 : seqD d with
    | none => rw [q1] at hg; cases hg
    | some ds =>
      rw [q1] at hg
      cases ds with
      | nil => cases hg
      | cons x0 xs0 =>
        have hg : (if alikeD (x0 :: xs0) = true then some (PySem.W.minD x0 xs0) else none) = some z := hg
        split at hg
        · rename_i ha
          cases hg
          obtain ⟨al, fl, hd⟩ := alikeD_iff ha
          obtain ⟨x, rfl, h0⟩ := rd.one
          obtain ⟨a, b, ys, rfl, h1, h2⟩ := seq_of h0 q1
          obtain ⟨its, rv, hl, hz⟩ := seqA I (sb.sq h1)
          rw [Vals.ref1 r]
          obtain ⟨as, ra⟩ := readsAll_of I sb h2 rv fl
          have hu := t.hu
          have go : ∀ (i : Nat) (v : Value) (h' : Heap) (tk : Nat) (bs : List Addr), its.toArray[i]? = some v → Reads h' v (PySem.W.minD x0 xs0) bs → (∀ b o, s.heap.get? b = some o → h'.get? b = some o) → EP X pins σ Q v { s with heap := h', toks := tk } := by
            intro i v h' tk bs hv hr hk
            obtain ⟨y, ry, rep⟩ := best_at I sb h2 rv al fl (minD_mem x0 xs0) (i := i) (by simpa using hv) hr hk
            exact ⟨y, H, I.kept (t' := tk) hk, ry, q F H y (Laid.refl sb) rep⟩
          cases b with
          | true => exact PySem.W.min_tuple_data (I.ok.hd t.calm) hl (by simpa using ra) al (by omega) go
          | false => exact PySem.W.min_list_data (I.ok.hd t.calm) hl (by simpa using ra) al (by omega) go
        · cases hg
  · cases hg
theorem cMaxX (t : Ties X C (k + 1)) : CallR X (.builtin "max") (rC C maxXF) := by
  intro pins s σ H xs us Q I r h
  obtain ⟨F, ds, z, sb, rd, hg, q⟩ := h
  rw [t.K] at rd q
  unfold maxXF at hg
  split at hg
  · rename_i d
    cases q1 : seqD d with
    | none => rw [q1] at hg; cases hg
    | some ds =>
      rw [q1] at hg
      cases ds with
      | nil => cases hg
      | cons x0 xs0 =>
        have hg : (if alikeD (x0 :: xs0) = true then some (PySem.W.maxD x0 xs0) else none) = some z := hg
        split at hg
        · rename_i ha
          cases hg
          obtain ⟨al, fl, hd⟩ := alikeD_iff ha
          obtain ⟨x, rfl, h0⟩ := rd.one
          obtain ⟨a, b, ys, rfl, h1, h2⟩ := seq_of h0 q1
          obtain ⟨its, rv, hl, hz⟩ := seqA I (sb.sq h1)
          rw [Vals.ref1 r]
          obtain ⟨as, ra⟩ := readsAll_of I sb h2 rv fl
          have hu := t.hu
          have go : ∀ (i : Nat) (v : Value) (h' : Heap) (tk : Nat) (bs : List Addr), its.toArray[i]? = some v → Reads h' v (PySem.W.maxD x0 xs0) bs → (∀ b o, s.heap.get? b = some o → h'.get? b = some o) → EP X pins σ Q v { s with heap := h', toks := tk } := by
            intro i v h' tk bs hv hr hk
            obtain ⟨y, ry, rep⟩ := best_at I sb h2 rv al fl (maxD_mem x0 xs0) (i := i) (by simpa using hv) hr hk
            exact ⟨y, H, I.kept (t' := tk) hk, ry, q F H y (Laid.refl sb) rep⟩
          cases b with
          | true => exact PySem.W.max_tuple_data (I.ok.hd t.calm) hl (by simpa using ra) al (by omega) go
          | false => exact PySem.W.max_list_data (I.ok.hd t.calm) hl (by simpa using ra) al (by omega) go
        · cases hg
  · cases hg
end
end DL

set_option Elab.async false
set_option linter.all false
set_option maxRecDepth 100000
set_option maxHeartbeats 2000000
/-! list(range(..)), tuple(range(..)) -/
namespace DL
open PySem PySem.Spec PyProof.Rows L2

def okRg (a b : Int) : Bool := okR a && okR b && decide ((b - a).toNat ≤ 2 ^ 24)
theorem okRg_iff {a b : Int} (h : okRg a b = true) : RgOk a b := by
  unfold okRg at h
  rw [Bool.and_eq_true, Bool.and_eq_true, okR_iff, okR_iff, decide_eq_true_eq] at h
  exact ⟨Int.le_of_lt h.1.1.1, h.1.1.2, Int.le_of_lt h.1.2.1, h.1.2.2, h.2⟩
theorem reps_ints {K : PySem.W.Frag} {F : Hp} (f : Nat → Int) : ∀ l : List Nat, Reps K F (l.map fun i => V.int (f i)) (l.map fun i => PyData.int (f i))
  | [] => .nil
  | _ :: l => .cons (.int _) (reps_ints f l)
theorem reps_rg {K : PySem.W.Frag} {F : Hp} (a b : Int) : Reps K F (rgV a b) (rng a (b - a).toNat) := reps_ints (fun i : Nat => a + (i : Int)) (List.range (b - a).toNat)
def eRgL1 (a : EM D) : EM (List D) := fun env g => (a env g).bind fun x g => match x with
  | .int n => if okRg 0 n = true then .ok (rng 0 (n - 0).toNat) g else .stuck
  | _ => .stuck
def eRgL2 (a b : EM D) : EM (List D) := fun env g => (a env g).bind fun x g => (b env g).bind fun y g => match x, y with
  | .int i, .int j => if okRg i j = true then .ok (rng i (j - i).toNat) g else .stuck
  | _, _ => .stuck
section
variable {X : Cx} {C : Cz} {E : XK} {k : Nat} {a b : Expr} {fa fb : EM D} {p p2 pos pos2 : Pos}
theorem rg1_core {σ : L2.St} {H : Hp} {Q : VK} (h : tN C E (eRgL1 fa) σ H Q) : tLstRg (tRg1 (tM C E (Rep C.K) fa)) σ H Q := by
  obtain ⟨F, env, g, S, h⟩ := h
  refine ⟨F, env, g, S, (RunN.bind (R := Rep C.K) h).imp fun v H1 ⟨F1, d, g1, S1, gr1, r1, h1⟩ => ?_⟩
  match d, r1, h1 with
  | .int n, r1, h1 =>
    cases r1.int_inv
    have h1 : RunN C E F1 H1 σ env (if okRg 0 n = true then .ok (rng 0 (n - 0).toNat) g1 else .stuck) Q := h1
    split at h1
    · rename_i hz
      exact ⟨n, rfl, okRg_iff hz, fun q hq => RunN.new S1 h1 hq (reps_rg 0 n)⟩
    · exact (show False from h1).elim
theorem rg2_core {σ : L2.St} {H : Hp} {Q : VK} (h : tN C E (eRgL2 fa fb) σ H Q) : tLstRg (tRg2 (tM C E (Rep C.K) fa) (tM C E (Rep C.K) fb)) σ H Q := by
  obtain ⟨F, env, g, S, h⟩ := h
  refine ⟨F, env, g, S, (RunN.bind (R := Rep C.K) h).imp fun v H1 ⟨F1, d, g1, S1, gr1, r1, h1⟩ => ?_⟩
  refine ⟨F1, env, g1, S1, (RunN.bind (R := Rep C.K) h1).imp fun w H2 ⟨F2, e, g2, S2, gr2, r2, h2⟩ => ?_⟩
  match d, e, r1, r2, h2 with
  | .int i, .int j, r1, r2, h2 =>
    cases r1.int_inv; cases r2.int_inv
    have h2 : RunN C E F2 H2 σ env (if okRg i j = true then .ok (rng i (j - i).toNat) g2 else .stuck) Q := h2
    split at h2
    · rename_i hz
      exact ⟨i, j, rfl, rfl, okRg_iff hz, fun q hq => RunN.new S2 h2 hq (reps_rg i j)⟩
    · exact (show False from h2).elim
theorem fn_listR1 (t : Ties X C (k + 1)) (hg : Gl X "list") (hm : X.mg "list" = none) (hg2 : Gl X "range") (hm2 : X.mg "range" = none) (ha : FE X C E a fa)
    (na : starEach [a] X.env = (false, eval a X.env) :: starEach [] X.env := by rfl)
    (na2 : starEach [.Call (.Name "range" p2) [a] [] pos2] X.env = (false, eval (.Call (.Name "range" p2) [a] [] pos2) X.env) :: starEach [] X.env := by rfl) :
    FN X C E (.Call (.Name "list" p) [.Call (.Name "range" p2) [a] [] pos2] [] pos) (eRgL1 fa) :=
  (pe_listRg t.calm hg hm (prg_1 hg2 hm2 ha na) na2).impD fun _ _ _ h => rg1_core h
theorem fn_listR2 (t : Ties X C (k + 1)) (hg : Gl X "list") (hm : X.mg "list" = none) (hg2 : Gl X "range") (hm2 : X.mg "range" = none) (ha : FE X C E a fa) (hb : FE X C E b fb)
    (na : starEach [a, b] X.env = (false, eval a X.env) :: starEach [b] X.env := by rfl) (nb : starEach [b] X.env = (false, eval b X.env) :: starEach [] X.env := by rfl) (hp : (backTo pos2 (starEach [b] X.env)).any (·.1) = false := by rfl)
    (na2 : starEach [.Call (.Name "range" p2) [a, b] [] pos2] X.env = (false, eval (.Call (.Name "range" p2) [a, b] [] pos2) X.env) :: starEach [] X.env := by rfl) :
    FN X C E (.Call (.Name "list" p) [.Call (.Name "range" p2) [a, b] [] pos2] [] pos) (eRgL2 fa fb) :=
  (pe_listRg t.calm hg hm (prg_2 hg2 hm2 ha hb na nb hp) na2).impD fun _ _ _ h => rg2_core h
def eRgT1 (a : EM D) : EM D := fun env g => (a env g).bind fun x g => match x with
  | .int n => if okRg 0 n = true then .ok (.tuple (rng 0 (n - 0).toNat)) g else .stuck
  | _ => .stuck
def eRgT2 (a b : EM D) : EM D := fun env g => (a env g).bind fun x g => (b env g).bind fun y g => match x, y with
  | .int i, .int j => if okRg i j = true then .ok (.tuple (rng i (j - i).toNat)) g else .stuck
  | _, _ => .stuck
theorem fe_tupR1 (t : Ties X C (k + 1)) (hg : Gl X "tuple") (hm : X.mg "tuple" = none) (hg2 : Gl X "range") (hm2 : X.mg "range" = none) (ha : FE X C E a fa)
    (na : starEach [a] X.env = (false, eval a X.env) :: starEach [] X.env := by rfl)
    (na2 : starEach [.Call (.Name "range" p2) [a] [] pos2] X.env = (false, eval (.Call (.Name "range" p2) [a] [] pos2) X.env) :: starEach [] X.env := by rfl) :
    FE X C E (.Call (.Name "tuple" p) [.Call (.Name "range" p2) [a] [] pos2] [] pos) (eRgT1 fa) := by
  refine (pe_tupRg t.calm hg hm (prg_1 hg2 hm2 ha na) na2).impD fun σ H Q ⟨F, env, g, S, h⟩ => ?_
  refine ⟨F, env, g, S, (Run.bind (R := Rep C.K) h).imp fun v H1 ⟨F1, d, g1, S1, gr1, r1, h1⟩ => ?_⟩
  match d, r1, h1 with
  | .int n, r1, h1 =>
    cases r1.int_inv
    have h1 : Run C E (Rep C.K) F1 H1 σ env (if okRg 0 n = true then .ok (.tuple (rng 0 (n - 0).toNat)) g1 else .stuck) Q := h1
    split at h1
    · rename_i hz
      refine ⟨n, rfl, okRg_iff hz, fun q hq => ?_⟩
      obtain ⟨l, r⟩ := lay_tup S1.sub hq (K := C.K) (reps_rg 0 n)
      exact Run.val S1 h1 _ _ _ l r
    · exact (show False from h1).elim
theorem fe_tupR2 (t : Ties X C (k + 1)) (hg : Gl X "tuple") (hm : X.mg "tuple" = none) (hg2 : Gl X "range") (hm2 : X.mg "range" = none) (ha : FE X C E a fa) (hb : FE X C E b fb)
    (na : starEach [a, b] X.env = (false, eval a X.env) :: starEach [b] X.env := by rfl) (nb : starEach [b] X.env = (false, eval b X.env) :: starEach [] X.env := by rfl) (hp : (backTo pos2 (starEach [b] X.env)).any (·.1) = false := by rfl)
    (na2 : starEach [.Call (.Name "range" p2) [a, b] [] pos2] X.env = (false, eval (.Call (.Name "range" p2) [a, b] [] pos2) X.env) :: starEach [] X.env := by rfl) :
    FE X C E (.Call (.Name "tuple" p) [.Call (.Name "range" p2) [a, b] [] pos2] [] pos) (eRgT2 fa fb) := by
  refine (pe_tupRg t.calm hg hm (prg_2 hg2 hm2 ha hb na nb hp) na2).impD fun σ H Q ⟨F, env, g, S, h⟩ => ?_
  refine ⟨F, env, g, S, (Run.bind (R := Rep C.K) h).imp fun v H1 ⟨F1, d, g1, S1, gr1, r1, h1⟩ => ?_⟩
  refine ⟨F1, env, g1, S1, (Run.bind (R := Rep C.K) h1).imp fun w H2 ⟨F2, e, g2, S2, gr2, r2, h2⟩ => ?_⟩
  match d, e, r1, r2, h2 with
  | .int i, .int j, r1, r2, h2 =>
    cases r1.int_inv; cases r2.int_inv
    have h2 : Run C E (Rep C.K) F2 H2 σ env (if okRg i j = true then .ok (.tuple (rng i (j - i).toNat)) g2 else .stuck) Q := h2
    split at h2
    · rename_i hz
      refine ⟨i, j, rfl, rfl, okRg_iff hz, fun q hq => ?_⟩
      obtain ⟨l, r⟩ := lay_tup S2.sub hq (K := C.K) (reps_rg i j)
      exact Run.val S2 h2 _ _ _ l r
    · exact (show False from h2).elim
def eNewL (f : EM (List D)) : EM D := fun env g => (f env g).bind fun ys g => .ok (.list ys) g
theorem fe_newL {e : Expr} {f : EM (List D)} (h : FN X C E e f) : FE X C E e (eNewL f) := fe_new h
end
end DL

set_option Elab.async false
set_option linter.all false
set_option maxRecDepth 100000
set_option maxHeartbeats 2000000
/-! x[i] op= e -/
namespace DL
open PySem PySem.Spec PyProof.Rows L2
section
variable {X : Cx}
theorem get_listP : PGet X (rIxL X.K) := by
  intro pins s σ H x y v u Q I rx ry h
  obtain ⟨p, xs, i, z, rfl, rfl, hq, he, q⟩ := h
  cases rx
  obtain ⟨t, rfl⟩ := ry
  obtain ⟨its, r, pl, hz⟩ := I.list hq
  obtain ⟨j, h1, h2, h3, h4, h5⟩ := atI_get he
  obtain ⟨w, ew, rw'⟩ := r.get h2
  have hl := r.length
  have hn := line63
  have fin : EP X pins σ Q w s := ⟨z, H, I, rw', q⟩
  by_cases h0 : 0 ≤ i
  · have hj : i.toNat = j := by
      rw [seqIndex_of h0 h5] at h1
      exact Option.some.inj h1
    exact wpAny_getItem_list pl.isList h0 (by omega) (by rw [hj]; simpa using ew) fin
  · have hj : (i + (its.toArray.size : Int)).toNat = j := by
      rw [seqIndex_neg (by omega) h4] at h1
      rw [List.size_toArray, ← hl]
      exact Option.some.inj h1
    exact wpAny_getItem_list_neg pl.isList (by omega) (by rw [List.size_toArray] <;> omega) (by omega) (by rw [hj]; simpa using ew) fin
end
section
variable {X : Cx} {C : Cz} {E : XK} {k i : Nat} {b e : Expr} {fa fb : EM D} {x : Str} {pos : Pos}
theorem atI_of_ixN {α : Type} {xs : List α} {j : Int} {n : Nat} (h : ixN xs.length j = some n) : atI xs j = xs[n]? := by
  unfold atI
  rw [h]
  rfl
theorem fs_augAt {o : Operator} {op : D → D → Option D} {np tp : Pos} (t : Ties X C k) (hi : X.N[i]? = some x) (hv : Vis X.env.scope x) (hb : FE X C E b fb) (ha : FE X C E e fa) (hop : PIp X o (fun x y H Q => rO C op x y H Q)) (hd : (x == ("__debug__" : Str)) = false := by decide) (hcd : (x == ("__classdict__" : Str)) = false := by decide)
    (hA : ∀ ov iv new, augStore b ov iv new = (do holding [new, ov, iv] (setItem ov iv new); release [new, ov, iv] []; pure .next) := by intros; rfl) :
    FS X C E (.AugAssign (.Subscript (.Name x np) b tp) o e pos) (sAugAt i op fb fa) := by
  refine (ps_augS (pe_var hi hv hd hcd) hb get_listP ha hop set_list hA).impD fun D σ H ⟨F, env, g, S, h⟩ => ?_
  unfold sAugAt at h
  cases q : env[i]? with
  | none => rw [q] at h; exact (show False from h).elim
  | some sl =>
    rw [q] at h
    cases sl with
    | own ds =>
      obtain ⟨y, hy, p, vs, rfl, h3, h4, h5, h6⟩ := S.slot i _ q
      refine ⟨.ref p, hy, F, env, g, S, (RunS.bind (R := Rep C.K) h).imp fun w H2 ⟨F2, d2, g2, S2, gr2, r2, h8⟩ => ?_⟩
      obtain ⟨y2, k1, p2, ws, k2, k3, k4, k5, k6⟩ := S2.slot i _ q
      rw [hy] at k1
      cases k1
      cases k2
      match d2, r2, h8 with
      | .int j, r2, h8 =>
        cases r2.int_inv
        have h9 : RunS C E F2 (match ixN ds.length j with
          | some n => match ds[n]? with
            | some x => (fa env g2).bind fun y g => match op x y with
              | some z => .ok (.next, env.set i (.own (ds.set n z))) g
              | none => .stuck
            | none => .stuck
          | none => .stuck) D := h8
        cases q9 : ixN ds.length j with
        | none => rw [q9] at h9; exact (show False from h9).elim
        | some n =>
          rw [q9] at h9
          have h9 : RunS C E F2 (match ds[n]? with
            | some x => (fa env g2).bind fun y g => match op x y with
              | some z => .ok (.next, env.set i (.own (ds.set n z))) g
              | none => .stuck
            | none => .stuck) D := h9
          cases q10 : ds[n]? with
          | none => rw [q10] at h9; exact (show False from h9).elim
          | some d =>
            rw [q10] at h9
            obtain ⟨v, e1, rv⟩ := k6.get q10
            have q9' : ixN ws.length j = some n := by rw [k6.length]; exact q9
            refine ⟨p, ws, j, v, rfl, rfl, .inl (.inl k5), by rw [atI_of_ixN q9']; exact e1, F2, env, g2, S2, (RunS.bind (R := Rep C.K) h9).imp fun y H3 ⟨F3, d3, g3, S3, gr3, r3, h10⟩ => ?_⟩
            obtain ⟨y3, j1, p3, us, j2, j3, j4, j5, j6⟩ := S3.slot i _ q
            rw [hy] at j1
            cases j1
            cases j2
            have h10 : RunS C E F3 (match op d d3 with
              | some z => .ok (.next, env.set i (.own (ds.set n z))) g3
              | none => .stuck) D := h10
            cases q11 : op d d3 with
            | none => rw [q11] at h10; exact (show False from h10).elim
            | some z =>
              rw [q11] at h10
              refine ⟨F3, d, d3, z, S3.sub, rv.mono gr3.frz, r3, q11, fun F' H' w l rw' => ?_⟩
              have S4 := S3.laid l
              obtain ⟨y4, l1, p4, ts, l2, l3, l4, l5, l6⟩ := S4.slot i _ q
              rw [hy] at l1
              cases l1
              cases l2
              exact ⟨p, ts, j, n, rfl, rfl, l5, by rw [l6.length]; exact q9, h10 F' _ σ (S4.ownTo q hy (l6.set rw' n)) l.frz⟩
    | un => exact (show False from h).elim
    | dat d => exact (show False from h).elim
    | hand => exact (show False from h).elim
    | fn a => exact (show False from h).elim
    | scr a => exact (show False from h).elim
    | ownd _ a => exact (show False from h).elim
end
end DL

set_option Elab.async false
set_option linter.all false
set_option maxRecDepth 100000
set_option maxHeartbeats 2000000
/-! own dicts of the frame -/
namespace DL
open PySem PySem.Spec PyProof.Rows L2
section
variable {C : Cz} {F H : Hp} {σ : L2.St} {env : List Sl} {g : G}
/-- an own thing is put in its place -/
theorem SOK.setSl (S : SOK C F H σ env g) {p : Addr} {sl : Sl} (w : isOwn sl = true) (ok : SlotOK C F H sl (some (.ref p))) (no : NoO σ env p) (i : Nat) : SOK C F H (σ.set i (some (.ref p))) (env.set i sl) g where
  grow := S.grow
  sub := S.sub
  ntb := S.ntb
  tabs := S.tabs
  hand := S.hand
  len := by rw [List.length_set, List.length_set]; exact S.len
  slot := fun j sl' e => by
    by_cases h : i = j
    · subst h
      have hl : i < env.length := by
        have := (List.getElem?_eq_some_iff.mp e).1
        rwa [List.length_set] at this
      rw [List.getElem?_set_self hl] at e
      cases e
      exact ⟨some (.ref p), by rw [List.getElem?_set_self (by rw [← S.len]; exact hl)], ok⟩
    · rw [List.getElem?_set_ne h] at e
      obtain ⟨x, h1, h2⟩ := S.slot j sl' e
      exact ⟨x, by rw [List.getElem?_set_ne h]; exact h1, h2⟩
  apart := fun u v a ds1 ds2 e1 e2 o1 o2 e3 e4 => by
    by_cases hu : i = u
    · by_cases hv : i = v
      · rw [← hu, ← hv]
      · subst hu
        rw [List.getElem?_set_ne hv] at e2 e4
        have hl : i < σ.length := by
          have := (List.getElem?_eq_some_iff.mp e3).1
          rwa [List.length_set] at this
        rw [List.getElem?_set_self hl] at e3
        cases e3
        exact absurd e4 (no v ds2 e2 o2)
    · by_cases hv : i = v
      · subst hv
        rw [List.getElem?_set_ne hu] at e1 e3
        have hl : i < σ.length := by
          have := (List.getElem?_eq_some_iff.mp e4).1
          rwa [List.length_set] at this
        rw [List.getElem?_set_self hl] at e4
        cases e4
        exact absurd e3 (no u ds1 e1 o1)
      · rw [List.getElem?_set_ne hu] at e1 e3
        rw [List.getElem?_set_ne hv] at e2 e4
        exact S.apart u v a ds1 ds2 e1 e2 o1 o2 e3 e4
/-- an own thing is written -/
theorem SOK.ownSl (S : SOK C F H σ env g) {i : Nat} {sl sl' : Sl} {p : Addr} {o' : HO} (e : env[i]? = some sl) (w : isOwn sl = true) (w' : isOwn sl' = true) (hs : σ[i]? = some (some (.ref p))) (ok : SlotOK C F (upd H p o') sl' (some (.ref p))) : SOK C F (upd H p o') σ (env.set i sl') g := by
  obtain ⟨x, h1, h2⟩ := S.slot i _ e
  obtain ⟨a, o, h3, hF, h0, hp, hw⟩ := h2.own w
  rw [hs] at h1
  cases h1
  cases h3
  have hl : i < env.length := (List.getElem?_eq_some_iff.mp e).1
  exact {
    grow := ⟨fun b o h n t => by
        rw [upd_ne (fun z => by subst z; rw [h0] at h; cases h)]
        exact S.grow.keep b o h n t, S.grow.frz, S.grow.new, fun b h => by
        by_cases z : b = p
        · rw [z]; exact h0
        · rw [upd_ne z] at h; exact S.grow.there b h⟩
    sub := fun b o q => by
      rw [upd_ne (fun z => by subst z; rw [hF] at q; cases q)]
      exact S.sub b o q
    ntb := S.ntb
    tabs := fun q hq => by
      obtain ⟨ps, t1, t2, t3⟩ := S.tabs q hq
      refine ⟨ps, by rw [upd_ne (fun z => by rw [z, hp] at t1; cases t1; exact hw.notT _ rfl)]; exact t1, t2, fun pos cv hcv => ?_⟩
      obtain ⟨c, e1, e2⟩ := t3 pos cv hcv
      exact ⟨c, e1, by rw [upd_ne (fun z => by rw [z, hp] at e2; exact hw.notC (Option.some.inj e2))]; exact e2⟩
    hand := fun b eb => by
      obtain ⟨z1, ⟨z2, z3⟩, z4⟩ := S.hand b eb
      exact ⟨z1, ⟨by rw [upd_ne (fun z => z4 (by rw [z]; exact h0))]; exact z2, z3⟩, z4⟩
    len := by rw [List.length_set]; exact S.len
    slot := fun j sl2 q => by
      by_cases hj : i = j
      · subst hj
        rw [List.getElem?_set_self hl] at q
        cases q
        exact ⟨_, hs, ok⟩
      · rw [List.getElem?_set_ne hj] at q
        obtain ⟨y, h3, h4⟩ := S.slot j sl2 q
        refine ⟨y, h3, ?_⟩
        cases sl2 with
        | own ds2 =>
          obtain ⟨b, ws, rfl, h6, h7, h8, h9⟩ := h4
          exact ⟨b, ws, rfl, h6, h7, by rw [upd_ne (fun z => hj (S.apart i j p _ _ e q w rfl hs (by rw [← z]; exact h3)))]; exact h8, h9⟩
        | ownd _ ds2 =>
          obtain ⟨b, ws, rfl, h6, h7, h8, h9⟩ := h4
          exact ⟨b, ws, rfl, h6, h7, by rw [upd_ne (fun z => hj (S.apart i j p _ _ e q w rfl hs (by rw [← z]; exact h3)))]; exact h8, h9⟩
        | un => trivial
        | dat d => exact h4
        | hand => exact h4
        | fn a => exact h4
        | scr a => exact h4
    apart := fun u v a ds1 ds2 e1 e2 o1 o2 e3 e4 => by
      have get : ∀ {u : Nat} {ds1 : Sl}, (env.set i sl')[u]? = some ds1 → isOwn ds1 = true → ∃ ds2, env[u]? = some ds2 ∧ isOwn ds2 = true := fun {u ds1} q w2 => by
        by_cases hu : i = u
        · subst hu; exact ⟨_, e, w⟩
        · rw [List.getElem?_set_ne hu] at q; exact ⟨_, q, w2⟩
      obtain ⟨d1, k1, w1⟩ := get e1 o1
      obtain ⟨d2, k2, w2⟩ := get e2 o2
      exact S.apart u v a d1 d2 k1 k2 w1 w2 e3 e4 }
/-- an own dict, from here on not changed -/
theorem SOK.frozenD (S : SOK C F H σ env g) {i : Nat} {b : Bool} {kvs : List (D × D)} (e : env[i]? = some (.ownd b kvs)) : ∃ F', SOK C F' H σ (env.set i (.dat (.dict kvs))) g ∧ Sub F F' := by
  obtain ⟨y, h1, p, o, rfl, h3, h4, h5, h6⟩ := S.slot i _ e
  have hl : i < env.length := (List.getElem?_eq_some_iff.mp e).1
  have S1 : SOK C F H σ (env.set i .un) g := {
    grow := S.grow, sub := S.sub, ntb := S.ntb, tabs := S.tabs, hand := S.hand
    len := by rw [List.length_set]; exact S.len
    slot := fun j sl q => by
      by_cases hj : i = j
      · subst hj
        rw [List.getElem?_set_self hl] at q
        cases q
        exact ⟨_, h1, trivial⟩
      · rw [List.getElem?_set_ne hj] at q
        exact S.slot j sl q
    apart := fun u v a ds1 ds2 e1 e2 o1 o2 e3 e4 => by
      have ne : ∀ {u : Nat} {ds1 : Sl}, (env.set i .un)[u]? = some ds1 → isOwn ds1 = true → env[u]? = some ds1 := fun {u ds1} q w => by
        by_cases hu : i = u
        · subst hu; rw [List.getElem?_set_self hl] at q; cases q; cases w
        · rw [List.getElem?_set_ne hu] at q; exact q
      exact S.apart u v a ds1 ds2 (ne e1 o1) (ne e2 o2) o1 o2 e3 e4 }
  have no : NoO σ (env.set i .un) p := fun j ds2 q w z => by
    by_cases hj : i = j
    · subst hj; rw [List.getElem?_set_self hl] at q; cases q; cases w
    · rw [List.getElem?_set_ne hj] at q
      exact hj (S.apart i j p _ _ e q rfl w h1 z)
  have S2 := S1.freeze h3 h4 h5 h6.own.notT no
  refine ⟨upd F p o, ?_, sub_upd h3⟩
  have S3 := S2.setDat (v := .ref p) (d := .dict kvs) ((h6.mono (sub_upd h3)).rep upd_same) i
  rw [List.set_set] at S3
  have e1 : σ.set i (some (.ref p)) = σ := by
    apply List.ext_getElem?
    intro j
    by_cases hj : i = j
    · subst hj; rw [List.getElem?_set_self (by rw [← S.len]; exact hl), h1]
    · rw [List.getElem?_set_ne hj]
  rw [e1] at S3
  exact S3
end
def sSetD (b : Bool) (i : Nat) : SM := fun env g => .ok (.next, env.set i (.ownd b [])) g
def sPutD (i : Nat) (ix a : EM D) : SM := fun env g => match env[i]? with
  | some (.ownd b kvs) => (a env g).bind fun v g => (ix env g).bind fun k g => if (!b && keyOk false k && decide (kvs.length < sizeLine)) = true then .ok (.next, env.set i (.ownd b (putKD kvs k v))) g else .stuck
  | _ => .stuck
def sFrzD (i : Nat) (m : SM) : SM := fun env g => match env[i]? with
  | some (.ownd _ kvs) => m (env.set i (.dat (.dict kvs))) g
  | _ => .stuck
section
variable {X : Cx} {C : Cz} {E : XK} {k i : Nat} {a b e : Expr} {fa fb : EM D} {x : Str} {pos dp : Pos} {sts : List Stmt} {m : SM}
theorem fs_setDK {pos' : Pos} (t : Ties X C k) (hi : X.N[i]? = some x) (hx : Loc X.env.scope x) (hs : swapsWith (.Dict [] [] dp) (some (.Name x pos')) pos.line X.env = pure false := by rfl) (hf : X.fn x = true ∨ X.env.scope.names.lookup x = some .local := by first | exact .inl rfl | exact .inr rfl | assumption) :
    FS X C E (.Assign [.Name x pos'] (.Dict [] [] dp) pos) (sSetD false i) := by
  refine (ps_set t.nd hi hx pe_dnewK hs hf).impD fun D σ H ⟨F, env, g, S, h⟩ => ?_
  intro p n
  have S1 : SOK C F (upd H p (.dK [])) σ env g := S.pokeO (S.sub.free n) (S.grow.there p n) (fun ps z => by rw [n] at z; cases z) (fun φ z => by rw [n] at z; cases z) (S.noOwn n)
  have no : NoO σ env p := S.noOwn n
  exact h F _ _ (S1.setSl (sl := .ownd false []) rfl ⟨p, .dK [], rfl, S.sub.free n, S.grow.there p n, upd_same, [], rfl, rfl, .nil⟩ no i) (Sub.refl _)
theorem fs_putD {np tp : Pos} (t : Ties X C k) (hi : X.N[i]? = some x) (hv : Vis X.env.scope x) (hb : FE X C E b fb) (ha : FE X C E e fa) (hd : (x == ("__debug__" : Str)) = false := by decide) (hcd : (x == ("__classdict__" : Str)) = false := by decide)
    (hs : swapsWith e (some (.Subscript (.Name x np) b tp)) pos.line X.env = pure false := by rfl) :
    FS X C E (.Assign [.Subscript (.Name x np) b tp] e pos) (sPutD i fb fa) := by
  have hu : X.A.units + 1 < cLine := by have := t.hu; omega
  refine (ps_dput hu (pe_var hi hv hd hcd) hb ha hs).impD fun D σ H ⟨F, env, g, S, h⟩ => ?_
  unfold sPutD at h
  cases q : env[i]? with
  | none => rw [q] at h; exact (show False from h).elim
  | some sl =>
    rw [q] at h
    cases sl with
    | ownd bb kvs =>
      refine ⟨F, env, g, S, (RunS.bind (R := Rep C.K) h).imp fun v H1 ⟨F1, d1, g1, S1, gr1, r1, h7⟩ => ?_⟩
      obtain ⟨y, hy, p, o, rfl, h3, h4, h5, h6⟩ := S1.slot i _ q
      refine ⟨.ref p, hy, F1, env, g1, S1, (RunS.bind (R := Rep C.K) h7).imp fun w H2 ⟨F2, d2, g2, S2, gr2, r2, h8⟩ => ?_⟩
      obtain ⟨y2, k1, p2, o2, k2, k3, k4, k5, k6⟩ := S2.slot i _ q
      rw [hy] at k1
      cases k1
      cases k2
      have h8 : RunS C E F2 (if (!bb && keyOk false d2 && decide (kvs.length < sizeLine)) = true then .ok (.next, env.set i (.ownd bb (putKD kvs d2 d1))) g2 else .stuck) D := h8
      split at h8
      · rename_i hz
        rw [Bool.and_eq_true, Bool.and_eq_true, decide_eq_true_eq] at hz
        cases bb with
        | true => cases hz.1.1
        | false =>
          obtain ⟨kk, rfl, e1, e2⟩ := k6
          have hk : (keyO d2).isSome = true := hz.1.2
          cases qk : keyO d2 with
          | none => rw [qk] at hk; cases hk
          | some kx =>
            obtain ⟨rfl, rfl⟩ := r2.key_inv qk
            obtain ⟨f1, f2⟩ := put_rel keyD eqv_keyD (r1.mono gr2.frz) e1 e2 kx
            have hl : kk.length < sizeLine := by
              have := congrArg List.length e1
              rw [List.length_map, List.length_map] at this
              omega
            refine ⟨p, _, rfl, DPut.k k5 hl, h8 F2 _ σ (S2.ownSl q rfl rfl hy ?_) (Sub.refl _)⟩
            exact ⟨p, _, rfl, k3, k4, upd_same, _, rfl, f1, f2⟩
      · exact (show False from h8).elim
    | un => exact (show False from h).elim
    | dat d => exact (show False from h).elim
    | hand => exact (show False from h).elim
    | fn a => exact (show False from h).elim
    | scr a => exact (show False from h).elim
    | own a => exact (show False from h).elim
theorem fss_frzD (h : FSs X C E sts m) : FSs X C E sts (sFrzD i m) := by
  refine h.impD fun D σ H ⟨F, env, g, S, h⟩ => ?_
  unfold sFrzD at h
  cases q : env[i]? with
  | none => rw [q] at h; exact (show False from h).elim
  | some sl =>
    rw [q] at h
    cases sl with
    | ownd bb kvs =>
      obtain ⟨F', S', sb⟩ := S.frozenD q
      exact ⟨F', _, g, S', RunS.shift sb h⟩
    | un => exact (show False from h).elim
    | dat d => exact (show False from h).elim
    | hand => exact (show False from h).elim
    | fn a => exact (show False from h).elim
    | scr a => exact (show False from h).elim
    | own a => exact (show False from h).elim
end
end DL

set_option Elab.async false
set_option linter.all false
set_option maxRecDepth 100000
set_option maxHeartbeats 2000000
/-! methods of lists, slices backwards -/
namespace DL
open PySem PySem.Spec PyProof.Rows L2

/-- o.m(a), o of one kind -/
def eMeth (ty : D → Bool) (op : D → D → Option D) (a b : EM D) : EM D := fun env g => (a env g).bind fun x g => if ty x = true then (b env g).bind fun y g => Out.of (op x y) g else .stuck
def lixD : D → D → Option D
  | .list xs, d => if (okD (.list xs) && okD d) = true then (xs.findIdx? fun z => PyData.eqv z d).map fun j => .int (j : Nat) else none
  | _, _ => none
def lcntD : D → D → Option D
  | .list xs, .int k => (allInts xs).map fun ns => .int (ns.count k : Nat)
  | _, _ => none
theorem isListD_ex {d : D} (h : isListD d = true) : ∃ xs, d = .list xs := by
  cases d with
  | list xs => exact ⟨xs, rfl⟩
  | _ => cases h
section
variable {X : Cx} {C : Cz} {E : XK} {k : Nat} {a b : Expr} {fa fb : EM D} {ap cp : Pos}
theorem fe_lix (t : Ties X C (k + 1)) (ha : FE X C E a fa) (hb : FE X C E b fb)
    (hbase : attributeBase a "index" X.env (eval a X.env) = eval a X.env := by rfl)
    (hfew : ((backTo cp (starEach [b] X.env)).all (fun x => !x.1) && (backToKw cp (keywordEach [] X.env)).all (fun x => x.1.isSome)
      && decide ([b].length + ([] : List Keyword).length + (if ([] : List Keyword).isEmpty then 0 else 1) < 30)) = true := by rfl)
    (hline : (ap.endLine == cp.line) = true := by rfl) (hst : starEach [b] X.env = (false, eval b X.env) :: starEach [] X.env := by rfl) (hplain : (backTo cp (starEach [] X.env)).any (·.1) = false := by rfl) :
    FE X C E (.Call (.Attribute a "index" ap) [b] [] cp) (eMeth isListD lixD fa fb) := by
  have hu : X.A.units + 65 < cLine := by have := t.room.un; omega
  refine (pe_bm PySem.F.plainAttrs_list PySem.F.slot_list_index PySem.F.type_list_index (mt_indexD hu) ha (pa_cons hb pa_nil hst) hbase hfew hline hst hplain).impD fun σ H Q ⟨F, env, g, S, h⟩ => ?_
  refine ⟨F, env, g, S, (Run.bind (R := Rep C.K) h).imp fun x H1 ⟨F1, d1, g1, S1, gr1, r1, h1⟩ => ?_⟩
  have h1 : Run C E (Rep C.K) F1 H1 σ env (if isListD d1 = true then (fb env g1).bind fun y g => Out.of (lixD d1 y) g else .stuck) Q := h1
  split at h1
  · rename_i hl
    obtain ⟨xs, rfl⟩ := isListD_ex hl
    obtain ⟨p, vs, rfl, h3, h4⟩ := r1.list_inv
    refine ⟨.inl ⟨rfl, vs, .inl (.inl (S1.sub _ _ h3))⟩, F1, env, g1, S1, (Run.bind (R := Rep C.K) h1).imp fun y H2 ⟨F2, d2, g2, S2, gr2, r2, h2⟩ => ?_⟩
    obtain ⟨z, e1, q⟩ := Run.of S2 h2
    have e1 : (if (okD (.list xs) && okD d2) = true then (xs.findIdx? fun z => PyData.eqv z d2).map fun j => PyData.int (j : Nat) else none) = some z := e1
    split at e1
    · rename_i hz
      rw [Bool.and_eq_true] at hz
      obtain ⟨j, hj, rfl⟩ := Option.map_eq_some_iff.mp e1
      obtain ⟨hjl, hj1, hj2⟩ := List.findIdx?_eq_some_iff_getElem.mp hj
      have rl : Rep X.K F2 (.ref p) (.list xs) := by rw [← t.K]; exact .lst (gr2.frz _ _ h3) (h4.mono gr2.frz)
      have rd : Rep X.K F2 y d2 := by rw [← t.K]; exact r2
      refine ⟨p, y, d2, xs, j, xs[j], rfl, rfl, Rep.dp S2.sub _ _ (okD_flat hz.1) rl, Rep.dp S2.sub _ _ (okD_flat hz.2) rd, hz.1, hz.2, List.getElem?_eq_getElem hjl, hj1, fun m z' hm hz' => ?_, q F2 H2 _ (Laid.refl S2.sub) (.int _)⟩
      have hml : m < xs.length := by omega
      rw [List.getElem?_eq_getElem hml] at hz'
      cases hz'
      have := hj2 m hm
      simpa using this
    · cases e1
  · exact (show False from h1).elim
theorem fe_lcnt (t : Ties X C k) (ha : FE X C E a fa) (hb : FE X C E b fb)
    (hbase : attributeBase a "count" X.env (eval a X.env) = eval a X.env := by rfl)
    (hfew : ((backTo cp (starEach [b] X.env)).all (fun x => !x.1) && (backToKw cp (keywordEach [] X.env)).all (fun x => x.1.isSome)
      && decide ([b].length + ([] : List Keyword).length + (if ([] : List Keyword).isEmpty then 0 else 1) < 30)) = true := by rfl)
    (hline : (ap.endLine == cp.line) = true := by rfl) (hst : starEach [b] X.env = (false, eval b X.env) :: starEach [] X.env := by rfl) (hplain : (backTo cp (starEach [] X.env)).any (·.1) = false := by rfl) :
    FE X C E (.Call (.Attribute a "count" ap) [b] [] cp) (eMeth isListD lcntD fa fb) := by
  refine (pe_bm PySem.F.plainAttrs_list PySem.F.slot_list_count PySem.F.type_list_count mt_lcount ha (pa_cons hb pa_nil hst) hbase hfew hline hst hplain).impD fun σ H Q ⟨F, env, g, S, h⟩ => ?_
  refine ⟨F, env, g, S, (Run.bind (R := Rep C.K) h).imp fun x H1 ⟨F1, d1, g1, S1, gr1, r1, h1⟩ => ?_⟩
  have h1 : Run C E (Rep C.K) F1 H1 σ env (if isListD d1 = true then (fb env g1).bind fun y g => Out.of (lcntD d1 y) g else .stuck) Q := h1
  split at h1
  · rename_i hl
    obtain ⟨xs, rfl⟩ := isListD_ex hl
    obtain ⟨p, vs, rfl, h3, h4⟩ := r1.list_inv
    refine ⟨.inl ⟨rfl, vs, .inl (.inl (S1.sub _ _ h3))⟩, F1, env, g1, S1, (Run.bind (R := Rep C.K) h1).imp fun y H2 ⟨F2, d2, g2, S2, gr2, r2, h2⟩ => ?_⟩
    obtain ⟨z, e1, q⟩ := Run.of S2 h2
    match d2, r2, e1 with
    | .int k, r2, e1 =>
      have e1 : (allInts xs).map (fun ns => PyData.int (ns.count k : Nat)) = some z := e1
      cases r2.int_inv
      obtain ⟨ns, hn, rfl⟩ := Option.map_eq_some_iff.mp e1
      have e := allInts_eq hn
      subst e
      have e2 := Reps.ints h4
      subst e2
      exact ⟨p, ns, k, rfl, rfl, .inl (.inl (S2.sub _ _ (gr2.frz _ _ h3))), q F2 H2 _ (Laid.refl S2.sub) (.int _)⟩
  · exact (show False from h1).elim
end
/-! x[::-1] -/
def revD : D → Option D
  | .list xs => some (.list xs.reverse)
  | .tuple xs => if xs.length ≤ sizeLine then some (.tuple xs.reverse) else none
  | _ => none
theorem sliceApplied_rev {prog : Program} {w : World} {A : Around} {E : Value → Shared → Prop} {s : Shared} {sl : Addr} {vl vu vs : Value} {n : Nat} {Q : Int × Int × Nat → Shared → Prop} (hs : s.heap.IsSliceOf sl vl vu vs) (pl : IsPart vl none) (pu : IsPart vu none) (ps : IsPart vs (some (-1)))
    (h : Q ((n : Int) - 1, -1, n) s) : wpAny (model prog w) A (Builtin.Slice.sliceApplied (.ref sl) (pure (n : Int))) Q E s := by
  obtain ⟨os, hos, hcs, hds⟩ := id hs
  unfold Builtin.Slice.sliceApplied Builtin.Slice.sliceFields
  refine wpAny_bind (wpAny_bind (wpAny_field hos hds (x := vl) rfl (wpAny_bind (wpAny_field hos hds (x := vu) rfl (wpAny_bind (wpAny_field hos hds (x := vs) rfl (wpAny_pure ?_)))))))
  refine wpAny_bind (HT.slicePart_ ps ?_)
  show wpAny _ _ (if ((-1 : Int) == 0) = true then _ else _) _ _ s
  rw [if_neg (by decide)]
  refine wpAny_bind (HT.slicePart_ pl (wpAny_bind (HT.slicePart_ pu (wpAny_bind (wpAny_pure ?_)))))
  show wpAny _ _ (match Builtin.Slice.sliceAdjust none none (-1) (n : Int) with | (lo, hi) => pure (lo, (-1 : Int), Builtin.Slice.slicePlaces lo hi (-1))) _ _ s
  have e : Builtin.Slice.sliceAdjust none none (-1) (n : Int) = ((n : Int) - 1, -1) := rfl
  rw [e]
  have e2 : Builtin.Slice.slicePlaces ((n : Int) - 1) (-1) (-1) = n := by
    unfold Builtin.Slice.slicePlaces
    have h1 : ¬ ((-1 : Int) > 0) := by omega
    simp only [h1, if_false]
    have h2 : -(-1 : Int) = 1 := rfl
    rw [h2, Int.ediv_one]
    split <;> omega
  show wpAny _ _ (pure ((n : Int) - 1, (-1 : Int), Builtin.Slice.slicePlaces ((n : Int) - 1) (-1) (-1))) _ _ s
  rw [e2]
  exact wpAny_pure h
theorem pick_rev (xs : Array Value) : ((List.range xs.size).filterMap fun (m : Nat) => xs[(((xs.size : Int) - 1) + (m : Int) * (-1)).toNat]?).toArray = xs.toList.reverse.toArray := by
  have e : (fun (m : Nat) => xs[(((xs.size : Int) - 1) + (m : Int) * (-1)).toNat]?) = (xs[·]?) ∘ fun k => xs.size - 1 - k := by
    funext m
    have e1 : (((xs.size : Int) - 1) + (m : Int) * (-1)).toNat = xs.size - 1 - m := by omega
    show xs[_]? = xs[_]?
    rw [e1]
  rw [e, ← List.filterMap_map, PySem.W.krv_range, List.filterMap_reverse, PySem.W.krv_all]
theorem getItem_tuple_rev {prog : Program} {w : World} {A : Around} {E : Value → Shared → Prop} {s : Shared} {t sl : Addr} {items : Array Value} {vl vu vs : Value} {Q : Value → Shared → Prop} (ht : IsTup s.heap t items) (hs : s.heap.IsSliceOf sl vl vu vs) (pl : IsPart vl none) (pu : IsPart vu none) (ps : IsPart vs (some (-1)))
    (h : Q (.ref s.heap.objs.size) { s with heap := s.heap.push { cls := .type "tuple", data := .seq items.toList.reverse.toArray } })
    (hsz : items.size ≤ sizeLine) : wpAny (model prog w) A (getItem (.ref t) (.ref sl)) Q E s := by
  have htake : sizeOk (.seq items.toList.reverse.toArray) := by
    show items.toList.reverse.toArray.size ≤ sizeLine
    simpa using hsz
  obtain ⟨os, hos, hcs, hds⟩ := id hs
  have hTs : s.TypeIs (.ref sl) "slice" := ⟨os, hos, hcs⟩
  unfold getItem
  try with_reducible refine wpAny_holding ?_
  first | refine wpAny_bind (wpAny_pure ?_) | skip
  refine wpAny_bind (wpAny_sequenceKey ht.typeIs (by decide) ?_)
  refine wpAny_bind (wpAny_callSpecial?_slot (name := Str.ofString "__getitem__") ht.typeIs PyProof.Rows.slot_tuple_getitem
    (wpAny_call_entry PyProof.Rows.slot_tuple_getitem ht.typeIs entry_tuple_getitem ?_ (args_tuple_getitem _ _)))
  show wpAny _ _ (Builtin.Tuple.tupleItemsOf (.ref t) >>= _) _ _ s
  refine wpAny_bind (tupleItemsOf_ ht ?_)
  refine wpAny_bind (wpAny_typeOf hTs ?_)
  rw [if_pos (by decide)]
  refine wpAny_bind (sliceApplied_rev hs pl pu ps ?_)
  have hno : ¬ ((((items.size : Int) - 1) == 0 && (-1 : Int) == 1 && items.size == items.size) = true) := by simp
  show wpAny _ _ (if ((((items.size : Int) - 1) == 0 && (-1 : Int) == 1 && items.size == items.size) = true) then _ else _) _ _ s
  rw [if_neg hno, pick_rev]
  first
    | exact wpAny_bind (m := Builtin.Tuple.tupleExact _) (wpAny_newObj_type (wpAny_pure ⟨_, rfl, wpAny_pure h⟩) htake)
    | exact wpAny_bind (m := Builtin.Tuple.tupleExact _) (wpAny_newObj_type (wpAny_bind (wpAny_pure (wpAny_pure ⟨_, rfl, wpAny_pure h⟩))) htake)
    | exact wpAny_bind (wpAny_bind (m := Builtin.Tuple.tupleExact _) (wpAny_newObj_type (wpAny_pure (wpAny_pure ⟨_, rfl, wpAny_pure h⟩)) htake))
    | exact wpAny_bind (wpAny_bind (m := Builtin.Tuple.tupleExact _) (wpAny_newObj_type (wpAny_pure ⟨_, rfl, wpAny_pure h⟩) htake))
section
variable {X : Cx} {C : Cz} {E : XK} {k : Nat} {e : Expr} {fa : EM D} {kk : Nat} {p1 p2 p3 pos : Pos}
theorem fe_rev (t : Ties X C k) (he : FE X C E e fa) : FE X C E (.Subscript e (.Slice none none (some (.UnaryOp .USub (.Constant (.int 1) kk p1) p2)) p3) pos) (eUn revD fa) := by
  refine ⟨fun pins s σ H Q I ⟨F, env, g, S, h⟩ => ?_⟩
  refine Subscript_ (thn (he.run pins s σ H _ I ⟨F, env, g, S, Run.bind (R := Rep C.K) h⟩) fun v s1 ⟨x, H1, I1, r1, F1, d1, g1, S1, gr1, rd, h1⟩ => ?_)
  obtain ⟨z, e1, q⟩ := Run.of S1 h1
  have hst : PO X (some (.UnaryOp .USub (.Constant (.int 1) kk p1) p2)) (tPart (tUn (rU fun i => .int (-i)) (tC (.int 1)))) := po_some (pe_un un_neg pe_int)
  refine wpAny_Slice (thn (po_none.run pins s1 σ H1 (fun o H2 => o = none ∧ H2 = H1) I1 ⟨rfl, rfl⟩) fun vl s2 ⟨l, H2, I2, pl, el, e2⟩ => ?_)
  subst el e2
  refine thn (po_none.run pins s2 σ H2 (fun o H3 => o = none ∧ H3 = H2) I2 ⟨rfl, rfl⟩) fun vu s3 ⟨u, H3, I3, pu, eu, e3⟩ => ?_
  subst eu e3
  refine thn (hst.run pins s3 σ H3 (fun o H4 => o = some (-1) ∧ H4 = H3) I3 ⟨1, rfl, -1, rfl, rfl, rfl⟩) fun vs s4 ⟨o, H4, I4, ps, eo, e4⟩ => ?_
  subst eo e4
  have I5 : Inv X pins σ H4 { s4 with heap := s4.heap.push { cls := .type "slice", data := .fields #[vl, vu, vs] } } := I4.kept (t' := s4.toks) fun b ob q => Heap.get?_push_of_some _ q
  rw [t.K] at rd q
  unfold revD at e1
  split at e1
  · cases e1
    obtain ⟨a, xs, rfl, h3, h4⟩ := rd.list_inv
    cases r1
    obtain ⟨its, r, ht, hz⟩ := I5.list (.inl (.inl (S1.sub _ _ h3)))
    have hlen := r.length
    show wpAny (model X.prog X.w) X.A (subscriptTail e (.Slice none none (some (.UnaryOp .USub (.Constant (.int 1) kk p1) p2)) p3) (.ref a) (.ref s4.heap.objs.size)) (EP X pins σ Q) X.xe { s4 with heap := s4.heap.push { cls := .type "slice", data := .fields #[vl, vu, vs] } }
    refine tail_any (ops := [.ref a, .ref s4.heap.objs.size]) ht.isList.typeIs (PySem.slot_list_getitem.lookup) ?_ (by with_unfolding_all rfl)
    refine wpAny_getItem_list_slice ht.isList (Heap.IsSliceOf.new _ vl vu vs) pl pu ps (by decide) ?_ (by rw [List.size_toArray]; omega)
    rw [PySem.W.krv_pick]
    obtain ⟨ll, rr⟩ := lay_lst (K := X.K) S1.sub (I5.hok.fresh (Nat.le_refl _)) h4.reverse
    refine ⟨.ref _, _, I5.laid (t' := s4.toks) (o := .lst xs.reverse) (fun b ob q => Heap.get?_push_of_some _ q) (Nat.le_refl _) ?_, rfl, q _ _ _ ll rr⟩
    exact ⟨by rw [List.length_reverse]; exact hz, _, 0, r.reverse, Heap.get?_push_size _ rfl⟩
  · split at e1
    · cases e1
      obtain ⟨a, xs, rfl, h3, h4⟩ := rd.tup_inv
      cases r1
      obtain ⟨its, r, ht, hz⟩ := I5.tuple (S1.sub.sqT h3)
      have hlen := r.length
      show wpAny (model X.prog X.w) X.A (subscriptTail e (.Slice none none (some (.UnaryOp .USub (.Constant (.int 1) kk p1) p2)) p3) (.ref a) (.ref s4.heap.objs.size)) (EP X pins σ Q) X.xe { s4 with heap := s4.heap.push { cls := .type "slice", data := .fields #[vl, vu, vs] } }
      refine tail_any (ops := [.ref a, .ref s4.heap.objs.size]) ht.typeIs (PyProof.Rows.slot_tuple_getitem.lookup) ?_ (by with_unfolding_all rfl)
      refine getItem_tuple_rev ht (Heap.IsSliceOf.new _ vl vu vs) pl pu ps ?_ (by rw [List.size_toArray]; omega)
      obtain ⟨ll, rr⟩ := lay_tup (K := X.K) S1.sub (I5.hok.fresh (Nat.le_refl _)) h4.reverse
      refine ⟨.ref _, _, I5.laid (t' := s4.toks) (o := .tup xs.reverse) (fun b ob q => Heap.get?_push_of_some _ q) (Nat.le_refl _) ?_, rfl, q _ _ _ ll rr⟩
      exact ⟨by rw [List.length_reverse]; exact hz, _, r.reverse, ⟨_, Heap.get?_push_size _ rfl, rfl, _, rfl⟩⟩
    · cases e1
  · cases e1
end
end DL

set_option Elab.async false
set_option linter.all false
set_option maxRecDepth 100000
set_option maxHeartbeats 4000000
/-! for i, (x, y) in enumerate(zip(a, b)) -/
namespace DL
open PySem PySem.Spec PyProof.Rows L2
open Sem (wp)

/-- a zip, whatever its kept tuple's note says -/
def ZR (h : Heap) (z TI TO : Addr) (n0 : Value) (n1 : Bool) : Prop := h.get? z = some { cls := .type "zip", dict := none, data := .fields #[n0, .bool n1, .bool false, .ref TI, .ref TO], slots := #[] }
def Note (v : Value) : Prop := v = .none ∨ ∃ T : Addr, v = rawInt T
def ZAny (h : Heap) (z TI TO : Addr) : Prop := ∃ n0 n1, ZR h z TI TO n0 n1 ∧ Note n0
section
variable {prog : Program} {w : World} {A : Around} {E : Value → Shared → Prop} {s : Shared} {z TI TO i1 i2 : Addr} {fp1 fp2 : List Addr} {n1 n2 i : Nat} {P1 P2 : Nat → Value → Prop} {St1 St2 : Nat → Heap → Prop}
/-- what is asked of a turn of a zip -/
def ZOut (s : Shared) (z TI TO i1 i2 : Addr) (i : Nat) (P1 P2 : Nat → Value → Prop) (St1 St2 : Nat → Heap → Prop) (Q : Value → Shared → Prop) : Prop :=
  ∀ x1 x2 h' tk, P1 i x1 → P2 i x2 → ZAny h' z TI TO → (∃ c1 c2, IsTupOf2 h' TO c1 c2) → St1 (i + 1) h' → St2 (i + 1) h' → IsTupOf2 h' s.heap.objs.size x1 x2 → h'.objs.size = s.heap.objs.size + 1 →
    (∀ c o, c ≠ z → c ≠ TO → c ≠ i1 → c ≠ i2 → s.heap.get? c = some o → h'.get? c = some o) → Q (.ref s.heap.objs.size) { s with heap := h', toks := tk }
theorem alive_ {a : Addr} {Q : Option Obj → Shared → Prop} (h : Q (s.heap.get? a) s) : wpAny (model prog w) A (loadIfAlive a) Q E s := fun Γ p _ => h
theorem free_ {v : Value} {b : Bool} {Q : Bool → Shared → Prop} (hz : ZR s.heap z TI TO v b) (hn : Note v) (h1 : Q true s) (h2 : ∀ h' b', ZR h' z TI TO v b' → Heap.SameBut z s.heap h' → Q false { s with heap := h' }) :
    wpAny (model prog w) A (Builtin.SmallTypes.ownedTupleIsFree (.ref z)) Q E s := by
  unfold Builtin.SmallTypes.ownedTupleIsFree
  refine wpAny_bind (wpAny_field hz rfl (x := v) rfl ?_)
  rcases hn with rfl | ⟨T, rfl⟩
  · exact wpAny_pure h1
  · show wpAny _ _ (loadIfAlive ((T : Int)).toNat >>= _) _ _ _
    refine wpAny_bind (alive_ ?_)
    cases q : (s.heap.get? ((T : Int)).toNat) with
    | none => exact wpAny_pure h1
    | some o =>
      simp only [Option.isNone_some, Bool.false_eq_true, if_false]
      refine wpAny_bind (wpAny_field hz rfl (x := .bool b) rfl ?_)
      cases b with
      | true => exact wpAny_pure (h2 s.heap true hz (Heap.SameBut.refl _ _))
      | false =>
        refine wpAny_bind (wpAny_setField_rec hz (by simp) fun h' hz' hs => wpAny_pure (h2 h' true hz' hs))

theorem zr_set {h : Heap} {v : Value} {b : Bool} {x : Value} {Q : Unit → Shared → Prop} (hz : ZR s.heap z TI TO v b) (h : ∀ h', ZR h' z TI TO x b → Heap.SameBut z s.heap h' → Q () { s with heap := h' }) : wpAny (model prog w) A (setField (.ref z) 0 x) Q E s :=
  wpAny_setField_rec hz (by simp) fun h' hz' hs => h h' hz' hs
/-- one turn -/
theorem zip_turn (S : ZipSep2 z TI TO i1 i2 fp1 fp2) (D1 : Draws prog w A i1 fp1 n1 P1 St1) (D2 : Draws prog w A i2 fp2 n2 P2 St2) {Q : Value → Shared → Prop}
    (hz : ZAny s.heap z TI TO) (hTI : IsTupOf2 s.heap TI (.ref i1) (.ref i2)) (hTO : ∃ c1 c2, IsTupOf2 s.heap TO c1 c2) (st1 : St1 i s.heap) (st2 : St2 i s.heap) (l1 : i < n1) (l2 : i < n2) (hQ : ZOut s z TI TO i1 i2 i P1 P2 St1 St2 Q) :
    wpAny (model prog w) A (Builtin.«zip.__next__» ⟨[.ref z], []⟩) (fun fin s' => ∃ v, fin = .done (.ret v) ∧ Q v s') E s := by
  obtain ⟨hp, gl, dr, tk0, os⟩ := s
  obtain ⟨v0, b0, hz, hn⟩ := hz
  obtain ⟨c1, c2, hTO⟩ := hTO
  show wpAny _ _ (field (.ref z) 2 >>= _) _ _ _
  refine wpAny_bind (wpAny_field hz rfl (x := .bool false) rfl ?_)
  show wpAny _ _ (field (.ref z) 3 >>= _) _ _ _
  refine wpAny_bind (wpAny_field hz rfl (x := .ref TI) rfl ?_)
  refine wpAny_bind (wpAny_seqItems hTI rfl ?_)
  show wpAny _ _ (Builtin.SmallTypes.ownedTupleIsFree (.ref z) >>= _) _ _ _
  refine wpAny_bind (free_ hz hn ?_ fun q0 b' hzq sq => ?_)
  · simp only [if_true]
    refine wpAny_bind (wpAny_rule ?_)
    refine wpAny_bind (wpAny_field hz rfl (x := .ref TO) rfl ?_)
    refine wpAny_bind (zr_set (h := hp) hz fun g0 hz0 hs0 => ?_)
    replace hs0 : Heap.SameBut z hp g0 := hs0
    refine wpAny_bind ?_
    simp only [List.zipIdx_cons, List.zipIdx_nil, List.forIn_cons, List.forIn_nil]
    refine wpAny_bind (wpAny_bind (wpAny_onRaise ?_))
    show wpAny _ _ (Builtin.SmallTypes.nextOf (.ref i1) >>= _) _ _ ⟨g0, gl, dr, tk0, os⟩
    refine wpAny_bind (D1.item i _ _ _ l1 (D1.over st1 hs0 S.zf1) fun x1 p1 tk1 hx1 sn1 hp1 => wpAny_pure ?_)
    replace hp1 : Heap.SameBut i1 g0 p1 := hp1
    have u1 : IsTupOf2 p1 TO c1 c2 := hp1.extBut _ _ S.Ti1 (hs0.extBut _ _ S.TOz hTO)
    refine wpAny_bind (wpAny_seqItems (s := ⟨p1, gl, dr, tk1, os⟩) u1 rfl ?_)
    refine wpAny_bind (updateSeq_IsTupOf2 (s := ⟨p1, gl, dr, tk1, os⟩) u1 fun g1 hT1 hs1 => ?_)
    replace hT1 : IsTupOf2 g1 TO x1 c2 := hT1
    replace hs1 : Heap.SameBut TO p1 g1 := hs1
    refine wpAny_bind (wpAny_letGo (wpAny_pure ?_))
    refine wpAny_bind (wpAny_bind (wpAny_onRaise ?_))
    show wpAny _ _ (Builtin.SmallTypes.nextOf (.ref i2) >>= _) _ _ ⟨g1, gl, dr, tk1, os⟩
    refine wpAny_bind (D2.item i _ _ _ l2 (D2.over (D2.over (D2.over st2 hs0 S.zf2) hp1 S.sep1_2) hs1 S.Tf2) fun x2 p2 tk2 hx2 sn2 hp2 => wpAny_pure ?_)
    replace hp2 : Heap.SameBut i2 g1 p2 := hp2
    have u2 : IsTupOf2 p2 TO x1 c2 := hp2.extBut _ _ S.Ti2 hT1
    refine wpAny_bind (wpAny_seqItems (s := ⟨p2, gl, dr, tk2, os⟩) u2 rfl ?_)
    refine wpAny_bind (updateSeq_IsTupOf2 (s := ⟨p2, gl, dr, tk2, os⟩) u2 fun g2 hT2 hs2 => ?_)
    replace hT2 : IsTupOf2 g2 TO x1 x2 := hT2
    replace hs2 : Heap.SameBut TO p2 g2 := hs2
    refine wpAny_bind (wpAny_letGo (wpAny_pure (wpAny_pure ?_)))
    refine wpAny_bind (wpAny_seqItems (s := ⟨g2, gl, dr, tk2, os⟩) hT2 rfl ?_)
    refine wpAny_bind (wpAny_newTuple ?_)
    have hsz : g2.objs.size = hp.objs.size := by rw [hs2.1, hp2.1, hs1.1, hp1.1, hs0.1]
    have hzz : ZR g2 z TI TO .ellipsis b0 := hs2.extBut _ _ S.TOz.symm (hp2.extBut _ _ S.zi2 (hs1.extBut _ _ S.TOz.symm (hp1.extBut _ _ S.zi1 hz0)))
    have hkk : ∀ c o, c ≠ z → c ≠ TO → c ≠ i1 → c ≠ i2 → hp.get? c = some o → g2.get? c = some o := fun c o cz cT e1 e2 e =>
      (hs2.extBut _ _ cT (hp2.extBut _ _ e2 (hs1.extBut _ _ cT (hp1.extBut _ _ e1 (hs0.extBut _ _ cz e)))))
    have hj1 : St1 (i + 1) g2 := D1.over (D1.over (D1.over sn1 hs1 S.Tf1) hp2 S.sep2_1) hs2 S.Tf1
    have hj2 : St2 (i + 1) g2 := D2.over sn2 hs2 S.Tf2
    have zlt : z < g2.objs.size := Heap.lt_size hzz
    show wpAny _ _ (Builtin.SmallTypes.ownedTupleHandOut (.ref z) (.ref g2.objs.size) >>= _) _ _ ⟨g2.push { cls := .type "tuple", data := .seq #[x1, x2] }, gl, dr, tk2, os⟩
    refine wpAny_bind ?_
    unfold Builtin.SmallTypes.ownedTupleHandOut
    have hz6 : ZR (g2.push { cls := .type "tuple", data := .seq #[x1, x2] }) z TI TO .ellipsis b0 := Heap.get?_push_of_some _ hzz
    refine wpAny_bind (zr_set (h := hp) hz6 fun h7 hz7 hs7 => ?_)
    refine wpAny_setField_rec hz7 (by simp) fun h8 hz8 hs8 => ?_
    replace hz8 : ZR h8 z TI TO (rawInt g2.objs.size) false := hz8
    replace hs7 : Heap.SameBut z (g2.push { cls := .type "tuple", data := .seq #[x1, x2] }) h7 := hs7
    replace hs8 : Heap.SameBut z h7 h8 := hs8
    have up : ∀ c o, c ≠ z → g2.get? c = some o → h8.get? c = some o := fun c o e1 e => hs8.extBut _ _ e1 (hs7.extBut _ _ e1 (Heap.get?_push_of_some _ e))
    have hT8 : IsTupOf2 h8 g2.objs.size x1 x2 := hs8.extBut _ _ (Nat.ne_of_gt zlt) (hs7.extBut _ _ (Nat.ne_of_gt zlt) (Heap.get?_push_size _ rfl))
    have sz8 : h8.objs.size = g2.objs.size + 1 := by rw [hs8.1, hs7.1, Heap.size_push]
    rw [hsz] at hT8 sz8
    refine wpAny_pure ⟨_, rfl, ?_⟩
    show Q (.ref g2.objs.size) ⟨h8, gl, dr, tk2, os⟩
    rw [hsz]
    exact hQ x1 x2 h8 tk2 hx1 hx2 ⟨_, _, hz8, .inr ⟨_, rfl⟩⟩ ⟨_, _, up _ _ S.TOz hT2⟩ (D1.frame _ _ _ hj1 fun b hb o e => up b o (fun q => S.zf1 (q ▸ hb)) e) (D2.frame _ _ _ hj2 fun b hb o e => up b o (fun q => S.zf2 (q ▸ hb)) e) hT8 sz8 fun c o cz cT e1 e2 e => up c o cz (hkk c o cz cT e1 e2 e)
  · replace sq : Heap.SameBut z hp q0 := sq
    simp only [Bool.false_eq_true, if_false]
    refine wpAny_bind ?_
    rw [← Array.forIn_toList]
    simp only [List.forIn_cons, List.forIn_nil]
    refine wpAny_bind (wpAny_bind (wpAny_holding ?_))
    show wpAny _ _ (Builtin.SmallTypes.nextOf (.ref i1) >>= _) _ _ ⟨q0, gl, dr, tk0, os⟩
    refine wpAny_bind (D1.item i _ _ _ l1 (D1.over st1 sq S.zf1) fun x1 p1 tk1 hx1 sn1 hp1 => wpAny_pure ?_)
    replace hp1 : Heap.SameBut i1 q0 p1 := hp1
    refine wpAny_pure ?_
    refine wpAny_bind (wpAny_bind (wpAny_holding ?_))
    show wpAny _ _ (Builtin.SmallTypes.nextOf (.ref i2) >>= _) _ _ ⟨p1, gl, dr, tk1, os⟩
    refine wpAny_bind (D2.item i _ _ _ l2 (D2.over (D2.over st2 sq S.zf2) hp1 S.sep1_2) fun x2 p2 tk2 hx2 sn2 hp2 => wpAny_pure ?_)
    replace hp2 : Heap.SameBut i2 p1 p2 := hp2
    refine wpAny_pure (wpAny_pure ?_)
    show wpAny _ _ (newTuple [x1, x2] >>= _) _ _ ⟨p2, gl, dr, tk2, os⟩
    refine wpAny_bind (wpAny_newTuple ?_)
    have hsz : p2.objs.size = hp.objs.size := by rw [hp2.1, hp1.1, sq.1]
    refine wpAny_pure ⟨_, rfl, ?_⟩
    show Q (.ref p2.objs.size) ⟨p2.push { cls := .type "tuple", data := .seq #[x1, x2] }, gl, dr, tk2, os⟩
    have up : ∀ c o, p2.get? c = some o → (p2.push { cls := .type "tuple", data := .seq #[x1, x2] }).get? c = some o := fun c o e => Heap.get?_push_of_some _ e
    have hT : IsTupOf2 (p2.push { cls := .type "tuple", data := .seq #[x1, x2] }) p2.objs.size x1 x2 := Heap.get?_push_size _ rfl
    rw [hsz] at hT ⊢
    refine hQ x1 x2 _ tk2 hx1 hx2 ⟨_, _, up _ _ (hp2.extBut _ _ S.zi2 (hp1.extBut _ _ S.zi1 hzq)), hn⟩ ⟨_, _, up _ _ (hp2.extBut _ _ S.Ti2 (hp1.extBut _ _ S.Ti1 (sq.extBut _ _ S.TOz hTO)))⟩
      (D1.frame _ _ _ (D1.over sn1 hp2 S.sep2_1) fun b hb o e => up b o e) (D2.frame _ _ _ sn2 fun b hb o e => up b o e) hT (by rw [Heap.size_push, hsz]) fun c o cz cT e1 e2 e => up _ _ (hp2.extBut _ _ e2 (hp1.extBut _ _ e1 (sq.extBut _ _ cz e)))
/-- the end -/
theorem zip_stop (S : ZipSep2 z TI TO i1 i2 fp1 fp2) (D1 : Draws prog w A i1 fp1 n1 P1 St1) (D2 : Draws prog w A i2 fp2 n2 P2 St2) {Q : Fin → Shared → Prop}
    (hz : ZAny s.heap z TI TO) (hTI : IsTupOf2 s.heap TI (.ref i1) (.ref i2)) (hTO : ∃ c1 c2, IsTupOf2 s.heap TO c1 c2) (st1 : St1 i s.heap) (st2 : St2 i s.heap) (l1 : i ≤ n1) (l2 : i ≤ n2) (hend : i = n1 ∨ i = n2)
    (hE : ∀ h' tk e, (∀ c o, c ≠ z → c ≠ TO → c ≠ i1 → c ≠ i2 → s.heap.get? c = some o → h'.get? c = some o) → (∃ o, h'.get? e = some o ∧ o.cls = .type "StopIteration") → E (.ref e) { s with heap := h', toks := tk }) :
    wpAny (model prog w) A (Builtin.«zip.__next__» ⟨[.ref z], []⟩) Q E s := by
  obtain ⟨hp, gl, dr, tk0, os⟩ := s
  obtain ⟨v0, b0, hz, hn⟩ := hz
  obtain ⟨c1, c2, hTO⟩ := hTO
  show wpAny _ _ (field (.ref z) 2 >>= _) _ _ _
  refine wpAny_bind (wpAny_field hz rfl (x := .bool false) rfl ?_)
  show wpAny _ _ (field (.ref z) 3 >>= _) _ _ _
  refine wpAny_bind (wpAny_field hz rfl (x := .ref TI) rfl ?_)
  refine wpAny_bind (wpAny_seqItems hTI rfl ?_)
  show wpAny _ _ (Builtin.SmallTypes.ownedTupleIsFree (.ref z) >>= _) _ _ _
  refine wpAny_bind (free_ hz hn ?_ fun q0 b' hzq sq => ?_)
  · simp only [if_true]
    refine wpAny_bind (wpAny_rule ?_)
    refine wpAny_bind (wpAny_field hz rfl (x := .ref TO) rfl ?_)
    refine wpAny_bind (zr_set (h := hp) hz fun g0 hz0 hs0 => ?_)
    replace hs0 : Heap.SameBut z hp g0 := hs0
    refine wpAny_bind ?_
    simp only [List.zipIdx_cons, List.zipIdx_nil, List.forIn_cons, List.forIn_nil]
    refine wpAny_bind (wpAny_bind (wpAny_onRaise ?_))
    show wpAny _ _ (Builtin.SmallTypes.nextOf (.ref i1) >>= _) _ _ ⟨g0, gl, dr, tk0, os⟩
    by_cases h1 : i < n1
    · refine wpAny_bind (D1.item i _ _ _ h1 (D1.over st1 hs0 S.zf1) fun x1 p1 tk1 hx1 sn1 hp1 => wpAny_pure ?_)
      replace hp1 : Heap.SameBut i1 g0 p1 := hp1
      have u1 : IsTupOf2 p1 TO c1 c2 := hp1.extBut _ _ S.Ti1 (hs0.extBut _ _ S.TOz hTO)
      refine wpAny_bind (wpAny_seqItems (s := ⟨p1, gl, dr, tk1, os⟩) u1 rfl ?_)
      refine wpAny_bind (updateSeq_IsTupOf2 (s := ⟨p1, gl, dr, tk1, os⟩) u1 fun g1 hT1 hs1 => ?_)
      replace hT1 : IsTupOf2 g1 TO x1 c2 := hT1
      replace hs1 : Heap.SameBut TO p1 g1 := hs1
      refine wpAny_bind (wpAny_letGo (wpAny_pure ?_))
      have e2 : i = n2 := by omega
      refine wpAny_bind (wpAny_bind (wpAny_onRaise ?_))
      show wpAny _ _ (Builtin.SmallTypes.nextOf (.ref i2) >>= _) _ _ ⟨g1, gl, dr, tk1, os⟩
      refine wpAny_bind (D2.done ⟨g1, gl, dr, tk1, os⟩ _ _ (by rw [← e2]; exact D2.over (D2.over (D2.over st2 hs0 S.zf2) hp1 S.sep1_2) hs1 S.Tf2) fun q e hq he => ?_)
      replace hq : Heap.ExtBut i2 g1 q := hq
      obtain ⟨oe, hoe, hce⟩ := he
      replace hoe : q.get? e = some oe := hoe
      have hzq : ZR q z TI TO .ellipsis b0 := hq _ _ S.zi2 (hs1.extBut _ _ S.TOz.symm (hp1.extBut _ _ S.zi1 hz0))
      have hez : e ≠ z := fun x => by subst x; rw [hzq] at hoe; cases hoe; simp at hce
      refine zr_set (s := ⟨q, gl, dr, tk1, os⟩) (h := q) hzq fun q' _ hq' => ?_
      replace hq' : Heap.SameBut z q q' := hq'
      exact hE q' tk1 e (fun c o cz cT e1 e2 x => hq'.extBut _ _ cz (hq _ _ e2 (hs1.extBut _ _ cT (hp1.extBut _ _ e1 (hs0.extBut _ _ cz x))))) ⟨oe, hq'.extBut _ _ hez hoe, hce⟩
    · have e1 : i = n1 := by omega
      refine wpAny_bind (D1.done ⟨g0, gl, dr, tk0, os⟩ _ _ (by rw [← e1]; exact D1.over st1 hs0 S.zf1) fun q e hq he => ?_)
      replace hq : Heap.ExtBut i1 g0 q := hq
      obtain ⟨oe, hoe, hce⟩ := he
      replace hoe : q.get? e = some oe := hoe
      have hzq : ZR q z TI TO .ellipsis b0 := hq _ _ S.zi1 hz0
      have hez : e ≠ z := fun x => by subst x; rw [hzq] at hoe; cases hoe; simp at hce
      refine zr_set (s := ⟨q, gl, dr, tk0, os⟩) (h := q) hzq fun q' _ hq' => ?_
      replace hq' : Heap.SameBut z q q' := hq'
      exact hE q' tk0 e (fun c o cz cT e1 e2 x => hq'.extBut _ _ cz (hq _ _ e1 (hs0.extBut _ _ cz x))) ⟨oe, hq'.extBut _ _ hez hoe, hce⟩
  · replace sq : Heap.SameBut z hp q0 := sq
    simp only [Bool.false_eq_true, if_false]
    refine wpAny_bind ?_
    rw [← Array.forIn_toList]
    simp only [List.forIn_cons, List.forIn_nil]
    refine wpAny_bind (wpAny_bind (wpAny_holding ?_))
    show wpAny _ _ (Builtin.SmallTypes.nextOf (.ref i1) >>= _) _ _ ⟨q0, gl, dr, tk0, os⟩
    by_cases h1 : i < n1
    · refine wpAny_bind (D1.item i _ _ _ h1 (D1.over st1 sq S.zf1) fun x1 p1 tk1 hx1 sn1 hp1 => wpAny_pure ?_)
      replace hp1 : Heap.SameBut i1 q0 p1 := hp1
      refine wpAny_pure ?_
      have e2 : i = n2 := by omega
      refine wpAny_bind (wpAny_bind (wpAny_holding ?_))
      show wpAny _ _ (Builtin.SmallTypes.nextOf (.ref i2) >>= _) _ _ ⟨p1, gl, dr, tk1, os⟩
      refine wpAny_bind (D2.done ⟨p1, gl, dr, tk1, os⟩ _ _ (by rw [← e2]; exact D2.over (D2.over st2 sq S.zf2) hp1 S.sep1_2) fun q e hq he => ?_)
      exact hE q tk1 e (fun c o cz cT e1 e2 x => hq _ _ e2 (hp1.extBut _ _ e1 (sq.extBut _ _ cz x))) he
    · have e1 : i = n1 := by omega
      refine wpAny_bind (D1.done ⟨q0, gl, dr, tk0, os⟩ _ _ (by rw [← e1]; exact D1.over st1 sq S.zf1) fun q e hq he => ?_)
      exact hE q tk0 e (fun c o cz cT e1 e2 x => hq _ _ e1 (sq.extBut _ _ cz x)) he
end
section
variable {prog : Program} {w : World} {A : Around} {E : Value → Shared → Prop} {s : Shared} {z TI TO i1 i2 : Addr} {fp1 fp2 : List Addr} {n1 n2 i : Nat} {P1 P2 : Nat → Value → Prop} {St1 St2 : Nat → Heap → Prop}
/-- a turn of enumerate over a zip -/
theorem enumZip_turn {e : Addr} {c : Int} {old : Value} {Q : Option Value → Shared → Prop} (S : ZipSep2 z TI TO i1 i2 fp1 fp2) (D1 : Draws prog w A.in1.in1 i1 fp1 n1 P1 St1) (D2 : Draws prog w A.in1.in1 i2 fp2 n2 P2 St2)
    (he : IsEnum s.heap e z c old) (hne : e ≠ z ∧ e ≠ TI ∧ e ≠ TO) (hef1 : e ∉ fp1) (hef2 : e ∉ fp2)
    (hz : ZAny s.heap z TI TO) (hTI : IsTupOf2 s.heap TI (.ref i1) (.ref i2)) (hTO : ∃ c1 c2, IsTupOf2 s.heap TO c1 c2) (st1 : St1 i s.heap) (st2 : St2 i s.heap) (l1 : i < n1) (l2 : i < n2)
    (hQ : ∀ x1 x2 T h' tk tk', P1 i x1 → P2 i x2 → T = s.heap.objs.size → IsEnumOut h' e z (c + 1) (.ref T) (s.heap.objs.size + 1) → ZAny h' z TI TO → IsTupOf2 h' TI (.ref i1) (.ref i2) → (∃ c1 c2, IsTupOf2 h' TO c1 c2) → St1 (i + 1) h' → St2 (i + 1) h' →
      IsTupOf2 h' T x1 x2 → h'.get? (s.heap.objs.size + 1) = some { cls := .type "tuple", data := .seq #[.int c tk', .ref T] } → h'.objs.size = s.heap.objs.size + 2 →
      (∀ b o, b ≠ e → b ≠ z → b ≠ TO → b ≠ i1 → b ≠ i2 → s.heap.get? b = some o → h'.get? b = some o) → Q (some (.ref (s.heap.objs.size + 1))) { s with heap := h', toks := tk }) :
    wpAny (model prog w) A (pyNext (.ref e)) Q E s := by
  have hT : s.TypeIs (.ref e) "enumerate" := ⟨_, he, rfl⟩
  obtain ⟨v0, b0, hzr, hn⟩ := id hz
  have hTz : s.TypeIs (.ref z) "zip" := ⟨_, hzr, rfl⟩
  have ez1 : e ≠ i1 := fun x => hef1 (x ▸ S.mem1)
  have ez2 : e ≠ i2 := fun x => hef2 (x ▸ S.mem2)
  unfold pyNext
  refine wpAny_bind (wpAny_attempt (wpAny_callSpecial?_slot (name := Str.ofString "__next__") hT F.slot_enumerate_next
    (wpAny_call_entry F.slot_enumerate_next hT F.entry_enumerate_next ?_ (F.args_enumerate_next_1 _))))
  obtain ⟨hp, gl, dr, tk0, os⟩ := s
  show wpAny _ _ (field (.ref e) 2 >>= _) _ _ _
  refine wpAny_bind (wpAny_field he rfl (x := .ref z) rfl ?_)
  refine wpAny_bind ?_
  unfold Builtin.SmallTypes.nextOf
  refine wpAny_bind (wpAny_callSpecial?_slot (name := Str.ofString "__next__") hTz F.slot_zip_next (wpAny_call_entry F.slot_zip_next hTz F.entry_zip_next
    (zip_turn S D1 D2 hz hTI hTO st1 st2 l1 l2 fun x1 x2 h1 tk1 y1 y2 z1 t1 s1 s2 r1 sz1 k1 => wpAny_pure ?_) (F.args_zip_next_1 _)))
  replace z1 : ZAny h1 z TI TO := z1
  replace r1 : IsTupOf2 h1 hp.objs.size x1 x2 := r1
  replace sz1 : h1.objs.size = hp.objs.size + 1 := sz1
  replace k1 : ∀ c o, c ≠ z → c ≠ TO → c ≠ i1 → c ≠ i2 → hp.get? c = some o → h1.get? c = some o := k1
  have he1 : IsEnum h1 e z c old := k1 _ _ hne.1 hne.2.2 ez1 ez2 he
  have hI1 : IsTupOf2 h1 TI (.ref i1) (.ref i2) := k1 _ _ S.TIz S.TITO S.TIi1 S.TIi2 hTI
  show wpAny _ _ (field (.ref e) 3 >>= _) _ _ ⟨h1, gl, dr, tk1, os⟩
  refine wpAny_bind (wpAny_field he1 rfl (x := rawInt c) rfl ?_)
  show wpAny _ _ (field (.ref e) 4 >>= _) _ _ ⟨h1, gl, dr, tk1, os⟩
  refine wpAny_bind (wpAny_field he1 rfl (x := .none) rfl ?_)
  show wpAny _ _ (mkInt c >>= _) _ _ ⟨h1, gl, dr, tk1, os⟩
  refine wpAny_bind (wpAny_mkInt ?_)
  show wpAny _ _ (setField (.ref e) 3 (rawInt (c + 1)) >>= _) _ _ ⟨h1, gl, dr, tk1 + 1, os⟩
  refine wpAny_bind (wpAny_setField_rec he1 (by simp) fun h2 he2 hs2 => ?_)
  replace hs2 : Heap.SameBut e h1 h2 := hs2
  replace he2 : IsEnum h2 e z (c + 1) old := he2
  show wpAny _ _ (setField (.ref e) 4 .none >>= _) _ _ ⟨h2, gl, dr, tk1 + 1, os⟩
  refine wpAny_bind (wpAny_setField_rec he2 (by simp) fun h3 he3 hs3 => ?_)
  replace hs3 : Heap.SameBut e h2 h3 := hs3
  replace he3 : IsEnum h3 e z (c + 1) old := he3
  show wpAny _ _ (newTuple [.int c tk1, .ref hp.objs.size] >>= _) _ _ ⟨h3, gl, dr, tk1 + 1, os⟩
  refine wpAny_bind (wpAny_newTuple ?_)
  have he4 : IsEnum (h3.push { cls := .type "tuple", data := .seq #[.int c tk1, .ref hp.objs.size] }) e z (c + 1) old := Heap.get?_push_of_some _ he3
  have sz3 : h3.objs.size = hp.objs.size + 1 := by rw [hs3.1, hs2.1, sz1]
  have elt : e < hp.objs.size := Heap.lt_size he
  show wpAny _ _ (Builtin.SmallTypes.ownedTupleIsFree (.ref e) >>= _) _ _ ⟨h3.push { cls := .type "tuple", data := .seq #[.int c tk1, .ref hp.objs.size] }, gl, dr, tk1 + 1, os⟩
  refine wpAny_bind ?_
  unfold Builtin.SmallTypes.ownedTupleIsFree
  refine wpAny_bind (wpAny_field he4 rfl (x := .none) rfl (wpAny_pure ?_))
  simp only [if_true]
  refine wpAny_bind (wpAny_rule ?_)
  refine wpAny_bind (wpAny_field he4 rfl (x := old) rfl ?_)
  refine wpAny_bind (wpAny_setField_rec he4 (by simp) fun h5 he5 hs5 => ?_)
  replace hs5 : Heap.SameBut e (h3.push { cls := .type "tuple", data := .seq #[.int c tk1, .ref hp.objs.size] }) h5 := hs5
  replace he5 : IsEnum h5 e z (c + 1) (.ref hp.objs.size) := he5
  show wpAny _ _ (Builtin.SmallTypes.ownedTupleHandOut (.ref e) (.ref h3.objs.size) >>= _) _ _ ⟨h5, gl, dr, tk1 + 1, os⟩
  refine wpAny_bind ?_
  unfold Builtin.SmallTypes.ownedTupleHandOut
  refine wpAny_bind (wpAny_setField_rec he5 (by simp) fun h6 he6 hs6 => ?_)
  replace hs6 : Heap.SameBut e h5 h6 := hs6
  replace he6 : IsEnumOut h6 e z (c + 1) (.ref hp.objs.size) h3.objs.size := he6
  refine wpAny_setField_rec he6 (by simp) fun h7 he7 hs7 => ?_
  replace hs7 : Heap.SameBut e h6 h7 := hs7
  replace he7 : IsEnumOut h7 e z (c + 1) (.ref hp.objs.size) h3.objs.size := he7
  have up : ∀ b o, b ≠ e → h1.get? b = some o → h7.get? b = some o := fun b o hb q =>
    hs7.extBut _ _ hb (hs6.extBut _ _ hb (hs5.extBut _ _ hb (Heap.get?_push_of_some _ (hs3.extBut _ _ hb (hs2.extBut _ _ hb q)))))
  have hnew : h7.get? h3.objs.size = some { cls := .type "tuple", data := .seq #[.int c tk1, .ref hp.objs.size] } := by
    have n : h3.objs.size ≠ e := by rw [sz3]; exact fun x => by rw [← x] at elt; exact absurd elt (by simp)
    exact hs7.extBut _ _ n (hs6.extBut _ _ n (hs5.extBut _ _ n (Heap.get?_push_size _ rfl)))
  have sz7 : h7.objs.size = hp.objs.size + 2 := by rw [hs7.1, hs6.1, hs5.1, Heap.size_push, sz3]
  rw [sz3] at he7 hnew
  refine wpAny_bind (wpAny_letGo (wpAny_pure ⟨_, rfl, ?_⟩))
  refine wpAny_pure ?_
  show Q (some (.ref h3.objs.size)) ⟨h7, gl, dr, tk1 + 1, os⟩
  rw [sz3]
  obtain ⟨v1, b1, hz1, hn1⟩ := z1
  obtain ⟨d1, d2, hd⟩ := t1
  have Te : hp.objs.size ≠ e := fun x => by rw [← x] at elt; exact absurd elt (by simp)
  exact hQ x1 x2 hp.objs.size h7 (tk1 + 1) tk1 y1 y2 rfl he7 ⟨v1, b1, up _ _ hne.1.symm hz1, hn1⟩ (up _ _ hne.2.1.symm hI1) ⟨d1, d2, up _ _ hne.2.2.symm hd⟩ (D1.frame _ _ _ s1 fun b hb o q => up b o (fun x => hef1 (x ▸ hb)) q) (D2.frame _ _ _ s2 fun b hb o q => up b o (fun x => hef2 (x ▸ hb)) q)
    (up _ _ Te r1) hnew sz7 fun b o b1 b2 b3 b4 b5 q => up _ _ b1 (k1 _ _ b2 b3 b4 b5 q)
theorem enumZip_stop {e : Addr} {c : Int} {old : Value} {Q : Option Value → Shared → Prop} (S : ZipSep2 z TI TO i1 i2 fp1 fp2) (D1 : Draws prog w A.in1.in1 i1 fp1 n1 P1 St1) (D2 : Draws prog w A.in1.in1 i2 fp2 n2 P2 St2)
    (he : IsEnum s.heap e z c old)
    (hz : ZAny s.heap z TI TO) (hTI : IsTupOf2 s.heap TI (.ref i1) (.ref i2)) (hTO : ∃ c1 c2, IsTupOf2 s.heap TO c1 c2) (st1 : St1 i s.heap) (st2 : St2 i s.heap) (l1 : i ≤ n1) (l2 : i ≤ n2) (hend : i = n1 ∨ i = n2)
    (hQ : ∀ h' tk, (∀ c o, c ≠ z → c ≠ TO → c ≠ i1 → c ≠ i2 → s.heap.get? c = some o → h'.get? c = some o) → Q none { s with heap := h', toks := tk }) :
    wpAny (model prog w) A (pyNext (.ref e)) Q E s := by
  have hT : s.TypeIs (.ref e) "enumerate" := ⟨_, he, rfl⟩
  obtain ⟨v0, b0, hzr, hn⟩ := id hz
  have hTz : s.TypeIs (.ref z) "zip" := ⟨_, hzr, rfl⟩
  unfold pyNext
  refine wpAny_bind (wpAny_attempt (wpAny_callSpecial?_slot (name := Str.ofString "__next__") hT F.slot_enumerate_next
    (wpAny_call_entry F.slot_enumerate_next hT F.entry_enumerate_next ?_ (F.args_enumerate_next_1 _))))
  show wpAny _ _ (field (.ref e) 2 >>= _) _ _ _
  refine wpAny_bind (wpAny_field he rfl (x := .ref z) rfl ?_)
  refine wpAny_bind ?_
  unfold Builtin.SmallTypes.nextOf
  refine wpAny_bind (wpAny_callSpecial?_slot (name := Str.ofString "__next__") hTz F.slot_zip_next (wpAny_call_entry F.slot_zip_next hTz F.entry_zip_next
    (zip_stop S D1 D2 hz hTI hTO st1 st2 l1 l2 hend fun h' tk x hk hx => ?_) (F.args_zip_next_1 _)))
  obtain ⟨o, ho, hc⟩ := hx
  refine wpAny_bind (wpAny_isInstance (T := "StopIteration") (b := true) ⟨o, ho, hc⟩ isSubtype_stop ?_)
  exact wpAny_pure (hQ _ _ hk)
end
def ItEZ (K : PySem.W.Frag) (a a' : Addr) (b b' : Bool) : It :=
  ⟨fun i H => ∃ (xs ys : List V) (x y : V), Sq K H a b xs ∧ Sq K H a' b' ys ∧ xs[i]? = some x ∧ ys[i]? = some y,
    fun i H v H' => ∃ T T2 x y, v = .ref T2 ∧ H T = none ∧ H T2 = none ∧ T2 ≠ T ∧ H' = upd (upd H T (.tup [x, y])) T2 (.tup [.int (0 + ((i : Nat) : Int)), .ref T]) ∧ (∀ xs, Sq K H a b xs → xs[i]? = some x) ∧ ∀ ys, Sq K H a' b' ys → ys[i]? = some y,
    fun i H => ∃ xs ys : List V, Sq K H a b xs ∧ Sq K H a' b' ys ∧ i ≤ xs.length ∧ i ≤ ys.length ∧ (i = xs.length ∨ i = ys.length)⟩
theorem turn_enumZip {P : Program} {w : World} {K : PySem.W.Frag} {elts : List Expr} {kk : Nat} {tpos : Pos} (a a' : Addr) (b b' : Bool) (e z TI TO i1 i2 : Addr) (S : ZAp z TI TO i1 i2) (ne : e ≠ z ∧ e ≠ TI ∧ e ≠ TO ∧ e ≠ i1 ∧ e ≠ i2) :
    Turn P w K (.Tuple elts kk tpos) (ItEZ K a a' b b') [e, z, TI, TO, i1, i2] e (fun i h => (∃ old, IsEnum h e z (0 + ((i : Nat) : Int)) old) ∧ ZAny h z TI TO ∧ IsTupOf2 h TI (.ref i1) (.ref i2) ∧ (∃ x y, IsTupOf2 h TO x y) ∧ ItA h i1 a b i ∧ ItA h i2 a' b' i ∧ (a ≠ z ∧ a ≠ TO ∧ a ≠ i2 ∧ a ≠ e) ∧ (a' ≠ z ∧ a' ≠ TO ∧ a' ≠ i1 ∧ a' ≠ e)) where
  mem := by simp
  obj := fun i h st c hb => by
    obtain ⟨⟨old, he⟩, ⟨v0, b0, hz, _⟩, hTI, ⟨x, y, hTO⟩, h1, h2, _, _⟩ := st
    obtain ⟨o1, c1, vs1, ho1, hc1, hd1, _⟩ := h1.obj
    obtain ⟨o2, c2, vs2, ho2, hc2, hd2, _⟩ := h2.obj
    have e' : c = e ∨ c = z ∨ c = TI ∨ c = TO ∨ c = i1 ∨ c = i2 := by simpa using hb
    rcases e' with q | q | q | q | q | q
    · rw [q]; exact ⟨_, he, fun v q => nomatch q⟩
    · rw [q]; exact ⟨_, hz, fun v q => nomatch q⟩
    · rw [q]; exact ⟨_, hTI, fun v q => nomatch q⟩
    · rw [q]; exact ⟨_, hTO, fun v q => nomatch q⟩
    · rw [q]; exact ⟨o1, ho1, fun v q => by rw [hd1] at q; cases q⟩
    · rw [q]; exact ⟨o2, ho2, fun v q => by rw [hd2] at q; cases q⟩
  keep := fun i h h' st k => by
    obtain ⟨⟨old, he⟩, ⟨v0, b0, hz, hn⟩, hTI, ⟨x, y, hTO⟩, h1, h2, m1, m2⟩ := st
    exact ⟨⟨old, k e (by simp) _ he⟩, ⟨v0, b0, k z (by simp) _ hz, hn⟩, k TI (by simp) _ hTI, ⟨x, y, k TO (by simp) _ hTO⟩, h1.at fun o q => k i1 (by simp) o q, h2.at fun o q => k i2 (by simp) o q, m1, m2⟩
  item := by
    intro X hP hw hK hc i pins s σ H E I hf st hg
    subst hP hw hK
    obtain ⟨⟨old, he⟩, hz, hTI, hTO, h1, h2, ⟨m1, m2, m3, m7⟩, ⟨m4, m5, m6, m8⟩⟩ := st
    obtain ⟨xs, ys, x, y, hq, hq', hx, hy⟩ := hg
    obtain ⟨its, rv, p, _⟩ := seqA I hq
    obtain ⟨its', rv', p', _⟩ := seqA I hq'
    obtain ⟨u, hu, ru⟩ := rv.get hx
    obtain ⟨u', hu', ru'⟩ := rv'.get hy
    have l1 : i1 < s.heap.objs.size := by obtain ⟨_, _, _, q, _⟩ := h1.obj; exact Heap.lt_size q
    have l2 : i2 < s.heap.objs.size := by obtain ⟨_, _, _, q, _⟩ := h2.obj; exact Heap.lt_size q
    have lz : z < s.heap.objs.size := by obtain ⟨_, _, q, _⟩ := hz; exact Heap.lt_size q
    have lI : TI < s.heap.objs.size := Heap.lt_size hTI
    have lO : TO < s.heap.objs.size := by obtain ⟨_, _, q⟩ := hTO; exact Heap.lt_size q
    have le : e < s.heap.objs.size := Heap.lt_size he
    have hlt : i < its.toArray.size := by
      have := (List.getElem?_eq_some_iff.mp hu).1
      simpa using this
    have hlt' : i < its'.toArray.size := by
      have := (List.getElem?_eq_some_iff.mp hu').1
      simpa using this
    have Sep : ZipSep2 z TI TO i1 i2 [i1, a] [i2, a'] := ⟨S.TIz, S.TOz, S.TITO, S.TIi1, by simp, by simp [S.zi1, Ne.symm m1], by simp [S.Ti1, Ne.symm m2], S.TIi2, by simp, by simp [S.zi2, Ne.symm m4], by simp [S.Ti2, Ne.symm m5], by simp [S.i12, Ne.symm m6], by simp [Ne.symm S.i12, Ne.symm m3]⟩
    refine enumZip_turn Sep (drawsA (A := X.A.in1.in1) (I.ok.hd hc) i1 a (p.ne h1) b its.toArray) (drawsA (A := X.A.in1.in1) (I.ok.hd hc) i2 a' (p'.ne h2) b' its'.toArray) he ⟨ne.1, ne.2.1, ne.2.2.1⟩ (by simp [ne.2.2.2.1, Ne.symm m7]) (by simp [ne.2.2.2.2, Ne.symm m8]) hz hTI hTO ⟨h1, p⟩ ⟨h2, p'⟩ hlt hlt' fun v v' T h' tk tk' hv hv' eT ho hz' hTI' hTO' d1 d2 hT hN hsz hk => ?_
    have ev : v = u := by
      have q : its.toArray[i]? = some u := by simpa using hu
      rw [q] at hv; exact (Option.some.inj hv).symm
    have ev' : v' = u' := by
      have q : its'.toArray[i]? = some u' := by simpa using hu'
      rw [q] at hv'; exact (Option.some.inj hv').symm
    subst ev ev' eT
    refine ⟨_, rfl, wpAny_letOwnedTupleGo_enum (s := { s with heap := h', toks := tk }) ho fun h'' he'' sb => ?_⟩
    have sb2 : ∀ c o, c ≠ e → h'.get? c = some o → h''.get? c = some o := fun c o hne q => (sb.2 c hne).trans q
    have hT2 : h''.get? s.heap.objs.size = some { cls := .type "tuple", data := .seq #[v, v'] } := sb2 _ _ (Nat.ne_of_gt le) hT
    have hN2 : h''.get? (s.heap.objs.size + 1) = some { cls := .type "tuple", data := .seq #[.int (0 + ((i : Nat) : Int)) tk', .ref s.heap.objs.size] } := sb2 _ _ (Nat.ne_of_gt (Nat.lt_succ_of_lt le)) hN
    obtain ⟨G, g1, g2⟩ := restrict h'' fun c => decide (c ≠ s.heap.objs.size + 1)
    have gk : ∀ c o, c ≠ s.heap.objs.size + 1 → h''.get? c = some o → G.get? c = some o := fun c o hc q => by
      rw [g1 c (decide_eq_true hc)]; exact q
    have gn : G.get? (s.heap.objs.size + 1) = none := g2 _ (decide_eq_false fun q => q rfl)
    have gb : ∀ c o, G.get? c = some o → h''.get? c = some o := fun c o q => by
      have hc : c ≠ s.heap.objs.size + 1 := fun q2 => by rw [q2, gn] at q; cases q
      rw [g1 c (decide_eq_true hc)] at q; exact q
    have nT : H s.heap.objs.size = none := I.hok.fresh (Nat.le_refl _)
    have nN : H (s.heap.objs.size + 1) = none := I.hok.fresh (Nat.le_succ _)
    have new : ObjOk X.prog X.w (upd H s.heap.objs.size (.tup [x, y])) G s.heap.objs.size (.tup [x, y]) :=
      ⟨by show 2 ≤ sizeLine; decide, [v, v'], .cons ru (.cons ru' .nil), ⟨_, gk _ _ (Nat.ne_of_lt (Nat.lt_succ_self _)) hT2, rfl, _, rfl⟩⟩
    have I1 : Inv X pins σ (upd H s.heap.objs.size (.tup [x, y])) { s with heap := G, toks := tk } :=
      I.turnedNew (ch := [e, z, TI, TO, i1, i2]) (fun c ob hb q => gk c ob (fun q2 => by have := Heap.lt_size q; rw [q2] at this; exact absurd this (by simp)) (sb2 c ob (fun q2 => hb (by simp [q2])) (hk c ob (fun q2 => hb (by simp [q2])) (fun q2 => hb (by simp [q2])) (fun q2 => hb (by simp [q2])) (fun q2 => hb (by simp [q2])) (fun q2 => hb (by simp [q2])) q))) hf (Nat.le_refl _) new
    have nN1 : upd H s.heap.objs.size (.tup [x, y]) (s.heap.objs.size + 1) = none := by rw [upd_ne (Nat.succ_ne_self _)]; exact nN
    have I2 : Inv X pins σ (upd (upd H s.heap.objs.size (.tup [x, y])) (s.heap.objs.size + 1) (.tup [.int (0 + ((i : Nat) : Int)), .ref s.heap.objs.size])) { s with heap := h'', toks := tk } :=
      I1.laidN (t' := tk) gb gn nN1 ⟨by show 2 ≤ sizeLine; decide, [.int (0 + ((i : Nat) : Int)) tk', .ref s.heap.objs.size], .cons ⟨_, rfl⟩ (.cons rfl .nil), ⟨_, hN2, rfl, _, rfl⟩⟩
    obtain ⟨v1, b1, hz1, hn1⟩ := hz'
    obtain ⟨d5, d6, hO⟩ := hTO'
    refine ⟨.ref (s.heap.objs.size + 1), _, I2, rfl, ⟨_, _, x, y, rfl, nT, nN, Nat.succ_ne_self _, rfl, fun ys' hy' => by rw [seqA_inj I hy' hq]; exact hx, fun ys' hy' => by rw [seqA_inj I hy' hq']; exact hy⟩,
      ⟨⟨.ref s.heap.objs.size, ?_⟩, ⟨v1, b1, sb2 _ _ ne.1.symm hz1, hn1⟩, sb2 _ _ ne.2.1.symm hTI', ⟨_, _, sb2 _ _ ne.2.2.1.symm hO⟩, d1.1.at fun o q => sb2 _ _ ne.2.2.2.1.symm q, d2.1.at fun o q => sb2 _ _ ne.2.2.2.2.symm q, ⟨m1, m2, m3, m7⟩, ⟨m4, m5, m6, m8⟩⟩, fun c hb => ?_⟩
    · have e1 : (0 : Int) + ((i + 1 : Nat) : Int) = 0 + (i : Int) + 1 := by omega
      rw [e1]; exact he''
    · have hb' : c < s.heap.objs.size := by
        have e' : c = e ∨ c = z ∨ c = TI ∨ c = TO ∨ c = i1 ∨ c = i2 := by simpa using hb
        rcases e' with q | q | q | q | q | q <;> rw [q] <;> assumption
      rw [upd_ne (Nat.ne_of_lt (Nat.lt_succ_of_lt hb')), upd_ne (Nat.ne_of_lt hb')]
      exact (hf c hb).1
  done := by
    intro X hP hw hK hc i pins s σ H E I hf st hg
    subst hP hw hK
    obtain ⟨⟨old, he⟩, hz, hTI, hTO, h1, h2, ⟨m1, m2, m3, m7⟩, ⟨m4, m5, m6, m8⟩⟩ := st
    obtain ⟨xs, ys, hq, hq', hl, hl', hend⟩ := hg
    obtain ⟨its, rv, p, _⟩ := seqA I hq
    obtain ⟨its', rv', p', _⟩ := seqA I hq'
    have Sep : ZipSep2 z TI TO i1 i2 [i1, a] [i2, a'] := ⟨S.TIz, S.TOz, S.TITO, S.TIi1, by simp, by simp [S.zi1, Ne.symm m1], by simp [S.Ti1, Ne.symm m2], S.TIi2, by simp, by simp [S.zi2, Ne.symm m4], by simp [S.Ti2, Ne.symm m5], by simp [S.i12, Ne.symm m6], by simp [Ne.symm S.i12, Ne.symm m3]⟩
    have z1 : its.toArray.size = xs.length := by rw [List.size_toArray, ← rv.length]
    have z2 : its'.toArray.size = ys.length := by rw [List.size_toArray, ← rv'.length]
    refine enumZip_stop Sep (drawsA (A := X.A.in1.in1) (I.ok.hd hc) i1 a (p.ne h1) b its.toArray) (drawsA (A := X.A.in1.in1) (I.ok.hd hc) i2 a' (p'.ne h2) b' its'.toArray) he hz hTI hTO ⟨h1, p⟩ ⟨h2, p'⟩ (by omega) (by omega) (by omega) fun h' tk hk => ⟨rfl, ?_⟩
    exact I.turnedL (ch := [e, z, TI, TO, i1, i2]) (t' := tk) (fun c o hb q => hk c o (fun q2 => hb (by simp [q2])) (fun q2 => hb (by simp [q2])) (fun q2 => hb (by simp [q2])) (fun q2 => hb (by simp [q2])) q) hf
  self := fun A i s Q E st h => let ⟨⟨_, he⟩, _⟩ := st; wpAny_pyIter_enum he h
def ezD (ds es : List D) : List D := rngE 0 (zipD ds es)
theorem walks_enumZip {K : PySem.W.Frag} {F : Hp} {a a' : Addr} {b b' : Bool} {xs ys : List V} {ds es : List D} (h : Sq K F a b xs) (r : Reps K F xs ds) (h' : Sq K F a' b' ys) (r' : Reps K F ys es) : Walks K F (ItEZ K a a' b b') (ezD ds es) := fun i F' H' s1 s2 => by
  have hs : Sq K H' a b xs := s2.sq (s1.sq h)
  have hs' : Sq K H' a' b' ys := s2.sq (s1.sq h')
  refine ⟨fun d e => ?_, fun hl => ?_⟩
  · unfold ezD rngE at e
    rw [List.getElem?_mapIdx, Option.map_eq_some_iff] at e
    obtain ⟨d0, e, rfl⟩ := e
    unfold zipD at e
    obtain ⟨d1, e1, q1, q2, rfl⟩ := List.getElem?_zipWith_eq_some.mp e
    obtain ⟨v, h1, h2⟩ := r.get q1
    obtain ⟨u, h3, h4⟩ := r'.get q2
    refine ⟨⟨xs, ys, v, u, hs, hs', h1, h3⟩, fun x H'' y => ?_⟩
    obtain ⟨T, T2, x0, y0, rfl, hT, hT2, hne, rfl, e2, e3⟩ := y
    have := e2 xs hs
    rw [h1] at this
    cases this
    have := e3 ys hs'
    rw [h3] at this
    cases this
    obtain ⟨l1, q1⟩ := lay_tup (K := K) s2 hT (Reps.cons (h2.mono s1) (Reps.cons (h4.mono s1) .nil))
    obtain ⟨l2, q2⟩ := lay_tup (K := K) l1.sub (by rw [upd_ne hne]; exact hT2) (Reps.cons (Rep.int (0 + ((i : Nat) : Int))) (Reps.cons q1 .nil))
    exact ⟨_, l1.trans l2, q2⟩
  · have hl' : i = min ds.length es.length := by
      rw [hl]; unfold ezD rngE zipD; rw [List.length_mapIdx, List.length_zipWith]
    have e1 := r.length
    have e2 := r'.length
    exact ⟨xs, ys, hs, hs', by omega, by omega, by omega⟩
def iEnumZip (a : EM (List D)) : EM (List D) := fun env g => (a env g).bind fun ds g => match ds with
  | [d, e] => Out.of ((seqD d).bind fun ds => (seqD e).map fun es => ezD ds es) g
  | _ => .stuck
section
variable {X : Cx} {C : Cz} {E : XK} {k kk : Nat} {tpos p p2 pos pos2 : Pos} {elts : List Expr} {e e2 : Expr} {fs : EM (List D)}
theorem meets_enumZ {z TI TO : Addr} {v : Value} : Meets (Builtin.«enumerate.__new__» ⟨[.type "enumerate", .ref z], []⟩) (fun _ R s => IsZip s.heap z TI TO v ∧
      R (.ok (.ret (.ref s.heap.objs.size))) { s with heap := s.heap.push { cls := .type "enumerate", data := .fields #[.none, .bool false, .ref z, rawInt 0, .none, .none] } }) :=
  .of_wp fun prog w A R s h => by
    obtain ⟨hp, gg, d, tk, os⟩ := s
    obtain ⟨h1, h⟩ := h
    have hsub := sub_enumerate
    have q1 : ∀ {A' : Around} {E' : Value → Shared → Prop} {Q' : Value → Shared → Prop}, Q' (.ref z) ⟨hp, gg, d, tk, os⟩ → wpAny (model prog w) A' (pyIter (.ref z)) Q' E' ⟨hp, gg, d, tk, os⟩ :=
      fun q => wpAny_pyIter_zip h1 q
    wp_walk using q1
    refine wpAny_stack_any fun st => wpAny_pure ?_
    split
    · rename_i c _ _ _ _ _
      cases (c == Value.type "enumerate")
      · wp_walk using q1
        exact ⟨_, rfl, h⟩
      · wp_walk using q1
        exact ⟨_, rfl, h⟩
    · wp_walk using q1
      exact ⟨_, rfl, h⟩
theorem call_enumZ {prog : Program} {w : World} {A : Around} {E : Value → Shared → Prop} {s : Shared} {z TI TO : Addr} {v : Value} {Q : Value → Shared → Prop} (h1 : IsZip s.heap z TI TO v)
    (h : ∀ h', IsEnum h' s.heap.objs.size z 0 .none → (∀ b o, s.heap.get? b = some o → h'.get? b = some o) → Q (.ref s.heap.objs.size) { s with heap := h' }) :
    wpAny (model prog w) A (call (.type "enumerate") [.ref z]) Q E s := by
  have he : IsEnum (s.heap.push { cls := .type "enumerate", data := .fields #[.none, .bool false, .ref z, rawInt 0, .none, .none] }) s.heap.objs.size z 0 .none := Heap.get?_push_size _ rfl
  refine callType_new F.called_enumerate (by decide) (F.typeCall_enumerate_1 _) (F.newCall_enumerate_1 _) (fun obj => F.args_object_init_2 obj _) F.entry_enumerate_new meets_enumZ ⟨h1, ?_⟩
  exact ⟨⟨_, he, rfl⟩, h _ he fun b u q => Heap.get?_push_of_some _ q⟩
theorem fi_enumzip (t : Ties X C (k + 1)) (hg : Gl X "enumerate") (hm : X.mg "enumerate" = none) (hg2 : Gl X "zip") (hm2 : X.mg "zip" = none) (ha : FA X C E [e, e2] fs)
    (hs0 : starEach [.Call (.Name "zip" p2) [e, e2] [] pos2] X.env = [(false, eval (.Call (.Name "zip" p2) [e, e2] [] pos2) X.env)] := by rfl)
    (hs : starEach [e, e2] X.env = (false, eval e X.env) :: starEach [e2] X.env := by rfl) (hpl : (backTo pos2 (starEach [e2] X.env)).any (·.1) = false := by rfl) :
    FI X C E (.Tuple elts kk tpos) (.Call (.Name "enumerate" p) [.Call (.Name "zip" p2) [e, e2] [] pos2] [] pos) (iEnumZip fs) := by
  refine ⟨fun pins s σ H R I ⟨F, env, g, S, h⟩ => ?_⟩
  refine Call_ (ld_blt I hg hm boot_enumerate (PyProof.Rows.callWith_type1 ?_ hs0 rfl))
  rw [hs0]
  refine Calls.spliced_cons ?_
  refine Call_ (ld_blt I hg2 hm2 boot_zip (PyProof.Rows.callWith_type1 (thn (ha.run pos2 pins s σ H _ I ⟨F, env, g, S, Run.bind (R := Reps C.K) h⟩) fun us s1 ⟨vs, H1, I1, r1, F1, ds, g1, S1, gr1, q1, h1⟩ => ?_) hs hpl))
  match ds, q1, h1 with
  | [d, d'], q1, h1 =>
    obtain ⟨v, v', rfl, rv, rv'⟩ := q1.two
    obtain ⟨u, u', rfl, ru, ru'⟩ := r1.two
    have h1 : Run C E (Walks C.K) F1 H1 σ env (Out.of ((seqD d).bind fun ds => (seqD d').map fun es => ezD ds es) g1) R := h1
    cases q : seqD d with
    | none => rw [q] at h1; exact (show False from h1).elim
    | some ds =>
      cases q' : seqD d' with
      | none => rw [q, q'] at h1; exact (show False from h1).elim
      | some es =>
        rw [q, q'] at h1
        obtain ⟨a, b, xs, rfl, hq, hr⟩ := seq_of rv q
        obtain ⟨a', b', ys, rfl, hq', hr'⟩ := seq_of rv' q'
        cases ru
        cases ru'
        have hR := Run.val S1 h1 F1 H1 (ItEZ C.K a a' b b') (Laid.refl S1.sub) (walks_enumZip hq hr hq' hr')
        rw [t.K] at hq hq' hR
        have hqH := S1.sub.sq hq
        have hqH' := S1.sub.sq hq'
        obtain ⟨its, rvv, hsq, _⟩ := seqA I1 hqH
        obtain ⟨its', rvv', hsq', _⟩ := seqA I1 hqH'
        have la : a < s1.heap.objs.size := by obtain ⟨_, _, q, _⟩ := hsq.obj; exact Heap.lt_size q
        have la' : a' < s1.heap.objs.size := by obtain ⟨_, _, q, _⟩ := hsq'.obj; exact Heap.lt_size q
        refine PySem.zip_begins2 (beginsA a b its.toArray) (beginsA a' b' its'.toArray) hsq hsq' fun h' hz hTI hTO hi hi' hsz hk => ?_
        refine Calls.spliced_nil ?_
        refine call_enumZ (s := { s1 with heap := h' }) hz fun h2 he hk2 => ?_
        have he : IsEnum h2 h'.objs.size (s1.heap.objs.size + 4) 0 .none := he
        have hk2 : ∀ b o, h'.get? b = some o → h2.get? b = some o := hk2
        rw [hsz] at he
        show wpAny _ _ (pyIter (.ref h'.objs.size)) _ _ _
        rw [hsz]
        refine wpAny_pyIter_enum (s := { s1 with heap := h2 }) he ?_
        have I2 : Inv X pins σ H1 { s1 with heap := h2 } := I1.kept (t' := s1.toks) fun c o e => hk2 _ _ (hk c o e)
        have ap : ∀ j, a ≠ s1.heap.objs.size + j := fun j => Nat.ne_of_lt (Nat.lt_of_lt_of_le la (Nat.le_add_right _ _))
        have ap' : ∀ j, a' ≠ s1.heap.objs.size + j := fun j => Nat.ne_of_lt (Nat.lt_of_lt_of_le la' (Nat.le_add_right _ _))
        have hE : IsEnum h2 (s1.heap.objs.size + 5) (s1.heap.objs.size + 4) (0 + ((0 : Nat) : Int)) .none := he
        have nn : ∀ j, j ≠ 5 → s1.heap.objs.size + 5 ≠ s1.heap.objs.size + j := fun j hj h => hj (Nat.add_left_cancel h).symm
        refine ⟨s1.heap.objs.size + 5, [s1.heap.objs.size + 5, s1.heap.objs.size + 4, s1.heap.objs.size + 2, s1.heap.objs.size + 3, s1.heap.objs.size, s1.heap.objs.size + 1], _, _, H1, rfl, I2,
          turn_enumZip a a' b b' (s1.heap.objs.size + 5) (s1.heap.objs.size + 4) (s1.heap.objs.size + 2) (s1.heap.objs.size + 3) s1.heap.objs.size (s1.heap.objs.size + 1) (zap_new _) ⟨nn 4 (by decide), nn 2 (by decide), nn 3 (by decide), nn 0 (by decide), nn 1 (by decide)⟩,
          ⟨⟨.none, hE⟩, ⟨_, _, hk2 _ _ hz, .inl rfl⟩, hk2 _ _ hTI, ⟨_, _, hk2 _ _ hTO⟩, itA_new (hk2 _ _ hi), itA_new (hk2 _ _ hi'), ⟨ap 4, ap 3, ap 1, ap 5⟩, ⟨ap' 4, ap' 3, ap' 0, ap' 5⟩⟩, fun c hcm => ?_, hR⟩
        have hle : s1.heap.objs.size ≤ c := by
          have e' : c = s1.heap.objs.size + 5 ∨ c = s1.heap.objs.size + 4 ∨ c = s1.heap.objs.size + 2 ∨ c = s1.heap.objs.size + 3 ∨ c = s1.heap.objs.size ∨ c = s1.heap.objs.size + 1 := by simpa using hcm
          rcases e' with z | z | z | z | z | z <;> rw [z] <;> first | exact Nat.le_refl _ | exact Nat.le_add_right _ _
        exact I1.fpOk hle (I1.hok.fresh hle)
  | [], q1, h1 => exact (show False from h1).elim
  | [_], q1, h1 => exact (show False from h1).elim
  | _ :: _ :: _ :: _, q1, h1 => exact (show False from h1).elim
end
end DL

set_option Elab.async false
set_option linter.all false
set_option maxRecDepth 100000
set_option maxHeartbeats 2000000
/-! the plain side: how mirrors are computed -/
namespace DL
open PySem PySem.Spec PyProof.Rows L2

@[simp] theorem bind_ok {α β : Type} (a : α) (g : G) (k : α → G → Out β) : (Out.ok a g).bind k = k a g := rfl
@[simp] theorem bind_err {α β : Type} (c : Str) (g : G) (k : α → G → Out β) : (Out.err c g : Out α).bind k = .err c g := rfl
@[simp] theorem bind_stuck {α β : Type} (k : α → G → Out β) : (Out.stuck : Out α).bind k = .stuck := rfl
@[simp] theorem noerr_ok {α : Type} (a : α) (g : G) : (Out.ok a g).noerr = .ok a g := rfl
@[simp] theorem of_some {α : Type} (a : α) (g : G) : Out.of (some a) g = .ok a g := rfl
@[simp] theorem of_none {α : Type} (g : G) : (Out.of none g : Out α) = .stuck := rfl
/-- it ends well, and so -/
def Ok {α : Type} (o : Out α) (P : α → G → Prop) : Prop := match o with
  | .ok a g => P a g
  | _ => False
@[simp] theorem Ok_ok {α : Type} (a : α) (g : G) (P : α → G → Prop) : Ok (.ok a g) P = P a g := rfl
@[simp] theorem Ok_err {α : Type} (c : Str) (g : G) (P : α → G → Prop) : Ok (.err c g : Out α) P = False := rfl
@[simp] theorem Ok_stuck {α : Type} (P : α → G → Prop) : Ok (.stuck : Out α) P = False := rfl
@[simp] theorem Ok_bind {α β : Type} (o : Out α) (k : α → G → Out β) (P : β → G → Prop) : Ok (o.bind k) P = Ok o (fun a g => Ok (k a g) P) := by cases o <;> rfl
@[simp] theorem Ok_noerr {α : Type} (o : Out α) (P : α → G → Prop) : Ok o.noerr P = Ok o P := by cases o <;> rfl
theorem Ok.mono {α : Type} {o : Out α} {P Q : α → G → Prop} (h : Ok o P) (q : ∀ a g, P a g → Q a g) : Ok o Q := by
  cases o with
  | ok a g => exact q _ _ h
  | err c g => exact h
  | stuck => exact h
theorem Ok.ex {α : Type} {o : Out α} {P : α → G → Prop} (h : Ok o P) : ∃ a g, o = .ok a g ∧ P a g := by
  cases o with
  | ok a g => exact ⟨a, g, rfl, h⟩
  | err c g => exact h.elim
  | stuck => exact h.elim
@[simp] theorem Ok_ite {α : Type} (c : Prop) [Decidable c] (a b : Out α) (P : α → G → Prop) : Ok (if c then a else b) P = if c then Ok a P else Ok b P := by
  by_cases h : c
  · rw [if_pos h, if_pos h]
  · rw [if_neg h, if_neg h]


/-! a machine without binders: what is left to do is a closed term -/
def OkE (a : EM D) (env : List Sl) (g : G) (Q : D → G → Prop) : Prop := Ok (a env g) Q
def OkB (a : EM Bool) (env : List Sl) (g : G) (Q : Bool → G → Prop) : Prop := Ok (a env g) Q
def OkA (a : EM (List D)) (env : List Sl) (g : G) (Q : List D → G → Prop) : Prop := Ok (a env g) Q
def OkS (m : SM) (env : List Sl) (g : G) (P : Fl → List Sl → G → Prop) : Prop := Ok (m env g) (fun r g => P r.1 r.2 g)
def OkO (o : Option D) (g : G) (Q : D → G → Prop) : Prop := match o with
  | some d => Q d g
  | none => False
def OkR (o : PR) (g : G) (Q : D → G → Prop) : Prop := match o with
  | .ok d => Q d g
  | _ => False
def OkOB (o : Option Bool) (g : G) (Q : Bool → G → Prop) : Prop := match o with
  | some d => Q d g
  | none => False
@[simp] theorem OkO_some (d : D) (g : G) (Q : D → G → Prop) : OkO (some d) g Q = Q d g := rfl
@[simp] theorem OkO_none (g : G) (Q : D → G → Prop) : OkO none g Q = False := rfl
@[simp] theorem OkOB_some (d : Bool) (g : G) (Q : Bool → G → Prop) : OkOB (some d) g Q = Q d g := rfl
@[simp] theorem OkR_ok (d : D) (g : G) (Q : D → G → Prop) : OkR (.ok d) g Q = Q d g := rfl
@[simp] theorem OkR_err (c : Str) (g : G) (Q : D → G → Prop) : OkR (.err c) g Q = False := rfl
@[simp] theorem OkO_ite (c : Prop) [Decidable c] (a b : Option D) (g : G) (Q : D → G → Prop) : OkO (if c then a else b) g Q = if c then OkO a g Q else OkO b g Q := by
  by_cases h : c
  · rw [if_pos h, if_pos h]
  · rw [if_neg h, if_neg h]
theorem ok_of (o : Option D) (g : G) (Q : D → G → Prop) : Ok (Out.of o g) Q = OkO o g Q := by cases o <;> rfl
theorem ok_ofB (o : Option Bool) (g : G) (Q : Bool → G → Prop) : Ok (Out.of o g) Q = OkOB o g Q := by cases o <;> rfl
/-- frames -/
def kSlot (x : Option Sl) (g : G) (Q : D → G → Prop) : Prop := match x with
  | some (.dat d) => Q d g
  | _ => False
@[simp] theorem kSlot_ (d : D) (g : G) (Q : D → G → Prop) : kSlot (some (.dat d)) g Q = Q d g := rfl
def kHd (x : Option Sl) (p : Prop) : Prop := match x with
  | some .hand => p
  | _ => False
@[simp] theorem kHd_ (p : Prop) : kHd (some .hand) p = p := rfl
def kBinB (op : D → D → Option D) (x : D) (Q : D → G → Prop) (y : D) (g : G) : Prop := OkO (op x y) g Q
def kBinA (op : D → D → Option D) (b : EM D) (env : List Sl) (Q : D → G → Prop) (x : D) (g : G) : Prop := OkE b env g (kBinB op x Q)
def kUn (op : D → Option D) (Q : D → G → Prop) (x : D) (g : G) : Prop := OkO (op x) g Q
def kTru (Q : Bool → G → Prop) (x : D) (g : G) : Prop := OkOB (truD x) g Q
def kAsB (Q : Bool → G → Prop) (x : D) (g : G) : Prop := match x with
  | .bool b => Q b g
  | _ => False
@[simp] theorem kBinB_ (op : D → D → Option D) (x : D) (Q : D → G → Prop) (y : D) (g : G) : kBinB op x Q y g = OkO (op x y) g Q := rfl
@[simp] theorem kBinA_ (op : D → D → Option D) (b : EM D) (env : List Sl) (Q : D → G → Prop) (x : D) (g : G) : kBinA op b env Q x g = OkE b env g (kBinB op x Q) := rfl
@[simp] theorem kUn_ (op : D → Option D) (Q : D → G → Prop) (x : D) (g : G) : kUn op Q x g = OkO (op x) g Q := rfl
@[simp] theorem kTru_ (Q : Bool → G → Prop) (x : D) (g : G) : kTru Q x g = OkOB (truD x) g Q := rfl
@[simp] theorem kAsB_ (Q : Bool → G → Prop) (x : Bool) (g : G) : kAsB Q (.bool x) g = Q x g := rfl
def kAnd (b : EM Bool) (env : List Sl) (Q : Bool → G → Prop) (x : Bool) (g : G) : Prop := if x = true then OkB b env g Q else Q false g
def kOr (b : EM Bool) (env : List Sl) (Q : Bool → G → Prop) (x : Bool) (g : G) : Prop := if x = true then Q true g else OkB b env g Q
def kNot (Q : Bool → G → Prop) (x : Bool) (g : G) : Prop := Q (!x) g
@[simp] theorem kAnd_ (b : EM Bool) (env : List Sl) (Q : Bool → G → Prop) (x : Bool) (g : G) : kAnd b env Q x g = if x = true then OkB b env g Q else Q false g := rfl
@[simp] theorem kOr_ (b : EM Bool) (env : List Sl) (Q : Bool → G → Prop) (x : Bool) (g : G) : kOr b env Q x g = if x = true then Q true g else OkB b env g Q := rfl
@[simp] theorem kNot_ (Q : Bool → G → Prop) (x : Bool) (g : G) : kNot Q x g = Q (!x) g := rfl
def kIfE (a b : EM D) (env : List Sl) (Q : D → G → Prop) (x : Bool) (g : G) : Prop := if x = true then OkE a env g Q else OkE b env g Q
@[simp] theorem kIfE_ (a b : EM D) (env : List Sl) (Q : D → G → Prop) (x : Bool) (g : G) : kIfE a b env Q x g = if x = true then OkE a env g Q else OkE b env g Q := rfl
def kAndE2 (b : EM D) (env : List Sl) (Q : D → G → Prop) (x : D) (c : Bool) (g : G) : Prop := if c = true then OkE b env g Q else Q x g
def kOrE2 (b : EM D) (env : List Sl) (Q : D → G → Prop) (x : D) (c : Bool) (g : G) : Prop := if c = true then Q x g else OkE b env g Q
@[simp] theorem kAndE2_ (b : EM D) (env : List Sl) (Q : D → G → Prop) (x : D) (c : Bool) (g : G) : kAndE2 b env Q x c g = if c = true then OkE b env g Q else Q x g := rfl
@[simp] theorem kOrE2_ (b : EM D) (env : List Sl) (Q : D → G → Prop) (x : D) (c : Bool) (g : G) : kOrE2 b env Q x c g = if c = true then Q x g else OkE b env g Q := rfl
def kAndE (b : EM D) (env : List Sl) (Q : D → G → Prop) (x : D) (g : G) : Prop := OkOB (truD x) g (kAndE2 b env Q x)
def kOrE (b : EM D) (env : List Sl) (Q : D → G → Prop) (x : D) (g : G) : Prop := OkOB (truD x) g (kOrE2 b env Q x)
@[simp] theorem kAndE_ (b : EM D) (env : List Sl) (Q : D → G → Prop) (x : D) (g : G) : kAndE b env Q x g = OkOB (truD x) g (kAndE2 b env Q x) := rfl
@[simp] theorem kOrE_ (b : EM D) (env : List Sl) (Q : D → G → Prop) (x : D) (g : G) : kOrE b env Q x g = OkOB (truD x) g (kOrE2 b env Q x) := rfl
def kNotE2 (Q : D → G → Prop) (c : Bool) (g : G) : Prop := Q (.bool (!c)) g
@[simp] theorem kNotE2_ (Q : D → G → Prop) (c : Bool) (g : G) : kNotE2 Q c g = Q (.bool (!c)) g := rfl
def kNotE (Q : D → G → Prop) (x : D) (g : G) : Prop := OkOB (truD x) g (kNotE2 Q)
@[simp] theorem kNotE_ (Q : D → G → Prop) (x : D) (g : G) : kNotE Q x g = OkOB (truD x) g (kNotE2 Q) := rfl
def kCons2 (x : D) (Q : List D → G → Prop) (xs : List D) (g : G) : Prop := Q (x :: xs) g
def kCons (r : EM (List D)) (env : List Sl) (Q : List D → G → Prop) (x : D) (g : G) : Prop := OkA r env g (kCons2 x Q)
@[simp] theorem kCons2_ (x : D) (Q : List D → G → Prop) (xs : List D) (g : G) : kCons2 x Q xs g = Q (x :: xs) g := rfl
@[simp] theorem kCons_ (r : EM (List D)) (env : List Sl) (Q : List D → G → Prop) (x : D) (g : G) : kCons r env Q x g = OkA r env g (kCons2 x Q) := rfl
def kTup (Q : D → G → Prop) (xs : List D) (g : G) : Prop := xs.length ≤ sizeLine ∧ Q (.tuple xs) g
def kLst (Q : D → G → Prop) (xs : List D) (g : G) : Prop := xs.length ≤ sizeLine ∧ Q (.list xs) g
def kLstL (Q : List D → G → Prop) (xs : List D) (g : G) : Prop := xs.length ≤ sizeLine ∧ Q xs g
@[simp] theorem kTup_ (Q : D → G → Prop) (xs : List D) (g : G) : kTup Q xs g = (xs.length ≤ sizeLine ∧ Q (.tuple xs) g) := rfl
@[simp] theorem kLst_ (Q : D → G → Prop) (xs : List D) (g : G) : kLst Q xs g = (xs.length ≤ sizeLine ∧ Q (.list xs) g) := rfl
@[simp] theorem kLstL_ (Q : List D → G → Prop) (xs : List D) (g : G) : kLstL Q xs g = (xs.length ≤ sizeLine ∧ Q xs g) := rfl
def kCall (op : List D → Option D) (Q : D → G → Prop) (xs : List D) (g : G) : Prop := OkO (op xs) g Q
@[simp] theorem kCall_ (op : List D → Option D) (Q : D → G → Prop) (xs : List D) (g : G) : kCall op Q xs g = OkO (op xs) g Q := rfl
def kFn (m : List D → PR) (Q : D → G → Prop) (xs : List D) (g : G) : Prop := OkR (m xs) g Q
@[simp] theorem kFn_ (m : List D → PR) (Q : D → G → Prop) (xs : List D) (g : G) : kFn m Q xs g = OkR (m xs) g Q := rfl
def kFnH (m : List D → G → Out D) (Q : D → G → Prop) (xs : List D) (g : G) : Prop := Ok (m xs g) Q
@[simp] theorem kFnH_ (m : List D → G → Out D) (Q : D → G → Prop) (xs : List D) (g : G) : kFnH m Q xs g = Ok (m xs g) Q := rfl
def kDic2 (x : D) (Q : D → G → Prop) (y : D) (g : G) : Prop := match keyO x with
  | some k => Q (.dict [(keyD k, y)]) g
  | none => False
def kDic (b : EM D) (env : List Sl) (Q : D → G → Prop) (x : D) (g : G) : Prop := OkE b env g (kDic2 x Q)
@[simp] theorem kDic2_i (i : Int) (Q : D → G → Prop) (y : D) (g : G) : kDic2 (.int i) Q y g = Q (.dict [(.int i, y)]) g := rfl
@[simp] theorem kDic2_s (i : Str) (Q : D → G → Prop) (y : D) (g : G) : kDic2 (.str i) Q y g = Q (.dict [(.str i, y)]) g := rfl
@[simp] theorem kDic_ (b : EM D) (env : List Sl) (Q : D → G → Prop) (x : D) (g : G) : kDic b env Q x g = OkE b env g (kDic2 x Q) := rfl
def kCh3 (op' : D → D → Option D) (c : EM D) (env : List Sl) (Q : D → G → Prop) (y : D) (r : D) (g : G) : Prop := match r with
  | .bool true => OkE c env g (kBinB op' y Q)
  | .bool false => Q (.bool false) g
  | _ => False
def kCh2 (op op' : D → D → Option D) (c : EM D) (env : List Sl) (Q : D → G → Prop) (x : D) (y : D) (g : G) : Prop := OkO (op x y) g (kCh3 op' c env Q y)
def kCh1 (op op' : D → D → Option D) (b c : EM D) (env : List Sl) (Q : D → G → Prop) (x : D) (g : G) : Prop := OkE b env g (kCh2 op op' c env Q x)
@[simp] theorem kCh3_ (op' : D → D → Option D) (c : EM D) (env : List Sl) (Q : D → G → Prop) (y : D) (r : Bool) (g : G) : kCh3 op' c env Q y (.bool r) g = if r = true then OkE c env g (kBinB op' y Q) else Q (.bool false) g := by cases r <;> rfl
@[simp] theorem kCh2_ (op op' : D → D → Option D) (c : EM D) (env : List Sl) (Q : D → G → Prop) (x : D) (y : D) (g : G) : kCh2 op op' c env Q x y g = OkO (op x y) g (kCh3 op' c env Q y) := rfl
@[simp] theorem kCh1_ (op op' : D → D → Option D) (b c : EM D) (env : List Sl) (Q : D → G → Prop) (x : D) (g : G) : kCh1 op op' b c env Q x g = OkE b env g (kCh2 op op' c env Q x) := rfl
@[simp] theorem oeC (d : D) (env : List Sl) (g : G) (Q : D → G → Prop) : OkE (eC d) env g Q = Q d g := rfl
@[simp] theorem oeVar (i : Nat) (env : List Sl) (g : G) (Q : D → G → Prop) : OkE (eVar i) env g Q = kSlot env[i]? g Q := by
  unfold OkE eVar kSlot
  cases env[i]? with
  | none => rfl
  | some s => cases s <;> rfl
@[simp] theorem oeBin (op : D → D → Option D) (a b : EM D) (env : List Sl) (g : G) (Q : D → G → Prop) : OkE (eBin op a b) env g Q = OkE a env g (kBinA op b env Q) := by
  unfold OkE eBin kBinA OkE kBinB
  simp only [Ok_bind, ok_of]
@[simp] theorem oeUn (op : D → Option D) (a : EM D) (env : List Sl) (g : G) (Q : D → G → Prop) : OkE (eUn op a) env g Q = OkE a env g (kUn op Q) := by
  unfold OkE eUn kUn
  simp only [Ok_bind, ok_of]
@[simp] theorem obTru (a : EM D) (env : List Sl) (g : G) (Q : Bool → G → Prop) : OkB (eTru a) env g Q = OkE a env g (kTru Q) := by
  unfold OkB OkE eTru kTru
  simp only [Ok_bind, ok_ofB]
@[simp] theorem obAsB (a : EM D) (env : List Sl) (g : G) (Q : Bool → G → Prop) : OkB (eAsB a) env g Q = OkE a env g (kAsB Q) := by
  unfold OkB OkE eAsB
  rw [Ok_bind]
  congr 1
  funext x g
  cases x <;> rfl
@[simp] theorem obAnd (a b : EM Bool) (env : List Sl) (g : G) (Q : Bool → G → Prop) : OkB (bAnd a b) env g Q = OkB a env g (kAnd b env Q) := by
  unfold OkB bAnd kAnd OkB
  simp only [Ok_bind, Ok_ite, Ok_ok]
@[simp] theorem obOr (a b : EM Bool) (env : List Sl) (g : G) (Q : Bool → G → Prop) : OkB (bOr a b) env g Q = OkB a env g (kOr b env Q) := by
  unfold OkB bOr kOr OkB
  simp only [Ok_bind, Ok_ite, Ok_ok]
@[simp] theorem obNot (a : EM Bool) (env : List Sl) (g : G) (Q : Bool → G → Prop) : OkB (bNot a) env g Q = OkB a env g (kNot Q) := by
  unfold OkB bNot kNot
  simp only [Ok_bind, Ok_ok]
@[simp] theorem obYes (env : List Sl) (g : G) (Q : Bool → G → Prop) : OkB bYes env g Q = Q true g := rfl
@[simp] theorem oeIf (c : EM Bool) (a b : EM D) (env : List Sl) (g : G) (Q : D → G → Prop) : OkE (eIf c a b) env g Q = OkB c env g (kIfE a b env Q) := by
  unfold OkE OkB eIf kIfE OkE
  simp only [Ok_bind, Ok_ite]
@[simp] theorem oeAnd (a b : EM D) (env : List Sl) (g : G) (Q : D → G → Prop) : OkE (eAnd a b) env g Q = OkE a env g (kAndE b env Q) := by
  unfold OkE eAnd kAndE kAndE2 OkE
  simp only [Ok_bind, ok_ofB, Ok_ite, Ok_ok]
@[simp] theorem oeOr (a b : EM D) (env : List Sl) (g : G) (Q : D → G → Prop) : OkE (eOr a b) env g Q = OkE a env g (kOrE b env Q) := by
  unfold OkE eOr kOrE kOrE2 OkE
  simp only [Ok_bind, ok_ofB, Ok_ite, Ok_ok]
@[simp] theorem oeNot (a : EM D) (env : List Sl) (g : G) (Q : D → G → Prop) : OkE (eNot a) env g Q = OkE a env g (kNotE Q) := by
  unfold OkE eNot kNotE kNotE2
  simp only [Ok_bind, ok_ofB, Ok_ok]
@[simp] theorem oaNil (env : List Sl) (g : G) (Q : List D → G → Prop) : OkA eNil env g Q = Q [] g := rfl
@[simp] theorem oaCons (a : EM D) (r : EM (List D)) (env : List Sl) (g : G) (Q : List D → G → Prop) : OkA (eCons a r) env g Q = OkE a env g (kCons r env Q) := by
  unfold OkA OkE eCons kCons kCons2 OkA
  simp only [Ok_bind, Ok_ok]
theorem ite_false_and (c p : Prop) [Decidable c] : (if c then p else False) = (c ∧ p) := by
  by_cases h : c <;> simp [h]
@[simp] theorem oeTup (a : EM (List D)) (env : List Sl) (g : G) (Q : D → G → Prop) : OkE (eTup a) env g Q = OkA a env g (kTup Q) := by
  unfold OkE OkA eTup kTup
  simp only [Ok_bind, Ok_ite, Ok_ok, Ok_stuck, ite_false_and]
@[simp] theorem oeLst (a : EM (List D)) (env : List Sl) (g : G) (Q : D → G → Prop) : OkE (eLst a) env g Q = OkA a env g (kLst Q) := by
  unfold OkE OkA eLst kLst
  simp only [Ok_bind, Ok_ite, Ok_ok, Ok_stuck, ite_false_and]
@[simp] theorem oaLstL (a : EM (List D)) (env : List Sl) (g : G) (Q : List D → G → Prop) : OkA (eLstL a) env g Q = OkA a env g (kLstL Q) := by
  unfold OkA eLstL kLstL
  simp only [Ok_bind, Ok_ite, Ok_ok, Ok_stuck, ite_false_and]
@[simp] theorem oeCall (op : List D → Option D) (a : EM (List D)) (env : List Sl) (g : G) (Q : D → G → Prop) : OkE (eCall op a) env g Q = OkA a env g (kCall op Q) := by
  unfold OkE OkA eCall kCall
  simp only [Ok_bind, ok_of]
@[simp] theorem oeFn (m : List D → PR) (a : EM (List D)) (env : List Sl) (g : G) (Q : D → G → Prop) : OkE (eFn m a) env g Q = OkA a env g (kFn m Q) := by
  unfold OkE OkA eFn
  rw [Ok_bind]
  congr 1
  funext x g
  unfold kFn OkR
  cases m x <;> rfl
@[simp] theorem oeFnH (i : Nat) (m : List D → G → Out D) (a : EM (List D)) (env : List Sl) (g : G) (Q : D → G → Prop) : OkE (eFnH i m a) env g Q = kHd env[i]? (OkA a env g (kFnH m Q)) := by
  unfold OkE eFnH kHd
  cases env[i]? with
  | none => rfl
  | some s =>
    cases s with
    | hand => simp only [Ok_bind]; rfl
    | _ => rfl
@[simp] theorem oeHand (i k : Nat) (env : List Sl) (g : G) (Q : D → G → Prop) : OkE (eHand i k) env g Q = kHd env[i]? (OkO (handD g k) g Q) := by
  unfold OkE eHand kHd
  cases env[i]? with
  | none => rfl
  | some s =>
    cases s with
    | hand => simp only [ok_of]
    | _ => rfl
@[simp] theorem oeDict1 (a b : EM D) (env : List Sl) (g : G) (Q : D → G → Prop) : OkE (eDict1 a b) env g Q = OkE a env g (kDic b env Q) := by
  unfold OkE eDict1 kDic kDic2 OkE
  simp only [Ok_bind]
  congr 1
  funext x g
  cases keyO x <;> rfl
@[simp] theorem oeChain (op op' : D → D → Option D) (a b c : EM D) (env : List Sl) (g : G) (Q : D → G → Prop) : OkE (eChain op op' a b c) env g Q = OkE a env g (kCh1 op op' b c env Q) := by
  unfold OkE eChain kCh1 kCh2 kCh3 OkE kBinB
  simp only [Ok_bind, ok_of]
  congr 1
  funext x g
  congr 1
  funext y g
  congr 1
  funext r g
  cases r with
  | bool b => cases b <;> simp only [Ok_bind, ok_of, Ok_ok]
  | _ => rfl
/-! statements -/
def kThen (b : SM) (P : Fl → List Sl → G → Prop) (fl : Fl) (env : List Sl) (g : G) : Prop := match fl with
  | .next => OkS b env g P
  | fl => P fl env g
@[simp] theorem kThen_n (b : SM) (P : Fl → List Sl → G → Prop) (env : List Sl) (g : G) : kThen b P .next env g = OkS b env g P := rfl
@[simp] theorem kThen_r (b : SM) (P : Fl → List Sl → G → Prop) (d : D) (env : List Sl) (g : G) : kThen b P (.ret d) env g = P (.ret d) env g := rfl
@[simp] theorem kThen_b (b : SM) (P : Fl → List Sl → G → Prop) (env : List Sl) (g : G) : kThen b P .brk env g = P .brk env g := rfl
@[simp] theorem kThen_c (b : SM) (P : Fl → List Sl → G → Prop) (env : List Sl) (g : G) : kThen b P .cont env g = P .cont env g := rfl
@[simp] theorem kThen_w (b : SM) (P : Fl → List Sl → G → Prop) (ds : List D) (env : List Sl) (g : G) : kThen b P (.new ds) env g = P (.new ds) env g := rfl
def kIfS (a b : SM) (env : List Sl) (P : Fl → List Sl → G → Prop) (x : Bool) (g : G) : Prop := if x = true then OkS a env g P else OkS b env g P
@[simp] theorem kIfS_ (a b : SM) (env : List Sl) (P : Fl → List Sl → G → Prop) (x : Bool) (g : G) : kIfS a b env P x g = if x = true then OkS a env g P else OkS b env g P := rfl
def kSet (i : Nat) (env : List Sl) (P : Fl → List Sl → G → Prop) (d : D) (g : G) : Prop := P .next (env.set i (.dat d)) g
@[simp] theorem kSet_ (i : Nat) (env : List Sl) (P : Fl → List Sl → G → Prop) (d : D) (g : G) : kSet i env P d g = P .next (env.set i (.dat d)) g := rfl
def kRet (env : List Sl) (P : Fl → List Sl → G → Prop) (d : D) (g : G) : Prop := P (.ret d) env g
@[simp] theorem kRet_ (env : List Sl) (P : Fl → List Sl → G → Prop) (d : D) (g : G) : kRet env P d g = P (.ret d) env g := rfl
def kNew (env : List Sl) (P : Fl → List Sl → G → Prop) (d : List D) (g : G) : Prop := P (.new d) env g
@[simp] theorem kNew_ (env : List Sl) (P : Fl → List Sl → G → Prop) (d : List D) (g : G) : kNew env P d g = P (.new d) env g := rfl
def kDrop (env : List Sl) (P : Fl → List Sl → G → Prop) (d : D) (g : G) : Prop := P .next env g
@[simp] theorem kDrop_ (env : List Sl) (P : Fl → List Sl → G → Prop) (d : D) (g : G) : kDrop env P d g = P .next env g := rfl
def kPut (k : Nat) (x : Option Sl) (env : List Sl) (P : Fl → List Sl → G → Prop) (d : D) (g : G) : Prop := kHd x (match handPut g k d with
  | some g' => P .next env g'
  | none => False)
@[simp] theorem kPut_ (k : Nat) (x : Option Sl) (env : List Sl) (P : Fl → List Sl → G → Prop) (d : D) (g : G) : kPut k x env P d g = kHd x (match handPut g k d with
  | some g' => P .next env g'
  | none => False) := rfl
def kAsg (b : BM) (env : List Sl) (P : Fl → List Sl → G → Prop) (d : D) (g : G) : Prop := match b d env with
  | some env' => P .next env' g
  | none => False
@[simp] theorem kAsg_ (b : BM) (env : List Sl) (P : Fl → List Sl → G → Prop) (d : D) (g : G) : kAsg b env P d g = match b d env with
  | some env' => P .next env' g
  | none => False := rfl
def kFor (b : BM) (m : SM) (env : List Sl) (P : Fl → List Sl → G → Prop) (ds : List D) (g : G) : Prop := Ok (forGo b m ds env g) (fun r g => P r.1 r.2 g)
@[simp] theorem osSkip (env : List Sl) (g : G) (P : Fl → List Sl → G → Prop) : OkS sSkip env g P = P .next env g := rfl
@[simp] theorem osSeq (a b : SM) (env : List Sl) (g : G) (P : Fl → List Sl → G → Prop) : OkS (sSeq a b) env g P = OkS a env g (kThen b P) := by
  unfold OkS sSeq
  rw [Ok_bind]
  congr 1
  funext r g
  obtain ⟨fl, e⟩ := r
  cases fl <;> rfl
@[simp] theorem osIf (c : EM Bool) (a b : SM) (env : List Sl) (g : G) (P : Fl → List Sl → G → Prop) : OkS (sIf c a b) env g P = OkB c env g (kIfS a b env P) := by
  unfold OkS OkB sIf kIfS OkS
  simp only [Ok_bind, Ok_ite]
@[simp] theorem osSet (i : Nat) (a : EM D) (env : List Sl) (g : G) (P : Fl → List Sl → G → Prop) : OkS (sSet i a) env g P = OkE a env g (kSet i env P) := by
  unfold OkS OkE sSet kSet
  simp only [Ok_bind, Ok_ok]
@[simp] theorem osRet (a : EM D) (env : List Sl) (g : G) (P : Fl → List Sl → G → Prop) : OkS (sRet a) env g P = OkE a env g (kRet env P) := by
  unfold OkS OkE sRet kRet
  simp only [Ok_bind, Ok_ok]
@[simp] theorem osRetN (env : List Sl) (g : G) (P : Fl → List Sl → G → Prop) : OkS sRetN env g P = P (.ret .none) env g := rfl
@[simp] theorem osRetNew (a : EM (List D)) (env : List Sl) (g : G) (P : Fl → List Sl → G → Prop) : OkS (sRetNew a) env g P = OkA a env g (kNew env P) := by
  unfold OkS OkA sRetNew kNew
  simp only [Ok_bind, Ok_ok]
@[simp] theorem osExpr (a : EM D) (env : List Sl) (g : G) (P : Fl → List Sl → G → Prop) : OkS (sExpr a) env g P = OkE a env g (kDrop env P) := by
  unfold OkS OkE sExpr kDrop
  simp only [Ok_bind, Ok_ok]
@[simp] theorem osBrk (env : List Sl) (g : G) (P : Fl → List Sl → G → Prop) : OkS sBrk env g P = P .brk env g := rfl
@[simp] theorem osCont (env : List Sl) (g : G) (P : Fl → List Sl → G → Prop) : OkS sCont env g P = P .cont env g := rfl
@[simp] theorem osRaise (c : Str) (env : List Sl) (g : G) (P : Fl → List Sl → G → Prop) : OkS (sRaise c) env g P = False := rfl
@[simp] theorem osHand (i k : Nat) (a : EM D) (env : List Sl) (g : G) (P : Fl → List Sl → G → Prop) : OkS (sHand i k a) env g P = OkE a env g (kPut k env[i]? env P) := by
  unfold OkS OkE sHand kPut
  rw [Ok_bind]
  congr 1
  funext d g
  unfold kHd
  cases env[i]? with
  | none => rfl
  | some s =>
    cases s with
    | hand => cases handPut g k d <;> rfl
    | _ => rfl
@[simp] theorem osAsg (b : BM) (a : EM D) (env : List Sl) (g : G) (P : Fl → List Sl → G → Prop) : OkS (sAsg b a) env g P = OkE a env g (kAsg b env P) := by
  unfold OkS OkE sAsg kAsg
  rw [Ok_bind]
  congr 1
  funext d g
  cases b d env <;> rfl
@[simp] theorem osFor (src : EM (List D)) (b : BM) (m : SM) (env : List Sl) (g : G) (P : Fl → List Sl → G → Prop) : OkS (sFor src b m) env g P = OkA src env g (kFor b m env P) := by
  unfold OkS OkA sFor kFor
  simp only [Ok_bind]
def kRun (P : D → G → Prop) (fl : Fl) (env : List Sl) (g : G) : Prop := match fl with
  | .ret d => P d g
  | .next => P .none g
  | _ => False
@[simp] theorem kRun_r (P : D → G → Prop) (d : D) (env : List Sl) (g : G) : kRun P (.ret d) env g = P d g := rfl
@[simp] theorem kRun_n (P : D → G → Prop) (env : List Sl) (g : G) : kRun P .next env g = P .none g := rfl
theorem ok_runH {n N : Nat} {m : SM} {ds : List D} {g : G} {P : D → G → Prop} (hl : ds.length + 1 = n) (h : OkS m (Sl.hand :: ds.map Sl.dat ++ List.replicate (N - n) Sl.un) g (kRun P)) : Ok (runH n N m ds g) P := by
  unfold runH
  rw [if_pos hl]
  unfold OkS at h
  cases q : m (Sl.hand :: ds.map Sl.dat ++ List.replicate (N - n) Sl.un) g with
  | stuck => rw [q] at h; exact h.elim
  | err c g1 => rw [q] at h; exact h.elim
  | ok r g1 =>
    rw [q] at h
    obtain ⟨fl, e⟩ := r
    cases fl with
    | ret d => exact h
    | next => exact h
    | _ => exact h.elim
theorem ok_runP {n N : Nat} {m : SM} {ds : List D} {d : D} (hl : ds.length = n) (h : OkS m (ds.map Sl.dat ++ List.replicate (N - n) Sl.un) gZ (kRun fun e _ => e = d)) : runP n N m ds = .ok d := by
  unfold runP
  rw [if_pos hl]
  unfold OkS at h
  cases q : m (ds.map Sl.dat ++ List.replicate (N - n) Sl.un) gZ with
  | stuck => rw [q] at h; exact h.elim
  | err c g1 => rw [q] at h; exact h.elim
  | ok r g1 =>
    rw [q] at h
    obtain ⟨fl, e⟩ := r
    cases fl with
    | ret d => have h : d = _ := h; rw [h]
    | next => have h : PyData.none = _ := h; rw [← h]
    | _ => exact h.elim
@[simp] theorem bName_ (i : Nat) (d : D) (env : List Sl) : bName i d env = some (env.set i (.dat d)) := rfl
@[simp] theorem bNil_ (env : List Sl) : bNil [] env = some env := rfl
@[simp] theorem bCons_ (b : BM) (r : BMs) (d : D) (ds : List D) (env : List Sl) : bCons b r (d :: ds) env = (b d env).bind (r ds) := rfl
@[simp] theorem bTup_ (n : Nat) (r : BMs) (ds : List D) (env : List Sl) : bTup n r (.tuple ds) env = if ds.length = n then r ds env else none := rfl
@[simp] theorem wipeE_nil (env : List Sl) : wipeE env [] = env := rfl
@[simp] theorem wipeE_cons (env : List Sl) (v : Nat) (vs : List Nat) : wipeE env (v :: vs) = (wipeE env vs).set v .un := rfl
@[simp] theorem fsize1 : (0 : Nat) ≤ sizeLine := Nat.zero_le _
theorem sl_le {n : Nat} (h : n ≤ 1000000) : n ≤ sizeLine := by rw [sizeLine_eq]; omega
theorem sl_lt {n : Nat} (h : n ≤ 1000000) : n < sizeLine := by rw [sizeLine_eq]; omega
/-! ints -/
@[simp] theorem eqD_int (i j : Int) : eqD (.int i) (.int j) = some (.bool (decide (i = j))) := by
  show (if (okD (.int i) && okD (.int j)) = true then some (PyData.bool (PyData.eqv (.int i) (.int j))) else none) = _
  rw [if_pos (by rfl)]
  congr 2
@[simp] theorem neD_int (i j : Int) : neD (.int i) (.int j) = some (.bool (!decide (i = j))) := by
  show (if (okD (.int i) && okD (.int j)) = true then some (PyData.bool (!PyData.eqv (.int i) (.int j))) else none) = _
  rw [if_pos (by rfl)]
  congr 2
@[simp] theorem ltD_int (i j : Int) : ltD (.int i) (.int j) = some (.bool (decide (i < j))) := rfl
@[simp] theorem leD_int (i j : Int) : leD (.int i) (.int j) = some (.bool (decide (i ≤ j))) := rfl
@[simp] theorem gtD_int (i j : Int) : gtD (.int i) (.int j) = some (.bool (decide (j < i))) := rfl
@[simp] theorem geD_int (i j : Int) : geD (.int i) (.int j) = some (.bool (decide (j ≤ i))) := rfl
@[simp] theorem eqD_str (i j : Str) : eqD (.str i) (.str j) = some (.bool (decide (i = j))) := rfl
@[simp] theorem neD_str (i j : Str) : neD (.str i) (.str j) = some (.bool (!decide (i = j))) := rfl
@[simp] theorem isD_none (d : D) : isD d .none = some (.bool (isNoneD d)) := rfl
@[simp] theorem isnD_none (d : D) : isnD d .none = some (.bool (!isNoneD d)) := rfl
@[simp] theorem isD_bool (a b : Bool) : isD (.bool a) (.bool b) = some (.bool (decide (a = b))) := rfl
@[simp] theorem isnD_bool (a b : Bool) : isnD (.bool a) (.bool b) = some (.bool (!decide (a = b))) := rfl
@[simp] theorem addD_int (i j : Int) : addD (.int i) (.int j) = some (.int (i + j)) := rfl
@[simp] theorem subD_int (i j : Int) : subD (.int i) (.int j) = some (.int (i - j)) := rfl
@[simp] theorem negD_int (i : Int) : negD (.int i) = some (.int (-i)) := rfl
@[simp] theorem intF_int (i : Int) : intF [.int i] = some (.int i) := rfl
@[simp] theorem absF_int (i : Int) : absF [.int i] = some (.int (if i < 0 then -i else i)) := rfl
@[simp] theorem max2F_int (i j : Int) : max2F [.int i, .int j] = some (.int (if j > i then j else i)) := rfl
@[simp] theorem min2F_int (i j : Int) : min2F [.int i, .int j] = some (.int (if j < i then j else i)) := rfl
@[simp] theorem lenF_list (xs : List D) : lenF [.list xs] = some (.int xs.length) := rfl
@[simp] theorem lenF_tup (xs : List D) : lenF [.tuple xs] = some (.int xs.length) := rfl
theorem mulD_l {i j : Int} (h : smallI i = true) : mulD (.int i) (.int j) = some (.int (i * j)) := by
  show (if smallI i || smallI j then some (PyData.int (i * j)) else none) = _
  rw [h]; rfl
theorem mulD_r {i j : Int} (h : smallI j = true) : mulD (.int i) (.int j) = some (.int (i * j)) := by
  show (if smallI i || smallI j then some (PyData.int (i * j)) else none) = _
  rw [h, Bool.or_true]; rfl
@[simp] theorem mulD_int (i j : Int) : mulD (.int i) (.int j) = if smallI i || smallI j then some (.int (i * j)) else none := rfl
@[simp] theorem fdivD_int (i j : Int) : fdivD (.int i) (.int j) = if j ≠ 0 ∧ j.natAbs < 2 ^ 64 then some (.int (i.fdiv j)) else none := rfl
@[simp] theorem modD_int (i j : Int) : modD (.int i) (.int j) = if j ≠ 0 then some (.int (i.fmod j)) else none := rfl
@[simp] theorem powD_int (i j : Int) : powD (.int i) (.int j) = if 0 ≤ j ∧ j ≤ 1000000 ∧ i.natAbs < 2 ^ 64 then some (.int (i ^ j.toNat)) else none := rfl
@[simp] theorem ixD_list (xs : List D) (i : Int) : ixD (.list xs) (.int i) = atI xs i := rfl
@[simp] theorem ixD_tup (xs : List D) (i : Int) : ixD (.tuple xs) (.int i) = atI xs i := rfl
@[simp] theorem isiD_ (f : D → Bool) (d : D) : isiD f d = some (.bool (f d)) := rfl
@[simp] theorem truD_bool (b : Bool) : truD (.bool b) = some b := rfl
@[simp] theorem truD_none : truD .none = some false := rfl
/-! repr of small ints, None -/
theorem canRepr_int {i : Int} (h : i.natAbs < 2 ^ 1000) : canRepr (.int i) = true := by
  have h1 : i.natAbs.log2 < 1920 := by
    by_cases z : i.natAbs = 0
    · rw [z]; decide
    · exact Nat.lt_trans ((Nat.log2_lt z).mpr h) (by decide)
  unfold canRepr
  simp only [Bool.and_eq_true, decide_eq_true_eq]
  refine ⟨⟨⟨rfl, by simpa [PyData.showable] using h1⟩, ?_⟩, by simp [PyData.depth]⟩
  simp only [PyData.shown]
  exact int_text_fits h1
theorem reprF_of {d : D} (h : canRepr d = true) : reprF [d] = some (.str d.shown) := by
  show (if canRepr d = true then some (PyData.str d.shown) else none) = _
  rw [if_pos h]
theorem canRepr_none : canRepr .none = true := by decide +kernel
end DL
namespace DL
open PySem PySem.Spec PyProof.Rows L2
/-! facts for drawing -/
theorem sm_fmod (x : Int) {m : Int} (h : 0 < m) (h2 : m < 2 ^ 64) : smallI (x.fmod m) = true := by
  have h3 := Int.fmod_nonneg_of_pos x h
  have h4 := Int.fmod_lt_of_pos x h
  unfold smallI
  rw [Bool.and_eq_true, decide_eq_true_eq, decide_eq_true_eq]
  exact ⟨by omega, by omega⟩
theorem sm_1 (x : Int) : smallI (x.fmod 2147483647) = true := sm_fmod x (by decide) (by decide)
theorem sm_2 (x : Int) : smallI (x.fmod 2147483629) = true := sm_fmod x (by decide) (by decide)
theorem atI_ints {cells : List Int} {i : Int} (h : 0 ≤ i) (h2 : i < cells.length) : ∃ c : Int, atI (cells.map PyData.int) i = some (.int c) := by
  obtain ⟨j, rfl⟩ := Int.eq_ofNat_of_zero_le h
  have hj : j < cells.length := by omega
  exact ⟨cells[j], atI_nat (by rw [List.getElem?_map, List.getElem?_eq_getElem hj]; rfl)⟩
end DL

set_option Elab.async false
set_option linter.all false
set_option maxRecDepth 100000
set_option maxHeartbeats 2000000
/-! the plain side: loops -/
namespace DL
open PySem PySem.Spec PyProof.Rows L2
theorem eqE_of {a : EM D} {env : List Sl} {g : G} {d : D} (h : OkE a env g fun e g' => e = d ∧ g' = g) : a env g = .ok d g := by
  unfold OkE at h
  cases q : a env g with
  | ok e g' => rw [q] at h; obtain ⟨rfl, rfl⟩ := h; rfl
  | err c g' => rw [q] at h; exact h.elim
  | stuck => rw [q] at h; exact h.elim
theorem eqB_of {a : EM Bool} {env : List Sl} {g : G} {d : Bool} (h : OkB a env g fun e g' => e = d ∧ g' = g) : a env g = .ok d g := by
  unfold OkB at h
  cases q : a env g with
  | ok e g' => rw [q] at h; obtain ⟨rfl, rfl⟩ := h; rfl
  | err c g' => rw [q] at h; exact h.elim
  | stuck => rw [q] at h; exact h.elim
/-- a comprehension whose test and item neither draw nor fail -/
theorem lc_filter {b : BM} {t : EM Bool} {e : EM D} {env : List Sl} (T : D → Bool) (V : D → D) : ∀ {ds : List D} {g : G}, (∀ d ∈ ds, ∃ env', b d env = some env' ∧ t env' g = .ok (T d) g ∧ (T d = true → e env' g = .ok (V d) g)) → lcGo b t e env ds g = .ok ((ds.filter T).map V) g
  | [], g, _ => rfl
  | d :: ds, g, h => by
    obtain ⟨env', h1, h2, h3⟩ := h d List.mem_cons_self
    have ih := lc_filter T V (ds := ds) (g := g) fun x hx => h x (List.mem_cons_of_mem _ hx)
    unfold lcGo
    rw [h1]
    show (t env' g).noerr.bind _ = _
    rw [h2]
    show (if T d = true then _ else _) = _
    cases q : T d with
    | true =>
      rw [if_pos rfl, h3 q]
      show (lcGo b t e env ds g).bind _ = _
      rw [ih, List.filter_cons_of_pos q]; rfl
    | false =>
      rw [if_neg (by simp), ih, List.filter_cons_of_neg (by simp [q])]
def kLc (vs : List Nat) (b : BM) (t : EM Bool) (e : EM D) (env : List Sl) (Q : D → G → Prop) (ds : List D) (g : G) : Prop := ds.length < sizeLine ∧ Ok (lcGo b t e (wipeE env vs) ds g) fun ys g => Q (.list ys) g
@[simp] theorem oeLc (vs : List Nat) (src : EM (List D)) (b : BM) (t : EM Bool) (e : EM D) (env : List Sl) (g : G) (Q : D → G → Prop) : OkE (eLc vs src b t e) env g Q = OkA src env g (kLc vs b t e env Q) := by
  unfold OkE OkA eLc eLcL kLc
  rw [Ok_bind, Ok_bind]
  congr 1
  funext ds g
  simp only [Ok_ite, Ok_stuck, Ok_ok, ite_false_and]
def kRange1 (Q : List D → G → Prop) (ds : List D) (g : G) : Prop := match ds with
  | [.int j] => okR j = true ∧ Q (rng 0 j.toNat) g
  | _ => False
def kRange2 (Q : List D → G → Prop) (ds : List D) (g : G) : Prop := match ds with
  | [.int i, .int j] => (okR i && okR j) = true ∧ Q (rng i (j - i).toNat) g
  | _ => False
@[simp] theorem kRange1_ (Q : List D → G → Prop) (j : Int) (g : G) : kRange1 Q [.int j] g = (okR j = true ∧ Q (rng 0 j.toNat) g) := rfl
@[simp] theorem kRange2_ (Q : List D → G → Prop) (i j : Int) (g : G) : kRange2 Q [.int i, .int j] g = ((okR i && okR j) = true ∧ Q (rng i (j - i).toNat) g) := rfl
@[simp] theorem oaRange1 (a : EM (List D)) (env : List Sl) (g : G) (Q : List D → G → Prop) : OkA (iRange1 a) env g Q = OkA a env g (kRange1 Q) := by
  unfold OkA iRange1
  rw [Ok_bind]
  congr 1
  funext ds g
  unfold kRange1
  split
  · simp only [Ok_ite, Ok_ok, Ok_stuck, ite_false_and]
  · rename_i hne
    first
    | rfl
    | (split
       · exact (hne _ rfl).elim
       · rfl)
@[simp] theorem oaRange2 (a : EM (List D)) (env : List Sl) (g : G) (Q : List D → G → Prop) : OkA (iRange2 a) env g Q = OkA a env g (kRange2 Q) := by
  unfold OkA iRange2
  rw [Ok_bind]
  congr 1
  funext ds g
  unfold kRange2
  split
  · simp only [Ok_ite, Ok_ok, Ok_stuck, ite_false_and]
  · rename_i hne
    first
    | rfl
    | (split
       · exact (hne _ _ rfl).elim
       · rfl)
def kItems (Q : List D → G → Prop) (d : D) (g : G) : Prop := match itemsD d with
  | some ds => Q ds g
  | none => False
@[simp] theorem kItems_l (Q : List D → G → Prop) (ds : List D) (g : G) : kItems Q (.list ds) g = Q ds g := rfl
@[simp] theorem kItems_t (Q : List D → G → Prop) (ds : List D) (g : G) : kItems Q (.tuple ds) g = Q ds g := rfl
@[simp] theorem oaSeq (a : EM D) (env : List Sl) (g : G) (Q : List D → G → Prop) : OkA (iSeq a) env g Q = OkE a env g (kItems Q) := by
  unfold OkA OkE iSeq
  rw [Ok_bind]
  congr 1
  funext d g
  unfold kItems
  cases itemsD d <;> rfl
theorem rng_length (lo : Int) (n : Nat) : (rng lo n).length = n := by simp [rng]
theorem mem_rng {lo : Int} {n : Nat} {d : D} (h : d ∈ rng lo n) : ∃ i : Int, d = .int i ∧ lo ≤ i ∧ i < lo + n := by
  obtain ⟨k, hk, rfl⟩ := List.mem_map.mp h
  rw [List.mem_range] at hk
  exact ⟨lo + k, rfl, by omega, by omega⟩
/-- a loop that carries a state on -/
theorem for_inv {b : BM} {m : SM} (Inv : List Sl → G → Prop) : ∀ {ds : List D} {env : List Sl} {g : G}, Inv env g → (∀ d ∈ ds, ∀ env g, Inv env g → ∃ env', b d env = some env' ∧ OkS m env' g fun fl e2 g2 => fl = .next ∧ Inv e2 g2) → Ok (forGo b m ds env g) fun r g2 => r.1 = .next ∧ Inv r.2 g2
  | [], env, g, h0, _ => ⟨rfl, h0⟩
  | d :: ds, env, g, h0, h => by
    obtain ⟨env', h1, h2⟩ := h d List.mem_cons_self env g h0
    unfold forGo
    rw [h1]
    show Ok ((m env' g).bind _) _
    rw [Ok_bind]
    refine Ok.mono h2 fun r g2 hr => ?_
    obtain ⟨fl, e2⟩ := r
    obtain ⟨rfl, hi⟩ := hr
    exact for_inv Inv hi fun x hx => h x (List.mem_cons_of_mem _ hx)
/-- a loop that hands out the first that is so -/
theorem for_find {b : BM} {m : SM} {g : G} (T : D → Bool) (Inv : List Sl → Prop) : ∀ {ds : List D} {env : List Sl}, Inv env → (∀ d ∈ ds, ∀ env, Inv env → ∃ env', b d env = some env' ∧ ∃ e2, Inv e2 ∧ m env' g = .ok (if T d = true then (.ret d, e2) else (.next, e2)) g) →
    ∃ e2, Inv e2 ∧ forGo b m ds env g = .ok (match ds.find? T with
      | some d => (.ret d, e2)
      | none => (.next, e2)) g
  | [], env, h0, _ => ⟨env, h0, rfl⟩
  | d :: ds, env, h0, h => by
    obtain ⟨env', h1, e2, h2, h3⟩ := h d List.mem_cons_self env h0
    unfold forGo
    rw [h1]
    cases q : T d with
    | true =>
      rw [q, if_pos rfl] at h3
      refine ⟨e2, h2, ?_⟩
      show (m env' g).bind _ = _
      rw [h3, List.find?_cons_of_pos q]
      rfl
    | false =>
      rw [q, if_neg (by simp)] at h3
      obtain ⟨e3, h4, h5⟩ := for_find T Inv (ds := ds) h2 fun x hx => h x (List.mem_cons_of_mem _ hx)
      refine ⟨e3, h4, ?_⟩
      show (m env' g).bind _ = _
      rw [h3, List.find?_cons_of_neg (by simp [q])]
      exact h5
theorem find_filter {α : Type} (T : α → Bool) (ds : List α) : ds.find? T = (ds.filter T).head? := by
  induction ds with
  | nil => rfl
  | cons d ds ih =>
    cases q : T d with
    | true => rw [List.find?_cons_of_pos q, List.filter_cons_of_pos q]; rfl
    | false => rw [List.find?_cons_of_neg (by simp [q]), List.filter_cons_of_neg (by simp [q]), ih]
theorem atI_mem {α : Type} {xs : List α} {i : Int} (h : 0 ≤ i) (h2 : i < xs.length) : ∃ d, atI xs i = some d ∧ d ∈ xs := by
  obtain ⟨j, rfl⟩ := Int.eq_ofNat_of_zero_le h
  have hj : j < xs.length := by omega
  exact ⟨xs[j], atI_nat (List.getElem?_eq_getElem hj), List.getElem_mem hj⟩
theorem atI_head {α : Type} (x : α) (xs : List α) : atI (x :: xs) 0 = some x := atI_nat (j := 0) rfl
/-- an int from a to b -/
def inRg (d : D) (a b : Int) : Bool := match d with
  | .int x => decide (a ≤ x) && decide (x ≤ b)
  | _ => false
@[simp] theorem inRg_int (x a b : Int) : inRg (.int x) a b = (decide (a ≤ x) && decide (x ≤ b)) := rfl
/-- functions without a hand, one step after another, errors too -/
@[simp] theorem runP_ (n N : Nat) (m : SM) (ds : List D) : runP n N m ds = if ds.length = n then (match m (ds.map Sl.dat ++ List.replicate (N - n) Sl.un) gZ with
    | .ok (.ret d, _) _ => .ok d
    | .ok (.next, _) _ => .ok .none
    | .err c _ => .err c
    | _ => .stuck) else .stuck := rfl

theorem oe_word {ask ws : List Str} {f : EM D} {env : List Sl} {g : G} {c r : Str} {Q : D → G → Prop} (h : f env g = .err c g) (hl : (ask.zip ws).lookup c = some r) : OkE (eWord ask ws f) env g Q = Q (.str r) g := by
  unfold OkE eWord
  rw [h]
  show Ok (match (ask.zip ws).lookup c with
    | some r => .ok (.str r) g
    | none => .stuck) Q = _
  rw [hl]
  rfl
theorem oe_told {ask ws : List Str} {f : EM D} {env : List Sl} {g g' : G} {d : D} {Q : D → G → Prop} (h : f env g = .ok d g') : OkE (eWord ask ws f) env g Q = Q (.str "told") g' := by
  unfold OkE eWord
  rw [h]
  rfl
def kForFn (i : Nat) (ns : List Str) (m : SM) (P : Fl → List Sl → G → Prop) (fl : Fl) (env : List Sl) (g : G) : Prop := match fl with
  | .next => OkS (sForFn i ns m) env g P
  | .cont => OkS (sForFn i ns m) env g P
  | .brk => P .next env g
  | fl => P fl env g
@[simp] theorem kForFn_n (i : Nat) (ns : List Str) (m : SM) (P : Fl → List Sl → G → Prop) (env : List Sl) (g : G) : kForFn i ns m P .next env g = OkS (sForFn i ns m) env g P := rfl
@[simp] theorem kForFn_r (i : Nat) (ns : List Str) (m : SM) (P : Fl → List Sl → G → Prop) (d : D) (env : List Sl) (g : G) : kForFn i ns m P (.ret d) env g = P (.ret d) env g := rfl
@[simp] theorem osForFn_nil (i : Nat) (m : SM) (env : List Sl) (g : G) (P : Fl → List Sl → G → Prop) : OkS (sForFn i [] m) env g P = P .next env g := rfl
@[simp] theorem osForFn_cons (i : Nat) (nm : Str) (ns : List Str) (m : SM) (env : List Sl) (g : G) (P : Fl → List Sl → G → Prop) : OkS (sForFn i (nm :: ns) m) env g P = OkS m (env.set i (.fn nm)) g (kForFn i ns m P) := by
  show Ok (forFn i m (nm :: ns) env g) _ = Ok (m (env.set i (.fn nm)) g) _
  unfold forFn
  rw [Ok_bind]
  congr 1
  funext r g
  obtain ⟨fl, e⟩ := r
  cases fl <;> rfl
@[simp] theorem addD_list (xs ys : List D) : addD (.list xs) (.list ys) = if xs.length + ys.length ≤ sizeLine then some (.list (xs ++ ys)) else none := rfl
@[simp] theorem addD_tup (xs ys : List D) : addD (.tuple xs) (.tuple ys) = if xs.length + ys.length ≤ sizeLine then some (.tuple (xs ++ ys)) else none := rfl

def ofPR (o : PR) (g : G) : Out D := match o with
  | .ok d => .ok d g
  | .err c => .err c g
  | .stuck => .stuck
@[simp] theorem ofPR_ok (d : D) (g : G) : ofPR (.ok d) g = .ok d g := rfl
@[simp] theorem ofPR_err (c : Str) (g : G) : ofPR (.err c) g = .err c g := rfl

def kScr (x : Option Sl) (n : Nat) (g : G) (Q : D → G → Prop) : Prop := match x with
  | some (.scr ns) => Q (.list ((cut ns none (some (n : Int))).map .int)) g
  | _ => False
@[simp] theorem kScr_ (ns : List Int) (n : Nat) (g : G) (Q : D → G → Prop) : kScr (some (.scr ns)) n g Q = Q (.list ((cut ns none (some (n : Int))).map .int)) g := rfl
@[simp] theorem oeScr (i n : Nat) (env : List Sl) (g : G) (Q : D → G → Prop) : OkE (eScr i n) env g Q = kScr env[i]? n g Q := by
  unfold OkE eScr kScr
  cases env[i]? with
  | none => rfl
  | some s => cases s <;> rfl
theorem ok_runScr {N : Nat} {m : SM} {ns : List Int} {es : List D} (h : OkS m (Sl.scr ns :: List.replicate (N - 1) Sl.un) gZ fun fl _ _ => fl = .new es) : runScr N m ns = .ok es := by
  unfold runScr
  unfold OkS at h
  cases q : m (Sl.scr ns :: List.replicate (N - 1) Sl.un) gZ with
  | stuck => rw [q] at h; exact h.elim
  | err c g1 => rw [q] at h; exact h.elim
  | ok r g1 =>
    rw [q] at h
    obtain ⟨fl, e⟩ := r
    have h : fl = .new es := h
    subst h
    rfl
theorem ok_runLaw {iH N : Nat} {mh : List Int → PRN} {m : SM} {ns : List Int} {es : List D} {g : G} (h1 : mh ns = .ok es) (h2 : handOf es = some g) (h3 : OkS m ((List.replicate N Sl.un).set iH .hand) g fun fl _ _ => fl = .ret (.bool true)) : runLaw iH N mh m ns := by
  unfold runLaw
  rw [h1]
  show (match handOf es with
    | some g => match m ((List.replicate N Sl.un).set iH .hand) g with
      | .ok (.ret (.bool true), _) _ => True
      | _ => False
    | none => False)
  rw [h2]
  unfold OkS at h3
  show (match m ((List.replicate N Sl.un).set iH .hand) g with
      | .ok (.ret (.bool true), _) _ => True
      | _ => False)
  cases q : m ((List.replicate N Sl.un).set iH .hand) g with
  | stuck => rw [q] at h3; exact h3.elim
  | err c g1 => rw [q] at h3; exact h3.elim
  | ok r g1 =>
    rw [q] at h3
    obtain ⟨fl, e⟩ := r
    have h3 : fl = .ret (.bool true) := h3
    subst h3
    trivial
theorem cut_len {α : Type} (xs : List α) (lo hi : Option Int) : (cut xs lo hi).length ≤ xs.length := by
  unfold cut
  rw [List.length_take, List.length_drop]
  omega
/-- a comprehension over ints that makes ints -/
theorem lc_ints {b : BM} {e : EM D} {env : List Sl} (f : Int → Int) : ∀ {L : List Int} {g : G}, (∀ i ∈ L, ∃ env', b (.int i) env = some env' ∧ e env' g = .ok (.int (f i)) g) → lcGo b bYes e env (L.map .int) g = .ok ((L.map f).map .int) g
  | [], g, _ => rfl
  | i :: L, g, h => by
    obtain ⟨env', h1, h2⟩ := h i List.mem_cons_self
    have ih := lc_ints f (L := L) (g := g) fun x hx => h x (List.mem_cons_of_mem _ hx)
    rw [List.map_cons]
    unfold lcGo
    rw [h1]
    show (e env' g).noerr.bind _ = _
    rw [h2]
    show (lcGo b bYes e env (L.map .int) g).bind _ = _
    rw [ih]; rfl
/-- a comprehension that draws: all items are so -/
theorem lc_inv {b : BM} {e : EM D} {env : List Sl} (W : G → Prop) (P : D → Prop) : ∀ {ds : List D} {g : G}, W g → (∀ d ∈ ds, ∀ g, W g → ∃ env', b d env = some env' ∧ OkE e env' g fun y g' => W g' ∧ P y) → Ok (lcGo b bYes e env ds g) fun ys g' => W g' ∧ (∀ y ∈ ys, P y) ∧ ys.length = ds.length
  | [], g, w, _ => ⟨w, (fun y hy => by cases hy), rfl⟩
  | d :: ds, g, w, h => by
    obtain ⟨env', h1, h2⟩ := h d List.mem_cons_self g w
    unfold lcGo
    rw [h1]
    show Ok ((e env' g).noerr.bind _) _
    rw [Ok_bind, Ok_noerr]
    refine Ok.mono h2 fun y g1 ⟨w1, py⟩ => ?_
    rw [Ok_bind]
    refine Ok.mono (lc_inv W P (ds := ds) w1 fun x hx => h x (List.mem_cons_of_mem _ hx)) fun ys g2 ⟨w2, pys, hl⟩ => ?_
    refine ⟨w2, fun z hz => ?_, by rw [List.length_cons, List.length_cons, hl]⟩
    rcases List.mem_cons.mp hz with rfl | hz
    · exact py
    · exact pys z hz
theorem allF_true {ys : List D} (h : ∀ y ∈ ys, y = .bool true) : allF [.list ys] = some (.bool true) := by
  have e : ys = (List.replicate ys.length true).map PyData.bool := by
    rw [List.map_replicate]
    exact List.eq_replicate_iff.mpr ⟨rfl, h⟩
  show (allBools ys).map (fun ns => PyData.bool (ns.all id)) = _
  rw [e, allBools_map]
  simp
theorem handOf_ints (cells : List Int) (i b mx n : Int) : handOf [.list (cells.map .int), .int i, .int b, .int mx, .int n] = some ⟨cells, i, b, mx, n⟩ := by
  show (allInts (cells.map PyData.int)).map _ = _
  rw [allInts_map]; rfl
end DL

set_option Elab.async false
set_option linter.all false
set_option maxRecDepth 100000
set_option maxHeartbeats 2000000
/-! the plain side: own lists, several values at once, enumerate, zip, range of three, sorted -/
namespace DL
open PySem PySem.Spec PyProof.Rows L2

/-! walks -/
def kSeqD (f : List D → List D) (Q : List D → G → Prop) (d : D) (g : G) : Prop := match seqD d with
  | some ds => Q (f ds) g
  | none => False
@[simp] theorem kSeqD_l (f : List D → List D) (Q : List D → G → Prop) (ds : List D) (g : G) : kSeqD f Q (.list ds) g = Q (f ds) g := rfl
@[simp] theorem kSeqD_t (f : List D → List D) (Q : List D → G → Prop) (ds : List D) (g : G) : kSeqD f Q (.tuple ds) g = Q (f ds) g := rfl
def kEnum1 (Q : List D → G → Prop) (ds : List D) (g : G) : Prop := match ds with
  | [d] => kSeqD (rngE 0) Q d g
  | _ => False
@[simp] theorem kEnum1_ (Q : List D → G → Prop) (d : D) (g : G) : kEnum1 Q [d] g = kSeqD (rngE 0) Q d g := rfl
@[simp] theorem oaEnum1 (a : EM (List D)) (env : List Sl) (g : G) (Q : List D → G → Prop) : OkA (iEnum1 a) env g Q = OkA a env g (kEnum1 Q) := by
  unfold OkA iEnum1
  rw [Ok_bind]
  congr 1
  funext ds g
  match ds with
  | [] => rfl
  | [d] =>
    show Ok (Out.of ((seqD d).map (rngE 0)) g) Q = kSeqD (rngE 0) Q d g
    unfold kSeqD
    cases seqD d <;> rfl
  | _ :: _ :: _ => rfl
def kEnum2 (Q : List D → G → Prop) (ds : List D) (g : G) : Prop := match ds with
  | [d, .int k] => okR k = true ∧ kSeqD (rngE k) Q d g
  | _ => False
@[simp] theorem kEnum2_ (Q : List D → G → Prop) (d : D) (k : Int) (g : G) : kEnum2 Q [d, .int k] g = (okR k = true ∧ kSeqD (rngE k) Q d g) := rfl
def kZip2 (Q : List D → G → Prop) (ds : List D) (g : G) : Prop := match ds with
  | [d, e] => match seqD d, seqD e with
    | some ds, some es => Q (zipD ds es) g
    | _, _ => False
  | _ => False
@[simp] theorem kZip2_ll (Q : List D → G → Prop) (ds es : List D) (g : G) : kZip2 Q [.list ds, .list es] g = Q (zipD ds es) g := rfl
@[simp] theorem kZip2_lt (Q : List D → G → Prop) (ds es : List D) (g : G) : kZip2 Q [.list ds, .tuple es] g = Q (zipD ds es) g := rfl
@[simp] theorem kZip2_tl (Q : List D → G → Prop) (ds es : List D) (g : G) : kZip2 Q [.tuple ds, .list es] g = Q (zipD ds es) g := rfl
@[simp] theorem kZip2_tt (Q : List D → G → Prop) (ds es : List D) (g : G) : kZip2 Q [.tuple ds, .tuple es] g = Q (zipD ds es) g := rfl
@[simp] theorem oaZip2 (a : EM (List D)) (env : List Sl) (g : G) (Q : List D → G → Prop) : OkA (iZip2 a) env g Q = OkA a env g (kZip2 Q) := by
  unfold OkA iZip2
  rw [Ok_bind]
  congr 1
  funext ds g
  match ds with
  | [] => rfl
  | [d] => rfl
  | [d, e] =>
    show Ok (Out.of ((seqD d).bind fun ds => (seqD e).map fun es => zipD ds es) g) Q = match seqD d, seqD e with
      | some ds, some es => Q (zipD ds es) g
      | _, _ => False
    cases seqD d with
    | none => rfl
    | some ds => cases seqD e <;> rfl
  | _ :: _ :: _ :: _ => rfl
def kRange3 (Q : List D → G → Prop) (ds : List D) (g : G) : Prop := match ds with
  | [.int i, .int j, .int c] => rgOk i j c = true ∧ Q (rngC i c (Builtin.Range.rangeSize i j c).toNat) g
  | _ => False
@[simp] theorem kRange3_ (Q : List D → G → Prop) (i j c : Int) (g : G) : kRange3 Q [.int i, .int j, .int c] g = (rgOk i j c = true ∧ Q (rngC i c (Builtin.Range.rangeSize i j c).toNat) g) := rfl
@[simp] theorem oaRange3 (a : EM (List D)) (env : List Sl) (g : G) (Q : List D → G → Prop) : OkA (iRange3 a) env g Q = OkA a env g (kRange3 Q) := by
  unfold OkA iRange3
  rw [Ok_bind]
  congr 1
  funext ds g
  unfold kRange3
  split
  · simp only [Ok_ite, Ok_ok, Ok_stuck, ite_false_and]
  · rename_i hne
    first
    | rfl
    | (split
       · exact (hne _ _ _ rfl).elim
       · rfl)
/-! own lists -/
def kOwn (x : Option Sl) (k : List D → Prop) : Prop := match x with
  | some (.own ds) => k ds
  | _ => False
@[simp] theorem kOwn_ (ds : List D) (k : List D → Prop) : kOwn (some (.own ds)) k = k ds := rfl
def kSetN (i : Nat) (env : List Sl) (P : Fl → List Sl → G → Prop) (ds : List D) (g : G) : Prop := P .next (env.set i (.own ds)) g
@[simp] theorem kSetN_ (i : Nat) (env : List Sl) (P : Fl → List Sl → G → Prop) (ds : List D) (g : G) : kSetN i env P ds g = P .next (env.set i (.own ds)) g := rfl
@[simp] theorem osSetN (i : Nat) (a : EM (List D)) (env : List Sl) (g : G) (P : Fl → List Sl → G → Prop) : OkS (sSetN i a) env g P = OkA a env g (kSetN i env P) := by
  unfold OkS OkA sSetN kSetN
  simp only [Ok_bind, Ok_ok]
def kFrz (i : Nat) (m : SM) (env : List Sl) (g : G) (P : Fl → List Sl → G → Prop) (ds : List D) : Prop := OkS m (env.set i (.dat (.list ds))) g P
@[simp] theorem kFrz_ (i : Nat) (m : SM) (env : List Sl) (g : G) (P : Fl → List Sl → G → Prop) (ds : List D) : kFrz i m env g P ds = OkS m (env.set i (.dat (.list ds))) g P := rfl
@[simp] theorem osFrz (i : Nat) (m : SM) (env : List Sl) (g : G) (P : Fl → List Sl → G → Prop) : OkS (sFrz i m) env g P = kOwn env[i]? (kFrz i m env g P) := by
  unfold OkS sFrz kOwn kFrz OkS
  cases env[i]? with
  | none => rfl
  | some s => cases s <;> rfl
def kApp2 (i : Nat) (env : List Sl) (P : Fl → List Sl → G → Prop) (ds : List D) (d : D) (g : G) : Prop := ds.length < sizeLine ∧ P .next (env.set i (.own (ds ++ [d]))) g
@[simp] theorem kApp2_ (i : Nat) (env : List Sl) (P : Fl → List Sl → G → Prop) (ds : List D) (d : D) (g : G) : kApp2 i env P ds d g = (ds.length < sizeLine ∧ P .next (env.set i (.own (ds ++ [d]))) g) := rfl
def kApp (i : Nat) (a : EM D) (env : List Sl) (g : G) (P : Fl → List Sl → G → Prop) (ds : List D) : Prop := OkE a env g (kApp2 i env P ds)
@[simp] theorem kApp_ (i : Nat) (a : EM D) (env : List Sl) (g : G) (P : Fl → List Sl → G → Prop) (ds : List D) : kApp i a env g P ds = OkE a env g (kApp2 i env P ds) := rfl
@[simp] theorem osApp (i : Nat) (a : EM D) (env : List Sl) (g : G) (P : Fl → List Sl → G → Prop) : OkS (sApp i a) env g P = kOwn env[i]? (kApp i a env g P) := by
  unfold OkS sApp kOwn kApp OkE kApp2
  cases env[i]? with
  | none => rfl
  | some s =>
    cases s with
    | own ds => simp only [Ok_bind, Ok_ite, Ok_ok, Ok_stuck, ite_false_and]
    | _ => rfl
def kExt2 (i : Nat) (env : List Sl) (P : Fl → List Sl → G → Prop) (ds : List D) (d : D) (g : G) : Prop := match d with
  | .list es => ds.length + es.length ≤ sizeLine ∧ P .next (env.set i (.own (ds ++ es))) g
  | _ => False
@[simp] theorem kExt2_ (i : Nat) (env : List Sl) (P : Fl → List Sl → G → Prop) (ds es : List D) (g : G) : kExt2 i env P ds (.list es) g = (ds.length + es.length ≤ sizeLine ∧ P .next (env.set i (.own (ds ++ es))) g) := rfl
def kExt (i : Nat) (a : EM D) (env : List Sl) (g : G) (P : Fl → List Sl → G → Prop) (ds : List D) : Prop := OkE a env g (kExt2 i env P ds)
@[simp] theorem kExt_ (i : Nat) (a : EM D) (env : List Sl) (g : G) (P : Fl → List Sl → G → Prop) (ds : List D) : kExt i a env g P ds = OkE a env g (kExt2 i env P ds) := rfl
@[simp] theorem osExt (i : Nat) (a : EM D) (env : List Sl) (g : G) (P : Fl → List Sl → G → Prop) : OkS (sExt i a) env g P = kOwn env[i]? (kExt i a env g P) := by
  unfold OkS sExt kOwn kExt OkE
  cases env[i]? with
  | none => rfl
  | some s =>
    cases s with
    | own ds =>
      show Ok ((a env g).bind _) _ = _
      rw [Ok_bind]
      congr 1
      funext d g
      cases d with
      | list es => simp only [Ok_ite, Ok_ok, Ok_stuck, ite_false_and, kExt2]
      | _ => rfl
    | _ => rfl
def kPutL3 (i : Nat) (env : List Sl) (P : Fl → List Sl → G → Prop) (ds : List D) (d : D) (j : D) (g : G) : Prop := match j with
  | .int j => match ixN ds.length j with
    | some n => P .next (env.set i (.own (ds.set n d))) g
    | none => False
  | _ => False
@[simp] theorem kPutL3_ (i : Nat) (env : List Sl) (P : Fl → List Sl → G → Prop) (ds : List D) (d : D) (j : Int) (g : G) : kPutL3 i env P ds d (.int j) g = match ixN ds.length j with
    | some n => P .next (env.set i (.own (ds.set n d))) g
    | none => False := rfl
def kPutL2 (i : Nat) (ix : EM D) (env : List Sl) (P : Fl → List Sl → G → Prop) (ds : List D) (d : D) (g : G) : Prop := OkE ix env g (kPutL3 i env P ds d)
@[simp] theorem kPutL2_ (i : Nat) (ix : EM D) (env : List Sl) (P : Fl → List Sl → G → Prop) (ds : List D) (d : D) (g : G) : kPutL2 i ix env P ds d g = OkE ix env g (kPutL3 i env P ds d) := rfl
def kPutL (i : Nat) (ix a : EM D) (env : List Sl) (g : G) (P : Fl → List Sl → G → Prop) (ds : List D) : Prop := OkE a env g (kPutL2 i ix env P ds)
@[simp] theorem kPutL_ (i : Nat) (ix a : EM D) (env : List Sl) (g : G) (P : Fl → List Sl → G → Prop) (ds : List D) : kPutL i ix a env g P ds = OkE a env g (kPutL2 i ix env P ds) := rfl
@[simp] theorem osPut (i : Nat) (ix a : EM D) (env : List Sl) (g : G) (P : Fl → List Sl → G → Prop) : OkS (sPut i ix a) env g P = kOwn env[i]? (kPutL i ix a env g P) := by
  unfold OkS sPut kOwn kPutL OkE kPutL2 OkE
  cases env[i]? with
  | none => rfl
  | some s =>
    cases s with
    | own ds =>
      show Ok ((a env g).bind _) _ = _
      rw [Ok_bind]
      congr 1
      funext d g
      rw [Ok_bind]
      congr 1
      funext j g
      cases j with
      | int j =>
        unfold kPutL3
        dsimp only
        cases ixN ds.length j <;> rfl
      | _ => rfl
    | _ => rfl
def kLend (Q : D → G → Prop) (d : D) (g : G) : Prop := lfree d = true ∧ Q d g
@[simp] theorem kLend_ (Q : D → G → Prop) (d : D) (g : G) : kLend Q d g = (lfree d = true ∧ Q d g) := rfl
@[simp] theorem oeLend (a : EM D) (env : List Sl) (g : G) (Q : D → G → Prop) : OkE (eLend a) env g Q = OkE a (frzAll env) g (kLend Q) := by
  unfold OkE eLend kLend
  simp only [Ok_bind, Ok_ite, Ok_ok, Ok_stuck, ite_false_and]
@[simp] theorem obLend (a : EM Bool) (env : List Sl) (g : G) (Q : Bool → G → Prop) : OkB (eLendB a) env g Q = OkB a (frzAll env) g Q := rfl
def kLendL (Q : List D → G → Prop) (d : List D) (g : G) : Prop := lfrees d = true ∧ Q d g
@[simp] theorem kLendL_ (Q : List D → G → Prop) (d : List D) (g : G) : kLendL Q d g = (lfrees d = true ∧ Q d g) := rfl
@[simp] theorem oaLend (a : EM (List D)) (env : List Sl) (g : G) (Q : List D → G → Prop) : OkA (eLendL a) env g Q = OkA a (frzAll env) g (kLendL Q) := by
  unfold OkA eLendL kLendL
  simp only [Ok_bind, Ok_ite, Ok_ok, Ok_stuck, ite_false_and]
@[simp] theorem frzAll_nil : frzAll [] = [] := rfl
@[simp] theorem frzAll_cons (s : Sl) (env : List Sl) : frzAll (s :: env) = frzS s :: frzAll env := rfl
@[simp] theorem frzS_own (ds : List D) : frzS (.own ds) = .dat (.list ds) := rfl
@[simp] theorem frzS_dat (d : D) : frzS (.dat d) = .dat d := rfl
@[simp] theorem frzS_hand : frzS .hand = .hand := rfl
@[simp] theorem frzS_un : frzS .un = .un := rfl
/-! several values -/
def OkM (a : EM (List Itm)) (env : List Sl) (g : G) (Q : List Itm → G → Prop) : Prop := Ok (a env g) Q
def kM2 (it : Itm) (Q : List Itm → G → Prop) (its : List Itm) (g : G) : Prop := Q (it :: its) g
@[simp] theorem kM2_ (it : Itm) (Q : List Itm → G → Prop) (its : List Itm) (g : G) : kM2 it Q its g = Q (it :: its) g := rfl
def kMD (f : EM (List Itm)) (env : List Sl) (Q : List Itm → G → Prop) (d : D) (g : G) : Prop := OkM f env g (kM2 (.dat d) Q)
def kMN (f : EM (List Itm)) (env : List Sl) (Q : List Itm → G → Prop) (d : List D) (g : G) : Prop := OkM f env g (kM2 (.new d) Q)
@[simp] theorem kMD_ (f : EM (List Itm)) (env : List Sl) (Q : List Itm → G → Prop) (d : D) (g : G) : kMD f env Q d g = OkM f env g (kM2 (.dat d) Q) := rfl
@[simp] theorem kMN_ (f : EM (List Itm)) (env : List Sl) (Q : List Itm → G → Prop) (d : List D) (g : G) : kMN f env Q d g = OkM f env g (kM2 (.new d) Q) := rfl
@[simp] theorem omNil (env : List Sl) (g : G) (Q : List Itm → G → Prop) : OkM mNil env g Q = Q [] g := rfl
@[simp] theorem omDat (a : EM D) (f : EM (List Itm)) (env : List Sl) (g : G) (Q : List Itm → G → Prop) : OkM (mDat a f) env g Q = OkE a env g (kMD f env Q) := by
  unfold OkM mDat OkE kMD OkM kM2
  simp only [Ok_bind, Ok_ok]
@[simp] theorem omNew (a : EM (List D)) (f : EM (List Itm)) (env : List Sl) (g : G) (Q : List Itm → G → Prop) : OkM (mNew a f) env g Q = OkA a env g (kMN f env Q) := by
  unfold OkM mNew OkA kMN OkM kM2
  simp only [Ok_bind, Ok_ok]
def kMix (L : List Nat) (env : List Sl) (P : Fl → List Sl → G → Prop) (its : List Itm) (g : G) : Prop := match setItms L its env with
  | some env' => P .next env' g
  | none => False
@[simp] theorem kMix_ (L : List Nat) (env : List Sl) (P : Fl → List Sl → G → Prop) (its : List Itm) (g : G) : kMix L env P its g = match setItms L its env with
  | some env' => P .next env' g
  | none => False := rfl
@[simp] theorem setItms_nil (env : List Sl) : setItms [] [] env = some env := rfl
@[simp] theorem setItms_dat (i : Nat) (L : List Nat) (d : D) (its : List Itm) (env : List Sl) : setItms (i :: L) (.dat d :: its) env = setItms L its (env.set i (.dat d)) := rfl
@[simp] theorem setItms_new (i : Nat) (L : List Nat) (d : List D) (its : List Itm) (env : List Sl) : setItms (i :: L) (.new d :: its) env = setItms L its (env.set i (.own d)) := rfl
@[simp] theorem osMix (L : List Nat) (f : EM (List Itm)) (env : List Sl) (g : G) (P : Fl → List Sl → G → Prop) : OkS (sMix L f) env g P = OkM f env g (kMix L env P) := by
  unfold OkS sMix OkM kMix
  rw [Ok_bind]
  congr 1
  funext its g
  cases setItms L its env <;> rfl
/-! sorted -/
theorem sortedF_of {ds : List D} (h : sortableD ds = true) : sortedF [.list ds] = some (.list (sortD ds)) := by
  show (if sortableD ds = true then some (PyData.list (sortD ds)) else none) = _
  rw [if_pos h]
theorem sortD_perm (ds : List D) : (sortD ds).Perm ds := List.mergeSort_perm ..
end DL

set_option Elab.async false
set_option linter.all false
set_option maxRecDepth 100000
set_option maxHeartbeats 2000000
/-! the plain side: orders of data, the least, what is sorted -/
namespace DL
open PySem PySem.Spec PyProof.Rows L2 PySem.W
theorem dlt_irrefl (a : D) : dataLt a a = false := lex_irrefl _
theorem dlt_trans {a b c : D} (h1 : dataLt a b = true) (h2 : dataLt b c = true) : dataLt a c = true := lex_trans _ _ _ h1 h2
theorem dlt_neg {a b c : D} (h : dataLt a c = true) : dataLt a b = true ∨ dataLt b c = true := lex_negTrans _ _ _ h
/-- not less, carried on -/
theorem dle_trans {a b c : D} (h1 : dataLt b a = false) (h2 : dataLt c b = false) : dataLt c a = false := by
  cases h : dataLt c a with
  | false => rfl
  | true =>
    rcases dlt_neg (b := b) h with k | k
    · rw [k] at h2; cases h2
    · rw [k] at h1; cases h1
theorem sortD_pairwise (ds : List D) : (sortD ds).Pairwise fun a b => dataLt b a = false := by
  have h := List.pairwise_mergeSort (le := dataLe false fun d : D => d) (fun a b c h1 h2 => by
    have h1 : (!dataLt b a) = true := h1
    have h2 : (!dataLt c b) = true := h2
    show (!dataLt c a) = true
    simp at h1 h2 ⊢
    exact dle_trans h1 h2) (fun a b => by
    show ((!dataLt b a) || (!dataLt a b)) = true
    cases q : dataLt b a with
    | false => rfl
    | true =>
      cases z : dataLt a b with
      | false => rfl
      | true => have := dlt_trans q z; rw [dlt_irrefl] at this; cases this) ds
  refine h.imp fun {a b} q => ?_
  have q : (!dataLt b a) = true := q
  simpa using q
theorem sortD_least {ds r : List D} {d : D} (h : sortD ds = d :: r) : d ∈ ds ∧ ∀ e ∈ ds, dataLt e d = false := by
  have hp := sortD_perm ds
  refine ⟨hp.subset (by rw [h]; exact List.mem_cons_self), fun e he => ?_⟩
  have he2 : e ∈ sortD ds := hp.symm.subset he
  have hs := sortD_pairwise ds
  rw [h] at he2 hs
  rcases List.mem_cons.mp he2 with rfl | m
  · exact dlt_irrefl _
  · exact (List.pairwise_cons.mp hs).1 e m
theorem minD_least : ∀ (xs : List D) (x : D), ∀ e ∈ x :: xs, dataLt e (minD x xs) = false
  | [], x, e, he => by
    rw [List.mem_singleton.mp he]
    exact dlt_irrefl _
  | y :: ys, x, e, he => by
    have ih := minD_least ys (if dataLt y x then y else x)
    show dataLt e (minD (if dataLt y x = true then y else x) ys) = false
    rcases List.mem_cons.mp he with rfl | m
    · have h0 := ih _ List.mem_cons_self
      cases q : dataLt y e with
      | true =>
        rw [q, if_pos rfl] at h0
        rw [if_pos rfl]
        refine dle_trans h0 ?_
        cases z : dataLt e y with
        | false => rfl
        | true => have := dlt_trans q z; rw [dlt_irrefl] at this; cases this
      | false => rw [q] at h0; exact h0
    · rcases List.mem_cons.mp m with rfl | m
      · have h0 := ih _ List.mem_cons_self
        cases q : dataLt e x with
        | true => rw [q] at h0; exact h0
        | false => rw [q] at h0; exact dle_trans h0 q
      · exact ih e (List.mem_cons_of_mem _ m)
theorem maxD_greatest : ∀ (xs : List D) (x : D), ∀ e ∈ x :: xs, dataLt (maxD x xs) e = false
  | [], x, e, he => by
    rw [List.mem_singleton.mp he]
    exact dlt_irrefl _
  | y :: ys, x, e, he => by
    have ih := maxD_greatest ys (if dataLt x y then y else x)
    show dataLt (maxD (if dataLt x y = true then y else x) ys) e = false
    rcases List.mem_cons.mp he with rfl | m
    · have h0 := ih _ List.mem_cons_self
      cases q : dataLt e y with
      | true =>
        rw [q, if_pos rfl] at h0
        rw [if_pos rfl]
        refine dle_trans ?_ h0
        cases z : dataLt y e with
        | false => rfl
        | true => have := dlt_trans q z; rw [dlt_irrefl] at this; cases this
      | false => rw [q] at h0; exact h0
    · rcases List.mem_cons.mp m with rfl | m
      · have h0 := ih _ List.mem_cons_self
        cases q : dataLt x e with
        | true => rw [q] at h0; exact h0
        | false => rw [q] at h0; exact dle_trans q h0
      · exact ih e (List.mem_cons_of_mem _ m)
theorem dlt_tup1 {x x' : D} (h : alike x x' = true) : dataLt (.tuple [x]) (.tuple [x']) = if PyData.eqv x x' = true then false else dataLt x x' := by
  rw [dataLt_tuple, dataLt_cons h]
  have e : PyProof.Rows.lexLt itemOrd (keyToksAll []) (keyToksAll []) = false := lex_irrefl _
  rw [e]
theorem dlt_cons {x x' : D} {xs xs' : List D} (h : alike x x' = true) : dataLt (.tuple (x :: xs)) (.tuple (x' :: xs')) = if PyData.eqv x x' = true then dataLt (.tuple xs) (.tuple xs') else dataLt x x' := by
  rw [dataLt_tuple, dataLt_cons h, dataLt_tuple]
theorem dlt_icons (x x' : Int) (xs xs' : List D) : dataLt (.tuple (.int x :: xs)) (.tuple (.int x' :: xs')) = if x = x' then dataLt (.tuple xs) (.tuple xs') else decide (x < x') := by
  rw [dlt_cons (by simp [alike]), dataLt_int]
  simp only [PyData.eqv, beq_iff_eq]
theorem dlt_iii (x y z x' y' z' : Int) : dataLt (.tuple [.int x, .int y, .int z]) (.tuple [.int x', .int y', .int z']) = decide (x < x' ∨ (x = x' ∧ (y < y' ∨ (y = y' ∧ z < z')))) := by
  rw [dlt_icons, dataLt_ii]
  by_cases h : x = x' <;> simp [h]
theorem dlt_i_ii (x y z x' y' z' : Int) : dataLt (.tuple [.int x, .tuple [.int y, .int z]]) (.tuple [.int x', .tuple [.int y', .int z']]) = decide (x < x' ∨ (x = x' ∧ (y < y' ∨ (y = y' ∧ z < z')))) := by
  rw [dlt_icons]
  by_cases h : x = x'
  · rw [if_pos h, dlt_tup1 (by simp [alike, alikeAll]), dataLt_ii]
    by_cases h1 : y = y' <;> by_cases h2 : z = z' <;> simp [h, h1, h2, PyData.eqv, PyData.eqvAll]
  · simp [h]
/-- min of what is alike -/
theorem minXF_list {x : D} {xs : List D} (h : alikeD (x :: xs) = true) : minXF [.list (x :: xs)] = some (minD x xs) := by
  show (if alikeD (x :: xs) = true then some (minD x xs) else none) = _
  rw [if_pos h]
theorem minXF_tup {x : D} {xs : List D} (h : alikeD (x :: xs) = true) : minXF [.tuple (x :: xs)] = some (minD x xs) := by
  show (if alikeD (x :: xs) = true then some (minD x xs) else none) = _
  rw [if_pos h]
theorem maxXF_list {x : D} {xs : List D} (h : alikeD (x :: xs) = true) : maxXF [.list (x :: xs)] = some (maxD x xs) := by
  show (if alikeD (x :: xs) = true then some (maxD x xs) else none) = _
  rw [if_pos h]
/-- rows of one shape are alike -/
theorem alikeD_of {ds : List D} (h1 : ∀ d ∈ ds, ∀ e ∈ ds, alike d e = true) (h2 : ∀ d ∈ ds, d ≠ .none) (h3 : ∀ d ∈ ds, flatD d = true ∧ d.depth ≤ 60) : alikeD ds = true := by
  unfold alikeD
  simp only [Bool.and_eq_true, decide_eq_true_eq]
  refine ⟨⟨⟨List.all_eq_true.mpr fun d hd => List.all_eq_true.mpr fun e he => h1 d hd e he, List.all_eq_true.mpr fun d hd => ?_⟩, ?_⟩, ?_⟩
  · have := h2 d hd
    cases d <;> first | rfl | exact (this rfl).elim
  · clear h1 h2
    induction ds with
    | nil => rfl
    | cons d ds ih =>
      unfold flatDs
      rw [(h3 d List.mem_cons_self).1, ih fun e he => h3 e (List.mem_cons_of_mem _ he)]; rfl
  · clear h1 h2
    induction ds with
    | nil => exact Nat.zero_le _
    | cons d ds ih => exact Nat.max_le.mpr ⟨(h3 d List.mem_cons_self).2, ih fun e he => h3 e (List.mem_cons_of_mem _ he)⟩
theorem sortableD_of {ds : List D} (h1 : ∀ d ∈ ds, ∀ e ∈ ds, alike d e = true) (h3 : ∀ d ∈ ds, flatD d = true ∧ d.depth ≤ 60) (h : (ds.all tup1D || ds.all noTupD) = true) : sortableD ds = true := by
  unfold sortableD
  simp only [Bool.and_eq_true, decide_eq_true_eq]
  exact ⟨⟨List.all_eq_true.mpr fun d hd => List.all_eq_true.mpr fun e he => h1 d hd e he, List.all_eq_true.mpr fun d hd => by simp [h3 d hd]⟩, h⟩
end DL

set_option Elab.async false
set_option linter.all false
set_option maxRecDepth 100000
set_option maxHeartbeats 2000000
/-! the plain side: rules for the rest -/
namespace DL
open PySem PySem.Spec PyProof.Rows L2

/-! slices -/
def OkP (a : EM (Option Int)) (env : List Sl) (g : G) (Q : Option Int → G → Prop) : Prop := Ok (a env g) Q
@[simp] theorem opNone (env : List Sl) (g : G) (Q : Option Int → G → Prop) : OkP oNone env g Q = Q none g := rfl
def kSome (Q : Option Int → G → Prop) (d : D) (g : G) : Prop := match d with
  | .int i => Q (some i) g
  | _ => False
@[simp] theorem kSome_ (Q : Option Int → G → Prop) (i : Int) (g : G) : kSome Q (.int i) g = Q (some i) g := rfl
@[simp] theorem opSome (a : EM D) (env : List Sl) (g : G) (Q : Option Int → G → Prop) : OkP (oSome a) env g Q = OkE a env g (kSome Q) := by
  unfold OkP OkE oSome kSome
  rw [Ok_bind]
  congr 1
  funext d g
  cases d <;> rfl
def kSl3 (Q : D → G → Prop) (d : D) (lo hi : Option Int) (g : G) : Prop := OkO (sliceD d lo hi) g Q
@[simp] theorem kSl3_ (Q : D → G → Prop) (d : D) (lo hi : Option Int) (g : G) : kSl3 Q d lo hi g = OkO (sliceD d lo hi) g Q := rfl
def kSl2 (h : EM (Option Int)) (env : List Sl) (Q : D → G → Prop) (d : D) (lo : Option Int) (g : G) : Prop := OkP h env g (kSl3 Q d lo)
@[simp] theorem kSl2_ (h : EM (Option Int)) (env : List Sl) (Q : D → G → Prop) (d : D) (lo : Option Int) (g : G) : kSl2 h env Q d lo g = OkP h env g (kSl3 Q d lo) := rfl
def kSl1 (l h : EM (Option Int)) (env : List Sl) (Q : D → G → Prop) (d : D) (g : G) : Prop := OkP l env g (kSl2 h env Q d)
@[simp] theorem kSl1_ (l h : EM (Option Int)) (env : List Sl) (Q : D → G → Prop) (d : D) (g : G) : kSl1 l h env Q d g = OkP l env g (kSl2 h env Q d) := rfl
@[simp] theorem oeSlice (a : EM D) (l h : EM (Option Int)) (env : List Sl) (g : G) (Q : D → G → Prop) : OkE (eSlice a l h) env g Q = OkE a env g (kSl1 l h env Q) := by
  unfold OkE eSlice kSl1 kSl2 kSl3 OkP
  simp only [Ok_bind, ok_of]
@[simp] theorem sliceD_l (xs : List D) (lo hi : Option Int) : sliceD (.list xs) lo hi = some (.list (cut xs lo hi)) := rfl
@[simp] theorem sliceD_t (xs : List D) (lo hi : Option Int) : sliceD (.tuple xs) lo hi = some (.tuple (cut xs lo hi)) := rfl
/-! two stores -/
def kPar (i j : Nat) (env : List Sl) (P : Fl → List Sl → G → Prop) (ds : List D) (g : G) : Prop := match ds with
  | [d, e] => P .next ((env.set i (.dat d)).set j (.dat e)) g
  | _ => False
@[simp] theorem kPar_ (i j : Nat) (env : List Sl) (P : Fl → List Sl → G → Prop) (d e : D) (g : G) : kPar i j env P [d, e] g = P .next ((env.set i (.dat d)).set j (.dat e)) g := rfl
@[simp] theorem osPar (i j : Nat) (a : EM (List D)) (env : List Sl) (g : G) (P : Fl → List Sl → G → Prop) : OkS (sPar i j a) env g P = OkA a env g (kPar i j env P) := by
  unfold OkS OkA sPar kPar
  rw [Ok_bind]
  congr 1
  funext ds g
  match ds with
  | [] => rfl
  | [_] => rfl
  | [_, _] => rfl
  | _ :: _ :: _ :: _ => rfl
/-! x op= a -/
def kAug2 (i : Nat) (op : D → D → Option D) (env : List Sl) (P : Fl → List Sl → G → Prop) (d : D) (y : D) (g : G) : Prop := match op d y with
  | some z => P .next (env.set i (.dat z)) g
  | none => False
@[simp] theorem kAug2_add (i : Nat) (env : List Sl) (P : Fl → List Sl → G → Prop) (a b : Int) (g : G) : kAug2 i addI env P (.int a) (.int b) g = P .next (env.set i (.dat (.int (a + b)))) g := rfl
@[simp] theorem kAug2_sub (i : Nat) (env : List Sl) (P : Fl → List Sl → G → Prop) (a b : Int) (g : G) : kAug2 i subI env P (.int a) (.int b) g = P .next (env.set i (.dat (.int (a - b)))) g := rfl
def kAug (i : Nat) (op : D → D → Option D) (a : EM D) (env : List Sl) (g : G) (P : Fl → List Sl → G → Prop) (x : Option Sl) : Prop := match x with
  | some (.dat d) => OkE a env g (kAug2 i op env P d)
  | _ => False
@[simp] theorem kAug_ (i : Nat) (op : D → D → Option D) (a : EM D) (env : List Sl) (g : G) (P : Fl → List Sl → G → Prop) (d : D) : kAug i op a env g P (some (.dat d)) = OkE a env g (kAug2 i op env P d) := rfl
@[simp] theorem osAug (i : Nat) (op : D → D → Option D) (a : EM D) (env : List Sl) (g : G) (P : Fl → List Sl → G → Prop) : OkS (sAug i op a) env g P = kAug i op a env g P env[i]? := by
  unfold OkS sAug kAug OkE
  cases env[i]? with
  | none => rfl
  | some s =>
    cases s with
    | dat d =>
      show Ok ((a env g).bind _) _ = _
      rw [Ok_bind]
      congr 1
      funext y g
      unfold kAug2
      cases op d y <;> rfl
    | _ => rfl
/-! x[ix] op= a -/
def kAgA3 (i : Nat) (op : D → D → Option D) (env : List Sl) (P : Fl → List Sl → G → Prop) (ds : List D) (n : Nat) (x : D) (y : D) (g : G) : Prop := match op x y with
  | some z => P .next (env.set i (.own (ds.set n z))) g
  | none => False
@[simp] theorem kAgA3_ (i : Nat) (op : D → D → Option D) (env : List Sl) (P : Fl → List Sl → G → Prop) (ds : List D) (n : Nat) (x : D) (y : D) (g : G) : kAgA3 i op env P ds n x y g = match op x y with
  | some z => P .next (env.set i (.own (ds.set n z))) g
  | none => False := rfl
def kAgA2 (i : Nat) (op : D → D → Option D) (a : EM D) (env : List Sl) (P : Fl → List Sl → G → Prop) (ds : List D) (j : D) (g : G) : Prop := match j with
  | .int j => match ixN ds.length j with
    | some n => match ds[n]? with
      | some x => OkE a env g (kAgA3 i op env P ds n x)
      | none => False
    | none => False
  | _ => False
@[simp] theorem kAgA2_ (i : Nat) (op : D → D → Option D) (a : EM D) (env : List Sl) (P : Fl → List Sl → G → Prop) (ds : List D) (j : Int) (g : G) : kAgA2 i op a env P ds (.int j) g = match ixN ds.length j with
    | some n => match ds[n]? with
      | some x => OkE a env g (kAgA3 i op env P ds n x)
      | none => False
    | none => False := rfl
def kAgA (i : Nat) (op : D → D → Option D) (ix a : EM D) (env : List Sl) (g : G) (P : Fl → List Sl → G → Prop) (ds : List D) : Prop := OkE ix env g (kAgA2 i op a env P ds)
@[simp] theorem kAgA_ (i : Nat) (op : D → D → Option D) (ix a : EM D) (env : List Sl) (g : G) (P : Fl → List Sl → G → Prop) (ds : List D) : kAgA i op ix a env g P ds = OkE ix env g (kAgA2 i op a env P ds) := rfl
@[simp] theorem osAugAt (i : Nat) (op : D → D → Option D) (ix a : EM D) (env : List Sl) (g : G) (P : Fl → List Sl → G → Prop) : OkS (sAugAt i op ix a) env g P = kOwn env[i]? (kAgA i op ix a env g P) := by
  unfold OkS sAugAt kOwn kAgA OkE
  cases env[i]? with
  | none => rfl
  | some s =>
    cases s with
    | own ds =>
      show Ok ((ix env g).bind _) _ = _
      rw [Ok_bind]
      congr 1
      funext j g
      cases j with
      | int j =>
        unfold kAgA2
        dsimp only
        generalize ixN ds.length j = o
        cases o with
        | none => rfl
        | some n =>
          dsimp only
          generalize ds[n]? = o2
          cases o2 with
          | none => rfl
          | some x =>
            show Ok ((a env g).bind _) _ = Ok (a env g) _
            rw [Ok_bind]
            congr 1
            funext y g
            unfold kAgA3
            cases op x y <;> rfl
      | _ => rfl
    | _ => rfl
/-! new lists -/
def kCat2 (Q : List D → G → Prop) (x y : D) (g : G) : Prop := match x, y with
  | .list xs, .list ys => xs.length + ys.length ≤ sizeLine ∧ Q (xs ++ ys) g
  | _, _ => False
@[simp] theorem kCat2_ (Q : List D → G → Prop) (xs ys : List D) (g : G) : kCat2 Q (.list xs) (.list ys) g = (xs.length + ys.length ≤ sizeLine ∧ Q (xs ++ ys) g) := rfl
def kCat (b : EM D) (env : List Sl) (Q : List D → G → Prop) (x : D) (g : G) : Prop := OkE b env g (kCat2 Q x)
@[simp] theorem kCat_ (b : EM D) (env : List Sl) (Q : List D → G → Prop) (x : D) (g : G) : kCat b env Q x g = OkE b env g (kCat2 Q x) := rfl
@[simp] theorem oaCat (a b : EM D) (env : List Sl) (g : G) (Q : List D → G → Prop) : OkA (eCatL a b) env g Q = OkE a env g (kCat b env Q) := by
  unfold OkA OkE eCatL kCat OkE
  rw [Ok_bind]
  congr 1
  funext x g
  rw [Ok_bind]
  congr 1
  funext y g
  unfold kCat2
  split
  · simp only [Ok_ite, Ok_ok, Ok_stuck, ite_false_and]
  · rename_i hne
    first
    | rfl
    | (split
       · exact (hne _ _ rfl rfl).elim
       · rfl)
def kRep2 (Q : List D → G → Prop) (x y : D) (g : G) : Prop := match x, y with
  | .list xs, .int j => (decide (-(2 ^ 63) ≤ j) && decide (j < 2 ^ 63) && decide (xs.length * j.toNat ≤ sizeLine)) = true ∧ Q (List.replicate j.toNat xs).flatten g
  | _, _ => False
@[simp] theorem kRep2_ (Q : List D → G → Prop) (xs : List D) (j : Int) (g : G) : kRep2 Q (.list xs) (.int j) g = ((decide (-(2 ^ 63) ≤ j) && decide (j < 2 ^ 63) && decide (xs.length * j.toNat ≤ sizeLine)) = true ∧ Q (List.replicate j.toNat xs).flatten g) := rfl
def kRep (b : EM D) (env : List Sl) (Q : List D → G → Prop) (x : D) (g : G) : Prop := OkE b env g (kRep2 Q x)
@[simp] theorem kRep_ (b : EM D) (env : List Sl) (Q : List D → G → Prop) (x : D) (g : G) : kRep b env Q x g = OkE b env g (kRep2 Q x) := rfl
@[simp] theorem oaRep (a b : EM D) (env : List Sl) (g : G) (Q : List D → G → Prop) : OkA (eRepL a b) env g Q = OkE a env g (kRep b env Q) := by
  unfold OkA OkE eRepL kRep OkE
  rw [Ok_bind]
  congr 1
  funext x g
  rw [Ok_bind]
  congr 1
  funext y g
  unfold kRep2
  split
  · simp only [Ok_ite, Ok_ok, Ok_stuck, ite_false_and]
  · rename_i hne
    first
    | rfl
    | (split
       · exact (hne _ _ rfl rfl).elim
       · rfl)
def kListL (Q : List D → G → Prop) (xs : List D) (g : G) : Prop := match xs with
  | [.list ys] => Q ys g
  | [.tuple ys] => Q ys g
  | _ => False
@[simp] theorem kListL_l (Q : List D → G → Prop) (ys : List D) (g : G) : kListL Q [.list ys] g = Q ys g := rfl
@[simp] theorem kListL_t (Q : List D → G → Prop) (ys : List D) (g : G) : kListL Q [.tuple ys] g = Q ys g := rfl
@[simp] theorem oaListL (a : EM (List D)) (env : List Sl) (g : G) (Q : List D → G → Prop) : OkA (eListL a) env g Q = OkA a env g (kListL Q) := by
  unfold OkA eListL
  rw [Ok_bind]
  congr 1
  funext xs g
  match xs with
  | [] => rfl
  | [d] => cases d <;> rfl
  | d :: _ :: _ => cases d <;> rfl
def kLcL (vs : List Nat) (b : BM) (t : EM Bool) (e : EM D) (env : List Sl) (Q : List D → G → Prop) (ds : List D) (g : G) : Prop := ds.length < sizeLine ∧ Ok (lcGo b t e (wipeE env vs) ds g) fun ys g => Q ys g
@[simp] theorem oaLcL (vs : List Nat) (src : EM (List D)) (b : BM) (t : EM Bool) (e : EM D) (env : List Sl) (g : G) (Q : List D → G → Prop) : OkA (eLcL vs src b t e) env g Q = OkA src env g (kLcL vs b t e env Q) := by
  unfold OkA eLcL kLcL
  rw [Ok_bind]
  congr 1
  funext ds g
  simp only [Ok_ite, Ok_stuck, Ok_ok, ite_false_and]
def kRgL1 (Q : List D → G → Prop) (d : D) (g : G) : Prop := match d with
  | .int n => okRg 0 n = true ∧ Q (rng 0 n.toNat) g
  | _ => False
@[simp] theorem kRgL1_ (Q : List D → G → Prop) (n : Int) (g : G) : kRgL1 Q (.int n) g = (okRg 0 n = true ∧ Q (rng 0 n.toNat) g) := rfl
@[simp] theorem oaRgL1 (a : EM D) (env : List Sl) (g : G) (Q : List D → G → Prop) : OkA (eRgL1 a) env g Q = OkE a env g (kRgL1 Q) := by
  unfold OkA OkE eRgL1 kRgL1
  rw [Ok_bind]
  congr 1
  funext d g
  cases d with
  | int n => simp only [Ok_ite, Ok_ok, Ok_stuck, ite_false_and, Int.sub_zero]
  | _ => rfl
def kRgT1 (Q : D → G → Prop) (d : D) (g : G) : Prop := match d with
  | .int n => okRg 0 n = true ∧ Q (.tuple (rng 0 n.toNat)) g
  | _ => False
@[simp] theorem kRgT1_ (Q : D → G → Prop) (n : Int) (g : G) : kRgT1 Q (.int n) g = (okRg 0 n = true ∧ Q (.tuple (rng 0 n.toNat)) g) := rfl
@[simp] theorem oeRgT1 (a : EM D) (env : List Sl) (g : G) (Q : D → G → Prop) : OkE (eRgT1 a) env g Q = OkE a env g (kRgT1 Q) := by
  unfold OkE eRgT1 kRgT1
  rw [Ok_bind]
  congr 1
  funext d g
  cases d with
  | int n => simp only [Ok_ite, Ok_ok, Ok_stuck, ite_false_and, Int.sub_zero]
  | _ => rfl
def kNewL (Q : D → G → Prop) (ds : List D) (g : G) : Prop := Q (.list ds) g
@[simp] theorem kNewL_ (Q : D → G → Prop) (ds : List D) (g : G) : kNewL Q ds g = Q (.list ds) g := rfl
@[simp] theorem oeNewL (f : EM (List D)) (env : List Sl) (g : G) (Q : D → G → Prop) : OkE (eNewL f) env g Q = OkA f env g (kNewL Q) := by
  unfold OkE eNewL OkA kNewL
  simp only [Ok_bind, Ok_ok]
/-! enumerate(xs, k) -/
@[simp] theorem oaEnum2 (a : EM (List D)) (env : List Sl) (g : G) (Q : List D → G → Prop) : OkA (iEnum2 a) env g Q = OkA a env g (kEnum2 Q) := by
  unfold OkA iEnum2
  rw [Ok_bind]
  congr 1
  funext ds g
  match ds with
  | [] => rfl
  | [d] => rfl
  | [d, .int k] =>
    show Ok (if okR k = true then Out.of ((seqD d).map (rngE k)) g else .stuck) Q = (okR k = true ∧ kSeqD (rngE k) Q d g)
    rw [Ok_ite]
    unfold kSeqD
    cases seqD d <;> simp only [Ok_stuck, ite_false_and] <;> rfl
  | [d, .none] => rfl
  | [d, .bool _] => rfl
  | [d, .str _] => rfl
  | [d, .list _] => rfl
  | [d, .tuple _] => rfl
  | [d, .dict _] => rfl
  | d :: e :: _ :: _ => cases e <;> rfl
/-! a loop whose invariant knows the place -/
theorem for_ix {b : BM} {m : SM} (Inv : Nat → List Sl → G → Prop) : ∀ {ds : List D} {k : Nat} {env : List Sl} {g : G}, Inv k env g → (∀ i d, ds[i]? = some d → ∀ env g, Inv (k + i) env g → ∃ env', b d env = some env' ∧ OkS m env' g fun fl e2 g2 => fl = .next ∧ Inv (k + i + 1) e2 g2) → Ok (forGo b m ds env g) fun r g2 => r.1 = .next ∧ Inv (k + ds.length) r.2 g2
  | [], k, env, g, h0, _ => ⟨rfl, h0⟩
  | d :: ds, k, env, g, h0, h => by
    obtain ⟨env', h1, h2⟩ := h 0 d rfl env g h0
    unfold forGo
    rw [h1]
    show Ok ((m env' g).bind _) _
    rw [Ok_bind]
    refine Ok.mono h2 fun r g2 hr => ?_
    obtain ⟨fl, e2⟩ := r
    obtain ⟨rfl, hi⟩ := hr
    have := for_ix (b := b) (m := m) Inv (ds := ds) (k := k + 1) hi fun i d hd env g hI => by
      have e : k + 1 + i = k + (i + 1) := by omega
      rw [e] at hI ⊢
      exact h (i + 1) d hd env g hI
    refine Ok.mono this fun r g3 ⟨a, c⟩ => ⟨a, ?_⟩
    have e : k + 1 + ds.length = k + (d :: ds).length := by rw [List.length_cons]; omega
    rw [← e]
    exact c
/-- the same where the loop may end early by a return that is so -/
theorem for_ret {b : BM} {m : SM} (Inv : List Sl → G → Prop) (R : D → G → Prop) : ∀ {ds : List D} {env : List Sl} {g : G}, Inv env g → (∀ d ∈ ds, ∀ env g, Inv env g → ∃ env', b d env = some env' ∧ OkS m env' g fun fl e2 g2 => (fl = .next ∧ Inv e2 g2) ∨ ∃ x, fl = .ret x ∧ R x g2) → Ok (forGo b m ds env g) fun r g2 => (r.1 = .next ∧ Inv r.2 g2) ∨ ∃ x, r.1 = .ret x ∧ R x g2
  | [], env, g, h0, _ => .inl ⟨rfl, h0⟩
  | d :: ds, env, g, h0, h => by
    obtain ⟨env', h1, h2⟩ := h d List.mem_cons_self env g h0
    unfold forGo
    rw [h1]
    show Ok ((m env' g).bind _) _
    rw [Ok_bind]
    refine Ok.mono h2 fun r g2 hr => ?_
    obtain ⟨fl, e2⟩ := r
    rcases hr with ⟨rfl, hi⟩ | ⟨x, rfl, hx⟩
    · exact for_ret Inv R hi fun x hx => h x (List.mem_cons_of_mem _ hx)
    · exact .inr ⟨x, rfl, hx⟩
/-- a while by a measure -/
theorem while_inv {c : EM Bool} {m : SM} (Inv : List Sl → G → Prop) (μ : List Sl → G → Nat) (P : Fl → List Sl → G → Prop)
    (h : ∀ env g, Inv env g → OkB c env g fun b g1 => if b = true then OkS m env g1 (fun fl e2 g2 => (fl = .next ∧ Inv e2 g2 ∧ μ e2 g2 < μ env g) ∨ (∃ x, fl = .ret x ∧ P (.ret x) e2 g2) ∨ (fl = .brk ∧ P .next e2 g2)) else P .next env g1) :
    ∀ (n : Nat) {env : List Sl} {g : G}, Inv env g → μ env g < n → Ok (whileGo c m n env g) fun r g2 => P r.1 r.2 g2
  | 0, _, _, _, hm => absurd hm (Nat.not_lt_zero _)
  | n + 1, env, g, hi, hm => by
    unfold whileGo
    rw [Ok_bind]
    refine Ok.mono (h env g hi) fun b g1 hb => ?_
    cases b with
    | false => exact hb
    | true =>
      rw [if_pos rfl, Ok_bind]
      rw [if_pos rfl] at hb
      refine Ok.mono hb fun r g2 hr => ?_
      obtain ⟨fl, e2⟩ := r
      rcases hr with ⟨rfl, h1, h2⟩ | ⟨x, rfl, hx⟩ | ⟨rfl, hx⟩
      · exact while_inv Inv μ P h n h1 (by have h2 : μ e2 g2 < μ env g := h2; omega)
      · exact hx
      · exact hx
def kWhile (c : EM Bool) (m : SM) (n : Nat) (env : List Sl) (g : G) (P : Fl → List Sl → G → Prop) : Prop := Ok (whileGo c m n env g) fun r g2 => P r.1 r.2 g2
@[simp] theorem osWhile (n : Nat) (c : EM Bool) (m : SM) (env : List Sl) (g : G) (P : Fl → List Sl → G → Prop) : OkS (sWhile n c m) env g P = kWhile c m n env g P := rfl
@[simp] theorem OkO_repr (d : D) (g : G) (Q : D → G → Prop) : OkO (reprF [d]) g Q = (canRepr d = true ∧ Q (.str d.shown) g) := by
  show OkO (if canRepr d = true then some (PyData.str d.shown) else none) g Q = _
  by_cases h : canRepr d = true
  · rw [if_pos h]; simp [h]
  · rw [if_neg h]; simp [h]
end DL

set_option Elab.async false
set_option linter.all false
set_option maxRecDepth 100000
set_option maxHeartbeats 2000000
/-! the plain side: what can be shown -/
namespace DL
open PySem PySem.Spec PyProof.Rows L2
def RB (p n : Nat) (d : D) : Prop := flatD d = true ∧ d.showable = true ∧ d.shown.length ≤ n ∧ d.depth ≤ p
theorem RB.mono {p n p' n' : Nat} {d : D} (h : RB p n d) (hp : p ≤ p' := by omega) (hn : n ≤ n' := by omega) : RB p' n' d := ⟨h.1, h.2.1, Nat.le_trans h.2.2.1 hn, Nat.le_trans h.2.2.2 hp⟩
theorem RB.can {p n : Nat} {d : D} (h : RB p n d) (hp : p < 60 := by omega) (hn : n ≤ 1000000 := by omega) : canRepr d = true := by
  unfold canRepr
  simp only [Bool.and_eq_true, decide_eq_true_eq]
  exact ⟨⟨⟨h.1, h.2.1⟩, Nat.le_trans h.2.2.1 (sl_le hn)⟩, Nat.lt_of_le_of_lt h.2.2.2 hp⟩
theorem rb_none : RB 0 4 .none := ⟨rfl, rfl, by decide +kernel, Nat.le_refl _⟩
theorem rb_bool (b : Bool) : RB 0 5 (.bool b) := ⟨rfl, rfl, by cases b <;> decide +kernel, Nat.le_refl _⟩
theorem rb_int {i : Int} (h : i.natAbs < 2 ^ 64) : RB 0 65 (.int i) := by
  have h1 : i.natAbs.log2 < 64 := by
    by_cases z : i.natAbs = 0
    · rw [z]; decide
    · exact (Nat.log2_lt z).mpr h
  refine ⟨rfl, ?_, ?_, by simp [PyData.depth]⟩
  · simp only [PyData.showable, decide_eq_true_eq]; omega
  · simp only [PyData.shown]
    rw [PySem.ofString_length]
    exact int_text_length_le (by decide) h1
theorem rb_intL {i : Int} (h : i.natAbs < 2 ^ 1000) : RB 0 1001 (.int i) := by
  have h1 : i.natAbs.log2 < 1000 := by
    by_cases z : i.natAbs = 0
    · rw [z]; decide
    · exact (Nat.log2_lt z).mpr h
  refine ⟨rfl, ?_, ?_, by simp [PyData.depth]⟩
  · simp only [PyData.showable, decide_eq_true_eq]; omega
  · simp only [PyData.shown]
    rw [PySem.ofString_length]
    exact int_text_length_le (by decide) h1
theorem textFrom_le : ∀ (ts : List Str) (k : Nat) (acc : Str), (textFrom k acc ts).length ≤ acc.length + piled ts
  | [], k, acc => by show acc.length ≤ _; omega
  | t :: r, k, acc => by
    have ih := textFrom_le r (k + 1) (acc ++ (if k > 0 then ", " else "" : String) ++ t)
    have e : (acc ++ (if k > 0 then ", " else "" : String) ++ t).length = acc.length + (if k > 0 then 2 else 0) + t.length := by
      rw [strLen_append, strLen_append]
      split <;> rfl
    rw [e] at ih
    rw [piled_cons]
    show (textFrom (k + 1) _ r).length ≤ _
    have : (if k > 0 then 2 else 0 : Nat) ≤ 2 := by split <;> omega
    omega
theorem listText_le (ts : List Str) : (listText ts).length ≤ 2 + piled ts := by
  have h := textFrom_le ts 0 "["
  show (textFrom 0 "[" ts ++ "]").length ≤ _
  rw [strLen_append]
  have e1 : (("[" : String) : Str).length = 1 := rfl
  have e2 : (("]" : String) : Str).length = 1 := rfl
  rw [e1] at h
  rw [e2]
  omega
theorem tupleText_le (ts : List Str) : (tupleText ts).length ≤ 3 + piled ts := by
  unfold tupleText
  rw [strLen_append, strLen_append]
  have e1 : (("(" : String) : Str).length = 1 := rfl
  have e3 : (((if ts.length == 1 then ",)" else ")" : String) : Str)).length ≤ 2 := by split <;> decide
  rw [e1]
  by_cases h : ts = []
  · subst h
    have : (Str.join ", " []).length = 0 := rfl
    omega
  · have := join_length_add ts h
    omega
theorem piled_le (n : Nat) : ∀ xs : List D, (∀ x ∈ xs, x.shown.length ≤ n) → piled (PyData.shownAll xs) ≤ xs.length * (n + 2)
  | [], _ => by simp only [PyData.shownAll]; rw [piled_nil]; exact Nat.zero_le _
  | x :: xs, h => by
    have ih := piled_le n xs fun y hy => h y (List.mem_cons_of_mem _ hy)
    have h0 := h x List.mem_cons_self
    simp only [PyData.shownAll, piled_cons, List.length_cons, Nat.add_mul, Nat.one_mul]
    omega
theorem rbs {p n : Nat} : ∀ {xs : List D}, (∀ x ∈ xs, RB p n x) → flatDs xs = true ∧ PyData.showableAll xs = true ∧ PyData.depthAll xs ≤ p
  | [], _ => ⟨rfl, by simp only [PyData.showableAll], by simp only [PyData.depthAll]; omega⟩
  | x :: xs, h => by
    obtain ⟨a, b, c⟩ := rbs (xs := xs) fun y hy => h y (List.mem_cons_of_mem _ hy)
    obtain ⟨a1, b1, _, c1⟩ := h x List.mem_cons_self
    exact ⟨by simp only [flatDs, a, a1, Bool.and_self], by simp only [PyData.showableAll, b, b1, Bool.and_self], by simp only [PyData.depthAll]; exact Nat.max_le.mpr ⟨c1, c⟩⟩
theorem rb_list {p n k : Nat} {xs : List D} (h : ∀ x ∈ xs, RB p n x) (hk : xs.length ≤ k) : RB (p + 1) (k * (n + 2) + 3) (.list xs) := by
  obtain ⟨a, b, c⟩ := rbs h
  refine ⟨by simpa only [flatD] using a, by simpa only [PyData.showable] using b, ?_, by simp only [PyData.depth]; omega⟩
  simp only [PyData.shown]
  have h1 := listText_le (PyData.shownAll xs)
  have h2 := piled_le n xs fun x hx => (h x hx).2.2.1
  have h3 : xs.length * (n + 2) ≤ k * (n + 2) := Nat.mul_le_mul_right _ hk
  omega
theorem rb_tup {p n k : Nat} {xs : List D} (h : ∀ x ∈ xs, RB p n x) (hk : xs.length ≤ k) : RB (p + 1) (k * (n + 2) + 3) (.tuple xs) := by
  obtain ⟨a, b, c⟩ := rbs h
  refine ⟨by simpa only [flatD] using a, by simpa only [PyData.showable] using b, ?_, by simp only [PyData.depth]; omega⟩
  simp only [PyData.shown]
  have h1 := tupleText_le (PyData.shownAll xs)
  have h2 := piled_le n xs fun x hx => (h x hx).2.2.1
  have h3 : xs.length * (n + 2) ≤ k * (n + 2) := Nat.mul_le_mul_right _ hk
  omega
theorem rb_nil {p n : Nat} : ∀ x ∈ ([] : List D), RB p n x := fun _ h => by cases h
theorem rb_cons {p n : Nat} {x : D} {xs : List D} (h : RB p n x) (t : ∀ y ∈ xs, RB p n y) : ∀ y ∈ x :: xs, RB p n y := fun y hy => by
  rcases List.mem_cons.mp hy with rfl | hy
  · exact h
  · exact t y hy
theorem perm_all {α : Type} {a b : List α} (h : a.Perm b) (T : α → Bool) : a.all T = b.all T := by
  rw [Bool.eq_iff_iff, List.all_eq_true, List.all_eq_true]
  exact ⟨fun q x hx => q x (h.symm.subset hx), fun q x hx => q x (h.subset hx)⟩
def irng (lo : Int) (n : Nat) : List Int := (List.range n).map fun k : Nat => lo + (k : Int)
theorem rng_irng (lo : Int) (n : Nat) : rng lo n = (irng lo n).map .int := by simp [rng, irng]
theorem mem_irng {lo : Int} {n : Nat} {i : Int} : i ∈ irng lo n ↔ lo ≤ i ∧ i < lo + n := by
  unfold irng
  rw [List.mem_map]
  constructor
  · rintro ⟨k, hk, rfl⟩
    rw [List.mem_range] at hk
    omega
  · rintro ⟨h1, h2⟩
    exact ⟨(i - lo).toNat, by rw [List.mem_range]; omega, by omega⟩
theorem irng_length (lo : Int) (n : Nat) : (irng lo n).length = n := by simp [irng]
@[simp] theorem szl1 : 1 ≤ sizeLine := sl_le (by decide)
@[simp] theorem szt1 : 1 < sizeLine := sl_lt (by decide)
@[simp] theorem szl2 : 2 ≤ sizeLine := sl_le (by decide)
@[simp] theorem szt2 : 2 < sizeLine := sl_lt (by decide)
@[simp] theorem szl3 : 3 ≤ sizeLine := sl_le (by decide)
@[simp] theorem szt3 : 3 < sizeLine := sl_lt (by decide)
@[simp] theorem szl4 : 4 ≤ sizeLine := sl_le (by decide)
@[simp] theorem szt4 : 4 < sizeLine := sl_lt (by decide)
@[simp] theorem szl5 : 5 ≤ sizeLine := sl_le (by decide)
@[simp] theorem szt5 : 5 < sizeLine := sl_lt (by decide)
@[simp] theorem szl6 : 6 ≤ sizeLine := sl_le (by decide)
@[simp] theorem szt6 : 6 < sizeLine := sl_lt (by decide)
@[simp] theorem szl7 : 7 ≤ sizeLine := sl_le (by decide)
@[simp] theorem szt7 : 7 < sizeLine := sl_lt (by decide)
@[simp] theorem szl8 : 8 ≤ sizeLine := sl_le (by decide)
@[simp] theorem szt8 : 8 < sizeLine := sl_lt (by decide)
@[simp] theorem szl9 : 9 ≤ sizeLine := sl_le (by decide)
@[simp] theorem szt9 : 9 < sizeLine := sl_lt (by decide)
@[simp] theorem szl10 : 10 ≤ sizeLine := sl_le (by decide)
@[simp] theorem szt10 : 10 < sizeLine := sl_lt (by decide)
@[simp] theorem szl11 : 11 ≤ sizeLine := sl_le (by decide)
@[simp] theorem szt11 : 11 < sizeLine := sl_lt (by decide)
@[simp] theorem szl12 : 12 ≤ sizeLine := sl_le (by decide)
@[simp] theorem szt12 : 12 < sizeLine := sl_lt (by decide)
@[simp] theorem szl13 : 13 ≤ sizeLine := sl_le (by decide)
@[simp] theorem szt13 : 13 < sizeLine := sl_lt (by decide)
@[simp] theorem szl14 : 14 ≤ sizeLine := sl_le (by decide)
@[simp] theorem szt14 : 14 < sizeLine := sl_lt (by decide)
@[simp] theorem szl15 : 15 ≤ sizeLine := sl_le (by decide)
@[simp] theorem szt15 : 15 < sizeLine := sl_lt (by decide)
@[simp] theorem szl16 : 16 ≤ sizeLine := sl_le (by decide)
@[simp] theorem szt16 : 16 < sizeLine := sl_lt (by decide)
@[simp] theorem szl17 : 17 ≤ sizeLine := sl_le (by decide)
@[simp] theorem szt17 : 17 < sizeLine := sl_lt (by decide)
@[simp] theorem szl18 : 18 ≤ sizeLine := sl_le (by decide)
@[simp] theorem szt18 : 18 < sizeLine := sl_lt (by decide)
@[simp] theorem szl19 : 19 ≤ sizeLine := sl_le (by decide)
@[simp] theorem szt19 : 19 < sizeLine := sl_lt (by decide)
@[simp] theorem szl20 : 20 ≤ sizeLine := sl_le (by decide)
@[simp] theorem szt20 : 20 < sizeLine := sl_lt (by decide)
@[simp] theorem szl21 : 21 ≤ sizeLine := sl_le (by decide)
@[simp] theorem szt21 : 21 < sizeLine := sl_lt (by decide)
@[simp] theorem szl22 : 22 ≤ sizeLine := sl_le (by decide)
@[simp] theorem szt22 : 22 < sizeLine := sl_lt (by decide)
@[simp] theorem szl23 : 23 ≤ sizeLine := sl_le (by decide)
@[simp] theorem szt23 : 23 < sizeLine := sl_lt (by decide)
@[simp] theorem szl24 : 24 ≤ sizeLine := sl_le (by decide)
@[simp] theorem szt24 : 24 < sizeLine := sl_lt (by decide)
@[simp] theorem szl25 : 25 ≤ sizeLine := sl_le (by decide)
@[simp] theorem szt25 : 25 < sizeLine := sl_lt (by decide)
@[simp] theorem szl26 : 26 ≤ sizeLine := sl_le (by decide)
@[simp] theorem szt26 : 26 < sizeLine := sl_lt (by decide)
@[simp] theorem szl27 : 27 ≤ sizeLine := sl_le (by decide)
@[simp] theorem szt27 : 27 < sizeLine := sl_lt (by decide)
@[simp] theorem szl28 : 28 ≤ sizeLine := sl_le (by decide)
@[simp] theorem szt28 : 28 < sizeLine := sl_lt (by decide)
@[simp] theorem szl29 : 29 ≤ sizeLine := sl_le (by decide)
@[simp] theorem szt29 : 29 < sizeLine := sl_lt (by decide)
@[simp] theorem szl30 : 30 ≤ sizeLine := sl_le (by decide)
@[simp] theorem szt30 : 30 < sizeLine := sl_lt (by decide)
@[simp] theorem szl31 : 31 ≤ sizeLine := sl_le (by decide)
@[simp] theorem szt31 : 31 < sizeLine := sl_lt (by decide)
@[simp] theorem szl32 : 32 ≤ sizeLine := sl_le (by decide)
@[simp] theorem szt32 : 32 < sizeLine := sl_lt (by decide)
@[simp] theorem szl33 : 33 ≤ sizeLine := sl_le (by decide)
@[simp] theorem szt33 : 33 < sizeLine := sl_lt (by decide)
@[simp] theorem szl34 : 34 ≤ sizeLine := sl_le (by decide)
@[simp] theorem szt34 : 34 < sizeLine := sl_lt (by decide)
@[simp] theorem szl35 : 35 ≤ sizeLine := sl_le (by decide)
@[simp] theorem szt35 : 35 < sizeLine := sl_lt (by decide)
@[simp] theorem szl36 : 36 ≤ sizeLine := sl_le (by decide)
@[simp] theorem szt36 : 36 < sizeLine := sl_lt (by decide)
@[simp] theorem szl37 : 37 ≤ sizeLine := sl_le (by decide)
@[simp] theorem szt37 : 37 < sizeLine := sl_lt (by decide)
@[simp] theorem szl38 : 38 ≤ sizeLine := sl_le (by decide)
@[simp] theorem szt38 : 38 < sizeLine := sl_lt (by decide)
@[simp] theorem szl39 : 39 ≤ sizeLine := sl_le (by decide)
@[simp] theorem szt39 : 39 < sizeLine := sl_lt (by decide)
@[simp] theorem szl40 : 40 ≤ sizeLine := sl_le (by decide)
@[simp] theorem szt40 : 40 < sizeLine := sl_lt (by decide)
@[simp] theorem szl41 : 41 ≤ sizeLine := sl_le (by decide)
@[simp] theorem szt41 : 41 < sizeLine := sl_lt (by decide)
@[simp] theorem szl42 : 42 ≤ sizeLine := sl_le (by decide)
@[simp] theorem szt42 : 42 < sizeLine := sl_lt (by decide)
@[simp] theorem szl43 : 43 ≤ sizeLine := sl_le (by decide)
@[simp] theorem szt43 : 43 < sizeLine := sl_lt (by decide)
@[simp] theorem szl44 : 44 ≤ sizeLine := sl_le (by decide)
@[simp] theorem szt44 : 44 < sizeLine := sl_lt (by decide)
@[simp] theorem szl45 : 45 ≤ sizeLine := sl_le (by decide)
@[simp] theorem szt45 : 45 < sizeLine := sl_lt (by decide)
@[simp] theorem szl46 : 46 ≤ sizeLine := sl_le (by decide)
@[simp] theorem szt46 : 46 < sizeLine := sl_lt (by decide)
@[simp] theorem szl47 : 47 ≤ sizeLine := sl_le (by decide)
@[simp] theorem szt47 : 47 < sizeLine := sl_lt (by decide)
@[simp] theorem szl48 : 48 ≤ sizeLine := sl_le (by decide)
@[simp] theorem szt48 : 48 < sizeLine := sl_lt (by decide)
@[simp] theorem szl49 : 49 ≤ sizeLine := sl_le (by decide)
@[simp] theorem szt49 : 49 < sizeLine := sl_lt (by decide)
@[simp] theorem szl50 : 50 ≤ sizeLine := sl_le (by decide)
@[simp] theorem szt50 : 50 < sizeLine := sl_lt (by decide)
@[simp] theorem szl51 : 51 ≤ sizeLine := sl_le (by decide)
@[simp] theorem szt51 : 51 < sizeLine := sl_lt (by decide)
@[simp] theorem szl52 : 52 ≤ sizeLine := sl_le (by decide)
@[simp] theorem szt52 : 52 < sizeLine := sl_lt (by decide)
@[simp] theorem szl53 : 53 ≤ sizeLine := sl_le (by decide)
@[simp] theorem szt53 : 53 < sizeLine := sl_lt (by decide)
@[simp] theorem szl54 : 54 ≤ sizeLine := sl_le (by decide)
@[simp] theorem szt54 : 54 < sizeLine := sl_lt (by decide)
@[simp] theorem szl55 : 55 ≤ sizeLine := sl_le (by decide)
@[simp] theorem szt55 : 55 < sizeLine := sl_lt (by decide)
@[simp] theorem szl56 : 56 ≤ sizeLine := sl_le (by decide)
@[simp] theorem szt56 : 56 < sizeLine := sl_lt (by decide)
@[simp] theorem szl57 : 57 ≤ sizeLine := sl_le (by decide)
@[simp] theorem szt57 : 57 < sizeLine := sl_lt (by decide)
@[simp] theorem szl58 : 58 ≤ sizeLine := sl_le (by decide)
@[simp] theorem szt58 : 58 < sizeLine := sl_lt (by decide)
@[simp] theorem szl59 : 59 ≤ sizeLine := sl_le (by decide)
@[simp] theorem szt59 : 59 < sizeLine := sl_lt (by decide)
@[simp] theorem szl60 : 60 ≤ sizeLine := sl_le (by decide)
@[simp] theorem szt60 : 60 < sizeLine := sl_lt (by decide)
@[simp] theorem szl61 : 61 ≤ sizeLine := sl_le (by decide)
@[simp] theorem szt61 : 61 < sizeLine := sl_lt (by decide)
@[simp] theorem szl62 : 62 ≤ sizeLine := sl_le (by decide)
@[simp] theorem szt62 : 62 < sizeLine := sl_lt (by decide)
@[simp] theorem szl63 : 63 ≤ sizeLine := sl_le (by decide)
@[simp] theorem szt63 : 63 < sizeLine := sl_lt (by decide)
@[simp] theorem szl64 : 64 ≤ sizeLine := sl_le (by decide)
@[simp] theorem szt64 : 64 < sizeLine := sl_lt (by decide)
@[simp] theorem szl65 : 65 ≤ sizeLine := sl_le (by decide)
@[simp] theorem szt65 : 65 < sizeLine := sl_lt (by decide)
@[simp] theorem szl66 : 66 ≤ sizeLine := sl_le (by decide)
@[simp] theorem szt66 : 66 < sizeLine := sl_lt (by decide)
@[simp] theorem szl67 : 67 ≤ sizeLine := sl_le (by decide)
@[simp] theorem szt67 : 67 < sizeLine := sl_lt (by decide)
@[simp] theorem szl68 : 68 ≤ sizeLine := sl_le (by decide)
@[simp] theorem szt68 : 68 < sizeLine := sl_lt (by decide)
@[simp] theorem szl69 : 69 ≤ sizeLine := sl_le (by decide)
@[simp] theorem szt69 : 69 < sizeLine := sl_lt (by decide)
@[simp] theorem szt0 : 0 < sizeLine := sl_lt (by decide)
end DL

set_option Elab.async false
set_option linter.all false
set_option maxRecDepth 100000
set_option maxHeartbeats 2000000
/-! the plain side: ints in rows, what may be compared -/
namespace DL
open PySem PySem.Spec PyProof.Rows L2
/-! enumerate(zip(a, b)) -/
def kEZ (Q : List D → G → Prop) (o : Option (List D)) (g : G) : Prop := match o with
  | some x => Q x g
  | none => False
def kEnumZip (Q : List D → G → Prop) (ds : List D) (g : G) : Prop := match ds with
  | [d, e] => kEZ Q ((seqD d).bind fun ds => (seqD e).map fun es => ezD ds es) g
  | _ => False
@[simp] theorem kEnumZip_tt (Q : List D → G → Prop) (ds es : List D) (g : G) : kEnumZip Q [.tuple ds, .tuple es] g = Q (ezD ds es) g := rfl
@[simp] theorem kEnumZip_tl (Q : List D → G → Prop) (ds es : List D) (g : G) : kEnumZip Q [.tuple ds, .list es] g = Q (ezD ds es) g := rfl
@[simp] theorem kEnumZip_lt (Q : List D → G → Prop) (ds es : List D) (g : G) : kEnumZip Q [.list ds, .tuple es] g = Q (ezD ds es) g := rfl
@[simp] theorem kEnumZip_ll (Q : List D → G → Prop) (ds es : List D) (g : G) : kEnumZip Q [.list ds, .list es] g = Q (ezD ds es) g := rfl
@[simp] theorem oaEnumZip (a : EM (List D)) (env : List Sl) (g : G) (Q : List D → G → Prop) : OkA (iEnumZip a) env g Q = OkA a env g (kEnumZip Q) := by
  unfold OkA iEnumZip
  rw [Ok_bind]
  congr 1
  funext ds g
  match ds with
  | [] => rfl
  | [_] => rfl
  | [d, e] =>
    show Ok (Out.of _ g) Q = kEZ Q _ g
    cases (seqD d).bind fun ds => (seqD e).map fun es => ezD ds es <;> rfl
  | _ :: _ :: _ :: _ => rfl
/-! what may be compared -/
def KB (p : Nat) (d : D) : Prop := d.canLay0 = true ∧ d.depth ≤ p
theorem KB.ok {p : Nat} {d : D} (h : KB p d) (hp : p ≤ 64 := by omega) : okD d = true := by
  show (d.canLay0 && decide (d.depth ≤ 64)) = true
  rw [h.1, Bool.true_and, decide_eq_true_eq]
  exact Nat.le_trans h.2 hp
theorem kb_none {p : Nat} : KB p .none := ⟨rfl, Nat.zero_le _⟩
theorem kb_bool {p : Nat} (b : Bool) : KB p (.bool b) := ⟨rfl, Nat.zero_le _⟩
theorem kb_int {p : Nat} (i : Int) : KB p (.int i) := ⟨rfl, Nat.zero_le _⟩
theorem kb_str {p : Nat} (i : Str) (h : (PyData.str i).canLay0 = true := by rfl) : KB p (.str i) := ⟨h, Nat.zero_le _⟩
theorem kbs {p : Nat} : ∀ {xs : List D}, (∀ x ∈ xs, KB p x) → PyData.canLayAll0 xs = true ∧ PyData.depthAll xs ≤ p
  | [], _ => ⟨rfl, Nat.zero_le _⟩
  | x :: xs, h => by
    obtain ⟨a, b⟩ := kbs (xs := xs) fun y hy => h y (List.mem_cons_of_mem _ hy)
    obtain ⟨a1, b1⟩ := h x List.mem_cons_self
    exact ⟨by simp only [PyData.canLayAll0, a, a1, Bool.and_self], by simp only [PyData.depthAll]; exact Nat.max_le.mpr ⟨b1, b⟩⟩
theorem kb_list {p : Nat} {xs : List D} (h : ∀ x ∈ xs, KB p x) : KB (p + 1) (.list xs) := by
  obtain ⟨a, b⟩ := kbs h
  exact ⟨by simpa only [PyData.canLay0] using a, by simp only [PyData.depth]; omega⟩
theorem kb_tup {p : Nat} {xs : List D} (h : ∀ x ∈ xs, KB p x) : KB (p + 1) (.tuple xs) := by
  obtain ⟨a, b⟩ := kbs h
  exact ⟨by simpa only [PyData.canLay0] using a, by simp only [PyData.depth]; omega⟩
theorem kb_ints {p : Nat} (xs : List Int) : ∀ x ∈ xs.map PyData.int, KB p x := fun x hx => by
  obtain ⟨i, _, rfl⟩ := List.mem_map.mp hx
  exact kb_int i
theorem kb_nil {p : Nat} : ∀ x ∈ ([] : List D), KB p x := fun _ h => by cases h
theorem kb_cons {p : Nat} {x : D} {xs : List D} (h : KB p x) (t : ∀ y ∈ xs, KB p y) : ∀ y ∈ x :: xs, KB p y := fun y hy => by
  rcases List.mem_cons.mp hy with rfl | hy
  · exact h
  · exact t y hy
@[simp] theorem eqD_bool (a b : Bool) : eqD (.bool a) (.bool b) = some (.bool (decide (a = b))) := by cases a <;> cases b <;> rfl
@[simp] theorem neD_bool (a b : Bool) : neD (.bool a) (.bool b) = some (.bool (!decide (a = b))) := by cases a <;> cases b <;> rfl
theorem neD_nil_l {xs : List D} (h : okD (.list xs) = true) : neD (.list xs) (.list []) = some (.bool (!xs.isEmpty)) := by
  show (if (okD (.list xs) && okD (.list [])) = true then some (PyData.bool (!PyData.eqv (.list xs) (.list []))) else none) = _
  rw [h, if_pos (by rfl)]
  cases xs <;> simp [PyData.eqv, PyData.eqvAll]
theorem neD_nil_t {xs : List D} (h : okD (.tuple xs) = true) : neD (.tuple xs) (.tuple []) = some (.bool (!xs.isEmpty)) := by
  show (if (okD (.tuple xs) && okD (.tuple [])) = true then some (PyData.bool (!PyData.eqv (.tuple xs) (.tuple []))) else none) = _
  rw [h, if_pos (by rfl)]
  cases xs <;> simp [PyData.eqv, PyData.eqvAll]
theorem eqv_refl_all : (∀ d : D, d.canLay0 = true → PyData.eqv d d = true) ∧ (∀ ds : List D, PyData.canLayAll0 ds = true → PyData.eqvAll ds ds = true) := by
  have h1 : ∀ n : Nat, (∀ d : D, sizeOf d ≤ n → d.canLay0 = true → PyData.eqv d d = true) ∧ (∀ ds : List D, sizeOf ds ≤ n → PyData.canLayAll0 ds = true → PyData.eqvAll ds ds = true) := by
    intro n
    induction n with
    | zero =>
      refine ⟨fun d hd _ => ?_, fun ds hd _ => ?_⟩
      · cases d <;> simp at hd
      · cases ds <;> simp at hd
    | succ n ih =>
      refine ⟨fun d hd hc => ?_, fun ds hd hc => ?_⟩
      · cases d with
        | none => simp only [PyData.eqv]
        | bool b => cases b <;> simp only [PyData.eqv] <;> rfl
        | int i => simp [PyData.eqv]
        | str i => simp [PyData.eqv]
        | list xs => simp only [PyData.eqv]; exact ih.2 xs (by simp at hd; omega) (by simpa [PyData.canLay0] using hc)
        | tuple xs => simp only [PyData.eqv]; exact ih.2 xs (by simp at hd; omega) (by simpa [PyData.canLay0] using hc)
        | dict kvs => simp [PyData.canLay0] at hc
      · cases ds with
        | nil => simp only [PyData.eqvAll]
        | cons x xs =>
          simp only [PyData.canLayAll0, Bool.and_eq_true] at hc
          simp only [PyData.eqvAll, Bool.and_eq_true]
          have : sizeOf (x :: xs) = 1 + sizeOf x + sizeOf xs := by simp
          exact ⟨ih.1 x (by omega) hc.1, ih.2 xs (by omega) hc.2⟩
  exact ⟨fun d => (h1 (sizeOf d)).1 d (Nat.le_refl _), fun ds => (h1 (sizeOf ds)).2 ds (Nat.le_refl _)⟩
theorem eqD_refl {p : Nat} {d : D} (h : KB p d) (hp : p ≤ 64 := by omega) : eqD d d = some (.bool true) := by
  have hk := h.ok hp
  have e := eqv_refl_all.1 d h.1
  cases d with
  | str s => simp
  | _ =>
    unfold eqD
    simp only [hk, e, Bool.and_self, if_true]
theorem neD_refl {p : Nat} {d : D} (h : KB p d) (hp : p ≤ 64 := by omega) : neD d d = some (.bool false) := by
  have hk := h.ok hp
  have e := eqv_refl_all.1 d h.1
  cases d with
  | str s => simp
  | _ =>
    unfold neD
    simp only [hk, e, Bool.and_self, if_true, Bool.not_true]
/-! comprehensions -/
theorem allF_map (T : D → Bool) (ds : List D) : allF [.list (ds.map fun d => .bool (T d))] = some (.bool (ds.all T)) := by
  have : ∀ ds : List D, allBools (ds.map fun d => PyData.bool (T d)) = some (ds.map T) := by
    intro ds
    induction ds with
    | nil => rfl
    | cons d ds ih => simp [allBools, ih]
  unfold allF
  simp [this]
theorem lc_map {b : BM} {e : EM D} {env : List Sl} (V : D → D) {ds : List D} {g : G} (h : ∀ d ∈ ds, ∃ env', b d env = some env' ∧ e env' g = .ok (V d) g) : lcGo b bYes e env ds g = .ok (ds.map V) g := by
  have := lc_filter (b := b) (t := bYes) (e := e) (env := env) (fun _ => true) V (ds := ds) (g := g) fun d hd => by
    obtain ⟨env', h1, h2⟩ := h d hd
    exact ⟨env', h1, rfl, fun _ => h2⟩
  rw [this, List.filter_eq_self.mpr (fun _ _ => rfl)]
/-- over what is coded: a filter, then a value -/
theorem lc_enc {β : Type} {b : BM} {t : EM Bool} {e : EM D} {env : List Sl} (enc : β → D) (T : β → Bool) (V : β → D) {bs : List β} {g : G} (h : ∀ x ∈ bs, ∃ env', b (enc x) env = some env' ∧ t env' g = .ok (T x) g ∧ (T x = true → e env' g = .ok (V x) g)) : lcGo b t e env (bs.map enc) g = .ok ((bs.filter T).map V) g := by
  induction bs with
  | nil => rfl
  | cons x bs ih =>
    obtain ⟨env', h1, h2, h3⟩ := h x List.mem_cons_self
    have ih := ih fun y hy => h y (List.mem_cons_of_mem _ hy)
    rw [List.map_cons]
    unfold lcGo
    rw [h1]
    show (t env' g).noerr.bind _ = _
    rw [h2]
    cases q : T x with
    | true =>
      rw [List.filter_cons_of_pos q]
      show (e env' g).noerr.bind _ = _
      rw [h3 q]
      show (lcGo b t e env (bs.map enc) g).bind _ = _
      rw [ih]; rfl
    | false =>
      rw [List.filter_cons_of_neg (by simp [q])]
      exact ih
/-- a filter that draws -/
theorem lc_sub {β : Type} {b : BM} {t : EM Bool} {e : EM D} {env : List Sl} (W : G → Prop) (enc : β → D) (V : β → D) : ∀ {bs : List β} {g : G}, W g → (∀ x ∈ bs, ∀ g, W g → ∃ env', b (enc x) env = some env' ∧ OkB t env' g (fun _ g' => W g' ∧ e env' g' = .ok (V x) g')) → Ok (lcGo b t e env (bs.map enc) g) fun ys g' => W g' ∧ ∃ cs : List β, cs.Sublist bs ∧ ys = cs.map V
  | [], g, w, _ => ⟨w, [], List.Sublist.slnil, rfl⟩
  | x :: bs, g, w, h => by
    obtain ⟨env', h1, h2⟩ := h x List.mem_cons_self g w
    rw [List.map_cons]
    unfold lcGo
    rw [h1]
    show Ok ((t env' g).noerr.bind _) _
    rw [Ok_bind, Ok_noerr]
    refine Ok.mono h2 fun y g1 ⟨w1, he⟩ => ?_
    have ih := fun g w => lc_sub W enc V (bs := bs) (g := g) w fun z hz => h z (List.mem_cons_of_mem _ hz)
    cases y with
    | true =>
      rw [if_pos rfl]
      show Ok ((e env' g1).noerr.bind _) _
      rw [he]
      show Ok ((lcGo b t e env (bs.map enc) g1).bind _) _
      rw [Ok_bind]
      refine Ok.mono (ih g1 w1) fun ys g2 ⟨w2, cs, hs, e⟩ => ⟨w2, x :: cs, hs.cons₂ x, by rw [e]; rfl⟩
    | false =>
      rw [if_neg (by simp)]
      refine Ok.mono (ih g1 w1) fun ys g2 ⟨w2, cs, hs, e⟩ => ⟨w2, cs, hs.cons x, e⟩
/-- a loop over what is coded, with a state -/
theorem for_st {σ β : Type} {bd : BM} {m : SM} {g : G} (Env : σ → List Sl → Prop) (enc : β → D) (step : σ → β → σ) : ∀ {bs : List β} {s : σ} {env : List Sl}, Env s env →
    (∀ b ∈ bs, ∀ s env, Env s env → ∃ env', bd (enc b) env = some env' ∧ OkS m env' g fun fl e2 g2 => fl = .next ∧ g2 = g ∧ Env (step s b) e2) →
    Ok (forGo bd m (bs.map enc) env g) fun r g2 => r.1 = .next ∧ g2 = g ∧ Env (bs.foldl step s) r.2
  | [], s, env, h0, _ => ⟨rfl, rfl, h0⟩
  | b :: bs, s, env, h0, h => by
    obtain ⟨env', h1, h2⟩ := h b List.mem_cons_self s env h0
    rw [List.map_cons]
    unfold forGo
    rw [h1]
    show Ok ((m env' g).bind _) _
    rw [Ok_bind]
    refine Ok.mono h2 fun r g2 hr => ?_
    obtain ⟨fl, e2⟩ := r
    obtain ⟨rfl, rfl, hi⟩ := hr
    exact for_st Env enc step hi fun x hx => h x (List.mem_cons_of_mem _ hx)
/-! rows of ints -/
def IL (xs : List Int) : List D := xs.map PyData.int
abbrev liI (xs : List Int) : D := .list (IL xs)
abbrev tuI (xs : List Int) : D := .tuple (IL xs)
@[simp] theorem IL_length (xs : List Int) : (IL xs).length = xs.length := List.length_map ..
@[simp] theorem IL_nil : IL [] = [] := rfl
theorem IL_cons (x : Int) (xs : List Int) : IL (x :: xs) = .int x :: IL xs := rfl
theorem IL_map (xs : List Int) : xs.map PyData.int = IL xs := rfl
theorem mem_IL {xs : List Int} {d : D} (h : d ∈ IL xs) : ∃ x : Int, d = .int x ∧ x ∈ xs := by
  obtain ⟨x, h1, h2⟩ := List.mem_map.mp h
  exact ⟨x, h2.symm, h1⟩
theorem IL_mem {xs : List Int} {x : Int} (h : x ∈ xs) : PyData.int x ∈ IL xs := List.mem_map_of_mem h
theorem IL_mem_iff {xs : List Int} {x : Int} : PyData.int x ∈ IL xs ↔ x ∈ xs := ⟨fun h => by
  obtain ⟨y, e, m⟩ := mem_IL h
  injection e with e
  rw [e]; exact m, IL_mem⟩
@[simp] theorem IL_append (xs ys : List Int) : IL xs ++ IL ys = IL (xs ++ ys) := (List.map_append ..).symm
@[simp] theorem IL_app1 (xs : List Int) (y : Int) : IL xs ++ [PyData.int y] = IL (xs ++ [y]) := IL_append xs [y]
theorem IL_set (xs : List Int) (n : Nat) (y : Int) : (IL xs).set n (.int y) = IL (xs.set n y) := (List.map_set ..).symm
theorem IL_get (xs : List Int) (n : Nat) : (IL xs)[n]? = xs[n]?.map PyData.int := List.getElem?_map ..
theorem kb_IL {p : Nat} (xs : List Int) : ∀ x ∈ IL xs, KB p x := kb_ints xs
def getI (xs : List Int) (j : Int) : Int := (atI xs j).getD 0
theorem atI_natG {α : Type} {xs : List α} {j : Nat} (h : j < xs.length) : atI xs (j : Int) = some xs[j] := atI_nat (List.getElem?_eq_getElem h)
theorem getI_nat {xs : List Int} {j : Nat} (h : j < xs.length) : getI xs (j : Int) = xs[j] := by
  unfold getI
  rw [atI_natG h]; rfl
theorem atI_IL {xs : List Int} {j : Int} (h0 : 0 ≤ j) (h1 : j < xs.length) : atI (IL xs) j = some (.int (getI xs j)) := by
  obtain ⟨n, rfl⟩ := Int.eq_ofNat_of_zero_le h0
  have hn : n < xs.length := by omega
  have hn' : n < (IL xs).length := by rw [IL_length]; exact hn
  show atI (IL xs) (n : Int) = some (.int (getI xs (n : Int)))
  rw [atI_natG hn', getI_nat hn]
  congr 1
  exact List.getElem_map ..
theorem getI_mem {xs : List Int} {j : Int} (h0 : 0 ≤ j) (h1 : j < xs.length) : getI xs j ∈ xs := by
  obtain ⟨n, rfl⟩ := Int.eq_ofNat_of_zero_le h0
  have hn : n < xs.length := by omega
  show getI xs (n : Int) ∈ xs
  rw [getI_nat hn]
  exact List.getElem_mem hn
theorem ixN_ok {n : Nat} {j : Int} (h0 : 0 ≤ j) (h1 : j < n) : ixN n j = some j.toNat := by
  unfold ixN
  rw [if_pos h0, if_pos h1]
theorem atI_last {α : Type} {xs : List α} (h : xs ≠ []) : atI xs (-1) = some (xs.getLast h) := by
  have hl : 0 < xs.length := List.length_pos_iff.mpr h
  have : ixN xs.length (-1) = some (xs.length - 1) := by
    unfold ixN
    rw [if_neg (by decide), if_pos (by omega)]
    congr 1
    omega
  unfold atI
  rw [this]
  show xs[xs.length - 1]? = _
  rw [List.getElem?_eq_getElem (by omega), List.getLast_eq_getElem]
def enumI (xs : List Int) : List (Int × Int) := xs.mapIdx fun i x => ((i : Int), x)
def enumZ (xs ys : List Int) : List (Int × Int × Int) := (xs.zip ys).mapIdx fun i p => ((i : Int), p.1, p.2)
def encP (p : Int × Int) : D := .tuple [.int p.1, .int p.2]
def encQ (p : Int × Int × Int) : D := .tuple [.int p.1, .tuple [.int p.2.1, .int p.2.2]]
theorem rngE_IL (xs : List Int) : rngE 0 (IL xs) = (enumI xs).map encP := by
  apply List.ext_getElem
  · simp [rngE, enumI]
  · intro n h1 h2
    simp [rngE, enumI, encP, IL]
theorem ezD_IL (xs ys : List Int) : ezD (IL xs) (IL ys) = (enumZ xs ys).map encQ := by
  apply List.ext_getElem
  · simp [ezD, zipD, rngE, enumZ]
  · intro n h1 h2
    simp [ezD, zipD, rngE, enumZ, encQ, IL]
theorem mem_enumI {xs : List Int} {p : Int × Int} (h : p ∈ enumI xs) : 0 ≤ p.1 ∧ p.1 < xs.length ∧ p.2 = getI xs p.1 ∧ p.2 ∈ xs := by
  unfold enumI at h
  obtain ⟨i, hi, rfl⟩ := List.mem_mapIdx.mp h
  refine ⟨by simp, by simp; exact hi, ?_, List.getElem_mem hi⟩
  show xs[i] = getI xs (i : Int)
  rw [getI_nat hi]
theorem mem_enumZ {xs ys : List Int} {p : Int × Int × Int} (h : p ∈ enumZ xs ys) : 0 ≤ p.1 ∧ p.1 < xs.length ∧ p.1 < ys.length ∧ p.2.1 = getI xs p.1 ∧ p.2.2 = getI ys p.1 ∧ p.2.1 ∈ xs ∧ p.2.2 ∈ ys := by
  unfold enumZ at h
  obtain ⟨i, hi, rfl⟩ := List.mem_mapIdx.mp h
  have hi' : i < xs.length ∧ i < ys.length := by rw [List.length_zip] at hi; omega
  refine ⟨by simp, by simp; exact hi'.1, by simp; exact hi'.2, ?_, ?_, ?_, ?_⟩
  · show (xs.zip ys)[i].1 = getI xs (i : Int)
    rw [getI_nat hi'.1, List.getElem_zip]
  · show (xs.zip ys)[i].2 = getI ys (i : Int)
    rw [getI_nat hi'.2, List.getElem_zip]
  · show (xs.zip ys)[i].1 ∈ xs
    rw [List.getElem_zip]; exact List.getElem_mem _
  · show (xs.zip ys)[i].2 ∈ ys
    rw [List.getElem_zip]; exact List.getElem_mem _
theorem enumI_length (xs : List Int) : (enumI xs).length = xs.length := by simp [enumI]
theorem enumI_mem {xs : List Int} {j : Int} (h0 : 0 ≤ j) (h1 : j < xs.length) : (j, getI xs j) ∈ enumI xs := by
  obtain ⟨n, rfl⟩ := Int.eq_ofNat_of_zero_le h0
  have hn : n < xs.length := by omega
  show ((n : Int), getI xs (n : Int)) ∈ enumI xs
  unfold enumI
  refine List.mem_mapIdx.mpr ⟨n, hn, ?_⟩
  rw [getI_nat hn]
theorem enumI_of_enumZ {xs ys : List Int} (h : xs.length = ys.length) : enumI ys = (enumZ xs ys).map fun p => (p.1, p.2.2) := by
  apply List.ext_getElem
  · simp [enumI, enumZ]; omega
  · intro n h1 h2
    simp [enumI, enumZ]
theorem enumI_of_enumZ' {xs ys : List Int} (h : xs.length = ys.length) : enumI xs = (enumZ xs ys).map fun p => (p.1, p.2.1) := by
  apply List.ext_getElem
  · simp [enumI, enumZ]; omega
  · intro n h1 h2
    simp [enumI, enumZ]
theorem sum_IL_l (xs : List Int) : sumF [liI xs] = some (.int xs.sum) := by
  show (allInts (xs.map PyData.int)).map _ = _
  rw [allInts_map]; rfl
theorem sum_IL_t (xs : List Int) : sumF [tuI xs] = some (.int xs.sum) := by
  show (allInts (xs.map PyData.int)).map _ = _
  rw [allInts_map]; rfl
theorem IL_inj : ∀ {a b : List Int}, IL a = IL b → a = b
  | [], [], _ => rfl
  | [], _ :: _, h => by cases h
  | _ :: _, [], h => by cases h
  | x :: xs, y :: ys, h => by
    rw [IL_cons, IL_cons] at h
    injection h with h1 h2
    injection h1 with h1
    rw [h1, IL_inj h2]
theorem ints_of {ds : List D} (h : ∀ d ∈ ds, ∃ i : Int, d = .int i) : ∃ xs : List Int, ds = IL xs := by
  induction ds with
  | nil => exact ⟨[], rfl⟩
  | cons d ds ih =>
    obtain ⟨i, rfl⟩ := h d List.mem_cons_self
    obtain ⟨xs, e⟩ := ih fun y hy => h y (List.mem_cons_of_mem _ hy)
    exact ⟨i :: xs, by rw [e]; rfl⟩
theorem ints_sortable (xs : List Int) : sortableD (IL xs) = true := by
  refine sortableD_of ?_ ?_ ?_
  · intro d hd e he
    obtain ⟨a, _, rfl⟩ := List.mem_map.mp hd
    obtain ⟨b, _, rfl⟩ := List.mem_map.mp he
    rfl
  · intro d hd
    obtain ⟨a, _, rfl⟩ := List.mem_map.mp hd
    exact ⟨rfl, by simp [PyData.depth]⟩
  · rw [Bool.or_eq_true]
    refine .inr (List.all_eq_true.mpr fun d hd => ?_)
    obtain ⟨a, _, rfl⟩ := List.mem_map.mp hd
    rfl
theorem sortD_ints (xs : List Int) : ∃ ys : List Int, sortD (IL xs) = IL ys ∧ ys.length = xs.length ∧ ∀ y, y ∈ ys ↔ y ∈ xs := by
  have hp := sortD_perm (IL xs)
  obtain ⟨ys, e⟩ := ints_of (ds := sortD (IL xs)) fun d hd => by
    obtain ⟨i, _, rfl⟩ := List.mem_map.mp (hp.subset hd)
    exact ⟨i, rfl⟩
  rw [e] at hp
  refine ⟨ys, e, by simpa using hp.length_eq, fun y => ?_⟩
  have h1 : ∀ {zs : List Int}, y ∈ zs ↔ PyData.int y ∈ IL zs := fun {zs} => IL_mem_iff.symm
  rw [h1, h1]
  exact hp.mem_iff
theorem sortedF_ofT {ds : List D} (h : sortableD ds = true) : sortedF [.tuple ds] = some (.list (sortD ds)) := by
  show (if sortableD ds = true then some (PyData.list (sortD ds)) else none) = _
  rw [if_pos h]
theorem ints_alike (L : List Int) : alikeD (IL L) = true := by
  refine alikeD_of ?_ ?_ ?_
  · intro d hd e he
    obtain ⟨a, _, rfl⟩ := List.mem_map.mp hd
    obtain ⟨b, _, rfl⟩ := List.mem_map.mp he
    rfl
  · intro d hd
    obtain ⟨a, _, rfl⟩ := List.mem_map.mp hd
    exact fun h => by cases h
  · intro d hd
    obtain ⟨a, _, rfl⟩ := List.mem_map.mp hd
    exact ⟨rfl, by simp [PyData.depth]⟩
theorem dlt_int (a b : Int) : PySem.W.dataLt (.int a) (.int b) = decide (a < b) := PySem.W.dataLt_int a b
theorem min_ints (x : Int) (xs : List Int) : ∃ m : Int, PySem.W.minD (.int x) (IL xs) = .int m ∧ m ∈ x :: xs ∧ ∀ y ∈ x :: xs, m ≤ y := by
  have h3 := minD_mem (PyData.int x) (IL xs)
  have h4 := minD_least (IL xs) (PyData.int x)
  rw [← IL_cons] at h3 h4
  obtain ⟨m, hm, e⟩ := List.mem_map.mp h3
  refine ⟨m, e.symm, hm, fun y hy => ?_⟩
  have := h4 (.int y) (IL_mem hy)
  rw [← e, dlt_int, decide_eq_false_iff_not] at this
  omega
theorem max_ints (x : Int) (xs : List Int) : ∃ m : Int, PySem.W.maxD (.int x) (IL xs) = .int m ∧ m ∈ x :: xs ∧ ∀ y ∈ x :: xs, y ≤ m := by
  have h3 := maxD_mem (PyData.int x) (IL xs)
  have h4 := maxD_greatest (IL xs) (PyData.int x)
  rw [← IL_cons] at h3 h4
  obtain ⟨m, hm, e⟩ := List.mem_map.mp h3
  refine ⟨m, e.symm, hm, fun y hy => ?_⟩
  have := h4 (.int y) (IL_mem hy)
  rw [← e, dlt_int, decide_eq_false_iff_not] at this
  omega
theorem minX_ints (x : Int) (xs : List Int) : ∃ m : Int, minXF [liI (x :: xs)] = some (.int m) ∧ m ∈ x :: xs ∧ ∀ y ∈ x :: xs, m ≤ y := by
  obtain ⟨m, e, h1, h2⟩ := min_ints x xs
  exact ⟨m, by rw [← e]; exact minXF_list (ints_alike (x :: xs)), h1, h2⟩
theorem maxX_ints (x : Int) (xs : List Int) : ∃ m : Int, maxXF [liI (x :: xs)] = some (.int m) ∧ m ∈ x :: xs ∧ ∀ y ∈ x :: xs, y ≤ m := by
  obtain ⟨m, e, h1, h2⟩ := max_ints x xs
  exact ⟨m, by rw [← e]; exact maxXF_list (ints_alike (x :: xs)), h1, h2⟩
theorem maxX_intsT (x : Int) (xs : List Int) : ∃ m : Int, maxXF [tuI (x :: xs)] = some (.int m) ∧ m ∈ x :: xs ∧ ∀ y ∈ x :: xs, y ≤ m := by
  obtain ⟨m, e, h1, h2⟩ := max_ints x xs
  exact ⟨m, by rw [← e]; exact maxXF_list (ints_alike (x :: xs)), h1, h2⟩
/-! in range -/
theorem no_int {d : D} (h : isIntD d = false) (a b : Int) : inRg d a b = false := by
  cases d <;> first | rfl | cases h
theorem inRg_isInt {d : D} {a b : Int} (h : (isIntD d && !isBoolD d) = false) : inRg d a b = false := by
  cases d <;> first | rfl | cases h
theorem inRg_ex {d : D} {a b : Int} (h : inRg d a b = true) : ∃ x : Int, d = .int x ∧ a ≤ x ∧ x ≤ b := by
  cases d with
  | int x => simp at h; exact ⟨x, rfl, h⟩
  | _ => cases h
theorem smallI_of {i : Int} (h1 : -(2 ^ 60) ≤ i) (h2 : i ≤ 2 ^ 60) : smallI i = true := by
  unfold smallI
  rw [Bool.and_eq_true, decide_eq_true_eq, decide_eq_true_eq]
  constructor <;> omega
end DL

set_option Elab.async false
set_option linter.all false
set_option maxRecDepth 100000
set_option maxHeartbeats 2000000
/-! the plain side: sums, loops that build lists -/
namespace DL
open PySem PySem.Spec PyProof.Rows L2
@[simp] theorem addI_int (a b : Int) : addI (.int a) (.int b) = some (.int (a + b)) := rfl
@[simp] theorem subI_int (a b : Int) : subI (.int a) (.int b) = some (.int (a - b)) := rfl
@[simp] theorem lfree_int (a : Int) : lfree (.int a) = true := rfl
theorem allF_2 (a b : Bool) : allF [.list [.bool a, .bool b]] = some (.bool (a && b)) := by cases a <;> cases b <;> rfl
/-- a loop that builds a list, at most one item a turn -/
theorem for_app {β : Type} {bd : BM} {m : SM} {g : G} (N : Nat) (Env : List D → List Sl → Prop) (enc : β → D) (F : β → List D) (h1 : ∀ b, (F b).length ≤ 1) : ∀ {bs : List β} {acc : List D} {env : List Sl}, acc.length + bs.length ≤ N → Env acc env →
    (∀ b ∈ bs, ∀ acc env, acc.length < N → Env acc env → ∃ env', bd (enc b) env = some env' ∧ OkS m env' g fun fl e2 g2 => fl = .next ∧ g2 = g ∧ Env (acc ++ F b) e2) →
    Ok (forGo bd m (bs.map enc) env g) fun r g2 => r.1 = .next ∧ g2 = g ∧ Env (acc ++ bs.flatMap F) r.2
  | [], acc, env, _, h0, _ => ⟨rfl, rfl, by simpa using h0⟩
  | b :: bs, acc, env, hN, h0, h => by
    rw [List.length_cons] at hN
    obtain ⟨env', h2, h3⟩ := h b List.mem_cons_self acc env (by omega) h0
    rw [List.map_cons]
    unfold forGo
    rw [h2]
    show Ok ((m env' g).bind _) _
    rw [Ok_bind]
    refine Ok.mono h3 fun r g2 hr => ?_
    obtain ⟨fl, e2⟩ := r
    obtain ⟨rfl, rfl, hi⟩ := hr
    have hl : (acc ++ F b).length + bs.length ≤ N := by
      rw [List.length_append]
      have := h1 b
      omega
    refine Ok.mono (for_app N Env enc F h1 hl hi fun x hx => h x (List.mem_cons_of_mem _ hx)) fun r g3 ⟨r1, r2, r3⟩ => ⟨r1, r2, ?_⟩
    rw [List.append_assoc] at r3
    exact r3
/-- the same over ints that are made -/
theorem for_appI {β : Type} {bd : BM} {m : SM} {g : G} (N : Nat) (Env : List Int → List Sl → Prop) (enc : β → D) (f : β → Int) : ∀ {bs : List β} {acc : List Int} {env : List Sl}, acc.length + bs.length ≤ N → Env acc env →
    (∀ b ∈ bs, ∀ acc env, acc.length < N → Env acc env → ∃ env', bd (enc b) env = some env' ∧ OkS m env' g fun fl e2 g2 => fl = .next ∧ g2 = g ∧ Env (acc ++ [f b]) e2) →
    Ok (forGo bd m (bs.map enc) env g) fun r g2 => r.1 = .next ∧ g2 = g ∧ Env (acc ++ bs.map f) r.2
  | [], acc, env, _, h0, _ => ⟨rfl, rfl, by simpa using h0⟩
  | b :: bs, acc, env, hN, h0, h => by
    rw [List.length_cons] at hN
    obtain ⟨env', h2, h3⟩ := h b List.mem_cons_self acc env (by omega) h0
    rw [List.map_cons]
    unfold forGo
    rw [h2]
    show Ok ((m env' g).bind _) _
    rw [Ok_bind]
    refine Ok.mono h3 fun r g2 hr => ?_
    obtain ⟨fl, e2⟩ := r
    obtain ⟨rfl, rfl, hi⟩ := hr
    have hl : (acc ++ [f b]).length + bs.length ≤ N := by
      rw [List.length_append, List.length_singleton]
      omega
    refine Ok.mono (for_appI N Env enc f hl hi fun x hx => h x (List.mem_cons_of_mem _ hx)) fun r g3 ⟨r1, r2, r3⟩ => ⟨r1, r2, ?_⟩
    rw [List.append_assoc] at r3
    exact r3
theorem foldl_add {β : Type} (h : β → Int) : ∀ (bs : List β) (a : Int), bs.foldl (fun a b => a + h b) a = a + (bs.map h).sum
  | [], a => by simp
  | b :: bs, a => by
    rw [List.foldl_cons, foldl_add h bs, List.map_cons, List.sum_cons]
    omega
theorem sum_le {β : Type} {h h' : β → Int} : ∀ {bs : List β}, (∀ b ∈ bs, h b ≤ h' b) → (bs.map h).sum ≤ (bs.map h').sum
  | [], _ => by simp
  | b :: bs, q => by
    have ih := sum_le (bs := bs) fun x hx => q x (List.mem_cons_of_mem _ hx)
    have := q b List.mem_cons_self
    simp only [List.map_cons, List.sum_cons]
    omega
theorem sum_eq {β : Type} {h h' : β → Int} {bs : List β} (q : ∀ b ∈ bs, h b = h' b) : (bs.map h).sum = (bs.map h').sum := by
  rw [List.map_congr_left q]
theorem enumI_irng (xs : List Int) : enumI xs = (irng 0 xs.length).map fun i => (i, getI xs i) := by
  apply List.ext_getElem
  · simp [enumI, irng_length]
  · intro n h1 h2
    have hn : n < xs.length := by rw [enumI_length] at h1; exact h1
    simp [enumI, irng, getI_nat hn]
theorem enumZ_irng {xs ys : List Int} (h : xs.length = ys.length) : enumZ xs ys = (irng 0 xs.length).map fun i => (i, getI xs i, getI ys i) := by
  apply List.ext_getElem
  · simp [enumZ, irng_length]; omega
  · intro n h1 h2
    have hn : n < xs.length := by simp [irng_length] at h2; exact h2
    have hn' : n < ys.length := by omega
    simp [enumZ, irng, getI_nat hn, getI_nat hn']
theorem map_getI (xs : List Int) : (irng 0 xs.length).map (getI xs) = xs := by
  apply List.ext_getElem
  · simp [irng_length]
  · intro n h1 h2
    simp [irng, getI_nat h2]
theorem getI_app {xs : List Int} {y : Int} {i : Int} (h0 : 0 ≤ i) (h1 : i < xs.length) : getI (xs ++ [y]) i = getI xs i := by
  obtain ⟨n, rfl⟩ := Int.eq_ofNat_of_zero_le h0
  have hn : n < xs.length := by omega
  have hn2 : n < (xs ++ [y]).length := by rw [List.length_append]; omega
  show getI (xs ++ [y]) (n : Int) = getI xs (n : Int)
  rw [getI_nat hn, getI_nat hn2, List.getElem_append_left hn]
theorem getI_app1 (xs : List Int) (y : Int) : getI (xs ++ [y]) (xs.length : Int) = y := by
  have hn2 : xs.length < (xs ++ [y]).length := by rw [List.length_append, List.length_singleton]; omega
  rw [getI_nat hn2]
  simp
theorem getI_of_mem {xs : List Int} {x : Int} (h : x ∈ xs) : ∃ i : Int, 0 ≤ i ∧ i < xs.length ∧ getI xs i = x := by
  obtain ⟨n, hn, rfl⟩ := List.mem_iff_getElem.mp h
  exact ⟨n, by omega, by omega, getI_nat hn⟩
theorem getI_map {f : Int → Int} {n : Nat} {i : Int} (h0 : 0 ≤ i) (h1 : i < n) : getI ((irng 0 n).map f) i = f i := by
  obtain ⟨k, rfl⟩ := Int.eq_ofNat_of_zero_le h0
  have hk : k < ((irng 0 n).map f).length := by rw [List.length_map, irng_length]; omega
  show getI ((irng 0 n).map f) (k : Int) = f (k : Int)
  rw [getI_nat hk]
  simp [irng]
/-! weights -/
def wsum (P : Int → Bool) : Int → List Int → Int
  | _, [] => 0
  | k, x :: xs => (if P k = true then x else 0) + wsum P (k + 1) xs
theorem wsum_set (P : Int → Bool) : ∀ (xs : List Int) (k : Int) (n : Nat) (h : n < xs.length) (y : Int), wsum P k (xs.set n y) = wsum P k xs + (if P (k + n) = true then y - xs[n] else 0)
  | [], _, _, h, _ => absurd h (Nat.not_lt_zero _)
  | x :: xs, k, 0, _, y => by
    simp only [List.set_cons_zero, wsum, Int.natCast_zero, Int.add_zero, List.getElem_cons_zero]
    split <;> omega
  | x :: xs, k, n + 1, h, y => by
    have ih := wsum_set P xs (k + 1) n (by simpa using h) y
    have e : k + 1 + (n : Int) = k + ((n + 1 : Nat) : Int) := by omega
    rw [e] at ih
    simp only [List.set_cons_succ, wsum, List.getElem_cons_succ]
    rw [ih]
    omega
theorem wsum_all : ∀ (xs : List Int) (k : Int), wsum (fun _ => true) k xs = xs.sum
  | [], _ => rfl
  | x :: xs, k => by simp [wsum, wsum_all xs]
theorem wsum_zero (P : Int → Bool) : ∀ (n : Nat) (k : Int), wsum P k (List.replicate n 0) = 0
  | 0, _ => rfl
  | n + 1, k => by simp [List.replicate_succ, wsum, wsum_zero P n]
def wcnt (P : Int → Bool) : Int → Nat → Int
  | _, 0 => 0
  | k, n + 1 => (if P k = true then 1 else 0) + wcnt P (k + 1) n
theorem wsum_le {P : Int → Bool} {M : Int} : ∀ (xs : List Int) (k : Int), (∀ x ∈ xs, x ≤ M) → wsum P k xs ≤ M * wcnt P k xs.length
  | [], _, _ => by simp [wsum, wcnt]
  | x :: xs, k, h => by
    have ih := wsum_le (P := P) xs (k + 1) fun y hy => h y (List.mem_cons_of_mem _ hy)
    have h0 := h x List.mem_cons_self
    simp only [wsum, wcnt, List.length_cons]
    rw [Int.mul_add]
    by_cases q : P k = true
    · simp only [q, if_true, Int.mul_one]; omega
    · simp only [q]; simp; omega
theorem wcnt_le (f l : Int) : ∀ (n : Nat) (k : Int), wcnt (fun i => decide (f ≤ i) && decide (i ≤ l)) k n ≤ max 0 (l - max f k + 1)
  | 0, _ => by simp only [wcnt]; omega
  | n + 1, k => by
    have ih := wcnt_le f l n (k + 1)
    simp only [wcnt]
    by_cases q1 : f ≤ k
    · by_cases q2 : k ≤ l
      · simp [q1, q2]; omega
      · simp [q1, q2]; omega
    · simp [q1]; omega
theorem ceil_le {A N M : Int} (hN : 0 < N) (h : A ≤ M * N) : -((-A).fdiv N) ≤ M := by
  have e : (-A).fdiv N = (-A) / N := Int.fdiv_eq_ediv_of_nonneg _ (by omega)
  have h2 : -M ≤ (-A) / N := (Int.le_ediv_iff_mul_le hN).mpr (by rw [Int.neg_mul]; omega)
  rw [e]
  omega
theorem rep_flat (n : Nat) (x : Int) : (List.replicate n [PyData.int x]).flatten = IL (List.replicate n x) := by
  induction n with
  | zero => rfl
  | succ n ih => rw [List.replicate_succ, List.flatten_cons, ih, List.replicate_succ]; rfl
theorem rep_IL (n : Nat) (x : Int) : List.replicate n (PyData.int x) = IL (List.replicate n x) := (List.map_replicate ..).symm
theorem IL_at {xs : List Int} {i : Int} (h0 : 0 ≤ i) (h1 : i < xs.length) : (IL xs)[i.toNat]? = some (.int (getI xs i)) := by
  obtain ⟨n, rfl⟩ := Int.eq_ofNat_of_zero_le h0
  have hn : n < xs.length := by omega
  show (IL xs)[n]? = some (.int (getI xs (n : Int)))
  rw [IL_get, List.getElem?_eq_getElem hn, getI_nat hn]; rfl
end DL

set_option Elab.async false
set_option linter.all false
set_option maxRecDepth 100000
set_option maxHeartbeats 4000000
namespace K82
open PySem PySem.Spec PyProof.Rows L2 DL
abbrev FUEL : Nat := 1000000000
def b_is_integer : SM := sRet (eAnd (eUn (isiD isIntD) (eVar 0)) (eNot (eUn (isiD isBoolD) (eVar 0))))
def m_is_integer : List D → PR := runP 1 1 b_is_integer
def b_is_within : SM := sRet (eAnd (eFn m_is_integer (eCons (eVar 0) (eNil))) (eChain leD leD (eVar 1) (eVar 0) (eVar 2)))
def m_is_within : List D → PR := runP 3 3 b_is_within
def x_are_within_c1 : EM D := eFn m_is_within (eCons (eVar 3) (eCons (eVar 1) (eCons (eVar 2) (eNil))))
def b_are_within : SM := sRet (eAnd (eUn (isiD isTupD) (eVar 0)) (eCall allF (eCons (eLc [3] (iSeq (eVar 0)) (bName 3) (bYes) x_are_within_c1) (eNil))))
def m_are_within : List D → PR := runP 3 4 b_are_within
def b_is_tuple_of : SM := sRet (eAnd (eUn (isiD isTupD) (eVar 0)) (eBin eqD (eCall lenF (eCons (eVar 0) (eNil))) (eVar 1)))
def m_is_tuple_of : List D → PR := runP 2 2 b_is_tuple_of
def x_is_lot_c1 : EM D := eBin ltD (eVar 2) (eVar 3)
def b_is_lot : SM := sSeq (sIf (bNot (eTru (eFn m_are_within (eCons (eVar 0) (eCons (eC (.int 0)) (eCons (eBin subD (eVar 1) (eC (.int 1))) (eNil))))))) (sRet (eC (.bool false))) (sSkip)) (sRet (eCall allF (eCons (eLc [2, 3] (iZip2 (eCons (eVar 0) (eCons (eSlice (eVar 0) (oSome (eC (.int 1))) (oNone)) (eNil)))) (bTup 2 (bCons (bName 2) (bCons (bName 3) (bNil)))) (bYes) x_is_lot_c1) (eNil))))
def m_is_lot : List D → PR := runP 2 4 b_is_lot
def b_check_both : SM := sSeq (sIf (bOr (bNot (eTru (eFn m_are_within (eCons (eVar 0) (eCons (eC (.int 0)) (eCons (eC (.int 60)) (eNil))))))) (bNot (eAsB (eChain leD leD (eC (.int 1)) (eCall lenF (eCons (eVar 0) (eNil))) (eC (.int 30)))))) (sRaise "NoRows") (sSkip)) (sIf (bOr (bNot (eTru (eFn m_is_lot (eCons (eVar 1) (eCons (eCall lenF (eCons (eVar 0) (eNil))) (eNil)))))) (eAsB (eBin eqD (eCall lenF (eCons (eVar 1) (eNil))) (eC (.int 0))))) (sRaise "NoDoors") (sSkip))
def m_check_both : List D → PR := runP 2 2 b_check_both
def b_check_beats : SM := sIf (bNot (eTru (eFn m_is_within (eCons (eVar 0) (eCons (eC (.int 0)) (eCons (eC (.int 2000)) (eNil))))))) (sRaise "NoNumber") (sSkip)
def m_check_beats : List D → PR := runP 1 1 b_check_beats
def t_ends_of_c1 : EM Bool := eAsB (eBin leD (eVar 5) (eVar 1))
def x_ends_of_c1 : EM D := eVar 4
def t_ends_of_c2 : EM Bool := eAsB (eBin geD (eVar 5) (eVar 1))
def x_ends_of_c2 : EM D := eVar 4
def b_ends_of : SM := sSeq (sSet 2 (eLc [4, 5] (iEnum1 (eCons (eVar 0) (eNil))) (bTup 2 (bCons (bName 4) (bCons (bName 5) (bNil)))) (t_ends_of_c1) x_ends_of_c1)) (sSeq (sSet 3 (eLc [4, 5] (iEnum1 (eCons (eVar 0) (eNil))) (bTup 2 (bCons (bName 4) (bCons (bName 5) (bNil)))) (t_ends_of_c2) x_ends_of_c2)) (sRet (eTup (eCons (eIf (eAsB (eBin gtD (eCall lenF (eCons (eVar 2) (eNil))) (eC (.int 0)))) (eBin ixD (eVar 2) (eUn negD (eC (.int 1)))) (eC .none)) (eCons (eIf (eAsB (eBin gtD (eCall lenF (eCons (eVar 3) (eNil))) (eC (.int 0)))) (eBin ixD (eVar 3) (eC (.int 0))) (eC .none)) (eNil))))))
def m_ends_of : List D → PR := runP 2 6 b_ends_of
def x_raw_sharing_c1 : EM D := eBin ltD (eVar 10) (eC (.int 0))
def y_raw_sharing_l2 : SM := sSeq (sAsg (bTup 2 (bCons (bName 7) (bCons (bName 8) (bNil)))) (eFn m_ends_of (eCons (eVar 1) (eCons (eVar 5) (eNil))))) (sSeq (sSet 9 (eC (.int 0))) (sSeq (sIf (eAsB (eBin isnD (eVar 7) (eC .none))) (sSeq (sSet 9 (eLend (eIf (bOr (eAsB (eBin isD (eVar 8) (eC .none))) (eAsB (eBin eqD (eVar 8) (eVar 7)))) (eVar 6) (eCall min2F (eCons (eVar 6) (eCons (eBin ixD (eVar 3) (eVar 7)) (eNil))))))) (sAugAt 3 subI (eVar 7) (eVar 9))) (sSkip)) (sSeq (sIf (eAsB (eBin ltD (eVar 9) (eVar 6))) (sAugAt 3 subI (eVar 8) (eBin subD (eVar 6) (eVar 9))) (sSkip)) (sSeq (sApp 4 (eVar 9)) (sIf (eLendB (eTru (eCall anyF (eCons (eLc [10] (iSeq (eVar 3)) (bName 10) (bYes) x_raw_sharing_c1) (eNil))))) (sRet (eC .none)) (sSkip))))))
def b_raw_sharing : SM := sSeq (sMix [3, 4] (mNew (eRepL (eLst (eCons (eVar 2) (eNil))) (eCall lenF (eCons (eVar 1) (eNil)))) (mNew (eLstL (eNil)) (mNil)))) (sSeq (sFor (iEnum1 (eCons (eVar 0) (eNil))) (bTup 2 (bCons (bName 5) (bCons (bName 6) (bNil)))) y_raw_sharing_l2) (sFrz 4 (sRet (eCall tupleF (eCons (eVar 4) (eNil))))))
def m_raw_sharing : List D → PR := runP 3 11 b_raw_sharing
def x_alone_to_c1 : EM D := eOr (eBin isD (eVar 7) (eC .none)) (eChain leD leD (eVar 2) (eVar 7) (eVar 3))
def y_alone_to_l2 : SM := sIf (eTru (eCall allF (eCons (eLc [7] (iSeq (eFn m_ends_of (eCons (eVar 1) (eCons (eVar 5) (eNil))))) (bName 7) (bYes) x_alone_to_c1) (eNil)))) (sAug 4 addI (eVar 6)) (sSkip)
def b_alone_to : SM := sSeq (sSet 4 (eC (.int 0))) (sSeq (sFor (iEnum1 (eCons (eVar 0) (eNil))) (bTup 2 (bCons (bName 5) (bCons (bName 6) (bNil)))) y_alone_to_l2) (sRet (eVar 4)))
def m_alone_to : List D → PR := runP 4 8 b_alone_to
def b_is_short : SM := sRet (eBin gtD (eFn m_alone_to (eCons (eVar 0) (eCons (eVar 1) (eCons (eVar 3) (eCons (eVar 4) (eNil)))))) (eBin mulD (eVar 2) (eBin addD (eBin subD (eVar 4) (eVar 3)) (eC (.int 1)))))
def m_is_short : List D → PR := runP 5 5 b_is_short
def y_raw_short_l1 : SM := sIf (eTru (eFn m_is_short (eCons (eVar 0) (eCons (eVar 1) (eCons (eVar 2) (eCons (eVar 3) (eCons (eVar 4) (eNil)))))))) (sRet (eTup (eCons (eVar 3) (eCons (eVar 4) (eNil))))) (sSkip)
def y_raw_short_l2 : SM := sFor (iRange2 (eCons (eVar 3) (eCons (eCall lenF (eCons (eVar 1) (eNil))) (eNil)))) (bName 4) y_raw_short_l1
def b_raw_short : SM := sSeq (sFor (iRange1 (eCons (eCall lenF (eCons (eVar 1) (eNil))) (eNil))) (bName 3) y_raw_short_l2) (sRet (eC .none))
def m_raw_short : List D → PR := runP 3 5 b_raw_short
def y_raw_beats_l1 : SM := sSet 2 (eCall max2F (eCons (eVar 2) (eCons (eUn negD (eBin fdivD (eUn negD (eFn m_alone_to (eCons (eVar 0) (eCons (eVar 1) (eCons (eVar 3) (eCons (eVar 4) (eNil))))))) (eBin addD (eBin subD (eVar 4) (eVar 3)) (eC (.int 1))))) (eNil))))
def y_raw_beats_l2 : SM := sFor (iRange2 (eCons (eVar 3) (eCons (eCall lenF (eCons (eVar 1) (eNil))) (eNil)))) (bName 4) y_raw_beats_l1
def b_raw_beats : SM := sSeq (sSet 2 (eC (.int 0))) (sSeq (sFor (iRange1 (eCons (eCall lenF (eCons (eVar 1) (eNil))) (eNil))) (bName 3) y_raw_beats_l2) (sRet (eVar 2)))
def m_raw_beats : List D → PR := runP 2 5 b_raw_beats
def b_fewest_beats : SM := sSeq (sExpr (eFn m_check_both (eCons (eVar 0) (eCons (eVar 1) (eNil))))) (sRet (eFn m_raw_beats (eCons (eVar 0) (eCons (eVar 1) (eNil)))))
def m_fewest_beats : List D → PR := runP 2 2 b_fewest_beats
def b_sharing_told : SM := sSeq (sExpr (eFn m_check_both (eCons (eVar 0) (eCons (eVar 1) (eNil))))) (sSeq (sExpr (eFn m_check_beats (eCons (eVar 2) (eNil)))) (sSeq (sSet 3 (eFn m_raw_short (eCons (eVar 0) (eCons (eVar 1) (eCons (eVar 2) (eNil)))))) (sRet (eIf (eAsB (eBin isD (eVar 3) (eC .none))) (eTup (eCons (eC (.str "sharing")) (eCons (eFn m_raw_sharing (eCons (eVar 0) (eCons (eVar 1) (eCons (eVar 2) (eNil))))) (eNil)))) (eBin addD (eTup (eCons (eC (.str "doors")) (eNil))) (eVar 3))))))
def m_sharing_told : List D → PR := runP 3 4 b_sharing_told
def y_is_sharing_l1 : SM := sSeq (sAsg (bTup 2 (bCons (bName 6) (bCons (bName 7) (bNil)))) (eFn m_ends_of (eCons (eVar 1) (eCons (eVar 3) (eNil))))) (sSeq (sIf (bOr (eAsB (eBin gtD (eVar 5) (eVar 4))) (bAnd (eAsB (eBin isD (eVar 6) (eC .none))) (eAsB (eBin gtD (eVar 5) (eC (.int 0)))))) (sRet (eC (.bool false))) (sSkip)) (sIf (bAnd (bOr (eAsB (eBin isD (eVar 7) (eC .none))) (eAsB (eBin eqD (eVar 7) (eVar 6)))) (eAsB (eBin ltD (eVar 5) (eVar 4)))) (sRet (eC (.bool false))) (sSkip)))
def b_is_sharing : SM := sSeq (sIf (bOr (bNot (eTru (eFn m_is_tuple_of (eCons (eVar 2) (eCons (eCall lenF (eCons (eVar 0) (eNil))) (eNil)))))) (bNot (eTru (eFn m_are_within (eCons (eVar 2) (eCons (eC (.int 0)) (eCons (eC (.int 60)) (eNil)))))))) (sRet (eC (.bool false))) (sSkip)) (sSeq (sFor (iEnumZip (eCons (eVar 0) (eCons (eVar 2) (eNil)))) (bTup 2 (bCons (bName 3) (bCons (bTup 2 (bCons (bName 4) (bCons (bName 5) (bNil)))) (bNil)))) y_is_sharing_l1) (sRet (eC (.bool true))))
def m_is_sharing : List D → PR := runP 3 8 b_is_sharing
def y_raw_out_l1 : SM := sSeq (sAsg (bTup 2 (bCons (bName 7) (bCons (bName 8) (bNil)))) (eFn m_ends_of (eCons (eVar 1) (eCons (eVar 4) (eNil))))) (sSeq (sIf (eAsB (eBin gtD (eVar 6) (eC (.int 0)))) (sAugAt 3 addI (eVar 7) (eVar 6)) (sSkip)) (sIf (eAsB (eBin ltD (eVar 6) (eVar 5))) (sAugAt 3 addI (eVar 8) (eBin subD (eVar 5) (eVar 6))) (sSkip)))
def b_raw_out : SM := sSeq (sSetN 3 (eRepL (eLst (eCons (eC (.int 0)) (eNil))) (eCall lenF (eCons (eVar 1) (eNil))))) (sSeq (sFor (iEnumZip (eCons (eVar 0) (eCons (eVar 2) (eNil)))) (bTup 2 (bCons (bName 4) (bCons (bTup 2 (bCons (bName 5) (bCons (bName 6) (bNil)))) (bNil)))) y_raw_out_l1) (sFrz 3 (sRet (eVar 3))))
def m_raw_out : List D → PR := runP 3 9 b_raw_out
def x_is_sharing_told_c1 : EM D := eBin leD (eVar 4) (eVar 2)
def b_is_sharing_told : SM := sSeq (sExpr (eFn m_check_both (eCons (eVar 0) (eCons (eVar 1) (eNil))))) (sSeq (sExpr (eFn m_check_beats (eCons (eVar 2) (eNil)))) (sSeq (sIf (bOr (bNot (eTru (eUn (isiD isTupD) (eVar 3)))) (bOr (eAsB (eBin ninD (eCall lenF (eCons (eVar 3) (eNil))) (eTup (eCons (eC (.int 2)) (eCons (eC (.int 3)) (eNil)))))) (bNot (eTru (eUn (isiD isStrD) (eBin ixD (eVar 3) (eC (.int 0)))))))) (sRet (eC (.bool false))) (sSkip)) (sSeq (sIf (eAsB (eBin eqD (eBin ixD (eVar 3) (eC (.int 0))) (eC (.str "sharing")))) (sSeq (sIf (bOr (eAsB (eBin neD (eCall lenF (eCons (eVar 3) (eNil))) (eC (.int 2)))) (bNot (eTru (eFn m_is_sharing (eCons (eVar 0) (eCons (eVar 1) (eCons (eBin ixD (eVar 3) (eC (.int 1))) (eNil)))))))) (sRet (eC (.bool false))) (sSkip)) (sRet (eCall allF (eCons (eLc [4] (iSeq (eFn m_raw_out (eCons (eVar 0) (eCons (eVar 1) (eCons (eBin ixD (eVar 3) (eC (.int 1))) (eNil)))))) (bName 4) (bYes) x_is_sharing_told_c1) (eNil))))) (sSkip)) (sSeq (sIf (bOr (eAsB (eBin neD (eBin ixD (eVar 3) (eC (.int 0))) (eC (.str "doors")))) (bOr (eAsB (eBin neD (eCall lenF (eCons (eVar 3) (eNil))) (eC (.int 3)))) (bOr (bNot (eTru (eFn m_are_within (eCons (eSlice (eVar 3) (oSome (eC (.int 1))) (oNone)) (eCons (eC (.int 0)) (eCons (eBin subD (eCall lenF (eCons (eVar 1) (eNil))) (eC (.int 1))) (eNil))))))) (eAsB (eBin gtD (eBin ixD (eVar 3) (eC (.int 1))) (eBin ixD (eVar 3) (eC (.int 2)))))))) (sRet (eC (.bool false))) (sSkip)) (sRet (eFn m_is_short (eCons (eVar 0) (eCons (eVar 1) (eCons (eVar 2) (eCons (eBin ixD (eVar 3) (eC (.int 1))) (eCons (eBin ixD (eVar 3) (eC (.int 2))) (eNil))))))))))))
def m_is_sharing_told : List D → PR := runP 4 5 b_is_sharing_told
def x__law_hand_c1 : EM D := eCall absF (eCons (eCall intF (eCons (eVar 2) (eNil))) (eNil))
def b__law_hand : SM := sSeq (sSet 1 (eLc [2] (iSeq (eScr 0 63)) (bName 2) (bYes) x__law_hand_c1)) (sRetNew (eLstL (eCons (eVar 1) (eCons (eC (.int 0)) (eCons (eC (.int 0)) (eCons (eBin addD (eC (.int 739)) (eBin mulD (eC (.int 124)) (eCall lenF (eCons (eVar 1) (eNil))))) (eCons (eC (.int 0)) (eNil))))))))
def m__law_hand : List Int → PRN := runScr 3 b__law_hand
def b__law_draw : SM := sSeq (sIf (bAnd (eAsB (eBin eqD (eHand 0 2) (eC (.int 0)))) (eAsB (eBin ltD (eHand 0 1) (eCall lenF (eCons (eHand 0 0) (eNil)))))) (sSeq (sSet 2 (eBin ixD (eHand 0 0) (eHand 0 1))) (sSeq (sHand 0 1 (eBin addD (eHand 0 1) (eC (.int 1)))) (sSeq (sHand 0 3 (eBin modD (eCall intF (eCons (eBin addD (eBin addD (eBin mulD (eHand 0 3) (eC (.int 69621))) (eVar 2)) (eC (.int 103))) (eNil))) (eC (.int 2147483629)))) (sIf (eAsB (eBin geD (eVar 2) (eBin powD (eC (.int 10)) (eC (.int 18))))) (sHand 0 2 (eVar 2)) (sSkip))))) (sSkip)) (sSeq (sIf (eAsB (eBin gtD (eHand 0 2) (eC (.int 0)))) (sSeq (sSet 3 (eBin modD (eCall intF (eCons (eHand 0 2) (eNil))) (eVar 1))) (sSeq (sHand 0 2 (eBin fdivD (eHand 0 2) (eVar 1))) (sRet (eVar 3)))) (sSkip)) (sSeq (sHand 0 4 (eBin addD (eHand 0 4) (eC (.int 1)))) (sSeq (sSet 4 (eBin modD (eCall intF (eCons (eBin mulD (eCall intF (eCons (eBin addD (eHand 0 3) (eBin mulD (eC (.int 7919)) (eHand 0 4))) (eNil))) (eC (.int 48271))) (eNil))) (eC (.int 2147483647)))) (sSeq (sSet 4 (eBin modD (eCall intF (eCons (eBin mulD (eVar 4) (eBin addD (eBin fdivD (eVar 4) (eC (.int 1009))) (eC (.int 69621)))) (eNil))) (eC (.int 2147483647)))) (sSeq (sSet 4 (eBin modD (eCall intF (eCons (eBin mulD (eVar 4) (eBin addD (eBin fdivD (eVar 4) (eC (.int 2003))) (eC (.int 40692)))) (eNil))) (eC (.int 2147483399)))) (sRet (eBin modD (eCall intF (eCons (eBin fdivD (eVar 4) (eC (.int 16))) (eNil))) (eVar 1))))))))
def m__law_draw : List D → G → Out D := runH 2 5 b__law_draw
def b__law_some : SM := sRet (eBin ixD (eVar 1) (eFnH 0 m__law_draw (eCons (eCall lenF (eCons (eVar 1) (eNil))) (eNil))))
def m__law_some : List D → G → Out D := runH 2 2 b__law_some
def x__law_is_c1 (SELF : List D → PR) : EM D := eFn SELF (eCons (eBin ixD (eVar 0) (eVar 2)) (eCons (eBin ixD (eVar 1) (eVar 2)) (eNil)))
def b__law_is (SELF : List D → PR) : SM := sSeq (sIf (bOr (eTru (eUn (isiD isTupD) (eVar 1))) (eTru (eUn (isiD isListD) (eVar 1)))) (sSeq (sIf (eAsB (eBin neD (eUn (isiD isTupD) (eVar 0)) (eUn (isiD isTupD) (eVar 1)))) (sRet (eC (.bool false))) (sSkip)) (sSeq (sIf (eAsB (eBin neD (eUn (isiD isListD) (eVar 0)) (eUn (isiD isListD) (eVar 1)))) (sRet (eC (.bool false))) (sSkip)) (sSeq (sIf (eAsB (eBin neD (eCall lenF (eCons (eVar 0) (eNil))) (eCall lenF (eCons (eVar 1) (eNil))))) (sRet (eC (.bool false))) (sSkip)) (sRet (eCall allF (eCons (eLc [2] (iRange1 (eCons (eCall lenF (eCons (eVar 1) (eNil))) (eNil))) (bName 2) (bYes) (x__law_is_c1 SELF)) (eNil))))))) (sSkip)) (sSeq (sIf (eAsB (eBin isD (eVar 1) (eC .none))) (sRet (eBin isD (eVar 0) (eC .none))) (sSkip)) (sSeq (sIf (bOr (eAsB (eBin neD (eUn (isiD isBoolD) (eVar 0)) (eUn (isiD isBoolD) (eVar 1)))) (eAsB (eBin neD (eUn (isiD isIntD) (eVar 0)) (eUn (isiD isIntD) (eVar 1))))) (sRet (eC (.bool false))) (sSkip)) (sRet (eAnd (eBin eqD (eUn (isiD isStrD) (eVar 0)) (eUn (isiD isStrD) (eVar 1))) (eBin eqD (eVar 0) (eVar 1))))))
def m__law_is : Nat → List D → PR
  | 0 => fun _ => .stuck
  | n + 1 => runP 2 3 (b__law_is (m__law_is n))
def y__law_deep_l1 : SM := sSet 1 (eIf (eAsB (eBin eqD (eFnH 0 m__law_draw (eCons (eC (.int 2)) (eNil))) (eC (.int 0)))) (eTup (eCons (eC (.dict [])) (eCons (eVar 1) (eNil)))) (eLst (eCons (eVar 1) (eNil))))
def b__law_deep : SM := sSeq (sSet 1 (eDict1 (eC (.str "deep")) (eUn negD (eC (.int 1))))) (sSeq (sFor (iRange1 (eCons (eFnH 0 m__law_draw (eCons (eC (.int 30)) (eNil))) (eNil))) (bName 2) y__law_deep_l1) (sRet (eVar 1)))
def m__law_deep : List D → G → Out D := runH 1 3 b__law_deep
def x__law_cabin_c1 : EM D := eFnH 0 m__law_draw (eCons (eVar 3) (eNil))
def t__law_cabin_c2 : EM Bool := eAsB (eBin eqD (eFnH 0 m__law_draw (eCons (eC (.int 3)) (eNil))) (eC (.int 0)))
def x__law_cabin_c2 : EM D := eVar 6
def b__law_cabin : SM := sSeq (sAsg (bTup 2 (bCons (bName 2) (bCons (bName 3) (bNil)))) (eTup (eCons (eBin addD (eC (.int 1)) (eFnH 0 m__law_draw (eCons (eVar 1) (eNil)))) (eCons (eFnH 0 m__law_some (eCons (eLst (eCons (eC (.int 2)) (eCons (eC (.int 5)) (eCons (eC (.int 61)) (eNil))))) (eNil))) (eNil))))) (sSeq (sSet 4 (eCall tupleF (eCons (eLc [6] (iRange1 (eCons (eVar 2) (eNil))) (bName 6) (bYes) x__law_cabin_c1) (eNil)))) (sSeq (sSet 5 (eCall tupleF (eCons (eLc [6] (iRange1 (eCons (eVar 2) (eNil))) (bName 6) (t__law_cabin_c2) x__law_cabin_c2) (eNil)))) (sRet (eTup (eCons (eVar 4) (eCons (eIf (eAsB (eBin neD (eVar 5) (eTup (eNil)))) (eVar 5) (eTup (eCons (eFnH 0 m__law_draw (eCons (eVar 2) (eNil))) (eNil)))) (eNil)))))))
def m__law_cabin : List D → G → Out D := runH 2 7 b__law_cabin
def t__law_ways_c1 : EM Bool := eAsB (eBin leD (eVar 5) (eVar 1))
def x__law_ways_c1 : EM D := eVar 4
def t__law_ways_c2 : EM Bool := eAsB (eBin geD (eVar 5) (eVar 1))
def x__law_ways_c2 : EM D := eVar 4
def b__law_ways : SM := sSeq (sSet 2 (eLc [4, 5] (iEnum1 (eCons (eVar 0) (eNil))) (bTup 2 (bCons (bName 4) (bCons (bName 5) (bNil)))) (t__law_ways_c1) x__law_ways_c1)) (sSeq (sSet 3 (eLc [4, 5] (iEnum1 (eCons (eVar 0) (eNil))) (bTup 2 (bCons (bName 4) (bCons (bName 5) (bNil)))) (t__law_ways_c2) x__law_ways_c2)) (sRet (eTup (eCons (eIf (eAsB (eBin neD (eVar 2) (eLst (eNil)))) (eBin ixD (eVar 2) (eUn negD (eC (.int 1)))) (eC .none)) (eCons (eIf (eAsB (eBin neD (eVar 3) (eLst (eNil)))) (eBin ixD (eVar 3) (eC (.int 0))) (eC .none)) (eNil))))))
def m__law_ways : List D → PR := runP 2 6 b__law_ways
def y__law_shares_l1 : SM := sSeq (sAsg (bTup 2 (bCons (bName 7) (bCons (bName 8) (bNil)))) (eFn m__law_ways (eCons (eVar 1) (eCons (eVar 5) (eNil))))) (sSeq (sSet 9 (eVar 6)) (sSeq (sIf (eAsB (eBin isD (eVar 7) (eC .none))) (sSet 9 (eC (.int 0))) (sIf (bAnd (eAsB (eBin isnD (eVar 8) (eC .none))) (eAsB (eBin neD (eVar 8) (eVar 7)))) (sSet 9 (eLend (eCall min2F (eCons (eVar 6) (eCons (eCall max2F (eCons (eC (.int 0)) (eCons (eBin subD (eVar 2) (eBin ixD (eVar 3) (eVar 7))) (eNil)))) (eNil)))))) (sSkip))) (sSeq (sIf (eAsB (eBin isnD (eVar 7) (eC .none))) (sPut 3 (eVar 7) (eLend (eBin addD (eBin ixD (eVar 3) (eVar 7)) (eVar 9)))) (sSkip)) (sSeq (sIf (bAnd (eAsB (eBin isnD (eVar 8) (eC .none))) (eAsB (eBin gtD (eVar 6) (eVar 9)))) (sPut 3 (eVar 8) (eLend (eBin subD (eBin addD (eBin ixD (eVar 3) (eVar 8)) (eVar 6)) (eVar 9)))) (sSkip)) (sApp 4 (eVar 9))))))
def b__law_shares : SM := sSeq (sMix [3, 4] (mNew (eRepL (eLst (eCons (eC (.int 0)) (eNil))) (eCall lenF (eCons (eVar 1) (eNil)))) (mNew (eLstL (eNil)) (mNil)))) (sSeq (sFor (iEnum1 (eCons (eVar 0) (eNil))) (bTup 2 (bCons (bName 5) (bCons (bName 6) (bNil)))) y__law_shares_l1) (sFrz 4 (sFrz 3 (sRet (eIf (eAsB (eBin leD (eCall maxXF (eCons (eVar 3) (eNil))) (eVar 2))) (eCall tupleF (eCons (eVar 4) (eNil))) (eC .none))))))
def m__law_shares : List D → PR := runP 3 10 b__law_shares
def t__law_bars_c1 : EM Bool := eAsB (eBin isnD (eVar 10) (eC .none))
def x__law_bars_c1 : EM D := eVar 10
def y__law_bars_l2 : SM := sSeq (sSet 9 (eLc [10] (iSeq (eFn m__law_ways (eCons (eVar 1) (eCons (eVar 7) (eNil))))) (bName 10) (t__law_bars_c1) x__law_bars_c1)) (sSet 6 (eBin addD (eVar 6) (eIf (bAnd (eAsB (eBin leD (eVar 4) (eCall minXF (eCons (eVar 9) (eNil))))) (eAsB (eBin leD (eCall maxXF (eCons (eVar 9) (eNil))) (eVar 5)))) (eVar 8) (eC (.int 0)))))
def y__law_bars_l3 : SM := sSeq (sSet 6 (eC (.int 0))) (sSeq (sFor (iEnum1 (eCons (eVar 0) (eNil))) (bTup 2 (bCons (bName 7) (bCons (bName 8) (bNil)))) y__law_bars_l2) (sIf (eAsB (eBin gtD (eVar 6) (eBin mulD (eBin addD (eBin subD (eVar 5) (eVar 4)) (eC (.int 1))) (eVar 2)))) (sApp 3 (eTup (eCons (eVar 4) (eCons (eVar 5) (eNil))))) (sSkip)))
def y__law_bars_l4 : SM := sFor (iRange2 (eCons (eVar 4) (eCons (eCall lenF (eCons (eVar 1) (eNil))) (eNil)))) (bName 5) y__law_bars_l3
def b__law_bars : SM := sSeq (sSetN 3 (eLstL (eNil))) (sSeq (sFor (iRange1 (eCons (eCall lenF (eCons (eVar 1) (eNil))) (eNil))) (bName 4) y__law_bars_l4) (sFrz 3 (sRet (eVar 3))))
def m__law_bars : List D → PR := runP 3 11 b__law_bars
def y__law_loads_l1 : SM := sSeq (sAsg (bTup 2 (bCons (bName 6) (bCons (bName 7) (bNil)))) (eFn m__law_ways (eCons (eVar 1) (eCons (eVar 4) (eNil))))) (sSeq (sIf (bOr (bNot (eTru (eUn (isiD isIntD) (eVar 5)))) (bOr (eTru (eUn (isiD isBoolD) (eVar 5))) (bNot (eAsB (eChain leD leD (eC (.int 0)) (eVar 5) (eBin ixD (eVar 0) (eVar 4))))))) (sRet (eC .none)) (sSkip)) (sSeq (sIf (bOr (bAnd (eAsB (eBin isD (eVar 6) (eC .none))) (eAsB (eBin neD (eVar 5) (eC (.int 0))))) (bAnd (eAsB (eBin neD (eVar 5) (eBin ixD (eVar 0) (eVar 4)))) (bOr (eAsB (eBin isD (eVar 7) (eC .none))) (eAsB (eBin eqD (eVar 7) (eVar 6)))))) (sRet (eC .none)) (sSkip)) (sSeq (sIf (eAsB (eBin isnD (eVar 6) (eC .none))) (sPut 3 (eVar 6) (eLend (eBin addD (eBin ixD (eVar 3) (eVar 6)) (eVar 5)))) (sSkip)) (sIf (eAsB (eBin isnD (eVar 7) (eC .none))) (sPut 3 (eVar 7) (eLend (eBin addD (eBin ixD (eVar 3) (eVar 7)) (eBin subD (eBin ixD (eVar 0) (eVar 4)) (eVar 5))))) (sSkip)))))
def b__law_loads : SM := sSeq (sIf (bOr (bNot (eTru (eUn (isiD isTupD) (eVar 2)))) (eAsB (eBin neD (eCall lenF (eCons (eVar 2) (eNil))) (eCall lenF (eCons (eVar 0) (eNil)))))) (sRet (eC .none)) (sSkip)) (sSeq (sSetN 3 (eRepL (eLst (eCons (eC (.int 0)) (eNil))) (eCall lenF (eCons (eVar 1) (eNil))))) (sSeq (sFor (iEnum1 (eCons (eVar 2) (eNil))) (bTup 2 (bCons (bName 4) (bCons (bName 5) (bNil)))) y__law_loads_l1) (sFrz 3 (sRet (eCall tupleF (eCons (eVar 3) (eNil)))))))
def m__law_loads : List D → PR := runP 3 8 b__law_loads
def b__law_no_rows : SM := sSeq (sSet 1 (eLst (eCons (eC .none) (eCons (eTup (eNil)) (eCons (eLst (eCons (eC (.int 1)) (eNil))) (eCons (eTup (eCons (eC (.int 61)) (eNil))) (eCons (eTup (eCons (eUn negD (eC (.int 1))) (eNil))) (eCons (eTup (eCons (eC (.bool true)) (eNil))) (eCons (eTup (eCons (eC (.str "1")) (eNil))) (eCons (eC (.int 0)) (eCons (eC (.str "1")) (eCons (eBin mulD (eTup (eCons (eC (.int 1)) (eNil))) (eC (.int 31))) (eCons (eFnH 0 m__law_deep (eNil)) (eNil)))))))))))))) (sRet (eFnH 0 m__law_some (eCons (eVar 1) (eNil))))
def m__law_no_rows : List D → G → Out D := runH 1 2 b__law_no_rows
def b__law_no_doors : SM := sSeq (sSet 2 (eLst (eCons (eC .none) (eCons (eTup (eNil)) (eCons (eLst (eCons (eC (.int 0)) (eNil))) (eCons (eTup (eCons (eCall lenF (eCons (eVar 1) (eNil))) (eNil))) (eCons (eTup (eCons (eUn negD (eC (.int 1))) (eNil))) (eCons (eTup (eCons (eC (.bool true)) (eNil))) (eCons (eTup (eCons (eC (.int 0)) (eCons (eC (.int 0)) (eNil)))) (eCons (eC (.str "0")) (eCons (eC (.int 0)) (eCons (eTup (eCons (eC .none) (eNil))) (eCons (eFnH 0 m__law_deep (eNil)) (eNil)))))))))))))) (sRet (eFnH 0 m__law_some (eCons (eVar 2) (eNil))))
def m__law_no_doors : List D → G → Out D := runH 2 3 b__law_no_doors
def x__law_is_told_c1 : EM D := eAnd (eUn (isiD isIntD) (eVar 5)) (eNot (eUn (isiD isBoolD) (eVar 5)))
def b__law_is_told : SM := sSeq (sIf (bOr (bNot (eTru (eUn (isiD isTupD) (eVar 3)))) (bOr (eAsB (eBin ninD (eCall lenF (eCons (eVar 3) (eNil))) (eTup (eCons (eC (.int 2)) (eCons (eC (.int 3)) (eNil)))))) (bNot (eTru (eUn (isiD isStrD) (eBin ixD (eVar 3) (eC (.int 0)))))))) (sRet (eC (.bool false))) (sSkip)) (sSeq (sIf (bAnd (eAsB (eBin eqD (eBin ixD (eVar 3) (eC (.int 0))) (eC (.str "sharing")))) (eAsB (eBin eqD (eCall lenF (eCons (eVar 3) (eNil))) (eC (.int 2))))) (sSeq (sSet 4 (eFn m__law_loads (eCons (eVar 0) (eCons (eVar 1) (eCons (eBin ixD (eVar 3) (eC (.int 1))) (eNil)))))) (sRet (eAnd (eBin isnD (eVar 4) (eC .none)) (eBin leD (eCall maxXF (eCons (eVar 4) (eNil))) (eVar 2))))) (sSkip)) (sSeq (sIf (bOr (eAsB (eBin neD (eBin ixD (eVar 3) (eC (.int 0))) (eC (.str "doors")))) (eAsB (eBin neD (eCall lenF (eCons (eVar 3) (eNil))) (eC (.int 3))))) (sRet (eC (.bool false))) (sSkip)) (sSeq (sIf (bNot (eTru (eCall allF (eCons (eLc [5] (iSeq (eSlice (eVar 3) (oSome (eC (.int 1))) (oNone))) (bName 5) (bYes) x__law_is_told_c1) (eNil))))) (sRet (eC (.bool false))) (sSkip)) (sRet (eBin inD (eSlice (eVar 3) (oSome (eC (.int 1))) (oNone)) (eFn m__law_bars (eCons (eVar 0) (eCons (eVar 1) (eCons (eVar 2) (eNil))))))))))
def m__law_is_told : List D → PR := runP 4 6 b__law_is_told
def y__law_things_l1 : SM := sApp 8 (eTup (eCons (eC (.str "sharing")) (eCons (eBin addD (eBin addD (eSlice (eVar 9) (oNone) (oSome (eVar 4))) (eTup (eCons (eVar 10) (eNil)))) (eSlice (eVar 9) (oSome (eBin addD (eVar 4) (eC (.int 1)))) (oNone))) (eNil))))
def b__law_things : SM := sSeq (sPar 4 5 (eCons (eFnH 0 m__law_draw (eCons (eCall lenF (eCons (eVar 1) (eNil))) (eNil))) (eCons (eFnH 0 m__law_some (eCons (eLst (eCons (eC .none) (eCons (eC (.bool true)) (eCons (eC (.str "0")) (eCons (eUn negD (eC (.int 1))) (eCons (eTup (eCons (eC (.int 0)) (eNil))) (eCons (eC (.int 61)) (eNil)))))))) (eNil))) (eNil)))) (sSeq (sPar 6 7 (eCons (eFnH 0 m__law_draw (eCons (eCall lenF (eCons (eVar 2) (eNil))) (eNil))) (eCons (eFnH 0 m__law_draw (eCons (eCall lenF (eCons (eVar 2) (eNil))) (eNil))) (eNil)))) (sSeq (sSetN 8 (eLstL (eCons (eVar 3) (eCons (eCall listF (eCons (eVar 3) (eNil))) (eCons (eSlice (eVar 3) (oNone) (oSome (eC (.int 1)))) (eCons (eBin addD (eVar 3) (eTup (eCons (eC (.int 0)) (eNil)))) (eCons (eC .none) (eCons (eC (.int 0)) (eCons (eC (.dict [])) (eCons (eTup (eCons (eC (.str "doors")) (eCons (eVar 6) (eCons (eVar 7) (eNil))))) (eCons (eTup (eCons (eC (.str "doors")) (eCons (eVar 6) (eCons (eVar 5) (eNil))))) (eCons (eFnH 0 m__law_deep (eNil)) (eNil))))))))))))) (sFrz 8 (sSeq (sSetN 8 (eCatL (eVar 8) (eLst (eCons (eTup (eCons (eC (.str "doors")) (eCons (eTup (eCons (eVar 6) (eCons (eVar 7) (eNil)))) (eNil)))) (eCons (eTup (eCons (eC (.str "doors")) (eCons (eVar 5) (eCons (eVar 7) (eNil))))) (eCons (eTup (eCons (eC (.str "doors")) (eCons (eC (.int 0)) (eCons (eBin subD (eCall lenF (eCons (eVar 2) (eNil))) (eC (.int 1))) (eNil))))) (eCons (eTup (eCons (eC (.str "sharing")) (eCons (eVar 1) (eNil)))) (eNil)))))))) (sSeq (sSet 9 (eIf (eAsB (eBin eqD (eBin ixD (eVar 3) (eC (.int 0))) (eC (.str "sharing")))) (eBin ixD (eVar 3) (eC (.int 1))) (eVar 1))) (sSeq (sFor (iSeq (eTup (eCons (eVar 5) (eCons (eC (.int 0)) (eCons (eBin ixD (eVar 1) (eVar 4)) (eCons (eFnH 0 m__law_draw (eCons (eBin addD (eBin ixD (eVar 1) (eVar 4)) (eC (.int 1))) (eNil))) (eNil))))))) (bName 10) y__law_things_l1) (sFrz 8 (sRet (eBin addD (eVar 8) (eLst (eCons (eTup (eCons (eC (.str "sharing")) (eCons (eCall listF (eCons (eVar 9) (eNil))) (eNil)))) (eCons (eTup (eCons (eC (.str "sharing")) (eCons (eSlice (eVar 9) (oSome (eC (.int 1))) (oNone)) (eNil)))) (eCons (eTup (eCons (eC (.str "sharing")) (eCons (eBin mulD (eTup (eCons (eC (.int 0)) (eNil))) (eCall lenF (eCons (eVar 1) (eNil)))) (eNil)))) (eCons (eBin addD (eTup (eCons (eC (.str "doors")) (eNil))) (eTup (eCons (eVar 9) (eNil)))) (eNil)))))))))))))))
def m__law_things : List D → G → Out D := runH 4 11 b__law_things
def t__law_few_c1 : EM Bool := eAsB (eBin isnD (eVar 9) (eC .none))
def x__law_few_c1 : EM D := eVar 9
def y__law_few_l2 : SM := sSeq (sSet 8 (eLc [9] (iSeq (eFn m__law_ways (eCons (eVar 1) (eCons (eVar 6) (eNil))))) (bName 9) (t__law_few_c1) x__law_few_c1)) (sSet 5 (eBin addD (eVar 5) (eIf (bAnd (eAsB (eBin leD (eVar 3) (eCall minXF (eCons (eVar 8) (eNil))))) (eAsB (eBin leD (eCall maxXF (eCons (eVar 8) (eNil))) (eVar 4)))) (eVar 7) (eC (.int 0)))))
def y__law_few_l3 : SM := sSeq (sSet 5 (eC (.int 0))) (sSeq (sFor (iEnum1 (eCons (eVar 0) (eNil))) (bTup 2 (bCons (bName 6) (bCons (bName 7) (bNil)))) y__law_few_l2) (sSet 2 (eCall max2F (eCons (eVar 2) (eCons (eBin subD (eC (.int 0)) (eBin fdivD (eBin subD (eC (.int 0)) (eVar 5)) (eBin addD (eBin subD (eVar 4) (eVar 3)) (eC (.int 1))))) (eNil))))))
def y__law_few_l4 : SM := sFor (iRange2 (eCons (eVar 3) (eCons (eCall lenF (eCons (eVar 1) (eNil))) (eNil)))) (bName 4) y__law_few_l3
def b__law_few : SM := sSeq (sSet 2 (eC (.int 0))) (sSeq (sFor (iRange1 (eCons (eCall lenF (eCons (eVar 1) (eNil))) (eNil))) (bName 3) y__law_few_l4) (sRet (eVar 2)))
def m__law_few : List D → PR := runP 2 10 b__law_few
def y__law_is_cabin_right_l1 : SM := sIf (bNot (eTru (eFn (m__law_is 8) (eCons (eFn m_is_sharing_told (eCons (eVar 1) (eCons (eVar 2) (eCons (eVar 4) (eCons (eVar 9) (eNil)))))) (eCons (eFn m__law_is_told (eCons (eVar 1) (eCons (eVar 2) (eCons (eVar 4) (eCons (eVar 9) (eNil)))))) (eNil)))))) (sRet (eC (.bool false))) (sSkip)
def y__law_is_cabin_right_l2 : SM := sSeq (sPar 5 6 (eCons (eFn m__law_shares (eCons (eVar 1) (eCons (eVar 2) (eCons (eVar 4) (eNil))))) (eCons (eFn m__law_bars (eCons (eVar 1) (eCons (eVar 2) (eCons (eVar 4) (eNil))))) (eNil)))) (sSeq (sIf (eAsB (eBin eqD (eBin isD (eVar 5) (eC .none)) (eBin eqD (eVar 6) (eLst (eNil))))) (sRet (eC (.bool false))) (sSkip)) (sSeq (sSet 7 (eIf (eAsB (eBin isnD (eVar 5) (eC .none))) (eTup (eCons (eC (.str "sharing")) (eCons (eVar 5) (eNil)))) (eBin addD (eTup (eCons (eC (.str "doors")) (eNil))) (eBin ixD (eVar 6) (eC (.int 0)))))) (sSeq (sSet 8 (eFn m_sharing_told (eCons (eVar 1) (eCons (eVar 2) (eCons (eVar 4) (eNil)))))) (sSeq (sIf (bOr (bNot (eTru (eFn (m__law_is 8) (eCons (eVar 8) (eCons (eVar 7) (eNil)))))) (eAsB (eBin neD (eBin eqD (eBin ixD (eVar 7) (eC (.int 0))) (eC (.str "sharing"))) (eBin geD (eVar 4) (eVar 3))))) (sRet (eC (.bool false))) (sSkip)) (sFor (iSeq (eFnH 0 m__law_things (eCons (eVar 1) (eCons (eVar 2) (eCons (eVar 8) (eNil)))))) (bName 9) y__law_is_cabin_right_l1)))))
def b__law_is_cabin_right : SM := sSeq (sSet 3 (eFn m__law_few (eCons (eVar 1) (eCons (eVar 2) (eNil))))) (sSeq (sIf (bNot (eTru (eFn (m__law_is 8) (eCons (eFn m_fewest_beats (eCons (eVar 1) (eCons (eVar 2) (eNil)))) (eCons (eVar 3) (eNil)))))) (sRet (eC (.bool false))) (sSkip)) (sSeq (sFor (iSeq (eTup (eCons (eVar 3) (eCons (eCall max2F (eCons (eC (.int 0)) (eCons (eBin subD (eVar 3) (eC (.int 1))) (eNil)))) (eCons (eBin addD (eVar 3) (eFnH 0 m__law_draw (eCons (eC (.int 5)) (eNil)))) (eCons (eFnH 0 m__law_draw (eCons (eBin addD (eVar 3) (eC (.int 1))) (eNil))) (eNil))))))) (bName 4) y__law_is_cabin_right_l2) (sRet (eC (.bool true)))))
def m__law_is_cabin_right : List D → G → Out D := runH 3 10 b__law_is_cabin_right
def l_law_w1 : EM D := eFn m_fewest_beats (eCons (eVar 6) (eCons (eVar 7) (eNil)))
def l_law_w2 : EM D := eFn m_fewest_beats (eCons (eVar 4) (eCons (eVar 7) (eNil)))
def l_law_w3 : EM D := eFn m_sharing_told (eCons (eVar 4) (eCons (eVar 7) (eCons (eVar 8) (eNil))))
def l_law_w4 : EM D := eFn m_sharing_told (eCons (eVar 4) (eCons (eVar 5) (eCons (eVar 8) (eNil))))
def l_law_w5 : EM D := eFn m_is_sharing_told (eCons (eVar 4) (eCons (eVar 5) (eCons (eVar 8) (eCons (eC .none) (eNil)))))
def y_law_l6 : SM := sSeq (sAsg (bTup 2 (bCons (bName 4) (bCons (bName 5) (bNil)))) (eFnH 1 m__law_cabin (eCons (eC (.int 9)) (eNil)))) (sSeq (sIf (bNot (eTru (eFnH 1 m__law_is_cabin_right (eCons (eVar 4) (eCons (eVar 5) (eNil)))))) (sRet (eC (.bool false))) (sSkip)) (sSeq (sAsg (bTup 3 (bCons (bName 6) (bCons (bName 7) (bCons (bName 8) (bNil))))) (eTup (eCons (eFnH 1 m__law_no_rows (eNil)) (eCons (eFnH 1 m__law_no_doors (eCons (eVar 4) (eNil))) (eCons (eFnH 1 m__law_some (eCons (eLst (eCons (eUn negD (eC (.int 1))) (eCons (eC (.int 2001)) (eCons (eC .none) (eCons (eC (.bool true)) (eCons (eC (.str "1")) (eNil))))))) (eNil))) (eNil)))))) (sSeq (sSetN 9 (eLstL (eCons (eWord ["NoDoors", "NoNumber", "NoRows"] ["doors", "number", "rows"] l_law_w1) (eNil)))) (sSeq (sApp 9 (eWord ["NoDoors", "NoNumber", "NoRows"] ["doors", "number", "rows"] l_law_w2)) (sSeq (sApp 9 (eWord ["NoDoors", "NoNumber", "NoRows"] ["doors", "number", "rows"] l_law_w3)) (sSeq (sApp 9 (eWord ["NoDoors", "NoNumber", "NoRows"] ["doors", "number", "rows"] l_law_w4)) (sSeq (sApp 9 (eWord ["NoDoors", "NoNumber", "NoRows"] ["doors", "number", "rows"] l_law_w5)) (sFrz 9 (sIf (eAsB (eBin neD (eVar 9) (eLst (eCons (eC (.str "rows")) (eCons (eC (.str "doors")) (eCons (eC (.str "doors")) (eCons (eC (.str "number")) (eCons (eC (.str "number")) (eNil))))))))) (sRet (eC (.bool false))) (sSkip))))))))))
def b_law : SM := sSeq (sSet 2 (eLst (eCons (eFn m_sharing_told (eCons (eTup (eCons (eC (.int 2)) (eCons (eC (.int 3)) (eCons (eC (.int 2)) (eNil))))) (eCons (eTup (eCons (eC (.int 0)) (eCons (eC (.int 2)) (eNil)))) (eCons (eC (.int 4)) (eNil))))) (eCons (eFn m_sharing_told (eCons (eTup (eCons (eC (.int 2)) (eCons (eC (.int 3)) (eCons (eC (.int 2)) (eNil))))) (eCons (eTup (eCons (eC (.int 0)) (eCons (eC (.int 2)) (eNil)))) (eCons (eC (.int 3)) (eNil))))) (eCons (eFn m_fewest_beats (eCons (eTup (eCons (eC (.int 5)) (eNil))) (eCons (eTup (eCons (eC (.int 0)) (eNil))) (eNil)))) (eNil)))))) (sSeq (sIf (bNot (eTru (eFn (m__law_is 8) (eCons (eVar 2) (eCons (eLst (eCons (eTup (eCons (eC (.str "sharing")) (eCons (eTup (eCons (eC (.int 2)) (eCons (eC (.int 2)) (eCons (eC (.int 2)) (eNil))))) (eNil)))) (eCons (eTup (eCons (eC (.str "doors")) (eCons (eC (.int 0)) (eCons (eC (.int 1)) (eNil))))) (eCons (eC (.int 5)) (eNil))))) (eNil)))))) (sRet (eC (.bool false))) (sSkip)) (sSeq (sFor (iRange1 (eCons (eC (.int 3)) (eNil))) (bName 3) y_law_l6) (sRet (eC (.bool true)))))
def m_law : List Int → Prop := runLaw 1 10 m__law_hand b_law
end K82

set_option Elab.async false
set_option linter.all false
set_option maxRecDepth 100000
set_option maxHeartbeats 4000000
namespace K82
open PySem PySem.Spec PyProof.Rows L2 DL
def topS (i : Nat) : Stmt := PySem.Challenge.pw_airfield_k82_whole_sharings_of_doors_or.main.body.getD i (.Pass ⟨0, 0, 0, 0⟩)
theorem bt_abs : bootBuiltins "abs" = some (.builtin "abs") := by decide +kernel
theorem bt_all : bootBuiltins "all" = some (.builtin "all") := by decide +kernel
theorem bt_any : bootBuiltins "any" = some (.builtin "any") := by decide +kernel
theorem bt_bool : bootBuiltins "bool" = some (.type "bool") := by decide +kernel
theorem bt_int : bootBuiltins "int" = some (.type "int") := by decide +kernel
theorem bt_isinstance : bootBuiltins "isinstance" = some (.builtin "isinstance") := by decide +kernel
theorem bt_len : bootBuiltins "len" = some (.builtin "len") := by decide +kernel
theorem bt_list : bootBuiltins "list" = some (.type "list") := by decide +kernel
theorem bt_max : bootBuiltins "max" = some (.builtin "max") := by decide +kernel
theorem bt_min : bootBuiltins "min" = some (.builtin "min") := by decide +kernel
theorem bt_str : bootBuiltins "str" = some (.type "str") := by decide +kernel
theorem bt_tuple : bootBuiltins "tuple" = some (.type "tuple") := by decide +kernel
abbrev s_is_integer : Stmt := topS 1
theorem sc_is_integer : FnScope ["thing"] ["thing"] (defScope s_is_integer) := ⟨rfl, rfl, rfl, by decide +kernel, rfl, by decide +kernel, by decide +kernel⟩
abbrev s_is_within : Stmt := topS 2
theorem sc_is_within : FnScope ["thing", "least", "most"] ["thing", "least", "most"] (defScope s_is_within) := ⟨rfl, rfl, rfl, by decide +kernel, rfl, by decide +kernel, by decide +kernel⟩
abbrev s_are_within : Stmt := topS 3
theorem sc_are_within : FnScope ["thing", "least", "most", "one"] ["thing", "least", "most"] (defScope s_are_within) := ⟨rfl, rfl, rfl, by decide +kernel, rfl, by decide +kernel, by decide +kernel⟩
abbrev s_is_tuple_of : Stmt := topS 4
theorem sc_is_tuple_of : FnScope ["thing", "many"] ["thing", "many"] (defScope s_is_tuple_of) := ⟨rfl, rfl, rfl, by decide +kernel, rfl, by decide +kernel, by decide +kernel⟩
abbrev s_is_lot : Stmt := topS 5
theorem sc_is_lot : FnScope ["thing", "below", "one", "other"] ["thing", "below"] (defScope s_is_lot) := ⟨rfl, rfl, rfl, by decide +kernel, rfl, by decide +kernel, by decide +kernel⟩
abbrev s_check_both : Stmt := topS 17
theorem sc_check_both : FnScope ["rows", "doors"] ["rows", "doors"] (defScope s_check_both) := ⟨rfl, rfl, rfl, by decide +kernel, rfl, by decide +kernel, by decide +kernel⟩
abbrev s_check_beats : Stmt := topS 18
theorem sc_check_beats : FnScope ["beats"] ["beats"] (defScope s_check_beats) := ⟨rfl, rfl, rfl, by decide +kernel, rfl, by decide +kernel, by decide +kernel⟩
abbrev s_ends_of : Stmt := topS 19
theorem sc_ends_of : FnScope ["doors", "row", "ahead", "behind", "at", "door"] ["doors", "row"] (defScope s_ends_of) := ⟨rfl, rfl, rfl, by decide +kernel, rfl, by decide +kernel, by decide +kernel⟩
abbrev s_raw_sharing : Stmt := topS 20
theorem sc_raw_sharing : FnScope ["rows", "doors", "beats", "room", "found", "row", "many", "ahead", "behind", "there", "one"] ["rows", "doors", "beats"] (defScope s_raw_sharing) := ⟨rfl, rfl, rfl, by decide +kernel, rfl, by decide +kernel, by decide +kernel⟩
abbrev s_alone_to : Stmt := topS 21
theorem sc_alone_to : FnScope ["rows", "doors", "first", "last", "total", "row", "many", "at"] ["rows", "doors", "first", "last"] (defScope s_alone_to) := ⟨rfl, rfl, rfl, by decide +kernel, rfl, by decide +kernel, by decide +kernel⟩
abbrev s_is_short : Stmt := topS 22
theorem sc_is_short : FnScope ["rows", "doors", "beats", "first", "last"] ["rows", "doors", "beats", "first", "last"] (defScope s_is_short) := ⟨rfl, rfl, rfl, by decide +kernel, rfl, by decide +kernel, by decide +kernel⟩
abbrev s_raw_short : Stmt := topS 23
theorem sc_raw_short : FnScope ["rows", "doors", "beats", "first", "last"] ["rows", "doors", "beats"] (defScope s_raw_short) := ⟨rfl, rfl, rfl, by decide +kernel, rfl, by decide +kernel, by decide +kernel⟩
abbrev s_raw_beats : Stmt := topS 25
theorem sc_raw_beats : FnScope ["rows", "doors", "best", "first", "last"] ["rows", "doors"] (defScope s_raw_beats) := ⟨rfl, rfl, rfl, by decide +kernel, rfl, by decide +kernel, by decide +kernel⟩
abbrev s_fewest_beats : Stmt := topS 24
theorem sc_fewest_beats : FnScope ["rows", "doors"] ["rows", "doors"] (defScope s_fewest_beats) := ⟨rfl, rfl, rfl, by decide +kernel, rfl, by decide +kernel, by decide +kernel⟩
abbrev s_sharing_told : Stmt := topS 26
theorem sc_sharing_told : FnScope ["rows", "doors", "beats", "found"] ["rows", "doors", "beats"] (defScope s_sharing_told) := ⟨rfl, rfl, rfl, by decide +kernel, rfl, by decide +kernel, by decide +kernel⟩
abbrev s_is_sharing : Stmt := topS 27
theorem sc_is_sharing : FnScope ["rows", "doors", "thing", "row", "many", "there", "ahead", "behind"] ["rows", "doors", "thing"] (defScope s_is_sharing) := ⟨rfl, rfl, rfl, by decide +kernel, rfl, by decide +kernel, by decide +kernel⟩
abbrev s_raw_out : Stmt := topS 28
theorem sc_raw_out : FnScope ["rows", "doors", "sharing", "found", "row", "many", "there", "ahead", "behind"] ["rows", "doors", "sharing"] (defScope s_raw_out) := ⟨rfl, rfl, rfl, by decide +kernel, rfl, by decide +kernel, by decide +kernel⟩
abbrev s_is_sharing_told : Stmt := topS 29
theorem sc_is_sharing_told : FnScope ["rows", "doors", "beats", "thing", "one"] ["rows", "doors", "beats", "thing"] (defScope s_is_sharing_told) := ⟨rfl, rfl, rfl, by decide +kernel, rfl, by decide +kernel, by decide +kernel⟩
abbrev s__law_hand : Stmt := topS 31
theorem sc__law_hand : FnScope ["script", "cells", "cell"] ["script"] (defScope s__law_hand) := ⟨rfl, rfl, rfl, by decide +kernel, rfl, by decide +kernel, by decide +kernel⟩
abbrev s__law_draw : Stmt := topS 32
theorem sc__law_draw : FnScope ["hand", "many", "cell", "digit", "number"] ["hand", "many"] (defScope s__law_draw) := ⟨rfl, rfl, rfl, by decide +kernel, rfl, by decide +kernel, by decide +kernel⟩
abbrev s__law_some : Stmt := topS 33
theorem sc__law_some : FnScope ["hand", "things"] ["hand", "things"] (defScope s__law_some) := ⟨rfl, rfl, rfl, by decide +kernel, rfl, by decide +kernel, by decide +kernel⟩
abbrev s__law_is : Stmt := topS 34
theorem sc__law_is : FnScope ["said", "due", "k"] ["said", "due"] (defScope s__law_is) := ⟨rfl, rfl, rfl, by decide +kernel, rfl, by decide +kernel, by decide +kernel⟩
abbrev s__law_deep : Stmt := topS 35
theorem sc__law_deep : FnScope ["hand", "found", "turn"] ["hand"] (defScope s__law_deep) := ⟨rfl, rfl, rfl, by decide +kernel, rfl, by decide +kernel, by decide +kernel⟩
abbrev s__law_cabin : Stmt := topS 36
theorem sc__law_cabin : FnScope ["hand", "most", "many", "top", "rows", "doors", "row"] ["hand", "most"] (defScope s__law_cabin) := ⟨rfl, rfl, rfl, by decide +kernel, rfl, by decide +kernel, by decide +kernel⟩
abbrev s__law_ways : Stmt := topS 37
theorem sc__law_ways : FnScope ["doors", "row", "ahead", "behind", "place", "door"] ["doors", "row"] (defScope s__law_ways) := ⟨rfl, rfl, rfl, by decide +kernel, rfl, by decide +kernel, by decide +kernel⟩
abbrev s__law_shares : Stmt := topS 38
theorem sc__law_shares : FnScope ["rows", "doors", "beats", "loads", "found", "row", "many", "ahead", "behind", "first"] ["rows", "doors", "beats"] (defScope s__law_shares) := ⟨rfl, rfl, rfl, by decide +kernel, rfl, by decide +kernel, by decide +kernel⟩
abbrev s__law_bars : Stmt := topS 39
theorem sc__law_bars : FnScope ["rows", "doors", "beats", "found", "first", "last", "total", "row", "many", "some", "place"] ["rows", "doors", "beats"] (defScope s__law_bars) := ⟨rfl, rfl, rfl, by decide +kernel, rfl, by decide +kernel, by decide +kernel⟩
abbrev s__law_loads : Stmt := topS 40
theorem sc__law_loads : FnScope ["rows", "doors", "thing", "loads", "row", "first", "ahead", "behind"] ["rows", "doors", "thing"] (defScope s__law_loads) := ⟨rfl, rfl, rfl, by decide +kernel, rfl, by decide +kernel, by decide +kernel⟩
abbrev s__law_no_rows : Stmt := topS 41
theorem sc__law_no_rows : FnScope ["hand", "some"] ["hand"] (defScope s__law_no_rows) := ⟨rfl, rfl, rfl, by decide +kernel, rfl, by decide +kernel, by decide +kernel⟩
abbrev s__law_no_doors : Stmt := topS 42
theorem sc__law_no_doors : FnScope ["hand", "rows", "some"] ["hand", "rows"] (defScope s__law_no_doors) := ⟨rfl, rfl, rfl, by decide +kernel, rfl, by decide +kernel, by decide +kernel⟩
abbrev s__law_is_told : Stmt := topS 44
theorem sc__law_is_told : FnScope ["rows", "doors", "beats", "thing", "loads", "one"] ["rows", "doors", "beats", "thing"] (defScope s__law_is_told) := ⟨rfl, rfl, rfl, by decide +kernel, rfl, by decide +kernel, by decide +kernel⟩
abbrev s__law_things : Stmt := topS 45
theorem sc__law_things : FnScope ["hand", "rows", "doors", "told", "at", "odd", "first", "last", "things", "row", "other"] ["hand", "rows", "doors", "told"] (defScope s__law_things) := ⟨rfl, rfl, rfl, by decide +kernel, rfl, by decide +kernel, by decide +kernel⟩
abbrev s__law_few : Stmt := topS 46
theorem sc__law_few : FnScope ["rows", "doors", "few", "first", "last", "total", "row", "many", "some", "place"] ["rows", "doors"] (defScope s__law_few) := ⟨rfl, rfl, rfl, by decide +kernel, rfl, by decide +kernel, by decide +kernel⟩
abbrev s__law_is_cabin_right : Stmt := topS 47
theorem sc__law_is_cabin_right : FnScope ["hand", "rows", "doors", "few", "beats", "sharing", "bars", "due", "told", "thing"] ["hand", "rows", "doors"] (defScope s__law_is_cabin_right) := ⟨rfl, rfl, rfl, by decide +kernel, rfl, by decide +kernel, by decide +kernel⟩
abbrev s_law : Stmt := topS 48
theorem sc_law : FnScope ["script", "hand", "told", "turn", "rows", "doors", "bad", "none", "odd", "words"] ["script"] (defScope s_law) := ⟨rfl, rfl, rfl, by decide +kernel, rfl, by decide +kernel, by decide +kernel⟩
abbrev s__law_word : Stmt := topS 43
theorem sc__law_word : FnScope ["call", "found", "error", "flags"] ["call"] (defScope s__law_word) := ⟨rfl, rfl, rfl, by decide +kernel, rfl, by decide +kernel, by decide +kernel⟩
structure TopF (K : PySem.W.Frag) (mg : Str → Option Value) (base : Heap) (T : List (Addr × Str)) : Prop where
  d_is_integer : DefAt K mg "is_integer" "is_integer" s_is_integer ["thing"]
  d_is_within : DefAt K mg "is_within" "is_within" s_is_within ["thing", "least", "most"]
  d_are_within : DefAt K mg "are_within" "are_within" s_are_within ["thing", "least", "most"]
  d_is_tuple_of : DefAt K mg "is_tuple_of" "is_tuple_of" s_is_tuple_of ["thing", "many"]
  d_is_lot : DefAt K mg "is_lot" "is_lot" s_is_lot ["thing", "below"]
  d_check_both : DefAt K mg "check_both" "check_both" s_check_both ["rows", "doors"]
  d_check_beats : DefAt K mg "check_beats" "check_beats" s_check_beats ["beats"]
  d_ends_of : DefAt K mg "ends_of" "ends_of" s_ends_of ["doors", "row"]
  d_raw_sharing : DefAt K mg "raw_sharing" "raw_sharing" s_raw_sharing ["rows", "doors", "beats"]
  d_alone_to : DefAt K mg "alone_to" "alone_to" s_alone_to ["rows", "doors", "first", "last"]
  d_is_short : DefAt K mg "is_short" "is_short" s_is_short ["rows", "doors", "beats", "first", "last"]
  d_raw_short : DefAt K mg "raw_short" "raw_short" s_raw_short ["rows", "doors", "beats"]
  d_raw_beats : DefAt K mg "raw_beats" "raw_beats" s_raw_beats ["rows", "doors"]
  d_fewest_beats : DefAt K mg "fewest_beats" "fewest_beats" s_fewest_beats ["rows", "doors"]
  d_sharing_told : DefAt K mg "sharing_told" "sharing_told" s_sharing_told ["rows", "doors", "beats"]
  d_is_sharing : DefAt K mg "is_sharing" "is_sharing" s_is_sharing ["rows", "doors", "thing"]
  d_raw_out : DefAt K mg "raw_out" "raw_out" s_raw_out ["rows", "doors", "sharing"]
  d_is_sharing_told : DefAt K mg "is_sharing_told" "is_sharing_told" s_is_sharing_told ["rows", "doors", "beats", "thing"]
  d__law_hand : DefAt K mg "_law_hand" "_law_hand" s__law_hand ["script"]
  d__law_draw : DefAt K mg "_law_draw" "_law_draw" s__law_draw ["hand", "many"]
  d__law_some : DefAt K mg "_law_some" "_law_some" s__law_some ["hand", "things"]
  d__law_is : DefAt K mg "_law_is" "_law_is" s__law_is ["said", "due"]
  d__law_deep : DefAt K mg "_law_deep" "_law_deep" s__law_deep ["hand"]
  d__law_cabin : DefAt K mg "_law_cabin" "_law_cabin" s__law_cabin ["hand", "most"]
  d__law_ways : DefAt K mg "_law_ways" "_law_ways" s__law_ways ["doors", "row"]
  d__law_shares : DefAt K mg "_law_shares" "_law_shares" s__law_shares ["rows", "doors", "beats"]
  d__law_bars : DefAt K mg "_law_bars" "_law_bars" s__law_bars ["rows", "doors", "beats"]
  d__law_loads : DefAt K mg "_law_loads" "_law_loads" s__law_loads ["rows", "doors", "thing"]
  d__law_no_rows : DefAt K mg "_law_no_rows" "_law_no_rows" s__law_no_rows ["hand"]
  d__law_no_doors : DefAt K mg "_law_no_doors" "_law_no_doors" s__law_no_doors ["hand", "rows"]
  d__law_is_told : DefAt K mg "_law_is_told" "_law_is_told" s__law_is_told ["rows", "doors", "beats", "thing"]
  d__law_things : DefAt K mg "_law_things" "_law_things" s__law_things ["hand", "rows", "doors", "told"]
  d__law_few : DefAt K mg "_law_few" "_law_few" s__law_few ["rows", "doors"]
  d__law_is_cabin_right : DefAt K mg "_law_is_cabin_right" "_law_is_cabin_right" s__law_is_cabin_right ["hand", "rows", "doors"]
  d__law_word : DefAt K mg "_law_word" "_law_word" s__law_word ["call"]
  w_FieldError : ∃ FEa, mg "FieldError" = some (.ref FEa) ∧ Telled K mg FEa ["NoDoors", "NoNumber", "NoRows"] ["NoDoors", "NoNumber", "NoRows"]
  e_NoDoors : ∃ A, ECls K mg "NoDoors" A
  e_NoNumber : ∃ A, ECls K mg "NoNumber" A
  e_NoRows : ∃ A, ECls K mg "NoRows" A
  c_DOORS : ∃ t, mg "DOORS" = some (.str "doors" t)
  c_MOST_BEATS : ∃ t, mg "MOST_BEATS" = some (.int 2000 t)
  c_MOST_MANY : ∃ t, mg "MOST_MANY" = some (.int 60 t)
  c_MOST_ROWS : ∃ t, mg "MOST_ROWS" = some (.int 30 t)
  c_SHARING : ∃ t, mg "SHARING" = some (.str "sharing" t)
  z_ValueError : mg "ValueError" = none
  z_abs : mg "abs" = none
  z_all : mg "all" = none
  z_any : mg "any" = none
  z_bool : mg "bool" = none
  z_enumerate : mg "enumerate" = none
  z_int : mg "int" = none
  z_isinstance : mg "isinstance" = none
  z_len : mg "len" = none
  z_list : mg "list" = none
  z_max : mg "max" = none
  z_min : mg "min" = none
  z_range : mg "range" = none
  z_str : mg "str" = none
  z_tuple : mg "tuple" = none
  z_zip : mg "zip" = none
section
variable {P : Program} {w : World} {K : PySem.W.Frag} {mg : Str → Option Value} {base : Heap} {T : List (Addr × Str)}
theorem wd__law_word {X : Cx} {T : List (Addr × Str)} (T0 : TopF X.K X.mg X.base T) : ∃ g FEa, WordDef X "_law_word" "call" "FieldError" "error" "found" "flags" s__law_word g FEa ["NoDoors", "NoNumber", "NoRows"] ["doors", "number", "rows"] ∧ PySem.W.keepIn X.K (.ref g) = true ∧ Telled X.K X.mg FEa ["NoDoors", "NoNumber", "NoRows"] ["NoDoors", "NoNumber", "NoRows"] := by
  obtain ⟨f, fd, Fn, hm, hb⟩ := T0.d__law_word
  obtain ⟨FEa, hfe, hall⟩ := T0.w_FieldError
  refine ⟨f, FEa, ⟨⟨fd, Fn, hm, hb⟩, sc__law_word, fun cdg s H f Q tl PH act hP h => ?_⟩, Fn.kp, hall⟩
  refine word_gives (suite := _) (by decide) rfl rfl rfl hfe rfl (by decide) (fun o oe pn Dc c R hz hf => ?_) act hP h
  obtain ⟨A0, g0, k0⟩ := R.ask "NoDoors" (by decide)
  obtain ⟨A1, g1, k1⟩ := R.ask "NoNumber" (by decide)
  obtain ⟨A2, g2, k2⟩ := R.ask "NoRows" (by decide)
  exact suite_std (X := zOf X ["call", "found", "error", "flags"] "_law_word" (defScope s__law_word) _ cdg s H) (ie := 2) (iF := 1) (iG := 3) (show (["call", "found", "error", "flags"] : List Str).Nodup by decide) rfl rfl rfl rfl rfl (by decide) (by decide) (by decide) (ise_cons (isE_one R.ec hz hf rfl T0.z_isinstance rfl (.inl rfl) rfl g0 k0) (ise_cons (isE_one R.ec hz hf rfl T0.z_isinstance rfl (.inl rfl) rfl g1 k1) (ise_cons (isE_one R.ec hz hf rfl T0.z_isinstance rfl (.inl rfl) rfl g2 k2) (ise_nil)))) (strs_cons (strs_cons (strs_cons (strs_nil)))) (isE_ve R.ec hz hf rfl T0.z_isinstance rfl (.inl rfl) rfl T0.z_ValueError R.ve) (by intro _; rfl) (show 3 ≤ sizeLine by decide) (by decide) (fun _ _ => rfl)
theorem kf_is_integer (T0 : TopF K mg base T) : KF P w K mg base "is_integer" 2 (spP K mg T m_is_integer) := by
  obtain ⟨f, fd, Fn, hm, hb⟩ := T0.d_is_integer
  exact kf_pure Fn hm hb sc_is_integer (by decide) b_is_integer (fun cdv A outer s H E C hT hh t tk hx hp => by
    subst hT
    exact fs_one (fs_ret (fe_and t (fe_isi t isiInt (by rfl) T0.z_isinstance bt_isinstance (by rfl) T0.z_int bt_int (fe_var (i := 0) rfl (.inl rfl))) (fe_one (fe_not t (fe_isi t isiBool (by rfl) T0.z_isinstance bt_isinstance (by rfl) T0.z_bool bt_bool (fe_var (i := 0) rfl (.inl rfl))))))))
theorem kf_is_within (T0 : TopF K mg base T) : KF P w K mg base "is_within" 3 (spP K mg T m_is_within) := by
  obtain ⟨f, fd, Fn, hm, hb⟩ := T0.d_is_within
  exact kf_pure Fn hm hb sc_is_within (by decide) b_is_within (fun cdv A outer s H E C hT hh t tk hx hp => by
    subst hT
    exact fs_one (fs_ret (fe_and t (fe_call t hx (kf_is_integer T0) (by decide) (by rfl) (fa_cons (fe_var (i := 0) rfl (.inl rfl)) (fa_nil))) (fe_one (fe_chain (opLe t) (opLe t) (fe_var (i := 1) rfl (.inl rfl)) (fe_var (i := 0) rfl (.inl rfl)) (fe_var (i := 2) rfl (.inl rfl)) (by with_unfolding_all rfl))))))
theorem kf_are_within (T0 : TopF K mg base T) : KF P w K mg base "are_within" 4 (spP K mg T m_are_within) := by
  obtain ⟨f, fd, Fn, hm, hb⟩ := T0.d_are_within
  exact kf_pure Fn hm hb sc_are_within (by decide) b_are_within (fun cdv A outer s H E C hT hh t tk hx hp => by
    subst hT
    exact fs_one (fs_ret (fe_and t (fe_isi t isiTup (by rfl) T0.z_isinstance bt_isinstance (by rfl) T0.z_tuple bt_tuple (fe_var (i := 0) rfl (.inl rfl))) (fe_one (fe_callB (cAll t) (by rfl) T0.z_all bt_all (fa_cons (fe_lc (own := [("one", 3)]) (L := [3]) (tst := bYes) (el := x_are_within_c1) t (fi_seq t (fe_var (i := 0) rfl (.inl rfl))) (blkOk_by (by kernel_rfl)) (fun _ _ _ _ _ => fg_name (i := 3) (Ties.blk t) rfl (.inl rfl)) (fun _ _ _ _ _ => ft_nil) (fun _ _ _ _ _ => fe_call (Ties.blk t) passL (kf_is_within T0) (by decide) (by rfl) (fa_cons (fe_var (i := 3) rfl (.inl rfl)) (fa_cons (fe_var (i := 1) rfl (.inr (.inl rfl))) (fa_cons (fe_var (i := 2) rfl (.inr (.inl rfl))) (fa_nil)))))) (fa_nil)))))))
theorem kf_is_tuple_of (T0 : TopF K mg base T) : KF P w K mg base "is_tuple_of" 2 (spP K mg T m_is_tuple_of) := by
  obtain ⟨f, fd, Fn, hm, hb⟩ := T0.d_is_tuple_of
  exact kf_pure Fn hm hb sc_is_tuple_of (by decide) b_is_tuple_of (fun cdv A outer s H E C hT hh t tk hx hp => by
    subst hT
    exact fs_one (fs_ret (fe_and t (fe_isi t isiTup (by rfl) T0.z_isinstance bt_isinstance (by rfl) T0.z_tuple bt_tuple (fe_var (i := 0) rfl (.inl rfl))) (fe_one (fe_cmp (opEq t) (fe_callB (cLen t) (by rfl) T0.z_len bt_len (fa_cons (fe_var (i := 0) rfl (.inl rfl)) (fa_nil))) (fe_var (i := 1) rfl (.inl rfl)) (nomark _))))))
theorem kf_is_lot (T0 : TopF K mg base T) : KF P w K mg base "is_lot" 5 (spP K mg T m_is_lot) := by
  obtain ⟨f, fd, Fn, hm, hb⟩ := T0.d_is_lot
  exact kf_pure Fn hm hb sc_is_lot (by decide) b_is_lot (fun cdv A outer s H E C hT hh t tk hx hp => by
    subst hT
    exact fs_cons (fs_if (ft_not (ft_val t (fe_call t hx (kf_are_within T0) (by decide) (by rfl) (fa_cons (fe_var (i := 0) rfl (.inl rfl)) (fa_cons (fe_int) (fa_cons (fe_bin (opSub t) (fe_var (i := 1) rfl (.inl rfl)) (fe_int)) (fa_nil))))) (by intro _; rfl))) (fs_one (fs_ret (fe_bl))) (fs_nil)) (fs_one (fs_ret (fe_callB (cAll t) (by rfl) T0.z_all bt_all (fa_cons (fe_lc (own := [("one", 2), ("other", 3)]) (L := [2, 3]) (tst := bYes) (el := x_is_lot_c1) t (fi_zip2 t (by rfl) T0.z_zip (fa_cons (fe_var (i := 0) rfl (.inl rfl)) (fa_cons (fe_slice t (fe_var (i := 0) rfl (.inl rfl)) (fo_some (fe_int)) (fo_none)) (fa_nil)))) (blkOk_by (by kernel_rfl)) (fun _ _ _ _ _ => fg_tup (Ties.blk t) (fgs_cons (fg_name (i := 2) (Ties.blk t) rfl (.inl rfl)) (fgs_cons (fg_name (i := 3) (Ties.blk t) rfl (.inl rfl)) (fgs_nil)))) (fun _ _ _ _ _ => ft_nil) (fun _ _ _ _ _ => fe_cmp (opLt (Ties.blk t)) (fe_var (i := 2) rfl (.inl rfl)) (fe_var (i := 3) rfl (.inl rfl)) (nomark _))) (fa_nil))))))
theorem kf_check_both (T0 : TopF K mg base T) : KF P w K mg base "check_both" 6 (spP K mg T m_check_both) := by
  obtain ⟨f, fd, Fn, hm, hb⟩ := T0.d_check_both
  exact kf_pure Fn hm hb sc_check_both (by decide) b_check_both (fun cdv A outer s H E C hT hh t tk hx hp => by
    subst hT
    exact fs_cons (fs_if (ft_w (fw_or (ft_not (ft_val t (fe_call t hx (kf_are_within T0) (by decide) (by rfl) (fa_cons (fe_var (i := 0) rfl (.inl rfl)) (fa_cons (fe_int) (fa_cons (fe_gi (by rfl) T0.c_MOST_MANY) (fa_nil))))) (by intro _; rfl))) (fw_or1 (ft_not (ft_chain (opLe t) (opLe t) (fe_int) (fe_callB (cLen t) (by rfl) T0.z_len bt_len (fa_cons (fe_var (i := 0) rfl (.inl rfl)) (fa_nil))) (fe_gi (by rfl) T0.c_MOST_ROWS) (by with_unfolding_all rfl)))))) (fs_one ((let ⟨_, h⟩ := T0.e_NoRows; fs_raise t tk h (by rfl)))) (fs_nil)) (fs_one (fs_if (ft_w (fw_or (ft_not (ft_val t (fe_call t hx (kf_is_lot T0) (by decide) (by rfl) (fa_cons (fe_var (i := 1) rfl (.inl rfl)) (fa_cons (fe_callB (cLen t) (by rfl) T0.z_len bt_len (fa_cons (fe_var (i := 0) rfl (.inl rfl)) (fa_nil))) (fa_nil)))) (by intro _; rfl))) (fw_or1 (ft_cmp (opEq t) (fe_callB (cLen t) (by rfl) T0.z_len bt_len (fa_cons (fe_var (i := 1) rfl (.inl rfl)) (fa_nil))) (fe_int) (nomark _))))) (fs_one ((let ⟨_, h⟩ := T0.e_NoDoors; fs_raise t tk h (by rfl)))) (fs_nil))))
theorem kf_check_beats (T0 : TopF K mg base T) : KF P w K mg base "check_beats" 4 (spP K mg T m_check_beats) := by
  obtain ⟨f, fd, Fn, hm, hb⟩ := T0.d_check_beats
  exact kf_pure Fn hm hb sc_check_beats (by decide) b_check_beats (fun cdv A outer s H E C hT hh t tk hx hp => by
    subst hT
    exact fs_one (fs_if (ft_not (ft_val t (fe_call t hx (kf_is_within T0) (by decide) (by rfl) (fa_cons (fe_var (i := 0) rfl (.inl rfl)) (fa_cons (fe_int) (fa_cons (fe_gi (by rfl) T0.c_MOST_BEATS) (fa_nil))))) (by intro _; rfl))) (fs_one ((let ⟨_, h⟩ := T0.e_NoNumber; fs_raise t tk h (by rfl)))) (fs_nil)))
theorem kf_ends_of (T0 : TopF K mg base T) : KF P w K mg base "ends_of" 2 (spP K mg T m_ends_of) := by
  obtain ⟨f, fd, Fn, hm, hb⟩ := T0.d_ends_of
  exact kf_pure Fn hm hb sc_ends_of (by decide) b_ends_of (fun cdv A outer s H E C hT hh t tk hx hp => by
    subst hT
    exact fs_cons (fs_setLc (i := 2) (own := [("at", 4), ("door", 5)]) (L := [4, 5]) (tst := t_ends_of_c1) (el := x_ends_of_c1) t rfl rfl (sw_true rfl rfl rfl (by decide +kernel)) (fi_enum1 t (by rfl) T0.z_enumerate (fa_cons (fe_var (i := 0) rfl (.inl rfl)) (fa_nil))) (blkOk_by (by kernel_rfl)) (fun _ _ _ _ _ => fg_tup (Ties.blk t) (fgs_cons (fg_name (i := 4) (Ties.blk t) rfl (.inl rfl)) (fgs_cons (fg_name (i := 5) (Ties.blk t) rfl (.inl rfl)) (fgs_nil)))) (fun _ _ _ _ _ => ft_one (ft_cmp (opLe (Ties.blk t)) (fe_var (i := 5) rfl (.inl rfl)) (fe_var (i := 1) rfl (.inr (.inl rfl))) (nomark _))) (fun _ _ _ _ _ => fe_var (i := 4) rfl (.inl rfl))) (fs_cons (fs_setLc (i := 3) (own := [("at", 4), ("door", 5)]) (L := [4, 5]) (tst := t_ends_of_c2) (el := x_ends_of_c2) t rfl rfl (sw_true rfl rfl rfl (by decide +kernel)) (fi_enum1 t (by rfl) T0.z_enumerate (fa_cons (fe_var (i := 0) rfl (.inl rfl)) (fa_nil))) (blkOk_by (by kernel_rfl)) (fun _ _ _ _ _ => fg_tup (Ties.blk t) (fgs_cons (fg_name (i := 4) (Ties.blk t) rfl (.inl rfl)) (fgs_cons (fg_name (i := 5) (Ties.blk t) rfl (.inl rfl)) (fgs_nil)))) (fun _ _ _ _ _ => ft_one (ft_cmp (opGe (Ties.blk t)) (fe_var (i := 5) rfl (.inl rfl)) (fe_var (i := 1) rfl (.inr (.inl rfl))) (nomark _))) (fun _ _ _ _ _ => fe_var (i := 4) rfl (.inl rfl))) (fs_one (fs_ret (fe_tup (fa_cons (fe_if (ft_cmp (opGt t) (fe_callB (cLen t) (by rfl) T0.z_len bt_len (fa_cons (fe_var (i := 2) rfl (.inl rfl)) (fa_nil))) (fe_int) (nomark _)) (fe_ix t (fe_var (i := 2) rfl (.inl rfl)) (fe_un (unNeg t) (fe_int)) (fun _ _ => rfl)) (fe_non)) (fa_cons (fe_if (ft_cmp (opGt t) (fe_callB (cLen t) (by rfl) T0.z_len bt_len (fa_cons (fe_var (i := 3) rfl (.inl rfl)) (fa_nil))) (fe_int) (nomark _)) (fe_ix t (fe_var (i := 3) rfl (.inl rfl)) (fe_int) (fun _ _ => rfl)) (fe_non)) (fa_nil))))))))
theorem kf_raw_sharing (T0 : TopF K mg base T) : KF P w K mg base "raw_sharing" 3 (spP K mg T m_raw_sharing) := by
  obtain ⟨f, fd, Fn, hm, hb⟩ := T0.d_raw_sharing
  exact kf_pure Fn hm hb sc_raw_sharing (by decide) b_raw_sharing (fun cdv A outer s H E C hT hh t tk hx hp => by
    subst hT
    exact fs_cons (fs_mix2 (i := 3) (j := 4) t rfl rfl (by decide) rfl rfl (fm_new (fn_rep (fe_lst (fa_cons (fe_var (i := 2) rfl (.inl rfl)) (fa_nil))) (fe_callB (cLen t) (by rfl) T0.z_len bt_len (fa_cons (fe_var (i := 1) rfl (.inl rfl)) (fa_nil)))) (fm_new (fn_lst (fa_nil)) (fm_nil))) (by rfl)) (fs_cons (fs_for (m := y_raw_sharing_l2) t hp (fi_enum1 t (by rfl) T0.z_enumerate (fa_cons (fe_var (i := 0) rfl (.inl rfl)) (fa_nil))) (fg_tup t (fgs_cons (fg_name (i := 5) t rfl (.inl rfl)) (fgs_cons (fg_name (i := 6) t rfl (.inl rfl)) (fgs_nil)))) (fs_cons (fs_asg (fe_call t hx (kf_ends_of T0) (by decide) (by rfl) (fa_cons (fe_var (i := 1) rfl (.inl rfl)) (fa_cons (fe_var (i := 5) rfl (.inl rfl)) (fa_nil)))) (fg_tup t (fgs_cons (fg_name (i := 7) t rfl (.inl rfl)) (fgs_cons (fg_name (i := 8) t rfl (.inl rfl)) (fgs_nil))))) (fs_cons (fs_set (i := 9) t rfl (.inl rfl) (fe_int)) (fs_cons (fs_if (ft_cmp (opIsn t) (fe_var (i := 7) rfl (.inl rfl)) (fe_non) (nomark _)) (fs_cons (fs_set (i := 9) t rfl (.inl rfl) (fe_lend (fe_if (ft_w (fw_or (ft_cmp (opIs t) (fe_var (i := 8) rfl (.inl rfl)) (fe_non) (nomark _)) (fw_or1 (ft_cmp (opEq t) (fe_var (i := 8) rfl (.inl rfl)) (fe_var (i := 7) rfl (.inl rfl)) (nomark _))))) (fe_var (i := 6) rfl (.inl rfl)) (fe_callB (cMin2 t) (by rfl) T0.z_min bt_min (fa_cons (fe_var (i := 6) rfl (.inl rfl)) (fa_cons (fe_ix t (fe_var (i := 3) rfl (.inl rfl)) (fe_var (i := 7) rfl (.inl rfl)) (fun _ _ => rfl)) (fa_nil))))))) (fs_one (fs_augAt (i := 3) t rfl (.inl rfl) (fe_var (i := 7) rfl (.inl rfl)) (fe_var (i := 9) rfl (.inl rfl)) (ipSub t)))) (fs_nil)) (fs_cons (fs_if (ft_cmp (opLt t) (fe_var (i := 9) rfl (.inl rfl)) (fe_var (i := 6) rfl (.inl rfl)) (nomark _)) (fs_one (fs_augAt (i := 3) t rfl (.inl rfl) (fe_var (i := 8) rfl (.inl rfl)) (fe_bin (opSub t) (fe_var (i := 6) rfl (.inl rfl)) (fe_var (i := 9) rfl (.inl rfl))) (ipSub t))) (fs_nil)) (fs_cons (fs_app (i := 4) t rfl (.inl rfl) (fe_var (i := 9) rfl (.inl rfl))) (fs_one (fs_if (ft_lend (ft_val t (fe_callB (cAny t) (by rfl) T0.z_any bt_any (fa_cons (fe_lc (own := [("one", 10)]) (L := [10]) (tst := bYes) (el := x_raw_sharing_c1) t (fi_seq t (fe_var (i := 3) rfl (.inl rfl))) (blkOk_by (by kernel_rfl)) (fun _ _ _ _ _ => fg_name (i := 10) (Ties.blk t) rfl (.inl rfl)) (fun _ _ _ _ _ => ft_nil) (fun _ _ _ _ _ => fe_cmp (opLt (Ties.blk t)) (fe_var (i := 10) rfl (.inl rfl)) (fe_int) (nomark _))) (fa_nil))) (by intro _; rfl))) (fs_one (fs_ret (fe_non))) (fs_nil))))))))) (fss_frz (i := 4) (fs_one (fs_ret (fe_callTy (cTuple t) (by rfl) T0.z_tuple bt_tuple (fa_cons (fe_var (i := 4) rfl (.inl rfl)) (fa_nil))))))))
theorem kf_alone_to (T0 : TopF K mg base T) : KF P w K mg base "alone_to" 3 (spP K mg T m_alone_to) := by
  obtain ⟨f, fd, Fn, hm, hb⟩ := T0.d_alone_to
  exact kf_pure Fn hm hb sc_alone_to (by decide) b_alone_to (fun cdv A outer s H E C hT hh t tk hx hp => by
    subst hT
    exact fs_cons (fs_set (i := 4) t rfl (.inl rfl) (fe_int)) (fs_cons (fs_for (m := y_alone_to_l2) t hp (fi_enum1 t (by rfl) T0.z_enumerate (fa_cons (fe_var (i := 0) rfl (.inl rfl)) (fa_nil))) (fg_tup t (fgs_cons (fg_name (i := 5) t rfl (.inl rfl)) (fgs_cons (fg_name (i := 6) t rfl (.inl rfl)) (fgs_nil)))) (fs_one (fs_if (ft_val t (fe_callB (cAll t) (by rfl) T0.z_all bt_all (fa_cons (fe_lc (own := [("at", 7)]) (L := [7]) (tst := bYes) (el := x_alone_to_c1) t (fi_seq t (fe_call t hx (kf_ends_of T0) (by decide) (by rfl) (fa_cons (fe_var (i := 1) rfl (.inl rfl)) (fa_cons (fe_var (i := 5) rfl (.inl rfl)) (fa_nil))))) (blkOk_by (by kernel_rfl)) (fun _ _ _ _ _ => fg_name (i := 7) (Ties.blk t) rfl (.inl rfl)) (fun _ _ _ _ _ => ft_nil) (fun _ _ _ _ _ => fe_or (Ties.blk t) (fe_cmp (opIs (Ties.blk t)) (fe_var (i := 7) rfl (.inl rfl)) (fe_non) (nomark _)) (fe_one (fe_chain (opLe (Ties.blk t)) (opLe (Ties.blk t)) (fe_var (i := 2) rfl (.inr (.inl rfl))) (fe_var (i := 7) rfl (.inl rfl)) (fe_var (i := 3) rfl (.inr (.inl rfl))) (by with_unfolding_all rfl))))) (fa_nil))) (by intro _; rfl)) (fs_one (fs_aug (i := 4) t rfl (.inl rfl) (fe_var (i := 6) rfl (.inl rfl)) (ipAdd t))) (fs_nil)))) (fs_one (fs_ret (fe_var (i := 4) rfl (.inl rfl))))))
theorem kf_is_short (T0 : TopF K mg base T) : KF P w K mg base "is_short" 4 (spP K mg T m_is_short) := by
  obtain ⟨f, fd, Fn, hm, hb⟩ := T0.d_is_short
  exact kf_pure Fn hm hb sc_is_short (by decide) b_is_short (fun cdv A outer s H E C hT hh t tk hx hp => by
    subst hT
    exact fs_one (fs_ret (fe_cmp (opGt t) (fe_call t hx (kf_alone_to T0) (by decide) (by rfl) (fa_cons (fe_var (i := 0) rfl (.inl rfl)) (fa_cons (fe_var (i := 1) rfl (.inl rfl)) (fa_cons (fe_var (i := 3) rfl (.inl rfl)) (fa_cons (fe_var (i := 4) rfl (.inl rfl)) (fa_nil)))))) (fe_bin (opMul t) (fe_var (i := 2) rfl (.inl rfl)) (fe_bin (opAdd t) (fe_bin (opSub t) (fe_var (i := 4) rfl (.inl rfl)) (fe_var (i := 3) rfl (.inl rfl))) (fe_int))) (nomark _))))
theorem kf_raw_short (T0 : TopF K mg base T) : KF P w K mg base "raw_short" 5 (spP K mg T m_raw_short) := by
  obtain ⟨f, fd, Fn, hm, hb⟩ := T0.d_raw_short
  exact kf_pure Fn hm hb sc_raw_short (by decide) b_raw_short (fun cdv A outer s H E C hT hh t tk hx hp => by
    subst hT
    exact fs_cons (fs_for (m := y_raw_short_l2) t hp (fi_range1 (by rfl) T0.z_range (fa_cons (fe_callB (cLen t) (by rfl) T0.z_len bt_len (fa_cons (fe_var (i := 1) rfl (.inl rfl)) (fa_nil))) (fa_nil))) (fg_name (i := 3) t rfl (.inl rfl)) (fs_one (fs_for (m := y_raw_short_l1) t hp (fi_range2 (by rfl) T0.z_range (fa_cons (fe_var (i := 3) rfl (.inl rfl)) (fa_cons (fe_callB (cLen t) (by rfl) T0.z_len bt_len (fa_cons (fe_var (i := 1) rfl (.inl rfl)) (fa_nil))) (fa_nil)))) (fg_name (i := 4) t rfl (.inl rfl)) (fs_one (fs_if (ft_val t (fe_call t hx (kf_is_short T0) (by decide) (by rfl) (fa_cons (fe_var (i := 0) rfl (.inl rfl)) (fa_cons (fe_var (i := 1) rfl (.inl rfl)) (fa_cons (fe_var (i := 2) rfl (.inl rfl)) (fa_cons (fe_var (i := 3) rfl (.inl rfl)) (fa_cons (fe_var (i := 4) rfl (.inl rfl)) (fa_nil))))))) (by intro _; rfl)) (fs_one (fs_ret (fe_tup (fa_cons (fe_var (i := 3) rfl (.inl rfl)) (fa_cons (fe_var (i := 4) rfl (.inl rfl)) (fa_nil)))))) (fs_nil)))))) (fs_one (fs_ret (fe_non))))
theorem kf_raw_beats (T0 : TopF K mg base T) : KF P w K mg base "raw_beats" 4 (spP K mg T m_raw_beats) := by
  obtain ⟨f, fd, Fn, hm, hb⟩ := T0.d_raw_beats
  exact kf_pure Fn hm hb sc_raw_beats (by decide) b_raw_beats (fun cdv A outer s H E C hT hh t tk hx hp => by
    subst hT
    exact fs_cons (fs_set (i := 2) t rfl (.inl rfl) (fe_int)) (fs_cons (fs_for (m := y_raw_beats_l2) t hp (fi_range1 (by rfl) T0.z_range (fa_cons (fe_callB (cLen t) (by rfl) T0.z_len bt_len (fa_cons (fe_var (i := 1) rfl (.inl rfl)) (fa_nil))) (fa_nil))) (fg_name (i := 3) t rfl (.inl rfl)) (fs_one (fs_for (m := y_raw_beats_l1) t hp (fi_range2 (by rfl) T0.z_range (fa_cons (fe_var (i := 3) rfl (.inl rfl)) (fa_cons (fe_callB (cLen t) (by rfl) T0.z_len bt_len (fa_cons (fe_var (i := 1) rfl (.inl rfl)) (fa_nil))) (fa_nil)))) (fg_name (i := 4) t rfl (.inl rfl)) (fs_one (fs_set (i := 2) t rfl (.inl rfl) (fe_callB (cMax2 t) (by rfl) T0.z_max bt_max (fa_cons (fe_var (i := 2) rfl (.inl rfl)) (fa_cons (fe_un (unNeg t) (fe_bin (opDiv t) (fe_un (unNeg t) (fe_call t hx (kf_alone_to T0) (by decide) (by rfl) (fa_cons (fe_var (i := 0) rfl (.inl rfl)) (fa_cons (fe_var (i := 1) rfl (.inl rfl)) (fa_cons (fe_var (i := 3) rfl (.inl rfl)) (fa_cons (fe_var (i := 4) rfl (.inl rfl)) (fa_nil))))))) (fe_bin (opAdd t) (fe_bin (opSub t) (fe_var (i := 4) rfl (.inl rfl)) (fe_var (i := 3) rfl (.inl rfl))) (fe_int)))) (fa_nil))))))))) (fs_one (fs_ret (fe_var (i := 2) rfl (.inl rfl))))))
theorem kf_fewest_beats (T0 : TopF K mg base T) : KF P w K mg base "fewest_beats" 7 (spP K mg T m_fewest_beats) := by
  obtain ⟨f, fd, Fn, hm, hb⟩ := T0.d_fewest_beats
  exact kf_pure Fn hm hb sc_fewest_beats (by decide) b_fewest_beats (fun cdv A outer s H E C hT hh t tk hx hp => by
    subst hT
    exact fs_cons (fs_expr (fe_call t hx (kf_check_both T0) (by decide) (by rfl) (fa_cons (fe_var (i := 0) rfl (.inl rfl)) (fa_cons (fe_var (i := 1) rfl (.inl rfl)) (fa_nil))))) (fs_one (fs_ret (fe_call t hx (kf_raw_beats T0) (by decide) (by rfl) (fa_cons (fe_var (i := 0) rfl (.inl rfl)) (fa_cons (fe_var (i := 1) rfl (.inl rfl)) (fa_nil)))))))
theorem kf_sharing_told (T0 : TopF K mg base T) : KF P w K mg base "sharing_told" 7 (spP K mg T m_sharing_told) := by
  obtain ⟨f, fd, Fn, hm, hb⟩ := T0.d_sharing_told
  exact kf_pure Fn hm hb sc_sharing_told (by decide) b_sharing_told (fun cdv A outer s H E C hT hh t tk hx hp => by
    subst hT
    exact fs_cons (fs_expr (fe_call t hx (kf_check_both T0) (by decide) (by rfl) (fa_cons (fe_var (i := 0) rfl (.inl rfl)) (fa_cons (fe_var (i := 1) rfl (.inl rfl)) (fa_nil))))) (fs_cons (fs_expr (fe_call t hx (kf_check_beats T0) (by decide) (by rfl) (fa_cons (fe_var (i := 2) rfl (.inl rfl)) (fa_nil)))) (fs_cons (fs_set (i := 3) t rfl (.inl rfl) (fe_call t hx (kf_raw_short T0) (by decide) (by rfl) (fa_cons (fe_var (i := 0) rfl (.inl rfl)) (fa_cons (fe_var (i := 1) rfl (.inl rfl)) (fa_cons (fe_var (i := 2) rfl (.inl rfl)) (fa_nil)))))) (fs_one (fs_ret (fe_if (ft_cmp (opIs t) (fe_var (i := 3) rfl (.inl rfl)) (fe_non) (nomark _)) (fe_tup (fa_cons (fe_gs (by rfl) T0.c_SHARING) (fa_cons (fe_call t hx (kf_raw_sharing T0) (by decide) (by rfl) (fa_cons (fe_var (i := 0) rfl (.inl rfl)) (fa_cons (fe_var (i := 1) rfl (.inl rfl)) (fa_cons (fe_var (i := 2) rfl (.inl rfl)) (fa_nil))))) (fa_nil)))) (fe_bin (opAdd t) (fe_tup (fa_cons (fe_gs (by rfl) T0.c_DOORS) (fa_nil))) (fe_var (i := 3) rfl (.inl rfl)))))))))
theorem kf_is_sharing (T0 : TopF K mg base T) : KF P w K mg base "is_sharing" 5 (spP K mg T m_is_sharing) := by
  obtain ⟨f, fd, Fn, hm, hb⟩ := T0.d_is_sharing
  exact kf_pure Fn hm hb sc_is_sharing (by decide) b_is_sharing (fun cdv A outer s H E C hT hh t tk hx hp => by
    subst hT
    exact fs_cons (fs_if (ft_w (fw_or (ft_not (ft_val t (fe_call t hx (kf_is_tuple_of T0) (by decide) (by rfl) (fa_cons (fe_var (i := 2) rfl (.inl rfl)) (fa_cons (fe_callB (cLen t) (by rfl) T0.z_len bt_len (fa_cons (fe_var (i := 0) rfl (.inl rfl)) (fa_nil))) (fa_nil)))) (by intro _; rfl))) (fw_or1 (ft_not (ft_val t (fe_call t hx (kf_are_within T0) (by decide) (by rfl) (fa_cons (fe_var (i := 2) rfl (.inl rfl)) (fa_cons (fe_int) (fa_cons (fe_gi (by rfl) T0.c_MOST_MANY) (fa_nil))))) (by intro _; rfl)))))) (fs_one (fs_ret (fe_bl))) (fs_nil)) (fs_cons (fs_for (m := y_is_sharing_l1) t hp (fi_enumzip t (by rfl) T0.z_enumerate (by rfl) T0.z_zip (fa_cons (fe_var (i := 0) rfl (.inl rfl)) (fa_cons (fe_var (i := 2) rfl (.inl rfl)) (fa_nil)))) (fg_tup t (fgs_cons (fg_name (i := 3) t rfl (.inl rfl)) (fgs_cons (fg_tup t (fgs_cons (fg_name (i := 4) t rfl (.inl rfl)) (fgs_cons (fg_name (i := 5) t rfl (.inl rfl)) (fgs_nil)))) (fgs_nil)))) (fs_cons (fs_asg (fe_call t hx (kf_ends_of T0) (by decide) (by rfl) (fa_cons (fe_var (i := 1) rfl (.inl rfl)) (fa_cons (fe_var (i := 3) rfl (.inl rfl)) (fa_nil)))) (fg_tup t (fgs_cons (fg_name (i := 6) t rfl (.inl rfl)) (fgs_cons (fg_name (i := 7) t rfl (.inl rfl)) (fgs_nil))))) (fs_cons (fs_if (ft_w (fw_or (ft_cmp (opGt t) (fe_var (i := 5) rfl (.inl rfl)) (fe_var (i := 4) rfl (.inl rfl)) (nomark _)) (fw_or1 (ft_w (fw_and (ft_cmp (opIs t) (fe_var (i := 6) rfl (.inl rfl)) (fe_non) (nomark _)) (fw_and1 (ft_cmp (opGt t) (fe_var (i := 5) rfl (.inl rfl)) (fe_int) (nomark _)))))))) (fs_one (fs_ret (fe_bl))) (fs_nil)) (fs_one (fs_if (ft_w (fw_and (ft_w (fw_or (ft_cmp (opIs t) (fe_var (i := 7) rfl (.inl rfl)) (fe_non) (nomark _)) (fw_or1 (ft_cmp (opEq t) (fe_var (i := 7) rfl (.inl rfl)) (fe_var (i := 6) rfl (.inl rfl)) (nomark _))))) (fw_and1 (ft_cmp (opLt t) (fe_var (i := 5) rfl (.inl rfl)) (fe_var (i := 4) rfl (.inl rfl)) (nomark _))))) (fs_one (fs_ret (fe_bl))) (fs_nil)))))) (fs_one (fs_ret (fe_bl)))))
theorem kf_raw_out (T0 : TopF K mg base T) : KF P w K mg base "raw_out" 3 (spP K mg T m_raw_out) := by
  obtain ⟨f, fd, Fn, hm, hb⟩ := T0.d_raw_out
  exact kf_pure Fn hm hb sc_raw_out (by decide) b_raw_out (fun cdv A outer s H E C hT hh t tk hx hp => by
    subst hT
    exact fs_cons (fs_setN (i := 3) t rfl (.inl rfl) (fn_rep (fe_lst (fa_cons (fe_int) (fa_nil))) (fe_callB (cLen t) (by rfl) T0.z_len bt_len (fa_cons (fe_var (i := 1) rfl (.inl rfl)) (fa_nil))))) (fs_cons (fs_for (m := y_raw_out_l1) t hp (fi_enumzip t (by rfl) T0.z_enumerate (by rfl) T0.z_zip (fa_cons (fe_var (i := 0) rfl (.inl rfl)) (fa_cons (fe_var (i := 2) rfl (.inl rfl)) (fa_nil)))) (fg_tup t (fgs_cons (fg_name (i := 4) t rfl (.inl rfl)) (fgs_cons (fg_tup t (fgs_cons (fg_name (i := 5) t rfl (.inl rfl)) (fgs_cons (fg_name (i := 6) t rfl (.inl rfl)) (fgs_nil)))) (fgs_nil)))) (fs_cons (fs_asg (fe_call t hx (kf_ends_of T0) (by decide) (by rfl) (fa_cons (fe_var (i := 1) rfl (.inl rfl)) (fa_cons (fe_var (i := 4) rfl (.inl rfl)) (fa_nil)))) (fg_tup t (fgs_cons (fg_name (i := 7) t rfl (.inl rfl)) (fgs_cons (fg_name (i := 8) t rfl (.inl rfl)) (fgs_nil))))) (fs_cons (fs_if (ft_cmp (opGt t) (fe_var (i := 6) rfl (.inl rfl)) (fe_int) (nomark _)) (fs_one (fs_augAt (i := 3) t rfl (.inl rfl) (fe_var (i := 7) rfl (.inl rfl)) (fe_var (i := 6) rfl (.inl rfl)) (ipAdd t))) (fs_nil)) (fs_one (fs_if (ft_cmp (opLt t) (fe_var (i := 6) rfl (.inl rfl)) (fe_var (i := 5) rfl (.inl rfl)) (nomark _)) (fs_one (fs_augAt (i := 3) t rfl (.inl rfl) (fe_var (i := 8) rfl (.inl rfl)) (fe_bin (opSub t) (fe_var (i := 5) rfl (.inl rfl)) (fe_var (i := 6) rfl (.inl rfl))) (ipAdd t))) (fs_nil)))))) (fss_frz (i := 3) (fs_one (fs_ret (fe_var (i := 3) rfl (.inl rfl)))))))
theorem kf_is_sharing_told (T0 : TopF K mg base T) : KF P w K mg base "is_sharing_told" 7 (spP K mg T m_is_sharing_told) := by
  obtain ⟨f, fd, Fn, hm, hb⟩ := T0.d_is_sharing_told
  exact kf_pure Fn hm hb sc_is_sharing_told (by decide) b_is_sharing_told (fun cdv A outer s H E C hT hh t tk hx hp => by
    subst hT
    exact fs_cons (fs_expr (fe_call t hx (kf_check_both T0) (by decide) (by rfl) (fa_cons (fe_var (i := 0) rfl (.inl rfl)) (fa_cons (fe_var (i := 1) rfl (.inl rfl)) (fa_nil))))) (fs_cons (fs_expr (fe_call t hx (kf_check_beats T0) (by decide) (by rfl) (fa_cons (fe_var (i := 2) rfl (.inr (.inl rfl))) (fa_nil)))) (fs_cons (fs_if (ft_w (fw_or (ft_not (ft_val t (fe_isi t isiTup (by rfl) T0.z_isinstance bt_isinstance (by rfl) T0.z_tuple bt_tuple (fe_var (i := 3) rfl (.inl rfl))) (by intro _; rfl))) (fw_or (ft_cmp (opNin t) (fe_callB (cLen t) (by rfl) T0.z_len bt_len (fa_cons (fe_var (i := 3) rfl (.inl rfl)) (fa_nil))) (fe_tup (fa_cons (fe_int) (fa_cons (fe_int) (fa_nil)))) (by rfl)) (fw_or1 (ft_not (ft_val t (fe_isi t isiStr (by rfl) T0.z_isinstance bt_isinstance (by rfl) T0.z_str bt_str (fe_ix t (fe_var (i := 3) rfl (.inl rfl)) (fe_int) (fun _ _ => rfl))) (by intro _; rfl))))))) (fs_one (fs_ret (fe_bl))) (fs_nil)) (fs_cons (fs_if (ft_cmp (opEq t) (fe_ix t (fe_var (i := 3) rfl (.inl rfl)) (fe_int) (fun _ _ => rfl)) (fe_gs (by rfl) T0.c_SHARING) (nomark _)) (fs_cons (fs_if (ft_w (fw_or (ft_cmp (opNe t) (fe_callB (cLen t) (by rfl) T0.z_len bt_len (fa_cons (fe_var (i := 3) rfl (.inl rfl)) (fa_nil))) (fe_int) (nomark _)) (fw_or1 (ft_not (ft_val t (fe_call t hx (kf_is_sharing T0) (by decide) (by rfl) (fa_cons (fe_var (i := 0) rfl (.inl rfl)) (fa_cons (fe_var (i := 1) rfl (.inl rfl)) (fa_cons (fe_ix t (fe_var (i := 3) rfl (.inl rfl)) (fe_int) (fun _ _ => rfl)) (fa_nil))))) (by intro _; rfl)))))) (fs_one (fs_ret (fe_bl))) (fs_nil)) (fs_one (fs_ret (fe_callB (cAll t) (by rfl) T0.z_all bt_all (fa_cons (fe_lc (own := [("one", 4)]) (L := [4]) (tst := bYes) (el := x_is_sharing_told_c1) t (fi_seq t (fe_call t hx (kf_raw_out T0) (by decide) (by rfl) (fa_cons (fe_var (i := 0) rfl (.inl rfl)) (fa_cons (fe_var (i := 1) rfl (.inl rfl)) (fa_cons (fe_ix t (fe_var (i := 3) rfl (.inl rfl)) (fe_int) (fun _ _ => rfl)) (fa_nil)))))) (blkOk_by (by kernel_rfl)) (fun _ _ _ _ _ => fg_name (i := 4) (Ties.blk t) rfl (.inl rfl)) (fun _ _ _ _ _ => ft_nil) (fun _ _ _ _ _ => fe_cmp (opLe (Ties.blk t)) (fe_var (i := 4) rfl (.inl rfl)) (fe_var (i := 2) rfl (.inr (.inl rfl))) (nomark _))) (fa_nil)))))) (fs_nil)) (fs_cons (fs_if (ft_w (fw_or (ft_cmp (opNe t) (fe_ix t (fe_var (i := 3) rfl (.inl rfl)) (fe_int) (fun _ _ => rfl)) (fe_gs (by rfl) T0.c_DOORS) (nomark _)) (fw_or (ft_cmp (opNe t) (fe_callB (cLen t) (by rfl) T0.z_len bt_len (fa_cons (fe_var (i := 3) rfl (.inl rfl)) (fa_nil))) (fe_int) (nomark _)) (fw_or (ft_not (ft_val t (fe_call t hx (kf_are_within T0) (by decide) (by rfl) (fa_cons (fe_slice t (fe_var (i := 3) rfl (.inl rfl)) (fo_some (fe_int)) (fo_none)) (fa_cons (fe_int) (fa_cons (fe_bin (opSub t) (fe_callB (cLen t) (by rfl) T0.z_len bt_len (fa_cons (fe_var (i := 1) rfl (.inl rfl)) (fa_nil))) (fe_int)) (fa_nil))))) (by intro _; rfl))) (fw_or1 (ft_cmp (opGt t) (fe_ix t (fe_var (i := 3) rfl (.inl rfl)) (fe_int) (fun _ _ => rfl)) (fe_ix t (fe_var (i := 3) rfl (.inl rfl)) (fe_int) (fun _ _ => rfl)) (nomark _))))))) (fs_one (fs_ret (fe_bl))) (fs_nil)) (fs_one (fs_ret (fe_call t hx (kf_is_short T0) (by decide) (by rfl) (fa_cons (fe_var (i := 0) rfl (.inl rfl)) (fa_cons (fe_var (i := 1) rfl (.inl rfl)) (fa_cons (fe_var (i := 2) rfl (.inr (.inl rfl))) (fa_cons (fe_ix t (fe_var (i := 3) rfl (.inl rfl)) (fe_int) (fun _ _ => rfl)) (fa_cons (fe_ix t (fe_var (i := 3) rfl (.inl rfl)) (fe_int) (fun _ _ => rfl)) (fa_nil))))))))))))))
theorem kf__law_hand (T0 : TopF K mg base T) : KF P w K mg base "_law_hand" 2 (spScr K mg T m__law_hand) := by
  obtain ⟨f, fd, Fn, hm, hb⟩ := T0.d__law_hand
  exact kf_scr Fn hm hb sc__law_hand (by decide) b__law_hand (fun cdv A outer s H E C hT hh t tk hx hp => by
    subst hT
    exact fs_cons (fs_setLc (i := 1) (own := [("cell", 2)]) (L := [2]) (tst := bYes) (el := x__law_hand_c1) t rfl rfl (sw_true rfl rfl rfl (by decide +kernel)) (fi_seq t (fe_scr (i := 0) (n := 63) t rfl (.inl rfl))) (blkOk_by (by kernel_rfl)) (fun _ _ _ _ _ => fg_name (i := 2) (Ties.blk t) rfl (.inl rfl)) (fun _ _ _ _ _ => ft_nil) (fun _ _ _ _ _ => fe_callB (cAbs (Ties.blk t)) (by rfl) T0.z_abs bt_abs (fa_cons (fe_callTy (cInt (Ties.blk t)) (by rfl) T0.z_int bt_int (fa_cons (fe_var (i := 2) rfl (.inl rfl)) (fa_nil))) (fa_nil)))) (fs_one (fs_retNew (fn_lst (fa_cons (fe_var (i := 1) rfl (.inl rfl)) (fa_cons (fe_int) (fa_cons (fe_int) (fa_cons (fe_bin (opAdd t) (fe_int) (fe_bin (opMul t) (fe_int) (fe_callB (cLen t) (by rfl) T0.z_len bt_len (fa_cons (fe_var (i := 1) rfl (.inl rfl)) (fa_nil))))) (fa_cons (fe_int) (fa_nil))))))))))
theorem kf__law_draw (T0 : TopF K mg base T) : KF P w K mg base "_law_draw" 2 (spH K mg T m__law_draw) := by
  obtain ⟨f, fd, Fn, hm, hb⟩ := T0.d__law_draw
  exact kf_hand Fn hm hb sc__law_draw (by decide) b__law_draw (fun cdv A outer s H E C hT t tk hx hp => by
    subst hT
    exact fs_cons (fs_if (ft_w (fw_and (ft_cmp (opEq t) (fe_hand (i := 0) (j := 2) t rfl (.inl rfl) (fun _ _ => rfl)) (fe_int) (nomark _)) (fw_and1 (ft_cmp (opLt t) (fe_hand (i := 0) (j := 1) t rfl (.inl rfl) (fun _ _ => rfl)) (fe_callB (cLen t) (by rfl) T0.z_len bt_len (fa_cons (fe_hand (i := 0) (j := 0) t rfl (.inl rfl) (fun _ _ => rfl)) (fa_nil))) (nomark _))))) (fs_cons (fs_set (i := 2) t rfl (.inl rfl) (fe_ix t (fe_hand (i := 0) (j := 0) t rfl (.inl rfl) (fun _ _ => rfl)) (fe_hand (i := 0) (j := 1) t rfl (.inl rfl) (fun _ _ => rfl)) (fun _ _ => rfl))) (fs_cons (fs_hand (i := 0) (j := 1) t rfl (.inl rfl) (fe_bin (opAdd t) (fe_hand (i := 0) (j := 1) t rfl (.inl rfl) (fun _ _ => rfl)) (fe_int))) (fs_cons (fs_hand (i := 0) (j := 3) t rfl (.inl rfl) (fe_bin (opMod t) (fe_callTy (cInt t) (by rfl) T0.z_int bt_int (fa_cons (fe_bin (opAdd t) (fe_bin (opAdd t) (fe_bin (opMul t) (fe_hand (i := 0) (j := 3) t rfl (.inl rfl) (fun _ _ => rfl)) (fe_int)) (fe_var (i := 2) rfl (.inl rfl))) (fe_int)) (fa_nil))) (fe_int))) (fs_one (fs_if (ft_cmp (opGe t) (fe_var (i := 2) rfl (.inl rfl)) (fe_bin (opPow t) (fe_int) (fe_int)) (nomark _)) (fs_one (fs_hand (i := 0) (j := 2) t rfl (.inl rfl) (fe_var (i := 2) rfl (.inl rfl)))) (fs_nil)))))) (fs_nil)) (fs_cons (fs_if (ft_cmp (opGt t) (fe_hand (i := 0) (j := 2) t rfl (.inl rfl) (fun _ _ => rfl)) (fe_int) (nomark _)) (fs_cons (fs_set (i := 3) t rfl (.inl rfl) (fe_bin (opMod t) (fe_callTy (cInt t) (by rfl) T0.z_int bt_int (fa_cons (fe_hand (i := 0) (j := 2) t rfl (.inl rfl) (fun _ _ => rfl)) (fa_nil))) (fe_var (i := 1) rfl (.inl rfl)))) (fs_cons (fs_hand (i := 0) (j := 2) t rfl (.inl rfl) (fe_bin (opDiv t) (fe_hand (i := 0) (j := 2) t rfl (.inl rfl) (fun _ _ => rfl)) (fe_var (i := 1) rfl (.inl rfl)))) (fs_one (fs_ret (fe_var (i := 3) rfl (.inl rfl)))))) (fs_nil)) (fs_cons (fs_hand (i := 0) (j := 4) t rfl (.inl rfl) (fe_bin (opAdd t) (fe_hand (i := 0) (j := 4) t rfl (.inl rfl) (fun _ _ => rfl)) (fe_int))) (fs_cons (fs_set (i := 4) t rfl (.inl rfl) (fe_bin (opMod t) (fe_callTy (cInt t) (by rfl) T0.z_int bt_int (fa_cons (fe_bin (opMul t) (fe_callTy (cInt t) (by rfl) T0.z_int bt_int (fa_cons (fe_bin (opAdd t) (fe_hand (i := 0) (j := 3) t rfl (.inl rfl) (fun _ _ => rfl)) (fe_bin (opMul t) (fe_int) (fe_hand (i := 0) (j := 4) t rfl (.inl rfl) (fun _ _ => rfl)))) (fa_nil))) (fe_int)) (fa_nil))) (fe_int))) (fs_cons (fs_set (i := 4) t rfl (.inl rfl) (fe_bin (opMod t) (fe_callTy (cInt t) (by rfl) T0.z_int bt_int (fa_cons (fe_bin (opMul t) (fe_var (i := 4) rfl (.inl rfl)) (fe_bin (opAdd t) (fe_bin (opDiv t) (fe_var (i := 4) rfl (.inl rfl)) (fe_int)) (fe_int))) (fa_nil))) (fe_int))) (fs_cons (fs_set (i := 4) t rfl (.inl rfl) (fe_bin (opMod t) (fe_callTy (cInt t) (by rfl) T0.z_int bt_int (fa_cons (fe_bin (opMul t) (fe_var (i := 4) rfl (.inl rfl)) (fe_bin (opAdd t) (fe_bin (opDiv t) (fe_var (i := 4) rfl (.inl rfl)) (fe_int)) (fe_int))) (fa_nil))) (fe_int))) (fs_one (fs_ret (fe_bin (opMod t) (fe_callTy (cInt t) (by rfl) T0.z_int bt_int (fa_cons (fe_bin (opDiv t) (fe_var (i := 4) rfl (.inl rfl)) (fe_int)) (fa_nil))) (fe_var (i := 1) rfl (.inl rfl)))))))))))
theorem kf__law_some (T0 : TopF K mg base T) : KF P w K mg base "_law_some" 3 (spH K mg T m__law_some) := by
  obtain ⟨f, fd, Fn, hm, hb⟩ := T0.d__law_some
  exact kf_hand Fn hm hb sc__law_some (by decide) b__law_some (fun cdv A outer s H E C hT t tk hx hp => by
    subst hT
    exact fs_one (fs_ret (fe_ix t (fe_var (i := 1) rfl (.inl rfl)) (fe_callH (i := 0) t hx (kf__law_draw T0) (by decide) (by rfl) rfl (.inl rfl) (fa_cons (fe_callB (cLen t) (by rfl) T0.z_len bt_len (fa_cons (fe_var (i := 1) rfl (.inl rfl)) (fa_nil))) (fa_nil))) (fun _ _ => rfl))))
theorem kf__law_is (T0 : TopF K mg base T) : ∀ n : Nat, KF P w K mg base "_law_is" (n + 2) (spP K mg T (m__law_is n))
  | 0 => by
    obtain ⟨f, fd, Fn, hm, hb⟩ := T0.d__law_is
    exact kf_stuck Fn hm hb
  | n + 1 => by
    have ih := kf__law_is T0 n
    obtain ⟨f, fd, Fn, hm, hb⟩ := T0.d__law_is
    exact kf_pure (k := n + 2) Fn hm hb sc__law_is (by decide) (b__law_is (m__law_is n)) (fun cdv A outer s H E C hT hh t tk hx hp => by
      subst hT
      exact fs_cons (fs_if (ft_w (fw_or (ft_val t (fe_isi t isiTup (by rfl) T0.z_isinstance bt_isinstance (by rfl) T0.z_tuple bt_tuple (fe_var (i := 1) rfl (.inr (.inl rfl)))) (by intro _; rfl)) (fw_or1 (ft_val t (fe_isi t isiList (by rfl) T0.z_isinstance bt_isinstance (by rfl) T0.z_list bt_list (fe_var (i := 1) rfl (.inr (.inl rfl)))) (by intro _; rfl))))) (fs_cons (fs_if (ft_cmp (opNe t) (fe_isi t isiTup (by rfl) T0.z_isinstance bt_isinstance (by rfl) T0.z_tuple bt_tuple (fe_var (i := 0) rfl (.inr (.inl rfl)))) (fe_isi t isiTup (by rfl) T0.z_isinstance bt_isinstance (by rfl) T0.z_tuple bt_tuple (fe_var (i := 1) rfl (.inr (.inl rfl)))) (nomark _)) (fs_one (fs_ret (fe_bl))) (fs_nil)) (fs_cons (fs_if (ft_cmp (opNe t) (fe_isi t isiList (by rfl) T0.z_isinstance bt_isinstance (by rfl) T0.z_list bt_list (fe_var (i := 0) rfl (.inr (.inl rfl)))) (fe_isi t isiList (by rfl) T0.z_isinstance bt_isinstance (by rfl) T0.z_list bt_list (fe_var (i := 1) rfl (.inr (.inl rfl)))) (nomark _)) (fs_one (fs_ret (fe_bl))) (fs_nil)) (fs_cons (fs_if (ft_cmp (opNe t) (fe_callB (cLen t) (by rfl) T0.z_len bt_len (fa_cons (fe_var (i := 0) rfl (.inr (.inl rfl))) (fa_nil))) (fe_callB (cLen t) (by rfl) T0.z_len bt_len (fa_cons (fe_var (i := 1) rfl (.inr (.inl rfl))) (fa_nil))) (nomark _)) (fs_one (fs_ret (fe_bl))) (fs_nil)) (fs_one (fs_ret (fe_callB (cAll t) (by rfl) T0.z_all bt_all (fa_cons (fe_lc (own := [("k", 2)]) (L := [2]) (tst := bYes) (el := (x__law_is_c1 (m__law_is n))) t (fi_range1 (by rfl) T0.z_range (fa_cons (fe_callB (cLen t) (by rfl) T0.z_len bt_len (fa_cons (fe_var (i := 1) rfl (.inr (.inl rfl))) (fa_nil))) (fa_nil))) (blkOk_by (by kernel_rfl)) (fun _ _ _ _ _ => fg_name (i := 2) (Ties.blk t) rfl (.inl rfl)) (fun _ _ _ _ _ => ft_nil) (fun _ _ _ _ _ => fe_call (Ties.blk t) passL ih (by omega) (by rfl) (fa_cons (fe_ix (Ties.blk t) (fe_var (i := 0) rfl (.inr (.inl rfl))) (fe_var (i := 2) rfl (.inl rfl)) (fun _ _ => rfl)) (fa_cons (fe_ix (Ties.blk t) (fe_var (i := 1) rfl (.inr (.inl rfl))) (fe_var (i := 2) rfl (.inl rfl)) (fun _ _ => rfl)) (fa_nil))))) (fa_nil)))))))) (fs_nil)) (fs_cons (fs_if (ft_cmp (opIs t) (fe_var (i := 1) rfl (.inr (.inl rfl))) (fe_non) (nomark _)) (fs_one (fs_ret (fe_cmp (opIs t) (fe_var (i := 0) rfl (.inr (.inl rfl))) (fe_non) (nomark _)))) (fs_nil)) (fs_cons (fs_if (ft_w (fw_or (ft_cmp (opNe t) (fe_isi t isiBool (by rfl) T0.z_isinstance bt_isinstance (by rfl) T0.z_bool bt_bool (fe_var (i := 0) rfl (.inr (.inl rfl)))) (fe_isi t isiBool (by rfl) T0.z_isinstance bt_isinstance (by rfl) T0.z_bool bt_bool (fe_var (i := 1) rfl (.inr (.inl rfl)))) (nomark _)) (fw_or1 (ft_cmp (opNe t) (fe_isi t isiInt (by rfl) T0.z_isinstance bt_isinstance (by rfl) T0.z_int bt_int (fe_var (i := 0) rfl (.inr (.inl rfl)))) (fe_isi t isiInt (by rfl) T0.z_isinstance bt_isinstance (by rfl) T0.z_int bt_int (fe_var (i := 1) rfl (.inr (.inl rfl)))) (nomark _))))) (fs_one (fs_ret (fe_bl))) (fs_nil)) (fs_one (fs_ret (fe_and t (fe_cmp (opEq t) (fe_isi t isiStr (by rfl) T0.z_isinstance bt_isinstance (by rfl) T0.z_str bt_str (fe_var (i := 0) rfl (.inr (.inl rfl)))) (fe_isi t isiStr (by rfl) T0.z_isinstance bt_isinstance (by rfl) T0.z_str bt_str (fe_var (i := 1) rfl (.inr (.inl rfl)))) (nomark _)) (fe_one (fe_cmp (opEq t) (fe_var (i := 0) rfl (.inr (.inl rfl))) (fe_var (i := 1) rfl (.inr (.inl rfl))) (nomark _)))))))))
theorem kf__law_deep (T0 : TopF K mg base T) : KF P w K mg base "_law_deep" 3 (spH K mg T m__law_deep) := by
  obtain ⟨f, fd, Fn, hm, hb⟩ := T0.d__law_deep
  exact kf_hand Fn hm hb sc__law_deep (by decide) b__law_deep (fun cdv A outer s H E C hT t tk hx hp => by
    subst hT
    exact fs_cons (fs_set (i := 1) t rfl (.inl rfl) (fe_dict1 (fe_str) (fe_un (unNeg t) (fe_int)))) (fs_cons (fs_for (m := y__law_deep_l1) t hp (fi_range1 (by rfl) T0.z_range (fa_cons (fe_callH (i := 0) t hx (kf__law_draw T0) (by decide) (by rfl) rfl (.inl rfl) (fa_cons (fe_int) (fa_nil))) (fa_nil))) (fg_name (i := 2) t rfl (.inl rfl)) (fs_one (fs_set (i := 1) t rfl (.inl rfl) (fe_if (ft_cmp (opEq t) (fe_callH (i := 0) t hx (kf__law_draw T0) (by decide) (by rfl) rfl (.inl rfl) (fa_cons (fe_int) (fa_nil))) (fe_int) (nomark _)) (fe_tup (fa_cons (fe_dict0) (fa_cons (fe_var (i := 1) rfl (.inl rfl)) (fa_nil)))) (fe_lst (fa_cons (fe_var (i := 1) rfl (.inl rfl)) (fa_nil))))))) (fs_one (fs_ret (fe_var (i := 1) rfl (.inl rfl))))))
theorem kf__law_cabin (T0 : TopF K mg base T) : KF P w K mg base "_law_cabin" 4 (spH K mg T m__law_cabin) := by
  obtain ⟨f, fd, Fn, hm, hb⟩ := T0.d__law_cabin
  exact kf_hand Fn hm hb sc__law_cabin (by decide) b__law_cabin (fun cdv A outer s H E C hT t tk hx hp => by
    subst hT
    exact fs_cons (fs_asg (fe_tup (fa_cons (fe_bin (opAdd t) (fe_int) (fe_callH (i := 0) t hx (kf__law_draw T0) (by decide) (by rfl) rfl (.inr (.inl rfl)) (fa_cons (fe_var (i := 1) rfl (.inl rfl)) (fa_nil)))) (fa_cons (fe_callH (i := 0) t hx (kf__law_some T0) (by decide) (by rfl) rfl (.inr (.inl rfl)) (fa_cons (fe_lst (fa_cons (fe_int) (fa_cons (fe_int) (fa_cons (fe_int) (fa_nil))))) (fa_nil))) (fa_nil)))) (fg_tup t (fgs_cons (fg_name (i := 2) t rfl (.inl rfl)) (fgs_cons (fg_name (i := 3) t rfl (.inr rfl)) (fgs_nil))))) (fs_cons (fs_set (i := 4) t rfl (.inl rfl) (fe_callTy (cTuple t) (by rfl) T0.z_tuple bt_tuple (fa_cons (fe_lc (own := [("row", 6)]) (L := [6]) (tst := bYes) (el := x__law_cabin_c1) t (fi_range1 (by rfl) T0.z_range (fa_cons (fe_var (i := 2) rfl (.inl rfl)) (fa_nil))) (blkOk_by (by kernel_rfl)) (fun _ _ _ _ _ => fg_name (i := 6) (Ties.blk t) rfl (.inl rfl)) (fun _ _ _ _ _ => ft_nil) (fun _ _ _ _ _ => fe_callH (i := 0) (Ties.blk t) passL (kf__law_draw T0) (by decide) (by rfl) rfl (.inr (.inl rfl)) (fa_cons (fe_var (i := 3) rfl (.inr (.inl rfl))) (fa_nil)))) (fa_nil)))) (fs_cons (fs_set (i := 5) t rfl (.inl rfl) (fe_callTy (cTuple t) (by rfl) T0.z_tuple bt_tuple (fa_cons (fe_lc (own := [("row", 6)]) (L := [6]) (tst := t__law_cabin_c2) (el := x__law_cabin_c2) t (fi_range1 (by rfl) T0.z_range (fa_cons (fe_var (i := 2) rfl (.inl rfl)) (fa_nil))) (blkOk_by (by kernel_rfl)) (fun _ _ _ _ _ => fg_name (i := 6) (Ties.blk t) rfl (.inl rfl)) (fun _ _ _ _ _ => ft_one (ft_cmp (opEq (Ties.blk t)) (fe_callH (i := 0) (Ties.blk t) passL (kf__law_draw T0) (by decide) (by rfl) rfl (.inr (.inl rfl)) (fa_cons (fe_int) (fa_nil))) (fe_int) (nomark _))) (fun _ _ _ _ _ => fe_var (i := 6) rfl (.inl rfl))) (fa_nil)))) (fs_one (fs_ret (fe_tup (fa_cons (fe_var (i := 4) rfl (.inl rfl)) (fa_cons (fe_if (ft_cmp (opNe t) (fe_var (i := 5) rfl (.inl rfl)) (fe_tup (fa_nil)) (nomark _)) (fe_var (i := 5) rfl (.inl rfl)) (fe_tup (fa_cons (fe_callH (i := 0) t hx (kf__law_draw T0) (by decide) (by rfl) rfl (.inr (.inl rfl)) (fa_cons (fe_var (i := 2) rfl (.inl rfl)) (fa_nil))) (fa_nil)))) (fa_nil)))))))))
theorem kf__law_ways (T0 : TopF K mg base T) : KF P w K mg base "_law_ways" 2 (spP K mg T m__law_ways) := by
  obtain ⟨f, fd, Fn, hm, hb⟩ := T0.d__law_ways
  exact kf_pure Fn hm hb sc__law_ways (by decide) b__law_ways (fun cdv A outer s H E C hT hh t tk hx hp => by
    subst hT
    exact fs_cons (fs_setLc (i := 2) (own := [("place", 4), ("door", 5)]) (L := [4, 5]) (tst := t__law_ways_c1) (el := x__law_ways_c1) t rfl rfl (sw_true rfl rfl rfl (by decide +kernel)) (fi_enum1 t (by rfl) T0.z_enumerate (fa_cons (fe_var (i := 0) rfl (.inl rfl)) (fa_nil))) (blkOk_by (by kernel_rfl)) (fun _ _ _ _ _ => fg_tup (Ties.blk t) (fgs_cons (fg_name (i := 4) (Ties.blk t) rfl (.inl rfl)) (fgs_cons (fg_name (i := 5) (Ties.blk t) rfl (.inl rfl)) (fgs_nil)))) (fun _ _ _ _ _ => ft_one (ft_cmp (opLe (Ties.blk t)) (fe_var (i := 5) rfl (.inl rfl)) (fe_var (i := 1) rfl (.inr (.inl rfl))) (nomark _))) (fun _ _ _ _ _ => fe_var (i := 4) rfl (.inl rfl))) (fs_cons (fs_setLc (i := 3) (own := [("place", 4), ("door", 5)]) (L := [4, 5]) (tst := t__law_ways_c2) (el := x__law_ways_c2) t rfl rfl (sw_true rfl rfl rfl (by decide +kernel)) (fi_enum1 t (by rfl) T0.z_enumerate (fa_cons (fe_var (i := 0) rfl (.inl rfl)) (fa_nil))) (blkOk_by (by kernel_rfl)) (fun _ _ _ _ _ => fg_tup (Ties.blk t) (fgs_cons (fg_name (i := 4) (Ties.blk t) rfl (.inl rfl)) (fgs_cons (fg_name (i := 5) (Ties.blk t) rfl (.inl rfl)) (fgs_nil)))) (fun _ _ _ _ _ => ft_one (ft_cmp (opGe (Ties.blk t)) (fe_var (i := 5) rfl (.inl rfl)) (fe_var (i := 1) rfl (.inr (.inl rfl))) (nomark _))) (fun _ _ _ _ _ => fe_var (i := 4) rfl (.inl rfl))) (fs_one (fs_ret (fe_tup (fa_cons (fe_if (ft_cmp (opNe t) (fe_var (i := 2) rfl (.inl rfl)) (fe_lst (fa_nil)) (nomark _)) (fe_ix t (fe_var (i := 2) rfl (.inl rfl)) (fe_un (unNeg t) (fe_int)) (fun _ _ => rfl)) (fe_non)) (fa_cons (fe_if (ft_cmp (opNe t) (fe_var (i := 3) rfl (.inl rfl)) (fe_lst (fa_nil)) (nomark _)) (fe_ix t (fe_var (i := 3) rfl (.inl rfl)) (fe_int) (fun _ _ => rfl)) (fe_non)) (fa_nil))))))))
theorem kf__law_shares (T0 : TopF K mg base T) : KF P w K mg base "_law_shares" 3 (spP K mg T m__law_shares) := by
  obtain ⟨f, fd, Fn, hm, hb⟩ := T0.d__law_shares
  exact kf_pure Fn hm hb sc__law_shares (by decide) b__law_shares (fun cdv A outer s H E C hT hh t tk hx hp => by
    subst hT
    exact fs_cons (fs_mix2 (i := 3) (j := 4) t rfl rfl (by decide) rfl rfl (fm_new (fn_rep (fe_lst (fa_cons (fe_int) (fa_nil))) (fe_callB (cLen t) (by rfl) T0.z_len bt_len (fa_cons (fe_var (i := 1) rfl (.inl rfl)) (fa_nil)))) (fm_new (fn_lst (fa_nil)) (fm_nil))) (by rfl)) (fs_cons (fs_for (m := y__law_shares_l1) t hp (fi_enum1 t (by rfl) T0.z_enumerate (fa_cons (fe_var (i := 0) rfl (.inl rfl)) (fa_nil))) (fg_tup t (fgs_cons (fg_name (i := 5) t rfl (.inl rfl)) (fgs_cons (fg_name (i := 6) t rfl (.inl rfl)) (fgs_nil)))) (fs_cons (fs_asg (fe_call t hx (kf__law_ways T0) (by decide) (by rfl) (fa_cons (fe_var (i := 1) rfl (.inl rfl)) (fa_cons (fe_var (i := 5) rfl (.inl rfl)) (fa_nil)))) (fg_tup t (fgs_cons (fg_name (i := 7) t rfl (.inl rfl)) (fgs_cons (fg_name (i := 8) t rfl (.inl rfl)) (fgs_nil))))) (fs_cons (fs_set (i := 9) t rfl (.inl rfl) (fe_var (i := 6) rfl (.inl rfl))) (fs_cons (fs_if (ft_cmp (opIs t) (fe_var (i := 7) rfl (.inl rfl)) (fe_non) (nomark _)) (fs_one (fs_set (i := 9) t rfl (.inl rfl) (fe_int))) (fs_one (fs_if (ft_w (fw_and (ft_cmp (opIsn t) (fe_var (i := 8) rfl (.inl rfl)) (fe_non) (nomark _)) (fw_and1 (ft_cmp (opNe t) (fe_var (i := 8) rfl (.inl rfl)) (fe_var (i := 7) rfl (.inl rfl)) (nomark _))))) (fs_one (fs_set (i := 9) t rfl (.inl rfl) (fe_lend (fe_callB (cMin2 t) (by rfl) T0.z_min bt_min (fa_cons (fe_var (i := 6) rfl (.inl rfl)) (fa_cons (fe_callB (cMax2 t) (by rfl) T0.z_max bt_max (fa_cons (fe_int) (fa_cons (fe_bin (opSub t) (fe_var (i := 2) rfl (.inl rfl)) (fe_ix t (fe_var (i := 3) rfl (.inl rfl)) (fe_var (i := 7) rfl (.inl rfl)) (fun _ _ => rfl))) (fa_nil)))) (fa_nil))))))) (fs_nil)))) (fs_cons (fs_if (ft_cmp (opIsn t) (fe_var (i := 7) rfl (.inl rfl)) (fe_non) (nomark _)) (fs_one (fs_put (i := 3) t rfl (.inl rfl) (fe_var (i := 7) rfl (.inl rfl)) (fe_lend (fe_bin (opAdd t) (fe_ix t (fe_var (i := 3) rfl (.inl rfl)) (fe_var (i := 7) rfl (.inl rfl)) (fun _ _ => rfl)) (fe_var (i := 9) rfl (.inl rfl)))) (hA := fun _ => rfl))) (fs_nil)) (fs_cons (fs_if (ft_w (fw_and (ft_cmp (opIsn t) (fe_var (i := 8) rfl (.inl rfl)) (fe_non) (nomark _)) (fw_and1 (ft_cmp (opGt t) (fe_var (i := 6) rfl (.inl rfl)) (fe_var (i := 9) rfl (.inl rfl)) (nomark _))))) (fs_one (fs_put (i := 3) t rfl (.inl rfl) (fe_var (i := 8) rfl (.inl rfl)) (fe_lend (fe_bin (opSub t) (fe_bin (opAdd t) (fe_ix t (fe_var (i := 3) rfl (.inl rfl)) (fe_var (i := 8) rfl (.inl rfl)) (fun _ _ => rfl)) (fe_var (i := 6) rfl (.inl rfl))) (fe_var (i := 9) rfl (.inl rfl)))) (hA := fun _ => rfl))) (fs_nil)) (fs_one (fs_app (i := 4) t rfl (.inl rfl) (fe_var (i := 9) rfl (.inl rfl)))))))))) (fss_frz (i := 4) (fss_frz (i := 3) (fs_one (fs_ret (fe_if (ft_cmp (opLe t) (fe_callB (cMaxX t) (by rfl) T0.z_max bt_max (fa_cons (fe_var (i := 3) rfl (.inl rfl)) (fa_nil))) (fe_var (i := 2) rfl (.inl rfl)) (nomark _)) (fe_callTy (cTuple t) (by rfl) T0.z_tuple bt_tuple (fa_cons (fe_var (i := 4) rfl (.inl rfl)) (fa_nil))) (fe_non))))))))
theorem kf__law_bars (T0 : TopF K mg base T) : KF P w K mg base "_law_bars" 3 (spP K mg T m__law_bars) := by
  obtain ⟨f, fd, Fn, hm, hb⟩ := T0.d__law_bars
  exact kf_pure Fn hm hb sc__law_bars (by decide) b__law_bars (fun cdv A outer s H E C hT hh t tk hx hp => by
    subst hT
    exact fs_cons (fs_setN (i := 3) t rfl (.inl rfl) (fn_lst (fa_nil))) (fs_cons (fs_for (m := y__law_bars_l4) t hp (fi_range1 (by rfl) T0.z_range (fa_cons (fe_callB (cLen t) (by rfl) T0.z_len bt_len (fa_cons (fe_var (i := 1) rfl (.inl rfl)) (fa_nil))) (fa_nil))) (fg_name (i := 4) t rfl (.inl rfl)) (fs_one (fs_for (m := y__law_bars_l3) t hp (fi_range2 (by rfl) T0.z_range (fa_cons (fe_var (i := 4) rfl (.inl rfl)) (fa_cons (fe_callB (cLen t) (by rfl) T0.z_len bt_len (fa_cons (fe_var (i := 1) rfl (.inl rfl)) (fa_nil))) (fa_nil)))) (fg_name (i := 5) t rfl (.inl rfl)) (fs_cons (fs_set (i := 6) t rfl (.inl rfl) (fe_int)) (fs_cons (fs_for (m := y__law_bars_l2) t hp (fi_enum1 t (by rfl) T0.z_enumerate (fa_cons (fe_var (i := 0) rfl (.inl rfl)) (fa_nil))) (fg_tup t (fgs_cons (fg_name (i := 7) t rfl (.inl rfl)) (fgs_cons (fg_name (i := 8) t rfl (.inl rfl)) (fgs_nil)))) (fs_cons (fs_setLc (i := 9) (own := [("place", 10)]) (L := [10]) (tst := t__law_bars_c1) (el := x__law_bars_c1) t rfl rfl (sw_true rfl rfl rfl (by decide +kernel)) (fi_seq t (fe_call t hx (kf__law_ways T0) (by decide) (by rfl) (fa_cons (fe_var (i := 1) rfl (.inl rfl)) (fa_cons (fe_var (i := 7) rfl (.inl rfl)) (fa_nil))))) (blkOk_by (by kernel_rfl)) (fun _ _ _ _ _ => fg_name (i := 10) (Ties.blk t) rfl (.inl rfl)) (fun _ _ _ _ _ => ft_one (ft_cmp (opIsn (Ties.blk t)) (fe_var (i := 10) rfl (.inl rfl)) (fe_non) (nomark _))) (fun _ _ _ _ _ => fe_var (i := 10) rfl (.inl rfl))) (fs_one (fs_set (i := 6) t rfl (.inl rfl) (fe_bin (opAdd t) (fe_var (i := 6) rfl (.inl rfl)) (fe_if (ft_w (fw_and (ft_cmp (opLe t) (fe_var (i := 4) rfl (.inl rfl)) (fe_callB (cMinX t) (by rfl) T0.z_min bt_min (fa_cons (fe_var (i := 9) rfl (.inl rfl)) (fa_nil))) (nomark _)) (fw_and1 (ft_cmp (opLe t) (fe_callB (cMaxX t) (by rfl) T0.z_max bt_max (fa_cons (fe_var (i := 9) rfl (.inl rfl)) (fa_nil))) (fe_var (i := 5) rfl (.inl rfl)) (nomark _))))) (fe_var (i := 8) rfl (.inl rfl)) (fe_int))))))) (fs_one (fs_if (ft_cmp (opGt t) (fe_var (i := 6) rfl (.inl rfl)) (fe_bin (opMul t) (fe_bin (opAdd t) (fe_bin (opSub t) (fe_var (i := 5) rfl (.inl rfl)) (fe_var (i := 4) rfl (.inl rfl))) (fe_int)) (fe_var (i := 2) rfl (.inl rfl))) (nomark _)) (fs_one (fs_app (i := 3) t rfl (.inl rfl) (fe_tup (fa_cons (fe_var (i := 4) rfl (.inl rfl)) (fa_cons (fe_var (i := 5) rfl (.inl rfl)) (fa_nil)))))) (fs_nil)))))))) (fss_frz (i := 3) (fs_one (fs_ret (fe_var (i := 3) rfl (.inl rfl)))))))
theorem kf__law_loads (T0 : TopF K mg base T) : KF P w K mg base "_law_loads" 3 (spP K mg T m__law_loads) := by
  obtain ⟨f, fd, Fn, hm, hb⟩ := T0.d__law_loads
  exact kf_pure Fn hm hb sc__law_loads (by decide) b__law_loads (fun cdv A outer s H E C hT hh t tk hx hp => by
    subst hT
    exact fs_cons (fs_if (ft_w (fw_or (ft_not (ft_val t (fe_isi t isiTup (by rfl) T0.z_isinstance bt_isinstance (by rfl) T0.z_tuple bt_tuple (fe_var (i := 2) rfl (.inl rfl))) (by intro _; rfl))) (fw_or1 (ft_cmp (opNe t) (fe_callB (cLen t) (by rfl) T0.z_len bt_len (fa_cons (fe_var (i := 2) rfl (.inl rfl)) (fa_nil))) (fe_callB (cLen t) (by rfl) T0.z_len bt_len (fa_cons (fe_var (i := 0) rfl (.inl rfl)) (fa_nil))) (nomark _))))) (fs_one (fs_ret (fe_non))) (fs_nil)) (fs_cons (fs_setN (i := 3) t rfl (.inl rfl) (fn_rep (fe_lst (fa_cons (fe_int) (fa_nil))) (fe_callB (cLen t) (by rfl) T0.z_len bt_len (fa_cons (fe_var (i := 1) rfl (.inl rfl)) (fa_nil))))) (fs_cons (fs_for (m := y__law_loads_l1) t hp (fi_enum1 t (by rfl) T0.z_enumerate (fa_cons (fe_var (i := 2) rfl (.inl rfl)) (fa_nil))) (fg_tup t (fgs_cons (fg_name (i := 4) t rfl (.inl rfl)) (fgs_cons (fg_name (i := 5) t rfl (.inl rfl)) (fgs_nil)))) (fs_cons (fs_asg (fe_call t hx (kf__law_ways T0) (by decide) (by rfl) (fa_cons (fe_var (i := 1) rfl (.inl rfl)) (fa_cons (fe_var (i := 4) rfl (.inl rfl)) (fa_nil)))) (fg_tup t (fgs_cons (fg_name (i := 6) t rfl (.inl rfl)) (fgs_cons (fg_name (i := 7) t rfl (.inl rfl)) (fgs_nil))))) (fs_cons (fs_if (ft_w (fw_or (ft_not (ft_val t (fe_isi t isiInt (by rfl) T0.z_isinstance bt_isinstance (by rfl) T0.z_int bt_int (fe_var (i := 5) rfl (.inl rfl))) (by intro _; rfl))) (fw_or (ft_val t (fe_isi t isiBool (by rfl) T0.z_isinstance bt_isinstance (by rfl) T0.z_bool bt_bool (fe_var (i := 5) rfl (.inl rfl))) (by intro _; rfl)) (fw_or1 (ft_not (ft_chain (opLe t) (opLe t) (fe_int) (fe_var (i := 5) rfl (.inl rfl)) (fe_ix t (fe_var (i := 0) rfl (.inl rfl)) (fe_var (i := 4) rfl (.inl rfl)) (fun _ _ => rfl)) (by with_unfolding_all rfl))))))) (fs_one (fs_ret (fe_non))) (fs_nil)) (fs_cons (fs_if (ft_w (fw_or (ft_w (fw_and (ft_cmp (opIs t) (fe_var (i := 6) rfl (.inl rfl)) (fe_non) (nomark _)) (fw_and1 (ft_cmp (opNe t) (fe_var (i := 5) rfl (.inl rfl)) (fe_int) (nomark _))))) (fw_or1 (ft_w (fw_and (ft_cmp (opNe t) (fe_var (i := 5) rfl (.inl rfl)) (fe_ix t (fe_var (i := 0) rfl (.inl rfl)) (fe_var (i := 4) rfl (.inl rfl)) (fun _ _ => rfl)) (nomark _)) (fw_and1 (ft_w (fw_or (ft_cmp (opIs t) (fe_var (i := 7) rfl (.inl rfl)) (fe_non) (nomark _)) (fw_or1 (ft_cmp (opEq t) (fe_var (i := 7) rfl (.inl rfl)) (fe_var (i := 6) rfl (.inl rfl)) (nomark _))))))))))) (fs_one (fs_ret (fe_non))) (fs_nil)) (fs_cons (fs_if (ft_cmp (opIsn t) (fe_var (i := 6) rfl (.inl rfl)) (fe_non) (nomark _)) (fs_one (fs_put (i := 3) t rfl (.inl rfl) (fe_var (i := 6) rfl (.inl rfl)) (fe_lend (fe_bin (opAdd t) (fe_ix t (fe_var (i := 3) rfl (.inl rfl)) (fe_var (i := 6) rfl (.inl rfl)) (fun _ _ => rfl)) (fe_var (i := 5) rfl (.inl rfl)))) (hA := fun _ => rfl))) (fs_nil)) (fs_one (fs_if (ft_cmp (opIsn t) (fe_var (i := 7) rfl (.inl rfl)) (fe_non) (nomark _)) (fs_one (fs_put (i := 3) t rfl (.inl rfl) (fe_var (i := 7) rfl (.inl rfl)) (fe_lend (fe_bin (opAdd t) (fe_ix t (fe_var (i := 3) rfl (.inl rfl)) (fe_var (i := 7) rfl (.inl rfl)) (fun _ _ => rfl)) (fe_bin (opSub t) (fe_ix t (fe_var (i := 0) rfl (.inl rfl)) (fe_var (i := 4) rfl (.inl rfl)) (fun _ _ => rfl)) (fe_var (i := 5) rfl (.inl rfl))))) (hA := fun _ => rfl))) (fs_nil)))))))) (fss_frz (i := 3) (fs_one (fs_ret (fe_callTy (cTuple t) (by rfl) T0.z_tuple bt_tuple (fa_cons (fe_var (i := 3) rfl (.inl rfl)) (fa_nil)))))))))
theorem kf__law_no_rows (T0 : TopF K mg base T) : KF P w K mg base "_law_no_rows" 4 (spH K mg T m__law_no_rows) := by
  obtain ⟨f, fd, Fn, hm, hb⟩ := T0.d__law_no_rows
  exact kf_hand Fn hm hb sc__law_no_rows (by decide) b__law_no_rows (fun cdv A outer s H E C hT t tk hx hp => by
    subst hT
    exact fs_cons (fs_set (i := 1) t rfl (.inl rfl) (fe_lst (fa_cons (fe_non) (fa_cons (fe_tup (fa_nil)) (fa_cons (fe_lst (fa_cons (fe_int) (fa_nil))) (fa_cons (fe_tup (fa_cons (fe_int) (fa_nil))) (fa_cons (fe_tup (fa_cons (fe_un (unNeg t) (fe_int)) (fa_nil))) (fa_cons (fe_tup (fa_cons (fe_bl) (fa_nil))) (fa_cons (fe_tup (fa_cons (fe_str) (fa_nil))) (fa_cons (fe_int) (fa_cons (fe_str) (fa_cons (fe_bin (opMul t) (fe_tup (fa_cons (fe_int) (fa_nil))) (fe_int)) (fa_cons (fe_callH (i := 0) t hx (kf__law_deep T0) (by decide) (by rfl) rfl (.inl rfl) (fa_nil)) (fa_nil)))))))))))))) (fs_one (fs_ret (fe_callH (i := 0) t hx (kf__law_some T0) (by decide) (by rfl) rfl (.inl rfl) (fa_cons (fe_var (i := 1) rfl (.inl rfl)) (fa_nil))))))
theorem kf__law_no_doors (T0 : TopF K mg base T) : KF P w K mg base "_law_no_doors" 4 (spH K mg T m__law_no_doors) := by
  obtain ⟨f, fd, Fn, hm, hb⟩ := T0.d__law_no_doors
  exact kf_hand Fn hm hb sc__law_no_doors (by decide) b__law_no_doors (fun cdv A outer s H E C hT t tk hx hp => by
    subst hT
    exact fs_cons (fs_set (i := 2) t rfl (.inl rfl) (fe_lst (fa_cons (fe_non) (fa_cons (fe_tup (fa_nil)) (fa_cons (fe_lst (fa_cons (fe_int) (fa_nil))) (fa_cons (fe_tup (fa_cons (fe_callB (cLen t) (by rfl) T0.z_len bt_len (fa_cons (fe_var (i := 1) rfl (.inl rfl)) (fa_nil))) (fa_nil))) (fa_cons (fe_tup (fa_cons (fe_un (unNeg t) (fe_int)) (fa_nil))) (fa_cons (fe_tup (fa_cons (fe_bl) (fa_nil))) (fa_cons (fe_tup (fa_cons (fe_int) (fa_cons (fe_int) (fa_nil)))) (fa_cons (fe_str) (fa_cons (fe_int) (fa_cons (fe_tup (fa_cons (fe_non) (fa_nil))) (fa_cons (fe_callH (i := 0) t hx (kf__law_deep T0) (by decide) (by rfl) rfl (.inl rfl) (fa_nil)) (fa_nil)))))))))))))) (fs_one (fs_ret (fe_callH (i := 0) t hx (kf__law_some T0) (by decide) (by rfl) rfl (.inl rfl) (fa_cons (fe_var (i := 2) rfl (.inl rfl)) (fa_nil))))))
theorem kf__law_is_told (T0 : TopF K mg base T) : KF P w K mg base "_law_is_told" 4 (spP K mg T m__law_is_told) := by
  obtain ⟨f, fd, Fn, hm, hb⟩ := T0.d__law_is_told
  exact kf_pure Fn hm hb sc__law_is_told (by decide) b__law_is_told (fun cdv A outer s H E C hT hh t tk hx hp => by
    subst hT
    exact fs_cons (fs_if (ft_w (fw_or (ft_not (ft_val t (fe_isi t isiTup (by rfl) T0.z_isinstance bt_isinstance (by rfl) T0.z_tuple bt_tuple (fe_var (i := 3) rfl (.inl rfl))) (by intro _; rfl))) (fw_or (ft_cmp (opNin t) (fe_callB (cLen t) (by rfl) T0.z_len bt_len (fa_cons (fe_var (i := 3) rfl (.inl rfl)) (fa_nil))) (fe_tup (fa_cons (fe_int) (fa_cons (fe_int) (fa_nil)))) (by rfl)) (fw_or1 (ft_not (ft_val t (fe_isi t isiStr (by rfl) T0.z_isinstance bt_isinstance (by rfl) T0.z_str bt_str (fe_ix t (fe_var (i := 3) rfl (.inl rfl)) (fe_int) (fun _ _ => rfl))) (by intro _; rfl))))))) (fs_one (fs_ret (fe_bl))) (fs_nil)) (fs_cons (fs_if (ft_w (fw_and (ft_cmp (opEq t) (fe_ix t (fe_var (i := 3) rfl (.inl rfl)) (fe_int) (fun _ _ => rfl)) (fe_str) (nomark _)) (fw_and1 (ft_cmp (opEq t) (fe_callB (cLen t) (by rfl) T0.z_len bt_len (fa_cons (fe_var (i := 3) rfl (.inl rfl)) (fa_nil))) (fe_int) (nomark _))))) (fs_cons (fs_set (i := 4) t rfl (.inl rfl) (fe_call t hx (kf__law_loads T0) (by decide) (by rfl) (fa_cons (fe_var (i := 0) rfl (.inl rfl)) (fa_cons (fe_var (i := 1) rfl (.inl rfl)) (fa_cons (fe_ix t (fe_var (i := 3) rfl (.inl rfl)) (fe_int) (fun _ _ => rfl)) (fa_nil)))))) (fs_one (fs_ret (fe_and t (fe_cmp (opIsn t) (fe_var (i := 4) rfl (.inl rfl)) (fe_non) (nomark _)) (fe_one (fe_cmp (opLe t) (fe_callB (cMaxX t) (by rfl) T0.z_max bt_max (fa_cons (fe_var (i := 4) rfl (.inl rfl)) (fa_nil))) (fe_var (i := 2) rfl (.inl rfl)) (nomark _))))))) (fs_nil)) (fs_cons (fs_if (ft_w (fw_or (ft_cmp (opNe t) (fe_ix t (fe_var (i := 3) rfl (.inl rfl)) (fe_int) (fun _ _ => rfl)) (fe_str) (nomark _)) (fw_or1 (ft_cmp (opNe t) (fe_callB (cLen t) (by rfl) T0.z_len bt_len (fa_cons (fe_var (i := 3) rfl (.inl rfl)) (fa_nil))) (fe_int) (nomark _))))) (fs_one (fs_ret (fe_bl))) (fs_nil)) (fs_cons (fs_if (ft_not (ft_val t (fe_callB (cAll t) (by rfl) T0.z_all bt_all (fa_cons (fe_lc (own := [("one", 5)]) (L := [5]) (tst := bYes) (el := x__law_is_told_c1) t (fi_seq t (fe_slice t (fe_var (i := 3) rfl (.inl rfl)) (fo_some (fe_int)) (fo_none))) (blkOk_by (by kernel_rfl)) (fun _ _ _ _ _ => fg_name (i := 5) (Ties.blk t) rfl (.inl rfl)) (fun _ _ _ _ _ => ft_nil) (fun _ _ _ _ _ => fe_and (Ties.blk t) (fe_isi (Ties.blk t) isiInt (by rfl) T0.z_isinstance bt_isinstance (by rfl) T0.z_int bt_int (fe_var (i := 5) rfl (.inl rfl))) (fe_one (fe_not (Ties.blk t) (fe_isi (Ties.blk t) isiBool (by rfl) T0.z_isinstance bt_isinstance (by rfl) T0.z_bool bt_bool (fe_var (i := 5) rfl (.inl rfl))))))) (fa_nil))) (by intro _; rfl))) (fs_one (fs_ret (fe_bl))) (fs_nil)) (fs_one (fs_ret (fe_cmp (opIn t) (fe_slice t (fe_var (i := 3) rfl (.inl rfl)) (fo_some (fe_int)) (fo_none)) (fe_call t hx (kf__law_bars T0) (by decide) (by rfl) (fa_cons (fe_var (i := 0) rfl (.inl rfl)) (fa_cons (fe_var (i := 1) rfl (.inl rfl)) (fa_cons (fe_var (i := 2) rfl (.inl rfl)) (fa_nil))))) (by rfl))))))))
theorem kf__law_things (T0 : TopF K mg base T) : KF P w K mg base "_law_things" 4 (spH K mg T m__law_things) := by
  obtain ⟨f, fd, Fn, hm, hb⟩ := T0.d__law_things
  exact kf_hand Fn hm hb sc__law_things (by decide) b__law_things (fun cdv A outer s H E C hT t tk hx hp => by
    subst hT
    exact fs_cons (fs_par (i := 4) (j := 5) t rfl rfl (by decide) rfl rfl (fa_cons (fe_callH (i := 0) t hx (kf__law_draw T0) (by decide) (by rfl) rfl (.inl rfl) (fa_cons (fe_callB (cLen t) (by rfl) T0.z_len bt_len (fa_cons (fe_var (i := 1) rfl (.inl rfl)) (fa_nil))) (fa_nil))) (fa_cons (fe_callH (i := 0) t hx (kf__law_some T0) (by decide) (by rfl) rfl (.inl rfl) (fa_cons (fe_lst (fa_cons (fe_non) (fa_cons (fe_bl) (fa_cons (fe_str) (fa_cons (fe_un (unNeg t) (fe_int)) (fa_cons (fe_tup (fa_cons (fe_int) (fa_nil))) (fa_cons (fe_int) (fa_nil)))))))) (fa_nil))) (fa_nil))) (by rfl)) (fs_cons (fs_par (i := 6) (j := 7) t rfl rfl (by decide) rfl rfl (fa_cons (fe_callH (i := 0) t hx (kf__law_draw T0) (by decide) (by rfl) rfl (.inl rfl) (fa_cons (fe_callB (cLen t) (by rfl) T0.z_len bt_len (fa_cons (fe_var (i := 2) rfl (.inl rfl)) (fa_nil))) (fa_nil))) (fa_cons (fe_callH (i := 0) t hx (kf__law_draw T0) (by decide) (by rfl) rfl (.inl rfl) (fa_cons (fe_callB (cLen t) (by rfl) T0.z_len bt_len (fa_cons (fe_var (i := 2) rfl (.inl rfl)) (fa_nil))) (fa_nil))) (fa_nil))) (by rfl)) (fs_cons (fs_setN (i := 8) t rfl (.inl rfl) (fn_lst (fa_cons (fe_var (i := 3) rfl (.inl rfl)) (fa_cons (fe_callTy (cList t) (by rfl) T0.z_list bt_list (fa_cons (fe_var (i := 3) rfl (.inl rfl)) (fa_nil))) (fa_cons (fe_slice t (fe_var (i := 3) rfl (.inl rfl)) (fo_none) (fo_some (fe_int))) (fa_cons (fe_bin (opAdd t) (fe_var (i := 3) rfl (.inl rfl)) (fe_tup (fa_cons (fe_int) (fa_nil)))) (fa_cons (fe_non) (fa_cons (fe_int) (fa_cons (fe_dict0) (fa_cons (fe_tup (fa_cons (fe_str) (fa_cons (fe_var (i := 6) rfl (.inl rfl)) (fa_cons (fe_var (i := 7) rfl (.inl rfl)) (fa_nil))))) (fa_cons (fe_tup (fa_cons (fe_str) (fa_cons (fe_var (i := 6) rfl (.inl rfl)) (fa_cons (fe_var (i := 5) rfl (.inl rfl)) (fa_nil))))) (fa_cons (fe_callH (i := 0) t hx (kf__law_deep T0) (by decide) (by rfl) rfl (.inl rfl) (fa_nil)) (fa_nil))))))))))))) (fss_frz (i := 8) (fs_cons (fs_setN (i := 8) t rfl (.inl rfl) (fn_cat (fe_var (i := 8) rfl (.inl rfl)) (fe_lst (fa_cons (fe_tup (fa_cons (fe_str) (fa_cons (fe_tup (fa_cons (fe_var (i := 6) rfl (.inl rfl)) (fa_cons (fe_var (i := 7) rfl (.inl rfl)) (fa_nil)))) (fa_nil)))) (fa_cons (fe_tup (fa_cons (fe_str) (fa_cons (fe_var (i := 5) rfl (.inl rfl)) (fa_cons (fe_var (i := 7) rfl (.inl rfl)) (fa_nil))))) (fa_cons (fe_tup (fa_cons (fe_str) (fa_cons (fe_int) (fa_cons (fe_bin (opSub t) (fe_callB (cLen t) (by rfl) T0.z_len bt_len (fa_cons (fe_var (i := 2) rfl (.inl rfl)) (fa_nil))) (fe_int)) (fa_nil))))) (fa_cons (fe_tup (fa_cons (fe_str) (fa_cons (fe_var (i := 1) rfl (.inl rfl)) (fa_nil)))) (fa_nil)))))))) (fs_cons (fs_set (i := 9) t rfl (.inl rfl) (fe_if (ft_cmp (opEq t) (fe_ix t (fe_var (i := 3) rfl (.inl rfl)) (fe_int) (fun _ _ => rfl)) (fe_str) (nomark _)) (fe_ix t (fe_var (i := 3) rfl (.inl rfl)) (fe_int) (fun _ _ => rfl)) (fe_var (i := 1) rfl (.inl rfl)))) (fs_cons (fs_for (m := y__law_things_l1) t hp (fi_seq t (fe_tup (fa_cons (fe_var (i := 5) rfl (.inl rfl)) (fa_cons (fe_int) (fa_cons (fe_ix t (fe_var (i := 1) rfl (.inl rfl)) (fe_var (i := 4) rfl (.inl rfl)) (fun _ _ => rfl)) (fa_cons (fe_callH (i := 0) t hx (kf__law_draw T0) (by decide) (by rfl) rfl (.inl rfl) (fa_cons (fe_bin (opAdd t) (fe_ix t (fe_var (i := 1) rfl (.inl rfl)) (fe_var (i := 4) rfl (.inl rfl)) (fun _ _ => rfl)) (fe_int)) (fa_nil))) (fa_nil))))))) (fg_name (i := 10) t rfl (.inl rfl)) (fs_one (fs_app (i := 8) t rfl (.inl rfl) (fe_tup (fa_cons (fe_str) (fa_cons (fe_bin (opAdd t) (fe_bin (opAdd t) (fe_slice t (fe_var (i := 9) rfl (.inl rfl)) (fo_none) (fo_some (fe_var (i := 4) rfl (.inl rfl)))) (fe_tup (fa_cons (fe_var (i := 10) rfl (.inl rfl)) (fa_nil)))) (fe_slice t (fe_var (i := 9) rfl (.inl rfl)) (fo_some (fe_bin (opAdd t) (fe_var (i := 4) rfl (.inl rfl)) (fe_int))) (fo_none))) (fa_nil))))))) (fss_frz (i := 8) (fs_one (fs_ret (fe_bin (opAdd t) (fe_var (i := 8) rfl (.inl rfl)) (fe_lst (fa_cons (fe_tup (fa_cons (fe_str) (fa_cons (fe_callTy (cList t) (by rfl) T0.z_list bt_list (fa_cons (fe_var (i := 9) rfl (.inl rfl)) (fa_nil))) (fa_nil)))) (fa_cons (fe_tup (fa_cons (fe_str) (fa_cons (fe_slice t (fe_var (i := 9) rfl (.inl rfl)) (fo_some (fe_int)) (fo_none)) (fa_nil)))) (fa_cons (fe_tup (fa_cons (fe_str) (fa_cons (fe_bin (opMul t) (fe_tup (fa_cons (fe_int) (fa_nil))) (fe_callB (cLen t) (by rfl) T0.z_len bt_len (fa_cons (fe_var (i := 1) rfl (.inl rfl)) (fa_nil)))) (fa_nil)))) (fa_cons (fe_bin (opAdd t) (fe_tup (fa_cons (fe_str) (fa_nil))) (fe_tup (fa_cons (fe_var (i := 9) rfl (.inl rfl)) (fa_nil)))) (fa_nil)))))))))))))))))
theorem kf__law_few (T0 : TopF K mg base T) : KF P w K mg base "_law_few" 3 (spP K mg T m__law_few) := by
  obtain ⟨f, fd, Fn, hm, hb⟩ := T0.d__law_few
  exact kf_pure Fn hm hb sc__law_few (by decide) b__law_few (fun cdv A outer s H E C hT hh t tk hx hp => by
    subst hT
    exact fs_cons (fs_set (i := 2) t rfl (.inl rfl) (fe_int)) (fs_cons (fs_for (m := y__law_few_l4) t hp (fi_range1 (by rfl) T0.z_range (fa_cons (fe_callB (cLen t) (by rfl) T0.z_len bt_len (fa_cons (fe_var (i := 1) rfl (.inl rfl)) (fa_nil))) (fa_nil))) (fg_name (i := 3) t rfl (.inl rfl)) (fs_one (fs_for (m := y__law_few_l3) t hp (fi_range2 (by rfl) T0.z_range (fa_cons (fe_var (i := 3) rfl (.inl rfl)) (fa_cons (fe_callB (cLen t) (by rfl) T0.z_len bt_len (fa_cons (fe_var (i := 1) rfl (.inl rfl)) (fa_nil))) (fa_nil)))) (fg_name (i := 4) t rfl (.inl rfl)) (fs_cons (fs_set (i := 5) t rfl (.inl rfl) (fe_int)) (fs_cons (fs_for (m := y__law_few_l2) t hp (fi_enum1 t (by rfl) T0.z_enumerate (fa_cons (fe_var (i := 0) rfl (.inl rfl)) (fa_nil))) (fg_tup t (fgs_cons (fg_name (i := 6) t rfl (.inl rfl)) (fgs_cons (fg_name (i := 7) t rfl (.inl rfl)) (fgs_nil)))) (fs_cons (fs_setLc (i := 8) (own := [("place", 9)]) (L := [9]) (tst := t__law_few_c1) (el := x__law_few_c1) t rfl rfl (sw_true rfl rfl rfl (by decide +kernel)) (fi_seq t (fe_call t hx (kf__law_ways T0) (by decide) (by rfl) (fa_cons (fe_var (i := 1) rfl (.inl rfl)) (fa_cons (fe_var (i := 6) rfl (.inl rfl)) (fa_nil))))) (blkOk_by (by kernel_rfl)) (fun _ _ _ _ _ => fg_name (i := 9) (Ties.blk t) rfl (.inl rfl)) (fun _ _ _ _ _ => ft_one (ft_cmp (opIsn (Ties.blk t)) (fe_var (i := 9) rfl (.inl rfl)) (fe_non) (nomark _))) (fun _ _ _ _ _ => fe_var (i := 9) rfl (.inl rfl))) (fs_one (fs_set (i := 5) t rfl (.inl rfl) (fe_bin (opAdd t) (fe_var (i := 5) rfl (.inl rfl)) (fe_if (ft_w (fw_and (ft_cmp (opLe t) (fe_var (i := 3) rfl (.inl rfl)) (fe_callB (cMinX t) (by rfl) T0.z_min bt_min (fa_cons (fe_var (i := 8) rfl (.inl rfl)) (fa_nil))) (nomark _)) (fw_and1 (ft_cmp (opLe t) (fe_callB (cMaxX t) (by rfl) T0.z_max bt_max (fa_cons (fe_var (i := 8) rfl (.inl rfl)) (fa_nil))) (fe_var (i := 4) rfl (.inl rfl)) (nomark _))))) (fe_var (i := 7) rfl (.inl rfl)) (fe_int))))))) (fs_one (fs_set (i := 2) t rfl (.inl rfl) (fe_callB (cMax2 t) (by rfl) T0.z_max bt_max (fa_cons (fe_var (i := 2) rfl (.inl rfl)) (fa_cons (fe_bin (opSub t) (fe_int) (fe_bin (opDiv t) (fe_bin (opSub t) (fe_int) (fe_var (i := 5) rfl (.inl rfl))) (fe_bin (opAdd t) (fe_bin (opSub t) (fe_var (i := 4) rfl (.inl rfl)) (fe_var (i := 3) rfl (.inl rfl))) (fe_int)))) (fa_nil))))))))))) (fs_one (fs_ret (fe_var (i := 2) rfl (.inl rfl))))))
theorem kf__law_is_cabin_right (T0 : TopF K mg base T) : KF P w K mg base "_law_is_cabin_right" 11 (spH K mg T m__law_is_cabin_right) := by
  obtain ⟨f, fd, Fn, hm, hb⟩ := T0.d__law_is_cabin_right
  exact kf_hand Fn hm hb sc__law_is_cabin_right (by decide) b__law_is_cabin_right (fun cdv A outer s H E C hT t tk hx hp => by
    subst hT
    exact fs_cons (fs_set (i := 3) t rfl (.inl rfl) (fe_call t hx (kf__law_few T0) (by decide) (by rfl) (fa_cons (fe_var (i := 1) rfl (.inl rfl)) (fa_cons (fe_var (i := 2) rfl (.inl rfl)) (fa_nil))))) (fs_cons (fs_if (ft_not (ft_val t (fe_call t hx (kf__law_is T0 8) (by decide) (by rfl) (fa_cons (fe_call t hx (kf_fewest_beats T0) (by decide) (by rfl) (fa_cons (fe_var (i := 1) rfl (.inl rfl)) (fa_cons (fe_var (i := 2) rfl (.inl rfl)) (fa_nil)))) (fa_cons (fe_var (i := 3) rfl (.inl rfl)) (fa_nil)))) (by intro _; rfl))) (fs_one (fs_ret (fe_bl))) (fs_nil)) (fs_cons (fs_for (m := y__law_is_cabin_right_l2) t hp (fi_seq t (fe_tup (fa_cons (fe_var (i := 3) rfl (.inl rfl)) (fa_cons (fe_callB (cMax2 t) (by rfl) T0.z_max bt_max (fa_cons (fe_int) (fa_cons (fe_bin (opSub t) (fe_var (i := 3) rfl (.inl rfl)) (fe_int)) (fa_nil)))) (fa_cons (fe_bin (opAdd t) (fe_var (i := 3) rfl (.inl rfl)) (fe_callH (i := 0) t hx (kf__law_draw T0) (by decide) (by rfl) rfl (.inl rfl) (fa_cons (fe_int) (fa_nil)))) (fa_cons (fe_callH (i := 0) t hx (kf__law_draw T0) (by decide) (by rfl) rfl (.inl rfl) (fa_cons (fe_bin (opAdd t) (fe_var (i := 3) rfl (.inl rfl)) (fe_int)) (fa_nil))) (fa_nil))))))) (fg_name (i := 4) t rfl (.inl rfl)) (fs_cons (fs_par (i := 5) (j := 6) t rfl rfl (by decide) rfl rfl (fa_cons (fe_call t hx (kf__law_shares T0) (by decide) (by rfl) (fa_cons (fe_var (i := 1) rfl (.inl rfl)) (fa_cons (fe_var (i := 2) rfl (.inl rfl)) (fa_cons (fe_var (i := 4) rfl (.inl rfl)) (fa_nil))))) (fa_cons (fe_call t hx (kf__law_bars T0) (by decide) (by rfl) (fa_cons (fe_var (i := 1) rfl (.inl rfl)) (fa_cons (fe_var (i := 2) rfl (.inl rfl)) (fa_cons (fe_var (i := 4) rfl (.inl rfl)) (fa_nil))))) (fa_nil))) (by rfl)) (fs_cons (fs_if (ft_cmp (opEq t) (fe_cmp (opIs t) (fe_var (i := 5) rfl (.inl rfl)) (fe_non) (nomark _)) (fe_cmp (opEq t) (fe_var (i := 6) rfl (.inl rfl)) (fe_lst (fa_nil)) (nomark _)) (nomark _)) (fs_one (fs_ret (fe_bl))) (fs_nil)) (fs_cons (fs_set (i := 7) t rfl (.inl rfl) (fe_if (ft_cmp (opIsn t) (fe_var (i := 5) rfl (.inl rfl)) (fe_non) (nomark _)) (fe_tup (fa_cons (fe_str) (fa_cons (fe_var (i := 5) rfl (.inl rfl)) (fa_nil)))) (fe_bin (opAdd t) (fe_tup (fa_cons (fe_str) (fa_nil))) (fe_ix t (fe_var (i := 6) rfl (.inl rfl)) (fe_int) (fun _ _ => rfl))))) (fs_cons (fs_set (i := 8) t rfl (.inl rfl) (fe_call t hx (kf_sharing_told T0) (by decide) (by rfl) (fa_cons (fe_var (i := 1) rfl (.inl rfl)) (fa_cons (fe_var (i := 2) rfl (.inl rfl)) (fa_cons (fe_var (i := 4) rfl (.inl rfl)) (fa_nil)))))) (fs_cons (fs_if (ft_w (fw_or (ft_not (ft_val t (fe_call t hx (kf__law_is T0 8) (by decide) (by rfl) (fa_cons (fe_var (i := 8) rfl (.inl rfl)) (fa_cons (fe_var (i := 7) rfl (.inl rfl)) (fa_nil)))) (by intro _; rfl))) (fw_or1 (ft_cmp (opNe t) (fe_cmp (opEq t) (fe_ix t (fe_var (i := 7) rfl (.inl rfl)) (fe_int) (fun _ _ => rfl)) (fe_str) (nomark _)) (fe_cmp (opGe t) (fe_var (i := 4) rfl (.inl rfl)) (fe_var (i := 3) rfl (.inl rfl)) (nomark _)) (nomark _))))) (fs_one (fs_ret (fe_bl))) (fs_nil)) (fs_one (fs_for (m := y__law_is_cabin_right_l1) t hp (fi_seq t (fe_callH (i := 0) t hx (kf__law_things T0) (by decide) (by rfl) rfl (.inl rfl) (fa_cons (fe_var (i := 1) rfl (.inl rfl)) (fa_cons (fe_var (i := 2) rfl (.inl rfl)) (fa_cons (fe_var (i := 8) rfl (.inl rfl)) (fa_nil)))))) (fg_name (i := 9) t rfl (.inl rfl)) (fs_one (fs_if (ft_not (ft_val t (fe_call t hx (kf__law_is T0 8) (by decide) (by rfl) (fa_cons (fe_call t hx (kf_is_sharing_told T0) (by decide) (by rfl) (fa_cons (fe_var (i := 1) rfl (.inl rfl)) (fa_cons (fe_var (i := 2) rfl (.inl rfl)) (fa_cons (fe_var (i := 4) rfl (.inl rfl)) (fa_cons (fe_var (i := 9) rfl (.inl rfl)) (fa_nil)))))) (fa_cons (fe_call t hx (kf__law_is_told T0) (by decide) (by rfl) (fa_cons (fe_var (i := 1) rfl (.inl rfl)) (fa_cons (fe_var (i := 2) rfl (.inl rfl)) (fa_cons (fe_var (i := 4) rfl (.inl rfl)) (fa_cons (fe_var (i := 9) rfl (.inl rfl)) (fa_nil)))))) (fa_nil)))) (by intro _; rfl))) (fs_one (fs_ret (fe_bl))) (fs_nil))))))))))) (fs_one (fs_ret (fe_bl))))))
theorem fn_law (T0 : TopF K mg base T) {f : Addr} {fd : FuncData} (Fn : Fun K "law" "law" s_law f fd) {c0 P0 : Addr} (hcd : fd.code = .ref c0) (TB : LamX.TabB base mg c0 P0) (hmT : (P0, ("law" : Str) ++ ".<locals>." ++ "<lambda>") ∈ T) (huT : ∀ p ∈ T, p.1 = P0 → p.2 = ("law" : Str) ++ ".<locals>." ++ "<lambda>") : FnG P w K mg base 13 f fd ["script"] (spLaw K T m_law) :=
  kf_lawL (k := 11) (iH := 1) Fn hcd TB hmT huT sc_law (by rfl) (kf__law_hand T0) (by decide) (by rfl) rfl rfl (.inl rfl) (.inl rfl) (by decide) b_law (fun cdv A outer s H E C hT ca t tk hx hp => by
    subst hT
    exact fs_cons (fs_set (i := 2) t rfl (.inl rfl) (fe_lst (fa_cons (fe_call t hx (kf_sharing_told T0) (by decide) (by rfl) (fa_cons (fe_tup (fa_cons (fe_int) (fa_cons (fe_int) (fa_cons (fe_int) (fa_nil))))) (fa_cons (fe_tup (fa_cons (fe_int) (fa_cons (fe_int) (fa_nil)))) (fa_cons (fe_int) (fa_nil))))) (fa_cons (fe_call t hx (kf_sharing_told T0) (by decide) (by rfl) (fa_cons (fe_tup (fa_cons (fe_int) (fa_cons (fe_int) (fa_cons (fe_int) (fa_nil))))) (fa_cons (fe_tup (fa_cons (fe_int) (fa_cons (fe_int) (fa_nil)))) (fa_cons (fe_int) (fa_nil))))) (fa_cons (fe_call t hx (kf_fewest_beats T0) (by decide) (by rfl) (fa_cons (fe_tup (fa_cons (fe_int) (fa_nil))) (fa_cons (fe_tup (fa_cons (fe_int) (fa_nil))) (fa_nil)))) (fa_nil)))))) (fs_cons (fs_if (ft_not (ft_val t (fe_call t hx (kf__law_is T0 8) (by decide) (by rfl) (fa_cons (fe_var (i := 2) rfl (.inl rfl)) (fa_cons (fe_lst (fa_cons (fe_tup (fa_cons (fe_str) (fa_cons (fe_tup (fa_cons (fe_int) (fa_cons (fe_int) (fa_cons (fe_int) (fa_nil))))) (fa_nil)))) (fa_cons (fe_tup (fa_cons (fe_str) (fa_cons (fe_int) (fa_cons (fe_int) (fa_nil))))) (fa_cons (fe_int) (fa_nil))))) (fa_nil)))) (by intro _; rfl))) (fs_one (fs_ret (fe_bl))) (fs_nil)) (fs_cons (fs_for (m := y_law_l6) t hp (fi_range1 (by rfl) T0.z_range (fa_cons (fe_int) (fa_nil))) (fg_name (i := 3) t rfl (.inl rfl)) (fs_cons (fs_asg (fe_callH (i := 1) t hx (kf__law_cabin T0) (by decide) (by rfl) rfl (.inl rfl) (fa_cons (fe_int) (fa_nil))) (fg_tup t (fgs_cons (fg_name (i := 4) t rfl (.inr rfl)) (fgs_cons (fg_name (i := 5) t rfl (.inr rfl)) (fgs_nil))))) (fs_cons (fs_if (ft_not (ft_val t (fe_callH (i := 1) t hx (kf__law_is_cabin_right T0) (by decide) (by rfl) rfl (.inl rfl) (fa_cons (fe_var (i := 4) rfl (.inr (.inl rfl))) (fa_cons (fe_var (i := 5) rfl (.inr (.inl rfl))) (fa_nil)))) (by intro _; rfl))) (fs_one (fs_ret (fe_bl))) (fs_nil)) (fs_cons (fs_asg (fe_tup (fa_cons (fe_callH (i := 1) t hx (kf__law_no_rows T0) (by decide) (by rfl) rfl (.inl rfl) (fa_nil)) (fa_cons (fe_callH (i := 1) t hx (kf__law_no_doors T0) (by decide) (by rfl) rfl (.inl rfl) (fa_cons (fe_var (i := 4) rfl (.inr (.inl rfl))) (fa_nil))) (fa_cons (fe_callH (i := 1) t hx (kf__law_some T0) (by decide) (by rfl) rfl (.inl rfl) (fa_cons (fe_lst (fa_cons (fe_un (unNeg t) (fe_int)) (fa_cons (fe_int) (fa_cons (fe_non) (fa_cons (fe_bl) (fa_cons (fe_str) (fa_nil))))))) (fa_nil))) (fa_nil))))) (fg_tup t (fgs_cons (fg_name (i := 6) t rfl (.inr rfl)) (fgs_cons (fg_name (i := 7) t rfl (.inr rfl)) (fgs_cons (fg_name (i := 8) t rfl (.inr rfl)) (fgs_nil)))))) (fs_cons (fs_setN (i := 9) t rfl (.inl rfl) (fn_lst (fa_cons ((let ⟨_, _, wd, hk, hT2⟩ := wd__law_word T0; fe_word0 t wd (.inl rfl) hT2 hk rfl ca (lamN_by (by kernel_rfl)) rfl (fun _ _ _ _ _ _ => rfl) (fun _ _ _ _ _ _ _ t hx => (fe_call t hx (kf_fewest_beats T0) (by decide) (by rfl) (fa_cons (fe_var (i := 6) rfl (.inr (.inr rfl))) (fa_cons (fe_var (i := 7) rfl (.inr (.inr rfl))) (fa_nil))) : FE _ C _ _ l_law_w1)))) (fa_nil)))) (fs_cons (fs_app (i := 9) t rfl (.inl rfl) ((let ⟨_, _, wd, hk, hT2⟩ := wd__law_word T0; fe_word0 t wd (.inl rfl) hT2 hk rfl ca (lamN_by (by kernel_rfl)) rfl (fun _ _ _ _ _ _ => rfl) (fun _ _ _ _ _ _ _ t hx => (fe_call t hx (kf_fewest_beats T0) (by decide) (by rfl) (fa_cons (fe_var (i := 4) rfl (.inr (.inr rfl))) (fa_cons (fe_var (i := 7) rfl (.inr (.inr rfl))) (fa_nil))) : FE _ C _ _ l_law_w2))))) (fs_cons (fs_app (i := 9) t rfl (.inl rfl) ((let ⟨_, _, wd, hk, hT2⟩ := wd__law_word T0; fe_word0 t wd (.inl rfl) hT2 hk rfl ca (lamN_by (by kernel_rfl)) rfl (fun _ _ _ _ _ _ => rfl) (fun _ _ _ _ _ _ _ t hx => (fe_call t hx (kf_sharing_told T0) (by decide) (by rfl) (fa_cons (fe_var (i := 4) rfl (.inr (.inr rfl))) (fa_cons (fe_var (i := 7) rfl (.inr (.inr rfl))) (fa_cons (fe_var (i := 8) rfl (.inr (.inr rfl))) (fa_nil)))) : FE _ C _ _ l_law_w3))))) (fs_cons (fs_app (i := 9) t rfl (.inl rfl) ((let ⟨_, _, wd, hk, hT2⟩ := wd__law_word T0; fe_word0 t wd (.inl rfl) hT2 hk rfl ca (lamN_by (by kernel_rfl)) rfl (fun _ _ _ _ _ _ => rfl) (fun _ _ _ _ _ _ _ t hx => (fe_call t hx (kf_sharing_told T0) (by decide) (by rfl) (fa_cons (fe_var (i := 4) rfl (.inr (.inr rfl))) (fa_cons (fe_var (i := 5) rfl (.inr (.inr rfl))) (fa_cons (fe_var (i := 8) rfl (.inr (.inr rfl))) (fa_nil)))) : FE _ C _ _ l_law_w4))))) (fs_cons (fs_app (i := 9) t rfl (.inl rfl) ((let ⟨_, _, wd, hk, hT2⟩ := wd__law_word T0; fe_word0 t wd (.inl rfl) hT2 hk rfl ca (lamN_by (by kernel_rfl)) rfl (fun _ _ _ _ _ _ => rfl) (fun _ _ _ _ _ _ _ t hx => (fe_call t hx (kf_is_sharing_told T0) (by decide) (by rfl) (fa_cons (fe_var (i := 4) rfl (.inr (.inr rfl))) (fa_cons (fe_var (i := 5) rfl (.inr (.inr rfl))) (fa_cons (fe_var (i := 8) rfl (.inr (.inr rfl))) (fa_cons (fe_non) (fa_nil))))) : FE _ C _ _ l_law_w5))))) (fss_frz (i := 9) (fs_one (fs_if (ft_cmp (opNe t) (fe_var (i := 9) rfl (.inl rfl)) (fe_lst (fa_cons (fe_str) (fa_cons (fe_str) (fa_cons (fe_str) (fa_cons (fe_str) (fa_cons (fe_str) (fa_nil))))))) (nomark _)) (fs_one (fs_ret (fe_bl))) (fs_nil))))))))))))) (fs_one (fs_ret (fe_bl))))))
end
end K82

set_option Elab.async false
set_option linter.all false
set_option maxRecDepth 100000
set_option maxHeartbeats 4000000
namespace K82
open PySem PySem.Spec PyProof.Rows L2 DL
def WF (g : G) : Prop := 0 ≤ g.i
theorem draw_ok {g : G} (w : WF g) {s : Int} (h : 0 < s) (h2 : s < 2 ^ 63) : Ok (m__law_draw [.int s] g) fun d g' => WF g' ∧ ∃ v : Int, d = .int v ∧ 0 ≤ v ∧ v < s := by
  have hs : s ≠ 0 := by omega
  have hs2 : s.natAbs < 18446744073709551616 := by omega
  have f1 := fun a : Int => Int.fmod_nonneg_of_pos a h
  have f2 := fun a : Int => Int.fmod_lt_of_pos a h
  have k1 : smallI 7919 = true := rfl
  have k2 : smallI 48271 = true := rfl
  have k3 : smallI 69621 = true := rfl
  have k4 : smallI 40692 = true := rfl
  have w1 : 0 ≤ g.i := w
  have w2 : 0 ≤ g.i + 1 := by omega
  refine ok_runH rfl ?_
  unfold b__law_draw
  by_cases hi : g.i < (g.cells.length : Int)
  · obtain ⟨c, hc⟩ := atI_ints w hi
    simp [handD, handPut, hs, hs2, hc, sm_1, sm_2, k1, k2, k3, k4, f1, f2, WF, w1, w2]
  · simp [handD, handPut, hs, hs2, hi, sm_1, sm_2, k1, k2, k3, k4, f1, f2, WF, w1]
theorem some_ok {g : G} (w : WF g) {xs : List D} (h : xs ≠ []) (h2 : xs.length < 1000) : Ok (m__law_some [.list xs] g) fun d g' => WF g' ∧ d ∈ xs := by
  have hp : 0 < xs.length := List.length_pos_iff.mpr h
  refine ok_runH rfl ?_
  unfold b__law_some
  simp
  refine Ok.mono (draw_ok w (by omega) (by omega)) fun d g' ⟨w', v, e, h3, h4⟩ => ?_
  subst e
  obtain ⟨d, e1, e2⟩ := atI_mem h3 h4
  simp [e1, w', e2]
/-! the checks -/
def withins (d : D) (a b : Int) : Bool := match d with
  | .tuple ds => ds.all fun d => inRg d a b
  | _ => false
theorem integer_eq (d : D) : m_is_integer [d] = .ok (.bool (isIntD d && !isBoolD d)) := by
  refine ok_runP rfl ?_
  unfold b_is_integer
  cases d <;> simp [isIntD, isBoolD]
theorem within_eq (d : D) (a b : Int) : m_is_within [d, .int a, .int b] = .ok (.bool (inRg d a b)) := by
  refine ok_runP rfl ?_
  unfold b_is_within
  cases d with
  | int x =>
    simp [integer_eq, isIntD, isBoolD]
    by_cases h : a ≤ x <;> simp [h]
  | _ => simp [integer_eq, isIntD, isBoolD, inRg]
def smallT (d : D) : Prop := match d with
  | .tuple ds => ds.length < 1000000
  | _ => True
theorem withins_eq (d : D) (a b : Int) (h : smallT d) : m_are_within [d, .int a, .int b] = .ok (.bool (withins d a b)) := by
  refine ok_runP rfl ?_
  unfold b_are_within
  cases d with
  | tuple ds =>
    have hz : ds.length < sizeLine := sl_lt (Nat.le_of_lt h)
    simp [isTupD, kLc, hz]
    rw [lc_map fun d => .bool (inRg d a b)]
    · have e := allF_map (fun d => inRg d a b) ds
      simp [e, withins]
    · intro d hd
      refine ⟨_, rfl, eqE_of ?_⟩
      unfold x_are_within_c1
      simp [within_eq]
  | _ => simp [isTupD, withins]
def lenIs (d : D) (n : Int) : Bool := match d with
  | .tuple ds => decide ((ds.length : Int) = n)
  | _ => false
theorem tuple_of_eq (d : D) (n : Int) : m_is_tuple_of [d, .int n] = .ok (.bool (lenIs d n)) := by
  refine ok_runP rfl ?_
  unfold b_is_tuple_of
  cases d <;> simp [isTupD, lenIs]
theorem deep_ok {g : G} (w : WF g) : Ok (m__law_deep [] g) fun d g' => WF g' ∧ smallT d ∧ ∀ a b, withins d a b = false := by
  refine ok_runH rfl ?_
  unfold b__law_deep
  simp
  refine Ok.mono (draw_ok w (by decide) (by decide)) fun d2 g2 ⟨w2, v, e, h3, h4⟩ => ?_
  subst e
  have ok1 : okR v = true := by
    rw [okR_iff]; omega
  simp [ok1]
  refine Ok.mono (for_inv (fun env g => WF g ∧ ∃ d x, env = [.hand, .dat d, x] ∧ smallT d ∧ ∀ a b, withins d a b = false) ⟨w2, _, .un, rfl, trivial, fun _ _ => rfl⟩ ?_) fun r g3 ⟨e1, w3, d3, x, e2, hd3⟩ => ?_
  · rintro dd hdd env g ⟨wg, d3, x, rfl, hd3⟩
    refine ⟨_, rfl, ?_⟩
    unfold y__law_deep_l1
    simp
    refine Ok.mono (draw_ok wg (by decide) (by decide)) fun d4 g4 ⟨w4, v4, e4, h5, h6⟩ => ?_
    subst e4
    simp
    split
    · exact ⟨w4, by simp [smallT], fun _ _ => by simp [withins, inRg]⟩
    · exact ⟨w4, trivial, fun _ _ => rfl⟩
  · obtain ⟨fl, env⟩ := r
    cases e1
    cases e2
    simp [w3, hd3]
/-! good ones -/
structure Good (rows doors : List Int) : Prop where
  n1 : 1 ≤ rows.length
  n2 : rows.length ≤ 9
  rr : ∀ r ∈ rows, 0 ≤ r ∧ r ≤ 60
  d1 : doors ≠ []
  dd : ∀ d ∈ doors, 0 ≤ d ∧ d < rows.length
  up : doors.Pairwise (· < ·)
theorem Good.dl {rows doors : List Int} (h : Good rows doors) : doors.length ≤ 9 := by
  have key : ∀ (n : Nat) (ds : List Int) (lo : Int), ds.Pairwise (· < ·) → (∀ d ∈ ds, lo ≤ d ∧ d < lo + n) → ds.length ≤ n := by
    intro n
    induction n with
    | zero =>
      intro ds lo _ h
      cases ds with
      | nil => simp
      | cons d ds => have := h d List.mem_cons_self; omega
    | succ n ih =>
      intro ds lo hp h
      cases ds with
      | nil => simp
      | cons d ds =>
        rw [List.pairwise_cons] at hp
        have := ih ds (lo + 1) hp.2 fun e he => by
          have h1 := hp.1 e he
          have h2 := h d List.mem_cons_self
          have h3 := h e (List.mem_cons_of_mem _ he)
          omega
        simp
        omega
  have := key rows.length doors 0 h.up fun d hd => by have := h.dd d hd; omega
  have := h.n2
  omega
theorem withins_IL {xs : List Int} {a b : Int} (h : ∀ x ∈ xs, a ≤ x ∧ x ≤ b) : withins (tuI xs) a b = true := by
  show (IL xs).all _ = true
  rw [List.all_eq_true]
  intro d hd
  obtain ⟨x, rfl, hx⟩ := mem_IL hd
  have := h x hx
  simp [this.1, this.2]
theorem withins_int {d : D} {a b : Int} (h : withins d a b = true) : ∃ xs : List Int, d = tuI xs ∧ ∀ x ∈ xs, a ≤ x ∧ x ≤ b := by
  cases d with
  | tuple ds =>
    have h : ds.all _ = true := h
    rw [List.all_eq_true] at h
    obtain ⟨xs, rfl⟩ := ints_of (ds := ds) fun d hd => by
      obtain ⟨x, e, _⟩ := inRg_ex (h d hd)
      exact ⟨x, e⟩
    refine ⟨xs, rfl, fun x hx => ?_⟩
    have := h (.int x) (IL_mem hx)
    simpa using this
  | _ => cases h
theorem asc_all {xs : List Int} : xs.Pairwise (· < ·) → (List.zipWith (fun a b : Int => decide (a < b)) xs (xs.drop 1)).all id = true := by
  induction xs with
  | nil => intro _; rfl
  | cons x xs ih =>
    intro h
    rw [List.pairwise_cons] at h
    cases xs with
    | nil => rfl
    | cons y ys =>
      have := ih h.2
      simp at this ⊢
      exact ⟨h.1 y List.mem_cons_self, this⟩
def ascD (d : D) : D := match d with
  | .tuple [.int a, .int b] => .bool (decide (a < b))
  | _ => .none
theorem zipD_IL (xs ys : List Int) : (zipD (IL xs) (IL ys)).map ascD = (List.zipWith (fun a b : Int => decide (a < b)) xs ys).map PyData.bool := by
  unfold zipD IL
  rw [List.zipWith_map, List.map_zipWith, List.map_zipWith]
  rfl
theorem cut1 (xs : List Int) : cut (IL xs) (some 1) none = IL (xs.drop 1) := by
  unfold cut IL
  cases xs with
  | nil => rfl
  | cons x xs =>
    simp [HT.sIx]
    apply List.take_of_length_le
    simp
theorem lot_good {doors : List Int} {n : Int} (hl : doors.length < 1000) (h : ∀ d ∈ doors, 0 ≤ d ∧ d < n) (hp : doors.Pairwise (· < ·)) : m_is_lot [tuI doors, .int n] = .ok (.bool true) := by
  have hw := withins_IL (xs := doors) (a := 0) (b := n - 1) fun x hx => by have := h x hx; omega
  have hs : smallT (tuI doors) := by show (IL doors).length < 1000000; rw [IL_length]; omega
  refine ok_runP rfl ?_
  unfold b_is_lot
  have hz : (zipD (IL doors) (IL (doors.drop 1))).length < sizeLine := by
    apply sl_lt
    simp [zipD]
    omega
  have lc : lcGo (bTup 2 (bCons (bName 2) (bCons (bName 3) bNil))) bYes x_is_lot_c1 [.dat (tuI doors), .dat (.int n), .un, .un] (zipD (IL doors) (IL (doors.drop 1))) gZ = .ok ((zipD (IL doors) (IL (doors.drop 1))).map ascD) gZ := by
    refine lc_map ascD fun d hd => ?_
    unfold zipD IL at hd
    rw [List.zipWith_map] at hd
    obtain ⟨i, hi, rfl⟩ := List.mem_iff_getElem.mp hd
    rw [List.getElem_zipWith]
    refine ⟨_, rfl, eqE_of ?_⟩
    unfold x_is_lot_c1
    simp [ascD]
  rw [zipD_IL] at lc
  have e := allBools_map (List.zipWith (fun a b : Int => decide (a < b)) doors (doors.drop 1))
  have := asc_all hp
  simp [withins_eq _ _ _ hs, hw, cut1, kLc]
  simp at hz lc e this
  simp [hz, lc, allF, e, this]
theorem both_good {rows doors : List Int} (h : Good rows doors) : m_check_both [tuI rows, tuI doors] = .ok .none := by
  have hs : smallT (tuI rows) := by have := h.n2; show (IL rows).length < 1000000; rw [IL_length]; omega
  have hw := withins_IL (xs := rows) (a := 0) (b := 60) h.rr
  have hl := lot_good (n := (rows.length : Int)) (by have := h.dl; omega) h.dd h.up
  have n1 : (1 : Int) ≤ (rows.length : Int) := by have := h.n1; omega
  have n2 : (rows.length : Int) ≤ 30 := by have := h.n2; omega
  have n3 : ¬ doors.length = 0 := by have := List.length_pos_iff.mpr h.d1; omega
  refine ok_runP rfl ?_
  unfold b_check_both
  simp [withins_eq _ _ _ hs, hw, n1, n2, hl]
  simp [h.d1]
def rowsOk (d : D) : Bool := withins d 0 60 && (match d with
  | .tuple ds => decide (1 ≤ ds.length) && decide (ds.length ≤ 30)
  | _ => false)
theorem both_bad1 {r d : D} (hs : smallT r) (h : rowsOk r = false) : m_check_both [r, d] = .err "NoRows" := by
  unfold m_check_both b_check_both
  cases h1 : withins r 0 60 with
  | false => simp [sSeq, sIf, bOr, bNot, eTru, eFn, eCons, eVar, eNil, eC, withins_eq _ _ _ hs, h1, truD, Out.bind, Out.of, sRaise]
  | true =>
    unfold rowsOk at h
    rw [h1, Bool.true_and] at h
    obtain ⟨xs, rfl, _⟩ := withins_int h1
    simp at h
    by_cases q : 1 ≤ xs.length
    · have h := h q
      have q1 : (1 : Int) ≤ (xs.length : Int) := by omega
      have q2 : ¬ (xs.length : Int) ≤ 30 := by omega
      simp [sSeq, sIf, bOr, bNot, eTru, eFn, eCons, eVar, eNil, eC, withins_eq _ _ _ hs, h1, truD, Out.bind, Out.of, sRaise, eAsB, eChain, eCall, q1, q2]
    · have q1 : ¬ (1 : Int) ≤ (xs.length : Int) := by omega
      simp [sSeq, sIf, bOr, bNot, eTru, eFn, eCons, eVar, eNil, eC, withins_eq _ _ _ hs, h1, truD, Out.bind, Out.of, sRaise, eAsB, eChain, eCall, q1]
def bkI (doors : List Int) (r : Int) : List Int := ((enumI doors).filter fun p => decide (p.2 ≤ r)).map (·.1)
def fwI (doors : List Int) (r : Int) : List Int := ((enumI doors).filter fun p => decide (r ≤ p.2)).map (·.1)
def backI (doors : List Int) (r : Int) : Option Int := (bkI doors r).getLast?
def forthI (doors : List Int) (r : Int) : Option Int := (fwI doors r).head?
def oD : Option Int → D
  | none => .none
  | some i => .int i
@[simp] theorem oD_none : oD none = .none := rfl
@[simp] theorem oD_some (i : Int) : oD (some i) = .int i := rfl
theorem atI_lastI (x : Int) (t : List Int) : atI (IL (x :: t)) (-1) = some (oD ((x :: t).getLast?)) := by
  have h : IL (x :: t) ≠ [] := by simp [IL]
  have e : (x :: t).getLast? = some ((x :: t).getLast (by simp)) := List.getLast?_eq_some_getLast (by simp)
  have e2 : (IL (x :: t)).getLast? = (x :: t).getLast?.map PyData.int := List.getLast?_map ..
  rw [e] at e2
  rw [atI_last h, ← List.getLast?_eq_some_getLast h, e2, e]
  rfl
theorem atI_headI (x : Int) (t : List Int) : atI (IL (x :: t)) 0 = some (oD ((x :: t).head?)) := atI_head _ _
theorem bk_mem {doors : List Int} {r i : Int} (h : i ∈ bkI doors r) : 0 ≤ i ∧ i < doors.length ∧ getI doors i ≤ r := by
  obtain ⟨p, hp, rfl⟩ := List.mem_map.mp h
  rw [List.mem_filter, decide_eq_true_eq] at hp
  obtain ⟨a, b, c, _⟩ := mem_enumI hp.1
  exact ⟨a, b, by rw [← c]; exact hp.2⟩
theorem fw_mem {doors : List Int} {r i : Int} (h : i ∈ fwI doors r) : 0 ≤ i ∧ i < doors.length ∧ r ≤ getI doors i := by
  obtain ⟨p, hp, rfl⟩ := List.mem_map.mp h
  rw [List.mem_filter, decide_eq_true_eq] at hp
  obtain ⟨a, b, c, _⟩ := mem_enumI hp.1
  exact ⟨a, b, by rw [← c]; exact hp.2⟩
theorem back_some {doors : List Int} {r i : Int} (h : backI doors r = some i) : 0 ≤ i ∧ i < doors.length ∧ getI doors i ≤ r := bk_mem (List.mem_of_getLast? h)
theorem forth_some {doors : List Int} {r i : Int} (h : forthI doors r = some i) : 0 ≤ i ∧ i < doors.length ∧ r ≤ getI doors i := fw_mem (List.mem_of_mem_head? h)
theorem not_both {doors : List Int} {r : Int} (h : doors ≠ []) (h1 : backI doors r = none) (h2 : forthI doors r = none) : False := by
  unfold backI at h1
  unfold forthI at h2
  rw [List.getLast?_eq_none_iff] at h1
  rw [List.head?_eq_none_iff] at h2
  have hl := List.length_pos_iff.mpr h
  have m := enumI_mem (xs := doors) (j := 0) (by omega) (by omega)
  by_cases q : getI doors 0 ≤ r
  · have : (0 : Int) ∈ bkI doors r := List.mem_map.mpr ⟨_, List.mem_filter.mpr ⟨m, by simpa using q⟩, rfl⟩
    rw [h1] at this; cases this
  · have : (0 : Int) ∈ fwI doors r := List.mem_map.mpr ⟨_, List.mem_filter.mpr ⟨m, by simp; omega⟩, rfl⟩
    rw [h2] at this; cases this
theorem bk_len (doors : List Int) (r : Int) : (bkI doors r).length ≤ doors.length := by
  unfold bkI
  rw [List.length_map, ← enumI_length doors]
  exact List.length_filter_le ..
theorem ends_eq {doors : List Int} (r : Int) (hl : doors.length < 1000) : m_ends_of [tuI doors, .int r] = .ok (.tuple [oD (backI doors r), oD (forthI doors r)]) := by
  have hz : (enumI doors).length < sizeLine := by rw [enumI_length]; exact sl_lt (by omega)
  have lc1 : ∀ x3 : Sl, lcGo (bTup 2 (bCons (bName 4) (bCons (bName 5) bNil))) t_ends_of_c1 x_ends_of_c1 [.dat (tuI doors), .dat (.int r), .un, x3, .un, .un] ((enumI doors).map encP) gZ = .ok (IL (bkI doors r)) gZ := fun x3 => by
    rw [lc_enc encP (fun p => decide (p.2 ≤ r)) (fun p => .int p.1)]
    · unfold bkI IL
      rw [List.map_map]; rfl
    · intro p hp
      refine ⟨_, rfl, eqB_of ?_, fun _ => eqE_of ?_⟩
      · unfold t_ends_of_c1; simp
      · unfold x_ends_of_c1; simp
  have lc2 : ∀ x3 : Sl, lcGo (bTup 2 (bCons (bName 4) (bCons (bName 5) bNil))) t_ends_of_c2 x_ends_of_c2 [.dat (tuI doors), .dat (.int r), x3, .un, .un, .un] ((enumI doors).map encP) gZ = .ok (IL (fwI doors r)) gZ := fun x3 => by
    rw [lc_enc encP (fun p => decide (r ≤ p.2)) (fun p => .int p.1)]
    · unfold fwI IL
      rw [List.map_map]; rfl
    · intro p hp
      refine ⟨_, rfl, eqB_of ?_, fun _ => eqE_of ?_⟩
      · unfold t_ends_of_c2; simp
      · unfold x_ends_of_c2; simp
  refine ok_runP rfl ?_
  unfold b_ends_of
  simp [kLc, rngE_IL, hz, lc1, lc2]
  unfold backI forthI
  cases h1 : bkI doors r with
  | nil =>
    cases h2 : fwI doors r with
    | nil => simp
    | cons y u =>
      have z : (0 : Int) < (u.length : Int) + 1 := by omega
      simp [z, atI_headI]
  | cons x t =>
    have z : (0 : Int) < (t.length : Int) + 1 := by omega
    have al := atI_lastI x t
    cases h2 : fwI doors r with
    | nil =>
      simp [z, al]
    | cons y u =>
      have z2 : (0 : Int) < (u.length : Int) + 1 := by omega
      simp [z, z2, al, atI_headI]
theorem ways_eq {doors : List Int} (r : Int) (hl : doors.length < 1000) : m__law_ways [tuI doors, .int r] = .ok (.tuple [oD (backI doors r), oD (forthI doors r)]) := by
  have hz : (enumI doors).length < sizeLine := by rw [enumI_length]; exact sl_lt (by omega)
  have lc1 : ∀ x3 : Sl, lcGo (bTup 2 (bCons (bName 4) (bCons (bName 5) bNil))) t__law_ways_c1 x__law_ways_c1 [.dat (tuI doors), .dat (.int r), .un, x3, .un, .un] ((enumI doors).map encP) gZ = .ok (IL (bkI doors r)) gZ := fun x3 => by
    rw [lc_enc encP (fun p => decide (p.2 ≤ r)) (fun p => .int p.1)]
    · unfold bkI IL
      rw [List.map_map]; rfl
    · intro p hp
      refine ⟨_, rfl, eqB_of ?_, fun _ => eqE_of ?_⟩
      · unfold t__law_ways_c1; simp
      · unfold x__law_ways_c1; simp
  have lc2 : ∀ x3 : Sl, lcGo (bTup 2 (bCons (bName 4) (bCons (bName 5) bNil))) t__law_ways_c2 x__law_ways_c2 [.dat (tuI doors), .dat (.int r), x3, .un, .un, .un] ((enumI doors).map encP) gZ = .ok (IL (fwI doors r)) gZ := fun x3 => by
    rw [lc_enc encP (fun p => decide (r ≤ p.2)) (fun p => .int p.1)]
    · unfold fwI IL
      rw [List.map_map]; rfl
    · intro p hp
      refine ⟨_, rfl, eqB_of ?_, fun _ => eqE_of ?_⟩
      · unfold t__law_ways_c2; simp
      · unfold x__law_ways_c2; simp
  have n1 : ∀ (x : Int) (xs : List Int), neD (.list (IL (x :: xs))) (.list []) = some (.bool true) := fun x xs => neD_nil_l ((kb_list (p := 0) (kb_IL (x :: xs))).ok)
  have n0 : neD (.list []) (.list []) = some (.bool false) := rfl
  refine ok_runP rfl ?_
  unfold b__law_ways
  simp [kLc, rngE_IL, hz, lc1, lc2]
  unfold backI forthI
  cases h1 : bkI doors r with
  | nil =>
    cases h2 : fwI doors r with
    | nil => simp [n0]
    | cons y u =>
      simp [atI_headI, n0, n1]
  | cons x t =>
    have al := atI_lastI x t
    cases h2 : fwI doors r with
    | nil =>
      simp [al, n0, n1]
    | cons y u =>
      simp [al, atI_headI, n1]
/-! the beats -/
def inO (f l : Int) : Option Int → Bool
  | none => true
  | some i => decide (f ≤ i) && decide (i ≤ l)
def inB (doors : List Int) (f l r : Int) : Bool := inO f l (backI doors r) && inO f l (forthI doors r)
def stepA (doors : List Int) (f l : Int) (a : Int) (p : Int × Int) : Int := a + if inB doors f l p.1 = true then p.2 else 0
def aloneI (rows doors : List Int) (f l : Int) : Int := (enumI rows).foldl (stepA doors f l) 0

def inDD (f l : Int) (d : D) : Bool := match d with
  | .none => true
  | .int i => decide (f ≤ i) && decide (i ≤ l)
  | _ => false
theorem inDD_oD (f l : Int) (o : Option Int) : inDD f l (oD o) = inO f l o := by cases o <;> rfl
theorem alone_eq {rows doors : List Int} (f l : Int) (hr : rows.length < 1000) (hl : doors.length < 1000) : m_alone_to [tuI rows, tuI doors, .int f, .int l] = .ok (.int (aloneI rows doors f l)) := by
  refine ok_runP rfl ?_
  unfold b_alone_to
  simp [kFor, rngE_IL]
  refine Ok.mono (for_st (fun a env => ∃ x y z, env = [.dat (tuI rows), .dat (tuI doors), .dat (.int f), .dat (.int l), .dat (.int a), x, y, z]) encP (stepA doors f l) ⟨.un, .un, .un, rfl⟩ ?_) fun r g2 ⟨r1, r2, x, y, z, r3⟩ => ?_
  · rintro p hp a env ⟨x, y, z, rfl⟩
    refine ⟨_, rfl, ?_⟩
    unfold y_alone_to_l2
    have lc : ∀ z : Sl, lcGo (bName 7) bYes x_alone_to_c1 [.dat (tuI rows), .dat (tuI doors), .dat (.int f), .dat (.int l), .dat (.int a), .dat (.int p.1), .dat (.int p.2), z] [oD (backI doors p.1), oD (forthI doors p.1)] gZ = .ok ([oD (backI doors p.1), oD (forthI doors p.1)].map fun d => .bool (inDD f l d)) gZ := fun z => by
      refine lc_map (fun d => .bool (inDD f l d)) fun d hd => ?_
      refine ⟨_, rfl, eqE_of ?_⟩
      unfold x_alone_to_c1
      have : ∃ o, d = oD o := by
        rcases List.mem_cons.mp hd with rfl | hd
        · exact ⟨_, rfl⟩
        · rcases List.mem_cons.mp hd with rfl | hd
          · exact ⟨_, rfl⟩
          · cases hd
      obtain ⟨o, rfl⟩ := this
      cases o with
      | none => simp [inDD, isNoneD]
      | some i =>
        by_cases h : f ≤ i <;> simp [inDD, isNoneD, h]
    simp at lc
    simp [ends_eq _ hl, kLc, lc, allF_2, inDD_oD]
    cases h1 : inO f l (backI doors p.1) <;> cases h2 : inO f l (forthI doors p.1) <;> simp [stepA, inB, h1, h2]
  · obtain ⟨fl, env⟩ := r
    cases r1
    cases r3
    simp [aloneI]
def stepB (rows doors : List Int) (f : Int) (m l : Int) : Int := if -((-(aloneI rows doors f l)).fdiv (l - f + 1)) > m then -((-(aloneI rows doors f l)).fdiv (l - f + 1)) else m
def rowB (rows doors : List Int) (m f : Int) : Int := (irng f ((doors.length : Int) - f).toNat).foldl (stepB rows doors f) m
def beatsI (rows doors : List Int) : Int := (irng 0 doors.length).foldl (rowB rows doors) 0
theorem beats_eq {rows doors : List Int} (hr : rows.length < 1000) (hl : doors.length < 1000) : m_raw_beats [tuI rows, tuI doors] = .ok (.int (beatsI rows doors)) := by
  refine ok_runP rfl ?_
  unfold b_raw_beats
  have ok1 : okR (doors.length : Int) = true := by rw [okR_iff]; omega
  simp [kFor, ok1, rng_irng]
  refine Ok.mono (for_st (fun m env => ∃ x y, env = [.dat (tuI rows), .dat (tuI doors), .dat (.int m), x, y]) PyData.int (rowB rows doors) ⟨.un, .un, rfl⟩ ?_) fun r g2 ⟨r1, r2, x, y, r3⟩ => ?_
  · rintro f hf m env ⟨x, y, rfl⟩
    rw [mem_irng] at hf
    refine ⟨_, rfl, ?_⟩
    unfold y_raw_beats_l2
    have ok2 : okR f = true := by rw [okR_iff]; omega
    simp [kFor, ok1, ok2, rng_irng]
    refine Ok.mono (for_st (fun m env => ∃ y, env = [.dat (tuI rows), .dat (tuI doors), .dat (.int m), .dat (.int f), y]) PyData.int (stepB rows doors f) ⟨_, rfl⟩ ?_) fun r g2 ⟨r1, r2, y, r3⟩ => ?_
    · rintro l hl2 m env ⟨y, rfl⟩
      rw [mem_irng] at hl2
      refine ⟨_, rfl, ?_⟩
      unfold y_raw_beats_l1
      have z1 : l - f + 1 ≠ 0 := by omega
      have z2 : (l - f + 1).natAbs < 18446744073709551616 := by omega
      simp [alone_eq f l hr hl, z1, z2, stepB]
    · obtain ⟨fl, env⟩ := r
      cases r1
      cases r3
      simp [r2, rowB]
  · obtain ⟨fl, env⟩ := r
    cases r1
    cases r3
    simp [beatsI]
theorem few_test {f l : Int} {a b : Option Int} (h : ¬ (a = none ∧ b = none)) : ∃ mn mx : Int, minXF [.list ([oD a, oD b].filter fun d => !isNoneD d)] = some (.int mn) ∧ maxXF [.list ([oD a, oD b].filter fun d => !isNoneD d)] = some (.int mx) ∧ ((f ≤ mn ∧ mx ≤ l) ↔ (inO f l a && inO f l b) = true) := by
  cases a with
  | none =>
    cases b with
    | none => exact (h ⟨rfl, rfl⟩).elim
    | some j =>
      obtain ⟨m, e1, m1, m2⟩ := minX_ints j []
      obtain ⟨m', e1', m1', m2'⟩ := maxX_ints j []
      refine ⟨m, m', e1, e1', ?_⟩
      simp at m1 m1'
      subst m1 m1'
      simp [inO]
  | some i =>
    cases b with
    | none =>
      obtain ⟨m, e1, m1, m2⟩ := minX_ints i []
      obtain ⟨m', e1', m1', m2'⟩ := maxX_ints i []
      refine ⟨m, m', e1, e1', ?_⟩
      simp at m1 m1'
      subst m1 m1'
      simp [inO]
    | some j =>
      obtain ⟨m, e1, m1, m2⟩ := minX_ints i [j]
      obtain ⟨m', e1', m1', m2'⟩ := maxX_ints i [j]
      refine ⟨m, m', e1, e1', ?_⟩
      simp at m1 m1' m2 m2'
      simp [inO]
      omega
theorem few_eq {rows doors : List Int} (hr : rows.length < 1000) (hl : doors.length < 1000) (hd : doors ≠ []) : m__law_few [tuI rows, tuI doors] = .ok (.int (beatsI rows doors)) := by
  refine ok_runP rfl ?_
  unfold b__law_few
  have ok1 : okR (doors.length : Int) = true := by rw [okR_iff]; omega
  simp [kFor, ok1, rng_irng]
  refine Ok.mono (for_st (fun m env => ∃ x3 x4 x5 x6 x7 x8 x9, env = [.dat (tuI rows), .dat (tuI doors), .dat (.int m), x3, x4, x5, x6, x7, x8, x9]) PyData.int (rowB rows doors) ⟨.un, .un, .un, .un, .un, .un, .un, rfl⟩ ?_) fun r g2 ⟨r1, r2, x3, x4, x5, x6, x7, x8, x9, r3⟩ => ?_
  · rintro f hf m env ⟨x3, x4, x5, x6, x7, x8, x9, rfl⟩
    rw [mem_irng] at hf
    refine ⟨_, rfl, ?_⟩
    unfold y__law_few_l4
    have ok2 : okR f = true := by rw [okR_iff]; omega
    simp [kFor, ok1, ok2, rng_irng]
    refine Ok.mono (for_st (fun m env => ∃ x4 x5 x6 x7 x8 x9, env = [.dat (tuI rows), .dat (tuI doors), .dat (.int m), .dat (.int f), x4, x5, x6, x7, x8, x9]) PyData.int (stepB rows doors f) ⟨_, _, _, _, _, _, rfl⟩ ?_) fun r g2 ⟨r1, r2, x4, x5, x6, x7, x8, x9, r3⟩ => ?_
    · rintro l hl2 m env ⟨x4, x5, x6, x7, x8, x9, rfl⟩
      rw [mem_irng] at hl2
      refine ⟨_, rfl, ?_⟩
      unfold y__law_few_l3
      have z1 : l - f + 1 ≠ 0 := by omega
      have z2 : (l - f + 1).natAbs < 18446744073709551616 := by omega
      simp [kFor, rngE_IL]
      refine Ok.mono (for_st (fun a env => ∃ x6 x7 x8 x9, env = [.dat (tuI rows), .dat (tuI doors), .dat (.int m), .dat (.int f), .dat (.int l), .dat (.int a), x6, x7, x8, x9]) encP (stepA doors f l) ⟨_, _, _, _, rfl⟩ ?_) fun r g2 ⟨r1, r2, x6, x7, x8, x9, r3⟩ => ?_
      · rintro p hp a env ⟨x6, x7, x8, x9, rfl⟩
        refine ⟨_, rfl, ?_⟩
        unfold y__law_few_l2
        have lc : ∀ x8 z : Sl, lcGo (bName 9) t__law_few_c1 x__law_few_c1 [.dat (tuI rows), .dat (tuI doors), .dat (.int m), .dat (.int f), .dat (.int l), .dat (.int a), .dat (.int p.1), .dat (.int p.2), x8, z] [oD (backI doors p.1), oD (forthI doors p.1)] gZ = .ok ([oD (backI doors p.1), oD (forthI doors p.1)].filter fun d => !isNoneD d) gZ := fun x8 z => by
          have := lc_filter (b := bName 9) (t := t__law_few_c1) (e := x__law_few_c1) (env := [.dat (tuI rows), .dat (tuI doors), .dat (.int m), .dat (.int f), .dat (.int l), .dat (.int a), .dat (.int p.1), .dat (.int p.2), x8, z]) (fun d => !isNoneD d) (fun d => d) (ds := [oD (backI doors p.1), oD (forthI doors p.1)]) (g := gZ) fun d hd => by
            refine ⟨_, rfl, eqB_of ?_, fun _ => eqE_of ?_⟩
            · unfold t__law_few_c1; simp
            · unfold x__law_few_c1; simp
          rw [this, List.map_id']
        obtain ⟨mn, mx, e1, e2, e3⟩ := few_test (f := f) (l := l) (a := backI doors p.1) (b := forthI doors p.1) fun h => not_both hd h.1 h.2
        simp [ways_eq _ hl, kLc]
        rw [lc]
        generalize [oD (backI doors p.1), oD (forthI doors p.1)].filter (fun d => !isNoneD d) = FL at e1 e2
        simp [e1, e2]
        by_cases q : f ≤ mn
        · by_cases q2 : mx ≤ l
          · have := e3.mp ⟨q, q2⟩
            simp [q, q2, stepA, inB, this]
          · have : (inO f l (backI doors p.1) && inO f l (forthI doors p.1)) = false := by
              rw [← Bool.not_eq_true, ← e3]; exact fun h => q2 h.2
            simp [q, q2, stepA, inB, this]
        · have : (inO f l (backI doors p.1) && inO f l (forthI doors p.1)) = false := by
            rw [← Bool.not_eq_true, ← e3]; exact fun h => q h.1
          simp [q, stepA, inB, this]
      · obtain ⟨fl, env⟩ := r
        cases r1
        cases r3
        simp [r2, z1, z2, stepB, aloneI]
    · obtain ⟨fl, env⟩ := r
      cases r1
      cases r3
      simp [r2, rowB]
  · obtain ⟨fl, env⟩ := r
    cases r1
    cases r3
    simp [beatsI]
/-! sharings -/
def okS (doors : List Int) (r n s : Int) : Prop := 0 ≤ s ∧ s ≤ n ∧ (backI doors r = none → s = 0) ∧ (forthI doors r = none ∨ forthI doors r = backI doors r → s = n)
structure Valid (rows doors ss : List Int) : Prop where
  len : rows.length = ss.length
  ok : ∀ i : Int, 0 ≤ i → i < rows.length → okS doors i (getI rows i) (getI ss i)
theorem Valid.at {rows doors ss : List Int} (v : Valid rows doors ss) {t : Int × Int × Int} (h : t ∈ enumZ rows ss) : okS doors t.1 t.2.1 t.2.2 := by
  obtain ⟨a, b, _, c, d, _⟩ := mem_enumZ h
  rw [c, d]
  exact v.ok _ a b
theorem Valid.rng {rows doors ss : List Int} (g : Good rows doors) (v : Valid rows doors ss) : ∀ s ∈ ss, 0 ≤ s ∧ s ≤ 60 := by
  intro s hs
  obtain ⟨i, i0, i1, rfl⟩ := getI_of_mem hs
  have hl := v.len
  have := v.ok i i0 (by omega)
  have h2 := (g.rr _ (getI_mem i0 (by omega) : getI rows i ∈ rows)).2
  exact ⟨this.1, by have := this.2.1; omega⟩
theorem eqD_oD (a b : Option Int) : eqD (oD a) (oD b) = some (.bool (decide (a = b))) := by
  cases a with
  | none => cases b <;> rfl
  | some i =>
    cases b with
    | none => rfl
    | some j => simp
theorem isNone_oD (a : Option Int) : isNoneD (oD a) = a.isNone := by cases a <;> rfl
theorem small_tu {xs : List Int} (h : xs.length ≤ 1000) : smallT (tuI xs) := by show (IL xs).length < 1000000; rw [IL_length]; omega
theorem sharing_good {rows doors ss : List Int} (g : Good rows doors) (v : Valid rows doors ss) : m_is_sharing [tuI rows, tuI doors, tuI ss] = .ok (.bool true) := by
  have hr := g.n2
  have hd := g.dl
  have hl := v.len
  have hw := withins_IL (v.rng g)
  have hs : smallT (tuI ss) := small_tu (by omega)
  refine ok_runP rfl ?_
  unfold b_is_sharing
  have el : ((ss.length : Int) = (rows.length : Int)) := by omega
  simp [tuple_of_eq, lenIs, el, withins_eq _ _ _ hs, hw, kFor, ezD_IL]
  refine Ok.mono (for_st (fun (_ : Unit) env => ∃ x3 x4 x5 x6 x7, env = [.dat (tuI rows), .dat (tuI doors), .dat (tuI ss), x3, x4, x5, x6, x7]) encQ (fun _ _ => ()) (s := ()) ⟨_, _, _, _, _, rfl⟩ ?_) fun r g2 ⟨r1, r2, x3, x4, x5, x6, x7, r3⟩ => ?_
  · rintro t ht _ env ⟨x3, x4, x5, x6, x7, rfl⟩
    obtain ⟨v1, v2, v3, v4⟩ := v.at ht
    refine ⟨_, rfl, ?_⟩
    unfold y_is_sharing_l1
    have q1 : ¬ t.2.1 < t.2.2 := by omega
    simp [ends_eq t.1 (show doors.length < 1000 by omega), q1]
    simp [isNone_oD, eqD_oD]
    cases hb : backI doors t.1 with
    | none =>
      have := v3 hb
      simp [this, isNone_oD]
      cases hf : forthI doors t.1 with
      | none => exact (not_both g.d1 hb hf).elim
      | some j => simp
    | some i =>
      simp
      cases hf : forthI doors t.1 with
      | none =>
        have := v4 (.inl hf)
        simp [this]
      | some j =>
        by_cases q : j = i
        · have := v4 (.inr (by rw [hf, hb, q]))
          simp [q, this]
        · simp [q]
  · obtain ⟨fl, env⟩ := r
    cases r1
    cases r3
    simp
theorem sharing_bad {rows : List Int} {x d : D} (hs : smallT d) (h : (lenIs d (rows.length : Int) && withins d 0 60) = false) : m_is_sharing [tuI rows, x, d] = .ok (.bool false) := by
  refine ok_runP rfl ?_
  unfold b_is_sharing
  simp [tuple_of_eq]
  cases h1 : lenIs d (rows.length : Int) with
  | false => simp
  | true =>
    rw [h1, Bool.true_and] at h
    simp [withins_eq _ _ _ hs, h]
/-! the sums -/
def addO : Option Int → Int → List Int → List Int
  | none, _, acc => acc
  | some i, v, acc => acc.set i.toNat (getI acc i + v)
theorem addO_len (o : Option Int) (v : Int) (acc : List Int) : (addO o v acc).length = acc.length := by
  cases o with
  | none => rfl
  | some i => exact List.length_set ..
theorem addO_zero {o : Option Int} {acc : List Int} (h : ∀ i, o = some i → 0 ≤ i ∧ i < acc.length) : addO o 0 acc = acc := by
  cases o with
  | none => rfl
  | some i =>
    obtain ⟨h0, h1⟩ := h i rfl
    obtain ⟨n, rfl⟩ := Int.eq_ofNat_of_zero_le h0
    have hn : n < acc.length := by omega
    show acc.set n (getI acc (n : Int) + 0) = acc
    rw [getI_nat hn, Int.add_zero, List.set_getElem_self]
def stepL (doors : List Int) (acc : List Int) (t : Int × Int × Int) : List Int := addO (forthI doors t.1) (t.2.1 - t.2.2) (addO (backI doors t.1) t.2.2 acc)
theorem stepL_len (doors acc : List Int) (t : Int × Int × Int) : (stepL doors acc t).length = acc.length := by
  unfold stepL
  rw [addO_len, addO_len]
def loadsI (rows doors ss : List Int) : List Int := (enumZ rows ss).foldl (stepL doors) (List.replicate doors.length 0)
theorem out_eq {rows doors ss : List Int} (g : Good rows doors) (v : Valid rows doors ss) : m_raw_out [tuI rows, tuI doors, tuI ss] = .ok (liI (loadsI rows doors ss)) := by
  have hr := g.n2
  have hd := g.dl
  refine ok_runP rfl ?_
  unfold b_raw_out
  have z : doors.length ≤ sizeLine := sl_le (by omega)
  have z2 : (doors.length : Int) < 9223372036854775808 := by omega
  have z3 : (-9223372036854775808 : Int) ≤ (doors.length : Int) := by omega
  simp [rep_IL, z, z2, z3, kFor, ezD_IL]
  refine Ok.mono (for_st (fun acc env => acc.length = doors.length ∧ ∃ x4 x5 x6 x7 x8, env = [.dat (tuI rows), .dat (tuI doors), .dat (tuI ss), .own (IL acc), x4, x5, x6, x7, x8]) encQ (stepL doors) ⟨by simp, _, _, _, _, _, rfl⟩ ?_) fun r g2 ⟨r1, r2, _, x4, x5, x6, x7, x8, r3⟩ => ?_
  · rintro t ht acc env ⟨ha, x4, x5, x6, x7, x8, rfl⟩
    obtain ⟨v1, v2, v3, v4⟩ := v.at ht
    refine ⟨_, rfl, ?_⟩
    unfold y_raw_out_l1
    have hb1 := fun i (h : backI doors t.1 = some i) => back_some h
    have hf1 := fun i (h : forthI doors t.1 = some i) => forth_some h
    simp [ends_eq t.1 (show doors.length < 1000 by omega)]
    unfold stepL
    by_cases q : 0 < t.2.2
    · cases hb : backI doors t.1 with
      | none => have := v3 hb; omega
      | some i =>
        obtain ⟨i0, i1, _⟩ := hb1 i hb
        have e1 := ixN_ok (n := doors.length) (j := i) i0 i1
        have e2 := IL_at (xs := acc) (i := i) i0 (by omega)
        simp [q, ha, e1, e2, IL_set]
        by_cases q2 : t.2.2 < t.2.1
        · cases hf : forthI doors t.1 with
          | none => have := v4 (.inl hf); omega
          | some j =>
            obtain ⟨j0, j1, _⟩ := hf1 j hf
            have e3 := ixN_ok (n := doors.length) (j := j) j0 j1
            have e4 := IL_at (xs := acc.set i.toNat (getI acc i + t.2.2)) (i := j) j0 (by rw [List.length_set]; omega)
            simp [q2, e3, e4, IL_set, addO, ha]
        · have e : t.2.1 - t.2.2 = 0 := by omega
          have e5 := addO_zero (o := forthI doors t.1) (acc := addO (some i) t.2.2 acc) fun j hj => by
            obtain ⟨j0, j1, _⟩ := hf1 j hj
            rw [addO_len]; omega
          simp [q2, e, e5]
          simp [addO, ha]
    · have e : t.2.2 = 0 := by omega
      have e5 := addO_zero (o := backI doors t.1) (acc := acc) fun j hj => by
        obtain ⟨j0, j1, _⟩ := hb1 j hj
        omega
      simp [e, e5]
      by_cases q2 : 0 < t.2.1
      · cases hf : forthI doors t.1 with
        | none => have := v4 (.inl hf); omega
        | some j =>
          obtain ⟨j0, j1, _⟩ := hf1 j hf
          have e3 := ixN_ok (n := doors.length) (j := j) j0 j1
          have e4 := IL_at (xs := acc) (i := j) j0 (by omega)
          simp [q2, e3, e4, IL_set, addO, ha]
      · have e : t.2.1 = 0 := by omega
        have e6 := addO_zero (o := forthI doors t.1) (acc := acc) fun j hj => by
          obtain ⟨j0, j1, _⟩ := hf1 j hj
          omega
        simp [e, e6, ha]
  · obtain ⟨fl, env⟩ := r
    cases r1
    cases r3
    simp [loadsI]
theorem fin_tup (L : List D) (env : List Sl) (g : G) : OkO (tupleF [.list L]) g (kRet env (kRun fun e _ => e = .tuple L)) := (rfl : PyData.tuple L = .tuple L)
theorem lawloads_eq {rows doors ss : List Int} (g : Good rows doors) (v : Valid rows doors ss) : m__law_loads [tuI rows, tuI doors, tuI ss] = .ok (tuI (loadsI rows doors ss)) := by
  have hr := g.n2
  have hd := g.dl
  have hl := v.len
  generalize hL : loadsI rows doors ss = L
  refine ok_runP rfl ?_
  unfold b__law_loads
  have z : doors.length ≤ sizeLine := sl_le (by omega)
  have z2 : (doors.length : Int) < 9223372036854775808 := by omega
  have z3 : (-9223372036854775808 : Int) ≤ (doors.length : Int) := by omega
  have el : ((ss.length : Int) = (rows.length : Int)) := by omega
  have er : rngE 0 (IL ss) = (enumZ rows ss).map fun t => PyData.tuple [.int t.1, .int t.2.2] := by
    rw [rngE_IL, enumI_of_enumZ hl, List.map_map]; rfl
  simp -implicitDefEqProofs [isTupD, el, rep_IL, z, z2, z3, kFor, er]
  refine Ok.mono (for_st (fun acc env => acc.length = doors.length ∧ ∃ x4 x5 x6 x7, env = [.dat (tuI rows), .dat (tuI doors), .dat (tuI ss), .own (IL acc), x4, x5, x6, x7]) (fun t : Int × Int × Int => PyData.tuple [.int t.1, .int t.2.2]) (stepL doors) ⟨by simp, _, _, _, _, rfl⟩ ?_) fun r g2 ⟨r1, r2, _, x4, x5, x6, x7, r3⟩ => ?_
  · rintro t ht acc env ⟨ha, x4, x5, x6, x7, rfl⟩
    obtain ⟨v1, v2, v3, v4⟩ := v.at ht
    obtain ⟨t0, t1, _, t2, _⟩ := mem_enumZ ht
    have hat := atI_IL (xs := rows) (j := t.1) t0 t1
    rw [← t2] at hat
    refine ⟨_, rfl, ?_⟩
    unfold y__law_loads_l1
    have hb1 := fun i (h : backI doors t.1 = some i) => back_some h
    have hf1 := fun i (h : forthI doors t.1 = some i) => forth_some h
    simp [ways_eq t.1 (show doors.length < 1000 by omega), isIntD, isBoolD, v1, v2, hat, isNone_oD, eqD_oD]
    unfold stepL
    cases hb : backI doors t.1 with
    | none =>
      have e := v3 hb
      cases hf : forthI doors t.1 with
      | none => exact (not_both g.d1 hb hf).elim
      | some j =>
        obtain ⟨j0, j1, _⟩ := hf1 j hf
        have e3 := ixN_ok (n := doors.length) (j := j) j0 j1
        have e4 := atI_IL (xs := acc) (j := j) j0 (by omega)
        simp [e, hat, e3, e4, IL_set, addO, ha, isNoneD]
    | some i =>
      obtain ⟨i0, i1, _⟩ := hb1 i hb
      have e1 := ixN_ok (n := doors.length) (j := i) i0 i1
      have e2 := atI_IL (xs := acc) (j := i) i0 (by omega)
      cases hf : forthI doors t.1 with
      | none =>
        have e := v4 (.inl hf)
        simp [e, hat, e1, e2, IL_set, addO, ha, isNoneD]
      | some j =>
        obtain ⟨j0, j1, _⟩ := hf1 j hf
        have e3 := ixN_ok (n := doors.length) (j := j) j0 j1
        have e4 := atI_IL (xs := acc.set i.toNat (getI acc i + t.2.2)) (j := j) j0 (by rw [List.length_set]; omega)
        by_cases q : j = i
        · have e := v4 (.inr (by rw [hf, hb, q]))
          subst q
          rw [e] at e4
          simp [e, hat, e1, e2, e3, e4, IL_set, addO, ha, isNoneD]
        · simp [q, hat, e1, e2, e3, e4, IL_set, addO, ha, isNoneD]
  · obtain ⟨fl, env⟩ := r
    cases r1
    have hL2 : (enumZ rows ss).foldl (stepL doors) (List.replicate doors.length 0) = L := hL
    rw [hL2] at r3
    cases r3
    simp
    exact fin_tup _ _ _
/-! the walks -/
/-! the nearest -/
/-! the weights of the loads -/
def ctr (P : Int → Bool) (o : Option Int) (v : Int) : Int := match o with
  | none => 0
  | some i => if P i = true then v else 0
theorem wsum_addO {P : Int → Bool} {o : Option Int} {v : Int} {acc : List Int} (h : ∀ i, o = some i → 0 ≤ i ∧ i < acc.length) : wsum P 0 (addO o v acc) = wsum P 0 acc + ctr P o v := by
  cases o with
  | none => simp [addO, ctr]
  | some i =>
    obtain ⟨h0, h1⟩ := h i rfl
    obtain ⟨n, rfl⟩ := Int.eq_ofNat_of_zero_le h0
    have hn : n < acc.length := by omega
    show wsum P 0 (acc.set n (getI acc (n : Int) + v)) = wsum P 0 acc + (if P (n : Int) = true then v else 0)
    rw [wsum_set P acc 0 n hn, getI_nat hn, Int.zero_add]
    split <;> omega
def cT (P : Int → Bool) (doors : List Int) (t : Int × Int × Int) : Int := ctr P (backI doors t.1) t.2.2 + ctr P (forthI doors t.1) (t.2.1 - t.2.2)
theorem wsum_fold (P : Int → Bool) (doors : List Int) : ∀ (T : List (Int × Int × Int)) (acc : List Int), acc.length = doors.length → wsum P 0 (T.foldl (stepL doors) acc) = wsum P 0 acc + (T.map (cT P doors)).sum
  | [], acc, _ => by simp
  | t :: T, acc, h => by
    rw [List.foldl_cons, wsum_fold P doors T _ (by rw [stepL_len]; exact h), List.map_cons, List.sum_cons]
    unfold stepL
    rw [wsum_addO fun i hi => by
      have := forth_some hi
      rw [addO_len]; omega]
    rw [wsum_addO fun i hi => by
      have := back_some hi
      omega]
    have : cT P doors t = ctr P (backI doors t.1) t.2.2 + ctr P (forthI doors t.1) (t.2.1 - t.2.2) := rfl
    omega
theorem loads_len (rows doors ss : List Int) : (loadsI rows doors ss).length = doors.length := by
  unfold loadsI
  have : ∀ (T : List (Int × Int × Int)) (acc : List Int), (T.foldl (stepL doors) acc).length = acc.length := by
    intro T
    induction T with
    | nil => intro acc; rfl
    | cons t T ih => intro acc; rw [List.foldl_cons, ih, stepL_len]
  rw [this, List.length_replicate]
theorem loads_w (P : Int → Bool) (rows doors ss : List Int) : wsum P 0 (loadsI rows doors ss) = ((enumZ rows ss).map (cT P doors)).sum := by
  unfold loadsI
  rw [wsum_fold P doors _ _ List.length_replicate, wsum_zero, Int.zero_add]
theorem cT_all {rows doors ss : List Int} (g : Good rows doors) (v : Valid rows doors ss) {t : Int × Int × Int} (h : t ∈ enumZ rows ss) : cT (fun _ => true) doors t = t.2.1 := by
  obtain ⟨v1, v2, v3, v4⟩ := v.at h
  unfold cT ctr
  cases hb : backI doors t.1 with
  | none =>
    have := v3 hb
    cases hf : forthI doors t.1 with
    | none => exact (not_both g.d1 hb hf).elim
    | some j => simp [this]
  | some i =>
    cases hf : forthI doors t.1 with
    | none => have := v4 (.inl hf); simp [this]
    | some j => simp; omega
theorem cT_in {rows doors ss : List Int} (g : Good rows doors) (v : Valid rows doors ss) (f l : Int) {t : Int × Int × Int} (h : t ∈ enumZ rows ss) : (if inB doors f l t.1 = true then t.2.1 else 0) ≤ cT (fun i => decide (f ≤ i) && decide (i ≤ l)) doors t := by
  obtain ⟨v1, v2, v3, v4⟩ := v.at h
  unfold cT ctr inB
  cases hb : backI doors t.1 with
  | none =>
    have := v3 hb
    cases hf : forthI doors t.1 with
    | none => exact (not_both g.d1 hb hf).elim
    | some j => simp [this, inO]
  | some i =>
    cases hf : forthI doors t.1 with
    | none => have := v4 (.inl hf); simp [this, inO]
    | some j =>
      have alg : ∀ p q : Bool, (if (p && q) = true then t.2.1 else 0) ≤ (if p = true then t.2.2 else 0) + (if q = true then t.2.1 - t.2.2 else 0) := by
        intro p q
        cases p <;> cases q <;> simp <;> omega
      exact alg _ _
theorem sum_loads {rows doors ss : List Int} (g : Good rows doors) (v : Valid rows doors ss) : (loadsI rows doors ss).sum = rows.sum := by
  rw [← wsum_all _ 0, loads_w, sum_eq (h' := fun t => t.2.1) fun t ht => cT_all g v ht, enumZ_irng v.len, List.map_map]
  have : (irng 0 rows.length).map ((fun t : Int × Int × Int => t.2.1) ∘ fun i => (i, getI rows i, getI ss i)) = (irng 0 rows.length).map (getI rows) := rfl
  rw [this, map_getI]
theorem alone_le {rows doors ss : List Int} (g : Good rows doors) (v : Valid rows doors ss) {f l M : Int} (f0 : 0 ≤ f) (fl : f ≤ l) (hM : 0 ≤ M) (h : ∀ y ∈ loadsI rows doors ss, y ≤ M) : aloneI rows doors f l ≤ M * (l - f + 1) := by
  have e : aloneI rows doors f l = ((enumZ rows ss).map fun t => if inB doors f l t.1 = true then t.2.1 else 0).sum := by
    unfold aloneI
    have e0 : stepA doors f l = fun a p => a + (if inB doors f l p.1 = true then p.2 else 0) := rfl
    rw [e0, DL.foldl_add, enumI_of_enumZ' v.len, List.map_map, Int.zero_add]
    rfl
  rw [e]
  refine Int.le_trans (sum_le fun t ht => cT_in g v f l ht) ?_
  rw [← loads_w]
  refine Int.le_trans (wsum_le _ 0 h) ?_
  have := wcnt_le f l (loadsI rows doors ss).length 0
  exact Int.mul_le_mul_of_nonneg_left (by omega) hM
theorem fold_le {β : Type} {st : Int → β → Int} {M : Int} : ∀ {bs : List β} {a : Int}, a ≤ M → (∀ b ∈ bs, ∀ a, a ≤ M → st a b ≤ M) → bs.foldl st a ≤ M
  | [], _, h, _ => h
  | b :: bs, a, h, q => by
    rw [List.foldl_cons]
    exact fold_le (q b List.mem_cons_self a h) fun x hx => q x (List.mem_cons_of_mem _ hx)
theorem loads_nonneg {rows doors ss : List Int} (v : Valid rows doors ss) : ∀ y ∈ loadsI rows doors ss, 0 ≤ y := by
  have key : ∀ (o : Option Int) (x : Int) (acc : List Int), 0 ≤ x → (∀ i, o = some i → 0 ≤ i ∧ i < acc.length) → (∀ y ∈ acc, 0 ≤ y) → ∀ y ∈ addO o x acc, 0 ≤ y := by
    intro o x acc hx ho ha y hy
    cases o with
    | none => exact ha y hy
    | some i =>
      obtain ⟨i0, i1⟩ := ho i rfl
      rcases List.mem_or_eq_of_mem_set hy with h | h
      · exact ha y h
      · have := ha _ (getI_mem i0 i1)
        omega
  have go : ∀ (T : List (Int × Int × Int)) (acc : List Int), (∀ t ∈ T, 0 ≤ t.2.2 ∧ t.2.2 ≤ t.2.1) → acc.length = doors.length → (∀ y ∈ acc, 0 ≤ y) → ∀ y ∈ T.foldl (stepL doors) acc, 0 ≤ y := by
    intro T
    induction T with
    | nil => intro acc _ _ h; exact h
    | cons t T ih =>
      intro acc hT hl h
      rw [List.foldl_cons]
      have ht := hT t List.mem_cons_self
      refine ih _ (fun x hx => hT x (List.mem_cons_of_mem _ hx)) (by rw [stepL_len]; exact hl) ?_
      unfold stepL
      refine key _ _ _ (by omega) (fun i hi => ?_) (key _ _ _ ht.1 (fun i hi => ?_) h)
      · have := forth_some hi
        rw [addO_len]; omega
      · have := back_some hi
        omega
  unfold loadsI
  refine go _ _ (fun t ht => ?_) List.length_replicate (fun y hy => ?_)
  · have := v.at ht
    exact ⟨this.1, this.2.1⟩
  · rw [(List.mem_replicate.mp hy).2]; exact Int.le_refl _
theorem beats_le {rows doors ss : List Int} (g : Good rows doors) (v : Valid rows doors ss) {M : Int} (hM : 0 ≤ M) (h : ∀ y ∈ loadsI rows doors ss, y ≤ M) : beatsI rows doors ≤ M := by
  unfold beatsI
  refine fold_le hM fun f hf a ha => ?_
  rw [mem_irng] at hf
  unfold rowB
  refine fold_le ha fun l hl a ha => ?_
  rw [mem_irng] at hl
  unfold stepB
  split
  · exact ceil_le (by omega) (alone_le g v hf.1 hl.1 hM h)
  · exact ha
theorem fewest_eq {rows doors : List Int} (g : Good rows doors) : m_fewest_beats [tuI rows, tuI doors] = .ok (.int (beatsI rows doors)) := by
  have hr := g.n2
  have hd := g.dl
  have c := both_good g
  have b := beats_eq (rows := rows) (doors := doors) (by omega) (by omega)
  refine ok_runP rfl ?_
  unfold b_fewest_beats
  simp -implicitDefEqProofs [c, b]
/-! sameness -/
def isG : Nat → D → Prop
  | 0, _ => False
  | n + 1, .list xs => xs.length < 1000 ∧ ∀ x ∈ xs, isG n x
  | n + 1, .tuple xs => xs.length < 1000 ∧ ∀ x ∈ xs, isG n x
  | _ + 1, .none => True
  | _ + 1, .int _ => True
  | _ + 1, .str _ => True
  | _ + 1, .bool _ => True
  | _ + 1, _ => False
theorem allF_trueI (n : Nat) : allF [.list ((irng 0 n).map fun _ => .bool true)] = some (.bool true) := allF_true fun y hy => by
  obtain ⟨_, _, rfl⟩ := List.mem_map.mp hy
  rfl
theorem is_same : ∀ (n : Nat) (d : D), isG n d → m__law_is n [d, d] = .ok (.bool true)
  | 0, _, h => h.elim
  | n + 1, d, h => by
    unfold m__law_is
    refine ok_runP rfl ?_
    unfold b__law_is
    have seq : ∀ xs : List D, xs.length < 1000 → (∀ x ∈ xs, isG n x) → ∀ d z, (∀ i : Int, ixD d (.int i) = atI xs i) → lcGo (bName 2) bYes (x__law_is_c1 (m__law_is n)) [.dat d, .dat d, z] ((irng 0 xs.length).map PyData.int) gZ = .ok ((irng 0 xs.length).map fun _ => .bool true) gZ := by
      intro xs hl hx d z hd
      have := lc_enc (b := bName 2) (t := bYes) (e := x__law_is_c1 (m__law_is n)) (env := [.dat d, .dat d, z]) PyData.int (fun _ => true) (fun _ => .bool true) (bs := irng 0 xs.length) (g := gZ) fun i hi => by
        rw [mem_irng] at hi
        obtain ⟨x, e1, e2⟩ := atI_mem (xs := xs) (i := i) hi.1 (by omega)
        refine ⟨_, rfl, rfl, fun _ => eqE_of ?_⟩
        unfold x__law_is_c1
        simp -implicitDefEqProofs [hd, e1, is_same n x (hx x e2)]
      rw [this, List.filter_eq_self.mpr (fun _ _ => rfl)]
    cases d with
    | list xs =>
      have hz : xs.length < sizeLine := sl_lt (by have := h.1; omega)
      have ok1 : okR (xs.length : Int) = true := by rw [okR_iff]; have := h.1; omega
      have lc := seq xs h.1 h.2 (.list xs) .un fun _ => rfl
      have af := allF_trueI xs.length
      generalize (irng 0 xs.length).map (fun _ => PyData.bool true) = L at lc af
      simp -implicitDefEqProofs [isTupD, isListD, ok1, rng_irng, kLc, irng_length, hz, lc, af]
    | tuple xs =>
      have hz : xs.length < sizeLine := sl_lt (by have := h.1; omega)
      have ok1 : okR (xs.length : Int) = true := by rw [okR_iff]; have := h.1; omega
      have lc := seq xs h.1 h.2 (.tuple xs) .un fun _ => rfl
      have af := allF_trueI xs.length
      generalize (irng 0 xs.length).map (fun _ => PyData.bool true) = L at lc af
      simp -implicitDefEqProofs [isTupD, isListD, ok1, rng_irng, kLc, irng_length, hz, lc, af]
    | none => simp -implicitDefEqProofs [isTupD, isListD, isNoneD]
    | int i => simp -implicitDefEqProofs [isTupD, isListD, isNoneD, isBoolD, isIntD, isStrD]
    | str i => simp -implicitDefEqProofs [isTupD, isListD, isNoneD, isBoolD, isIntD, isStrD]
    | bool i => simp -implicitDefEqProofs [isTupD, isListD, isNoneD, isBoolD, isIntD, isStrD]
    | _ => exact h.elim
theorem isG_ints (n : Nat) {xs : List Int} (h : xs.length < 1000) : ∀ x ∈ IL xs, isG (n + 1) x := fun x hx => by
  obtain ⟨i, rfl, _⟩ := mem_IL hx
  trivial
/-! the best door -/
theorem tupleF_l (xs : List D) : tupleF [.list xs] = some (.tuple xs) := rfl
theorem max_of {L : List Int} (h : L ≠ []) : ∃ M : Int, maxXF [.tuple (IL L)] = some (.int M) ∧ M ∈ L ∧ ∀ y ∈ L, y ≤ M := by
  cases L with
  | nil => exact (h rfl).elim
  | cons x xs => exact maxX_intsT x xs
/-! what is drawn -/
theorem up_rng : ∀ (n : Nat) (k : Int), (irng k n).Pairwise (· < ·) := by
  intro n k
  unfold irng
  rw [List.pairwise_map]
  exact List.pairwise_lt_range.imp fun h => by omega
theorem cabin_ok {g : G} (w : WF g) : Ok (m__law_cabin [.int 9] g) fun d g' => WF g' ∧ ∃ rows doors, d = .tuple [tuI rows, tuI doors] ∧ Good rows doors := by
  refine ok_runH rfl ?_
  unfold b__law_cabin
  simp -implicitDefEqProofs
  refine Ok.mono (draw_ok w (by decide) (by decide)) fun d g1 ⟨w1, n, e, h1, h2⟩ => ?_
  subst e
  simp -implicitDefEqProofs
  refine Ok.mono (some_ok w1 (by simp) (by simp)) fun d g2 ⟨w2, hd⟩ => ?_
  have : ∃ t : Int, d = .int t ∧ 0 < t ∧ t ≤ 61 := by
    simp only [List.mem_cons, List.not_mem_nil, or_false] at hd
    rcases hd with rfl | rfl | rfl
    · exact ⟨_, rfl, by decide, by decide⟩
    · exact ⟨_, rfl, by decide, by decide⟩
    · exact ⟨_, rfl, by decide, by decide⟩
  obtain ⟨t, rfl, t1, t2⟩ := this
  have ok1 : okR (1 + n) = true := by rw [okR_iff]; omega
  obtain ⟨k, hk⟩ := Int.eq_ofNat_of_zero_le (a := 1 + n) (by omega)
  have hk' : (1 + n).toNat = k := by omega
  have hz : (irng 0 k).length < sizeLine := by rw [irng_length]; exact sl_lt (by omega)
  simp -implicitDefEqProofs [ok1, rng_irng, kLc, hk', hz]
  refine Ok.mono (lc_inv WF (fun y => ∃ r : Int, y = .int r ∧ 0 ≤ r ∧ r ≤ 60) w2 ?_) fun ys g3 ⟨w3, hy, hl⟩ => ?_
  · intro d hd g wg
    obtain ⟨i, hi, rfl⟩ := List.mem_map.mp hd
    refine ⟨_, rfl, ?_⟩
    unfold x__law_cabin_c1
    simp -implicitDefEqProofs
    refine Ok.mono (draw_ok wg (by omega) (by omega)) fun d g' ⟨w', v, e, a, b⟩ => ⟨w', v, e, a, by omega⟩
  · obtain ⟨rows, rfl⟩ := ints_of (ds := ys) fun d hd => by
      obtain ⟨r, e, _⟩ := hy d hd
      exact ⟨r, e⟩
    have hrows : ∀ r ∈ rows, 0 ≤ r ∧ r ≤ 60 := fun r hr => by
      obtain ⟨r', e, a, b⟩ := hy _ (IL_mem hr)
      injection e with e
      subst e
      exact ⟨a, b⟩
    have hlen : rows.length = k := by
      rw [IL_length, List.length_map, irng_length] at hl
      exact hl
    simp -implicitDefEqProofs [tupleF_l, ok1, rng_irng, kLc, hk', hz]
    refine Ok.mono (lc_sub WF PyData.int PyData.int w3 ?_) fun ys g4 ⟨w4, cs, hs, e⟩ => ?_
    · intro i hi g wg
      refine ⟨_, rfl, ?_⟩
      unfold t__law_cabin_c2
      simp -implicitDefEqProofs
      refine Ok.mono (draw_ok wg (by decide) (by decide)) fun d g' ⟨w', v, e, a, b⟩ => ?_
      subst e
      simp -implicitDefEqProofs
      refine ⟨w', eqE_of ?_⟩
      unfold x__law_cabin_c2
      simp
    · subst e
      have hcs : ∀ c ∈ cs, 0 ≤ c ∧ c < rows.length := fun c hc => by
        have := mem_irng.mp (hs.subset hc)
        omega
      have hup : cs.Pairwise (· < ·) := (up_rng k 0).sublist hs
      rw [IL_map]
      cases cs with
      | nil =>
        have n0 : neD (.tuple []) (.tuple []) = some (.bool false) := rfl
        simp -implicitDefEqProofs [n0]
        refine Ok.mono (draw_ok w4 (by omega) (by omega)) fun d g5 ⟨w5, v, e, a, b⟩ => ?_
        subst e
        simp -implicitDefEqProofs
        refine ⟨w5, rows, [v], ⟨rfl, rfl⟩, ⟨by omega, by omega, hrows, by simp, fun d hd => ?_, by simp⟩⟩
        rw [List.mem_singleton.mp hd]
        omega
      | cons c cs =>
        have n1 : neD (.tuple (IL (c :: cs))) (.tuple []) = some (.bool true) := neD_nil_t ((kb_tup (p := 0) (kb_IL (c :: cs))).ok)
        simp -implicitDefEqProofs [n1]
        exact ⟨w4, rows, c :: cs, ⟨rfl, rfl⟩, ⟨by omega, by omega, hrows, by simp, hcs, hup⟩⟩
/-! what is refused -/
theorem lot_bad {d : D} {n : Int} (hs : smallT d) (h : withins d 0 (n - 1) = false) : m_is_lot [d, .int n] = .ok (.bool false) := by
  refine ok_runP rfl ?_
  unfold b_is_lot
  simp -implicitDefEqProofs [withins_eq _ _ _ hs, h]
theorem lot_00 {n : Int} (h : 1 ≤ n) : m_is_lot [.tuple [.int 0, .int 0], .int n] = .ok (.bool false) := by
  have hw : withins (.tuple [.int 0, .int 0]) 0 (n - 1) = true := by simp [withins, inRg]; omega
  have c : cut [PyData.int 0, .int 0] (some 1) none = [.int 0] := rfl
  have z : zipD [PyData.int 0, .int 0] [.int 0] = [.tuple [.int 0, .int 0]] := rfl
  have lc : lcGo (bTup 2 (bCons (bName 2) (bCons (bName 3) bNil))) bYes x_is_lot_c1 [.dat (.tuple [.int 0, .int 0]), .dat (.int n), .un, .un] [.tuple [.int 0, .int 0]] gZ = .ok [.bool false] gZ := by
    have := lc_map (b := bTup 2 (bCons (bName 2) (bCons (bName 3) bNil))) (e := x_is_lot_c1) (env := [.dat (.tuple [.int 0, .int 0]), .dat (.int n), .un, .un]) (fun _ => .bool false) (ds := [.tuple [.int 0, .int 0]]) (g := gZ) fun d hd => by
      rw [List.mem_singleton.mp hd]
      refine ⟨_, rfl, eqE_of ?_⟩
      unfold x_is_lot_c1
      simp
    exact this
  have a : allF [.list [.bool false]] = some (.bool false) := rfl
  have hs : smallT (.tuple [.int 0, .int 0]) := by show 2 < 1000000; decide
  refine ok_runP rfl ?_
  unfold b_is_lot
  simp -implicitDefEqProofs [withins_eq _ _ _ hs, hw, c, z, kLc, lc, a]
theorem rows_pass {rows doors : List Int} (g : Good rows doors) : m_are_within [tuI rows, .int 0, .int 60] = .ok (.bool true) := by
  have := g.n2
  rw [withins_eq _ _ _ (small_tu (by omega)), withins_IL g.rr]
theorem both_bad2 {rows doors : List Int} (g : Good rows doors) {d : D} (h : m_is_lot [d, .int (rows.length : Int)] = .ok (.bool false) ∨ d = .tuple []) : m_check_both [tuI rows, d] = .err "NoDoors" := by
  have w := rows_pass g
  have n1 : (1 : Int) ≤ (rows.length : Int) := by have := g.n1; omega
  have n2 : (rows.length : Int) ≤ 30 := by have := g.n2; omega
  have e : lenF [tuI rows] = some (.int (rows.length : Int)) := by simp
  generalize tuI rows = R at *
  unfold m_check_both b_check_both
  rcases h with h | h
  · simp [sSeq, sIf, bOr, bNot, eTru, eFn, eCons, eVar, eNil, eC, w, e, h, truD, Out.bind, Out.of, sRaise, sSkip, eAsB, eChain, eCall, n1, n2]
  · subst h
    have hl : m_is_lot [.tuple [], .int (rows.length : Int)] = .ok (.bool true) := lot_good (doors := []) (by simp) (fun _ h => by cases h) (by simp)
    simp [sSeq, sIf, bOr, bNot, eTru, eFn, eCons, eVar, eNil, eC, w, e, hl, truD, Out.bind, Out.of, sRaise, sSkip, eAsB, eChain, eCall, n1, n2, eBin]
theorem small_lit {ds : List D} (h : ds.length ≤ 100) : smallT (.tuple ds) := by show ds.length < 1000000; omega
theorem norows_ok {g : G} (w : WF g) : Ok (m__law_no_rows [] g) fun d g' => WF g' ∧ smallT d ∧ rowsOk d = false := by
  refine ok_runH rfl ?_
  unfold b__law_no_rows
  have m31 : mulD (.tuple [.int 1]) (.int 31) = some (.tuple (List.replicate 31 (.int 1))) := by kernel_rfl
  simp -implicitDefEqProofs [m31]
  refine Ok.mono (deep_ok w) fun d g1 ⟨w1, hd1, hd2⟩ => ?_
  simp -implicitDefEqProofs
  refine Ok.mono (some_ok w1 (by simp) (by simp)) fun d2 g2 ⟨w2, hm⟩ => ?_
  refine ⟨w2, ?_⟩
  simp only [List.mem_cons, List.not_mem_nil, or_false] at hm
  rcases hm with rfl | rfl | rfl | rfl | rfl | rfl | rfl | rfl | rfl | rfl | rfl
  · exact ⟨trivial, rfl⟩
  · exact ⟨small_lit (by simp), rfl⟩
  · exact ⟨trivial, rfl⟩
  · exact ⟨small_lit (by simp), rfl⟩
  · exact ⟨small_lit (by simp), rfl⟩
  · exact ⟨small_lit (by simp), rfl⟩
  · exact ⟨small_lit (by simp), rfl⟩
  · exact ⟨trivial, rfl⟩
  · exact ⟨trivial, rfl⟩
  · exact ⟨small_lit (by simp), by decide +kernel⟩
  · exact ⟨hd1, by unfold rowsOk; rw [hd2]; rfl⟩
theorem nodoors_ok {g : G} (w : WF g) {rows doors : List Int} (gd : Good rows doors) : Ok (m__law_no_doors [tuI rows] g) fun d g' => WF g' ∧ (m_is_lot [d, .int (rows.length : Int)] = .ok (.bool false) ∨ d = .tuple []) := by
  have n1 : (1 : Int) ≤ (rows.length : Int) := by have := gd.n1; omega
  refine ok_runH rfl ?_
  unfold b__law_no_doors
  simp -implicitDefEqProofs
  refine Ok.mono (deep_ok w) fun d g1 ⟨w1, hd1, hd2⟩ => ?_
  simp -implicitDefEqProofs
  refine Ok.mono (some_ok w1 (by simp) (by simp)) fun d2 g2 ⟨w2, hm⟩ => ?_
  refine ⟨w2, ?_⟩
  simp only [List.mem_cons, List.not_mem_nil, or_false] at hm
  rcases hm with rfl | rfl | rfl | rfl | rfl | rfl | rfl | rfl | rfl | rfl | rfl
  · exact .inl (lot_bad trivial rfl)
  · exact .inr rfl
  · exact .inl (lot_bad trivial rfl)
  · exact .inl (lot_bad (small_lit (by simp)) (by simp [withins, inRg]; omega))
  · exact .inl (lot_bad (small_lit (by simp)) (by simp [withins, inRg]))
  · exact .inl (lot_bad (small_lit (by simp)) rfl)
  · exact .inl (lot_00 n1)
  · exact .inl (lot_bad trivial rfl)
  · exact .inl (lot_bad trivial rfl)
  · exact .inl (lot_bad (small_lit (by simp)) rfl)
  · exact .inl (lot_bad hd1 (hd2 _ _))
theorem mul_n {x : Int} {n : Nat} (h1 : 1 ≤ n) (h2 : n ≤ 1000) : mulD (.tuple [.int x]) (.int (n : Int)) = some (tuI (List.replicate n x)) := by
  show (if (decide (2 ≤ (n : Int)) && decide ((n : Int) ≤ 1000) && decide (([PyData.int x]).length ≤ 1000) && !([PyData.int x]).isEmpty) = true then some (PyData.tuple (List.replicate (n : Int).toNat [PyData.int x]).flatten) else if (n : Int) = 1 then some (PyData.tuple [.int x]) else none) = _
  by_cases q : 2 ≤ n
  · have q1 : (2 : Int) ≤ (n : Int) := by omega
    have q2 : (n : Int) ≤ 1000 := by omega
    rw [if_pos (by simp [q1, q2])]
    show some (PyData.tuple (List.replicate n [PyData.int x]).flatten) = _
    rw [rep_flat]
  · have : n = 1 := by omega
    subst this
    rfl
theorem hand_eq (ns : List Int) (hl : ns.length ≤ 63) : ∃ g, WF g ∧ ∃ es, m__law_hand ns = .ok es ∧ handOf es = some g := by
  have hc := cut_len ns none (some 63)
  refine ⟨⟨(cut ns none (some 63)).map fun i => if i < 0 then -i else i, 0, 0, 739 + 124 * (((cut ns none (some 63)).map fun i => if i < 0 then -i else i).length : Int), 0⟩, Int.le_refl _, _, ok_runScr ?_, handOf_ints _ _ _ _ _⟩
  unfold b__law_hand
  have k : smallI 124 = true := rfl
  simp [kLc]
  refine ⟨sl_lt (by omega), ?_⟩
  rw [lc_ints fun i => if i < 0 then -i else i]
  · simp [k]
  · intro i hi
    refine ⟨_, rfl, eqE_of ?_⟩
    unfold x__law_hand_c1
    simp

end K82

namespace K82
open PySem PySem.Spec PyProof.Rows L2 DL
/-! the ends, as they lie -/
theorem pw_last {l : List Int} (h : l.Pairwise (· < ·)) {x : Int} (e : l.getLast? = some x) : ∀ y ∈ l, y ≤ x := by
  intro y hy
  obtain ⟨i, hi, rfl⟩ := List.mem_iff_getElem.mp hy
  have hne : l ≠ [] := fun q => by rw [q] at hi; simp at hi
  rw [List.getLast?_eq_some_getLast hne, List.getLast_eq_getElem] at e
  injection e with e
  rw [← e]
  rcases Nat.lt_or_ge i (l.length - 1) with q | q
  · exact Int.le_of_lt (List.pairwise_iff_getElem.mp h i (l.length - 1) hi (by omega) q)
  · have : i = l.length - 1 := by omega
    subst this
    exact Int.le_refl _
theorem pw_head {l : List Int} (h : l.Pairwise (· < ·)) {x : Int} (e : l.head? = some x) : ∀ y ∈ l, x ≤ y := by
  intro y hy
  cases l with
  | nil => cases hy
  | cons a l =>
    injection e with e
    subst e
    rw [List.pairwise_cons] at h
    rcases List.mem_cons.mp hy with rfl | hy
    · exact Int.le_refl _
    · exact Int.le_of_lt (h.1 y hy)
theorem enum_up (doors : List Int) : ((enumI doors).map (·.1)).Pairwise (· < ·) := by
  have e : (enumI doors).map (·.1) = irng 0 doors.length := by
    rw [enumI_irng, List.map_map]
    exact List.map_id _
  rw [e]
  exact up_rng _ _
theorem bk_up (doors : List Int) (r : Int) : (bkI doors r).Pairwise (· < ·) := (enum_up doors).sublist (List.filter_sublist.map _)
theorem fw_up (doors : List Int) (r : Int) : (fwI doors r).Pairwise (· < ·) := (enum_up doors).sublist (List.filter_sublist.map _)
theorem mem_bk {doors : List Int} {r j : Int} (h0 : 0 ≤ j) (h1 : j < doors.length) (h : getI doors j ≤ r) : j ∈ bkI doors r := List.mem_map.mpr ⟨_, List.mem_filter.mpr ⟨enumI_mem h0 h1, by simpa using h⟩, rfl⟩
theorem mem_fw {doors : List Int} {r j : Int} (h0 : 0 ≤ j) (h1 : j < doors.length) (h : r ≤ getI doors j) : j ∈ fwI doors r := List.mem_map.mpr ⟨_, List.mem_filter.mpr ⟨enumI_mem h0 h1, by simpa using h⟩, rfl⟩
theorem back_max {doors : List Int} {r i : Int} (h : backI doors r = some i) : ∀ j : Int, i < j → j < doors.length → r < getI doors j := by
  intro j h1 h2
  by_cases q : r < getI doors j
  · exact q
  · have h0 := (back_some h).1
    have := pw_last (bk_up doors r) h j (mem_bk (by omega) h2 (by omega))
    omega
theorem back_none {doors : List Int} {r : Int} (h : backI doors r = none) : ∀ j : Int, 0 ≤ j → j < doors.length → r < getI doors j := by
  intro j h1 h2
  by_cases q : r < getI doors j
  · exact q
  · have m := mem_bk h1 h2 (show getI doors j ≤ r by omega)
    unfold backI at h
    rw [List.getLast?_eq_none_iff] at h
    rw [h] at m
    cases m
theorem forth_min {doors : List Int} {r i : Int} (h : forthI doors r = some i) : ∀ j : Int, 0 ≤ j → j < i → getI doors j < r := by
  intro j h1 h2
  by_cases q : getI doors j < r
  · exact q
  · have h0 := (forth_some h).2.1
    have := pw_head (fw_up doors r) h j (mem_fw h1 (by omega) (by omega))
    omega
theorem forth_none {doors : List Int} {r : Int} (h : forthI doors r = none) : ∀ j : Int, 0 ≤ j → j < doors.length → getI doors j < r := by
  intro j h1 h2
  by_cases q : getI doors j < r
  · exact q
  · have m := mem_fw h1 h2 (show r ≤ getI doors j by omega)
    unfold forthI at h
    rw [List.head?_eq_none_iff] at h
    rw [h] at m
    cases m
/-! the sharing from the first row on -/
def share (B : Int) (b f : Option Int) (n : Int) (L : List Int) : Int := match b with
  | none => 0
  | some a => match f with
    | none => n
    | some c => if c = a then n else if (if B - getI L a > 0 then B - getI L a else 0) < n then (if B - getI L a > 0 then B - getI L a else 0) else n
section
variable (rows doors : List Int) (B : Int)
def Lk : Nat → List Int
  | 0 => List.replicate doors.length 0
  | k + 1 => addO (forthI doors k) (getI rows k - share B (backI doors k) (forthI doors k) (getI rows k) (Lk k)) (addO (backI doors k) (share B (backI doors k) (forthI doors k) (getI rows k) (Lk k)) (Lk k))
def sk (k : Nat) : Int := share B (backI doors k) (forthI doors k) (getI rows k) (Lk rows doors B k)
def Fk : Nat → List Int
  | 0 => []
  | k + 1 => Fk k ++ [sk rows doors B k]
def Ak (f j : Int) : Nat → Int
  | 0 => 0
  | k + 1 => Ak f j k + if inB doors f j k = true then getI rows k else 0
end
theorem Lk_succ (rows doors : List Int) (B : Int) (k : Nat) : Lk rows doors B (k + 1) = addO (forthI doors k) (getI rows k - sk rows doors B k) (addO (backI doors k) (sk rows doors B k) (Lk rows doors B k)) := rfl
theorem Lk_len (rows doors : List Int) (B : Int) : ∀ k, (Lk rows doors B k).length = doors.length
  | 0 => List.length_replicate
  | k + 1 => by rw [Lk_succ, addO_len, addO_len, Lk_len rows doors B k]
theorem Fk_len (rows doors : List Int) (B : Int) : ∀ k, (Fk rows doors B k).length = k
  | 0 => rfl
  | k + 1 => by
    show (Fk rows doors B k ++ [_]).length = k + 1
    rw [List.length_append, Fk_len rows doors B k]; rfl
theorem Fk_at (rows doors : List Int) (B : Int) : ∀ (k i : Nat), i < k → getI (Fk rows doors B k) (i : Int) = sk rows doors B i
  | 0, _, h => absurd h (Nat.not_lt_zero _)
  | k + 1, i, h => by
    show getI (Fk rows doors B k ++ [sk rows doors B k]) (i : Int) = _
    by_cases q : i < k
    · rw [getI_app (by omega) (by rw [Fk_len]; omega)]
      exact Fk_at rows doors B k i q
    · have : i = k := by omega
      subst this
      have := getI_app1 (Fk rows doors B i) (sk rows doors B i)
      rw [Fk_len] at this
      exact this
theorem share_ok {doors : List Int} (hd : doors ≠ []) {B r n : Int} (hn : 0 ≤ n) (L : List Int) : okS doors r n (share B (backI doors r) (forthI doors r) n L) := by
  unfold okS share
  cases hb : backI doors r with
  | none =>
    refine ⟨Int.le_refl _, hn, fun _ => rfl, fun h => ?_⟩
    rcases h with h | h
    · exact (not_both hd hb h).elim
    · exact (not_both hd hb h).elim
  | some a =>
    cases hf : forthI doors r with
    | none => exact ⟨hn, Int.le_refl _, (fun h => by cases h), fun _ => rfl⟩
    | some c =>
      by_cases q : c = a
      · simp [q, hn]
      · simp only [q, if_false]
        refine ⟨?_, ?_, (fun h => by cases h), fun h => ?_⟩
        · split <;> (try split) <;> omega
        · split <;> (try split) <;> omega
        · rcases h with h | h
          · cases h
          · injection h with h; exact (q h).elim
theorem greedy_valid {rows doors : List Int} (g : Good rows doors) (B : Int) : Valid rows doors (Fk rows doors B rows.length) := by
  refine ⟨(Fk_len ..).symm, fun i i0 i1 => ?_⟩
  obtain ⟨k, rfl⟩ := Int.eq_ofNat_of_zero_le i0
  have hk : k < rows.length := by omega
  have := Fk_at rows doors B rows.length k hk
  rw [show ((k : Nat) : Int) = (Int.ofNat k) from rfl] at this
  rw [show ((k : Nat) : Int) = (Int.ofNat k) from rfl, this]
  exact share_ok g.d1 (g.rr _ (getI_mem i0 i1)).1 _
theorem irng_succ (n : Nat) : irng 0 (n + 1) = irng 0 n ++ [(n : Int)] := by
  unfold irng
  rw [List.range_succ, List.map_append]
  simp
theorem greedy_loads {rows doors : List Int} (B : Int) : loadsI rows doors (Fk rows doors B rows.length) = Lk rows doors B rows.length := by
  unfold loadsI
  rw [enumZ_irng (Fk_len ..).symm]
  have key : ∀ k, k ≤ rows.length → ((irng 0 k).map fun i => (i, getI rows i, getI (Fk rows doors B rows.length) i)).foldl (stepL doors) (List.replicate doors.length 0) = Lk rows doors B k := by
    intro k
    induction k with
    | zero => intro _; rfl
    | succ k ih =>
      intro hk
      rw [irng_succ, List.map_append, List.foldl_append, ih (by omega)]
      show stepL doors (Lk rows doors B k) ((k : Int), getI rows (k : Int), getI (Fk rows doors B rows.length) (k : Int)) = _
      rw [Fk_at rows doors B rows.length k (by omega)]
      rfl
  exact key _ (Nat.le_refl _)
theorem Ak_alone (rows doors : List Int) (f j : Int) : aloneI rows doors f j = Ak rows doors f j rows.length := by
  unfold aloneI
  have e0 : stepA doors f j = fun a p => a + (if inB doors f j p.1 = true then p.2 else 0) := rfl
  rw [e0, DL.foldl_add, enumI_irng, List.map_map, Int.zero_add]
  have key : ∀ k, ((irng 0 k).map ((fun p : Int × Int => if inB doors f j p.1 = true then p.2 else 0) ∘ fun i => (i, getI rows i))).sum = Ak rows doors f j k := by
    intro k
    induction k with
    | zero => rfl
    | succ k ih =>
      rw [irng_succ, List.map_append, List.sum_append, ih]
      simp [Ak]
  exact key _
theorem getI_addO {o : Option Int} {v : Int} {acc : List Int} (h : ∀ i, o = some i → 0 ≤ i ∧ i < acc.length) {j : Int} (j0 : 0 ≤ j) (j1 : j < acc.length) : getI (addO o v acc) j = getI acc j + if o = some j then v else 0 := by
  cases o with
  | none => simp [addO]
  | some i =>
    obtain ⟨i0, i1⟩ := h i rfl
    obtain ⟨n, rfl⟩ := Int.eq_ofNat_of_zero_le i0
    obtain ⟨m, rfl⟩ := Int.eq_ofNat_of_zero_le j0
    have hn : n < acc.length := by omega
    have hm : m < acc.length := by omega
    show getI (acc.set n (getI acc (n : Int) + v)) (m : Int) = getI acc (m : Int) + if some (n : Int) = some (m : Int) then v else 0
    rw [getI_nat (by rw [List.length_set]; exact hm), getI_nat hn, getI_nat hm, List.getElem_set]
    by_cases q : n = m
    · subst q; simp
    · have : ¬ ((n : Int) = (m : Int)) := by omega
      simp [q, this]
theorem inB_mono {doors : List Int} {f j r : Int} (h : inB doors f j r = true) : inB doors f (j + 1) r = true := by
  unfold inB at h ⊢
  rw [Bool.and_eq_true] at h ⊢
  have key : ∀ o : Option Int, inO f j o = true → inO f (j + 1) o = true := by
    intro o ho
    cases o with
    | none => rfl
    | some i => simp [inO] at ho ⊢; omega
  exact ⟨key _ h.1, key _ h.2⟩
theorem Ak_mono {rows doors : List Int} (g : Good rows doors) (f j : Int) : ∀ k, k ≤ rows.length → 0 ≤ Ak rows doors f j k ∧ Ak rows doors f j k ≤ Ak rows doors f (j + 1) k
  | 0, _ => ⟨Int.le_refl _, Int.le_refl _⟩
  | k + 1, h => by
    have ih := Ak_mono g f j k (by omega)
    have hn := (g.rr _ (getI_mem (xs := rows) (j := (k : Int)) (by omega) (by omega))).1
    simp only [Ak]
    by_cases q : inB doors f j k = true
    · rw [if_pos q, if_pos (inB_mono q)]; omega
    · rw [if_neg q]
      split <;> omega
theorem Ak_step {rows doors : List Int} (g : Good rows doors) (f j : Int) {k : Nat} (h : k < rows.length) : Ak rows doors f j k ≤ Ak rows doors f j (k + 1) := by
  have hn := (g.rr _ (getI_mem (xs := rows) (j := (k : Int)) (by omega) (by omega))).1
  simp only [Ak]
  split <;> omega
def cap (B f j : Int) : Int := B * (j - f + 1)
theorem cap_succ (B f j : Int) : cap B f (j + 1) = cap B f j + B := by
  unfold cap
  rw [show j + 1 - f + 1 = (j - f + 1) + 1 from by omega, Int.mul_add, Int.mul_one]
theorem cap_self (B j : Int) : cap B j j = B := by
  unfold cap
  rw [show j - j + 1 = 1 from by omega, Int.mul_one]
structure J (rows doors : List Int) (B : Int) (k : Nat) (c : Int) : Prop where
  c0 : 0 ≤ c
  c1 : c ≤ doors.length
  lo : ∀ j : Int, 0 ≤ j → j < c → getI doors j < k
  hi : ∀ j : Int, c ≤ j → j < doors.length → (k : Int) ≤ getI doors j
  nn : ∀ j : Int, 0 ≤ j → j < doors.length → 0 ≤ getI (Lk rows doors B k) j
  z : ∀ j : Int, c < j → j < doors.length → getI (Lk rows doors B k) j = 0
  r0 : c = 0 → getI (Lk rows doors B k) 0 ≤ Ak rows doors 0 0 k
  r1 : 0 < c → c < doors.length → (∃ f : Int, 0 ≤ f ∧ f ≤ c - 1 ∧ cap B f c + getI (Lk rows doors B k) (c - 1) + getI (Lk rows doors B k) c ≤ Ak rows doors f c k + 2 * B) ∧ (0 < getI (Lk rows doors B k) c → B ≤ getI (Lk rows doors B k) (c - 1))
  r2 : c = doors.length → ∃ f : Int, 0 ≤ f ∧ f ≤ c - 1 ∧ cap B f (c - 1) + getI (Lk rows doors B k) (c - 1) ≤ Ak rows doors f (c - 1) k + B
  bar : ∀ j : Int, 0 ≤ j → j < doors.length → B < getI (Lk rows doors B k) j → ∃ f : Int, 0 ≤ f ∧ f ≤ j ∧ cap B f j < Ak rows doors f j k
theorem J.x {rows doors : List Int} {B : Int} {k : Nat} {c : Int} (g : Good rows doors) (hk : k ≤ rows.length) (h : J rows doors B k c) (hc : c < doors.length) : ∃ f : Int, 0 ≤ f ∧ f ≤ c ∧ cap B f c + getI (Lk rows doors B k) c ≤ Ak rows doors f c k + B := by
  have c0 := h.c0
  by_cases q : c = 0
  · have := h.r0 q
    subst q
    exact ⟨0, Int.le_refl _, Int.le_refl _, by rw [cap_self]; omega⟩
  · obtain ⟨⟨f, f0, f1, hf⟩, hg⟩ := h.r1 (by omega) hc
    by_cases p : 0 < getI (Lk rows doors B k) c
    · have := hg p
      exact ⟨f, f0, by omega, by omega⟩
    · have a := (Ak_mono g c c k hk).1
      exact ⟨c, c0, Int.le_refl _, by rw [cap_self]; omega⟩
theorem J_zero {rows doors : List Int} (g : Good rows doors) {B : Int} (hB : 0 ≤ B) : J rows doors B 0 0 := by
  have z : ∀ j : Int, 0 ≤ j → j < doors.length → getI (Lk rows doors B 0) j = 0 := by
    intro j j0 j1
    have := getI_mem (xs := List.replicate doors.length 0) (j := j) j0 (by rw [List.length_replicate]; exact j1)
    exact (List.mem_replicate.mp this).2
  have hl := List.length_pos_iff.mpr g.d1
  refine ⟨Int.le_refl _, by omega, fun j a b => by omega, fun j a b => ?_, fun j a b => by rw [z j a b]; exact Int.le_refl _, fun j a b => z j (by omega) b, fun _ => ?_, fun a => by omega, fun a => by omega, fun j a b q => ?_⟩
  · exact (g.dd _ (getI_mem a b)).1
  · rw [z 0 (Int.le_refl _) (by omega)]; exact Int.le_refl _
  · rw [z j a b] at q; omega
theorem J_step {rows doors : List Int} (g : Good rows doors) {B : Int} (hB : 0 ≤ B) {k : Nat} (hk : k < rows.length) {c : Int} (h : J rows doors B k c) : ∃ c', J rows doors B (k + 1) c' := by
  have hn := (g.rr _ (getI_mem (xs := rows) (j := (k : Int)) (by omega) (by omega))).1
  have hm := List.length_pos_iff.mpr g.d1
  have hlen := Lk_len rows doors B k
  have ob : ∀ i, backI doors k = some i → 0 ≤ i ∧ i < (Lk rows doors B k).length := fun i hi => by
    have := back_some hi; omega
  have of : ∀ i, forthI doors k = some i → 0 ≤ i ∧ i < (addO (backI doors k) (sk rows doors B k) (Lk rows doors B k)).length := fun i hi => by
    have := forth_some hi
    rw [addO_len]; omega
  have at' : ∀ j : Int, 0 ≤ j → j < doors.length → getI (Lk rows doors B (k + 1)) j = getI (Lk rows doors B k) j + (if backI doors k = some j then sk rows doors B k else 0) + (if forthI doors k = some j then getI rows k - sk rows doors B k else 0) := by
    intro j j0 j1
    rw [Lk_succ, getI_addO of j0 (by rw [addO_len]; omega), getI_addO ob j0 (by omega)]
  have okk := share_ok (B := B) (r := (k : Int)) g.d1 hn (Lk rows doors B k)
  have hsk : share B (backI doors k) (forthI doors k) (getI rows k) (Lk rows doors B k) = sk rows doors B k := rfl
  rw [hsk] at okk
  obtain ⟨s0, s1, s2, s3⟩ := okk
  have nn' : ∀ j : Int, 0 ≤ j → j < doors.length → 0 ≤ getI (Lk rows doors B (k + 1)) j := fun j a b => by
    have := h.nn j a b
    rw [at' j a b]
    split <;> split <;> omega
  have ups : ∀ j : Int, 0 ≤ j → j < doors.length → backI doors k ≠ some j → forthI doors k ≠ some j → getI (Lk rows doors B (k + 1)) j = getI (Lk rows doors B k) j := fun j a b q1 q2 => by
    rw [at' j a b, if_neg q1, if_neg q2]; omega
  have old : ∀ j : Int, 0 ≤ j → j < doors.length → B < getI (Lk rows doors B k) j → ∃ f : Int, 0 ≤ f ∧ f ≤ j ∧ cap B f j < Ak rows doors f j (k + 1) := fun j a b q => by
    obtain ⟨f, f0, f1, e⟩ := h.bar j a b q
    exact ⟨f, f0, f1, Int.lt_of_lt_of_le e (Ak_step g f j hk)⟩
  have aS : ∀ f j, inB doors f j k = true → Ak rows doors f j (k + 1) = Ak rows doors f j k + getI rows k := fun f j q => by
    simp only [Ak]; rw [if_pos q]
  cases hb : backI doors k with
  | none =>
    cases hf : forthI doors k with
    | none => exact (not_both g.d1 hb hf).elim
    | some i =>
      have bn := back_none hb
      obtain ⟨i0, i1, i2⟩ := forth_some hf
      have fm := forth_min hf
      have e1 : i = 0 := by
        by_cases q : i = 0
        · exact q
        · have := fm 0 (Int.le_refl _) (by omega)
          have := bn 0 (Int.le_refl _) (by omega)
          omega
      subst e1
      have e2 : c = 0 := by
        by_cases q : c = 0
        · exact q
        · have := h.c0
          have := h.lo 0 (Int.le_refl _) (by omega)
          have := bn 0 (Int.le_refl _) (by omega)
          omega
      subst e2
      have es : sk rows doors B k = 0 := s2 hb
      have l0 := at' 0 (Int.le_refl _) (by omega)
      rw [hb, hf, es] at l0
      simp at l0
      have a0 := aS 0 0 (by simp [inB, inO, hb, hf])
      have r0 := h.r0 rfl
      refine ⟨0, Int.le_refl _, by omega, fun j a b => by omega, fun j a b => ?_, nn', fun j a b => ?_, fun _ => by omega, fun a => by omega, fun a => by omega, fun j a b q => ?_⟩
      · have := bn j a b; omega
      · rw [ups j (by omega) b (by rw [hb]; simp) (by rw [hf]; simp; omega)]; exact h.z j a b
      · by_cases q0 : j = 0
        · subst q0
          exact ⟨0, Int.le_refl _, Int.le_refl _, by rw [cap_self]; omega⟩
        · rw [ups j a b (by rw [hb]; simp) (by rw [hf]; simp; omega)] at q
          exact old j a b q
  | some i =>
    obtain ⟨i0, i1, i2⟩ := back_some hb
    have bm := back_max hb
    cases hf : forthI doors k with
    | none =>
      have fnn := forth_none hf
      have e1 : i = (doors.length : Int) - 1 := by
        by_cases q : i = (doors.length : Int) - 1
        · exact q
        · have := bm ((doors.length : Int) - 1) (by omega) (by omega)
          have := fnn ((doors.length : Int) - 1) (by omega) (by omega)
          omega
      have e2 : c = doors.length := by
        by_cases q : c = doors.length
        · exact q
        · have := h.c1
          have := h.c0
          have := h.hi c (Int.le_refl _) (by omega)
          have := fnn c (by omega) (by omega)
          omega
      have es : sk rows doors B k = getI rows k := s3 (.inl hf)
      obtain ⟨f, f0, f1, hfr⟩ := h.r2 e2
      have li := at' i i0 i1
      rw [hb, hf, es] at li
      simp at li
      have ai := aS f i (by simp [inB, inO, hb, hf]; omega)
      have ei : c - 1 = i := by omega
      rw [ei] at hfr
      refine ⟨c, h.c0, h.c1, fun j a b => ?_, fun j a b => by omega, nn', fun j a b => by omega, fun q => by omega, fun _ a => by omega, fun _ => ⟨f, f0, f1, ?_⟩, fun j a b q => ?_⟩
      · have := h.lo j a b; omega
      · rw [ei]; omega
      · by_cases q0 : j = i
        · subst q0
          exact ⟨f, f0, by omega, by omega⟩
        · rw [ups j a b (by rw [hb]; simp; omega) (by rw [hf]; simp)] at q
          exact old j a b q
    | some i' =>
      obtain ⟨k0, k1, k2⟩ := forth_some hf
      have fm := forth_min hf
      by_cases qi : i' = i
      · subst qi
        have e2 : c = i' := by
          have := h.c0
          have := h.c1
          rcases Int.lt_trichotomy c i' with q | q | q
          · have := h.hi c (Int.le_refl _) (by omega)
            have := fm c (by omega) q
            omega
          · exact q
          · have := h.lo i' k0 q
            omega
        subst e2
        have es : sk rows doors B k = getI rows k := s3 (.inr (by rw [hf, hb]))
        obtain ⟨f, f0, f1, hx⟩ := h.x g (Nat.le_of_lt hk) k1
        have li := at' c k0 k1
        rw [hb, hf, es] at li
        simp at li
        have ai := aS f c (by simp [inB, inO, hb, hf]; omega)
        have am := (Ak_mono g f c (k + 1) (by omega)).2
        have cs := cap_succ B f c
        have asc : ∀ j : Int, c < j → j < doors.length → (k : Int) < getI doors j := bm
        refine ⟨c + 1, by omega, by omega, fun j a b => ?_, fun j a b => ?_, nn', fun j a b => ?_, fun q => by omega, fun _ a => ⟨⟨f, f0, by omega, ?_⟩, fun q => ?_⟩, fun q => ⟨f, f0, by omega, ?_⟩, fun j a b q => ?_⟩
        · by_cases q0 : j = c
          · subst q0; omega
          · have := h.lo j a (by omega); omega
        · have := asc j (by omega) b; omega
        · rw [ups j (by omega) b (by rw [hb]; simp; omega) (by rw [hf]; simp; omega)]; exact h.z j (by omega) b
        · have zz := h.z (c + 1) (by omega) a
          have := ups (c + 1) (by omega) a (by rw [hb]; simp; omega) (by rw [hf]; simp; omega)
          rw [show c + 1 - 1 = c from by omega]
          omega
        · have zz := h.z (c + 1) (by omega) a
          have := ups (c + 1) (by omega) a (by rw [hb]; simp; omega) (by rw [hf]; simp; omega)
          omega
        · rw [show c + 1 - 1 = c from by omega]; omega
        · by_cases q0 : j = c
          · subst q0
            exact ⟨f, f0, f1, by omega⟩
          · rw [ups j a b (by rw [hb]; simp; omega) (by rw [hf]; simp; omega)] at q
            exact old j a b q
      · have e1 : i' = i + 1 := by
          rcases Int.lt_trichotomy i' i with q | q | q
          · have := bm
            -- door i ≤ k ≤ door i', i' < i: the doors rise
            have := fm i' k0
            have up := List.pairwise_iff_getElem.mp g.up i'.toNat i.toNat (by omega) (by omega) (by omega)
            have g1 := getI_nat (xs := doors) (j := i'.toNat) (by omega)
            have g2 := getI_nat (xs := doors) (j := i.toNat) (by omega)
            rw [show ((i'.toNat : Nat) : Int) = i' from by omega] at g1
            rw [show ((i.toNat : Nat) : Int) = i from by omega] at g2
            omega
          · exact (qi q).elim
          · by_cases q2 : i' = i + 1
            · exact q2
            · have := fm (i + 1) (by omega) (by omega)
              have := bm (i + 1) (by omega) (by omega)
              omega
        subst e1
        have dk : getI doors i < k := fm i i0 (by omega)
        have dk2 : (k : Int) < getI doors (i + 1) := bm (i + 1) (by omega) k1
        have e2 : c = i + 1 := by
          have := h.c0
          have := h.c1
          rcases Int.lt_trichotomy c (i + 1) with q | q | q
          · have := h.hi i (by omega) i1
            omega
          · exact q
          · have := h.lo (i + 1) k0 q
            omega
        subst e2
        have es : sk rows doors B k = if (if B - getI (Lk rows doors B k) i > 0 then B - getI (Lk rows doors B k) i else 0) < getI rows k then (if B - getI (Lk rows doors B k) i > 0 then B - getI (Lk rows doors B k) i else 0) else getI rows k := by
          unfold sk share
          rw [hb, hf]
          simp only [qi, if_false]
        obtain ⟨⟨f, f0, f1, hr⟩, hg⟩ := h.r1 (by omega) k1
        have li := at' i i0 i1
        have li1 := at' (i + 1) k0 k1
        rw [hb, hf] at li li1
        have ne1 : ¬ ((i + 1 : Int) = i) := by omega
        have ne2 : ¬ (i = (i + 1 : Int)) := by omega
        simp only [Option.some.injEq, ne1, ne2, if_true, if_false] at li li1
        have ai := aS f (i + 1) (by simp [inB, inO, hb, hf]; omega)
        rw [show i + 1 - 1 = i from by omega] at hr hg f1
        have n0 := h.nn i i0 i1
        have n1 := h.nn (i + 1) k0 k1
        generalize getI rows k = n at *
        generalize sk rows doors B k = s at *
        generalize hLi : getI (Lk rows doors B k) i = Li at *
        generalize hLi1 : getI (Lk rows doors B k) (i + 1) = Li1 at *
        generalize hLi' : getI (Lk rows doors B (k + 1)) i = Li' at *
        generalize hLi1' : getI (Lk rows doors B (k + 1)) (i + 1) = Li1' at *
        have G' : 0 < Li1' → B ≤ Li' := by
          intro q
          by_cases p : n - s > 0
          · split at es
            · split at es <;> omega
            · omega
          · have := hg (by omega)
            omega
        have nover : B < Li' → B < Li := by
          intro q
          by_cases p : B < Li
          · exact p
          · by_cases p2 : B - Li > 0
            · simp only [p2, if_true] at es
              split at es <;> omega
            · simp only [p2, if_false] at es
              split at es <;> omega
        refine ⟨i + 1, by omega, by omega, fun j a b => ?_, fun j a b => ?_, nn', fun j a b => ?_, fun q => by omega, fun _ a => ⟨⟨f, f0, by omega, ?_⟩, fun q => ?_⟩, fun q => by omega, fun j a b q => ?_⟩
        · have := h.lo j a b; omega
        · by_cases q0 : j = i + 1
          · subst q0; omega
          · have := bm j (by omega) b; omega
        · rw [ups j (by omega) b (by rw [hb]; simp; omega) (by rw [hf]; simp; omega)]; exact h.z j (by omega) b
        · rw [show i + 1 - 1 = i from by omega, hLi', hLi1']; omega
        · rw [hLi1'] at q
          rw [show i + 1 - 1 = i from by omega, hLi']
          exact G' q
        · by_cases q0 : j = i + 1
          · subst q0
            rw [hLi1'] at q
            have := G' (by omega)
            exact ⟨f, f0, by omega, by omega⟩
          · by_cases q1 : j = i
            · subst q1
              rw [hLi'] at q
              exact old j a b (by rw [hLi]; exact nover q)
            · rw [ups j a b (by rw [hb]; simp; omega) (by rw [hf]; simp; omega)] at q
              exact old j a b q
theorem J_all {rows doors : List Int} (g : Good rows doors) {B : Int} (hB : 0 ≤ B) : ∀ k, k ≤ rows.length → ∃ c, J rows doors B k c
  | 0, _ => ⟨0, J_zero g hB⟩
  | k + 1, h => by
    obtain ⟨c, hc⟩ := J_all g hB k (by omega)
    exact J_step g hB (by omega) hc
/-- THE FACT, one way: a door that lets out too many tells of a bar -/
theorem over_bar {rows doors : List Int} (g : Good rows doors) {B : Int} (hB : 0 ≤ B) {j : Int} (j0 : 0 ≤ j) (j1 : j < doors.length) (h : B < getI (Lk rows doors B rows.length) j) : ∃ f : Int, 0 ≤ f ∧ f ≤ j ∧ B * (j - f + 1) < aloneI rows doors f j := by
  obtain ⟨c, hc⟩ := J_all g hB rows.length (Nat.le_refl _)
  obtain ⟨f, f0, f1, e⟩ := hc.bar j j0 j1 h
  exact ⟨f, f0, f1, by rw [Ak_alone]; exact e⟩
end K82

namespace K82
open PySem PySem.Spec PyProof.Rows L2 DL
theorem for_first {β : Type} {bd : BM} {m : SM} {g : G} (Inv : List Sl → Prop) (enc : β → D) (V : β → Option D) : ∀ {bs : List β} {env : List Sl}, Inv env →
    (∀ b ∈ bs, ∀ env, Inv env → ∃ env', bd (enc b) env = some env' ∧ OkS m env' g fun fl e2 g2 => g2 = g ∧ ((V b = none ∧ fl = .next ∧ Inv e2) ∨ ∃ x, V b = some x ∧ fl = .ret x)) →
    Ok (forGo bd m (bs.map enc) env g) fun r g2 => g2 = g ∧ ((bs.findSome? V = none ∧ r.1 = .next ∧ Inv r.2) ∨ ∃ x, bs.findSome? V = some x ∧ r.1 = .ret x)
  | [], env, h0, _ => ⟨rfl, .inl ⟨rfl, rfl, h0⟩⟩
  | b :: bs, env, h0, h => by
    obtain ⟨env', h1, h2⟩ := h b List.mem_cons_self env h0
    rw [List.map_cons]
    unfold forGo
    rw [h1]
    show Ok ((m env' g).bind _) _
    rw [Ok_bind]
    refine Ok.mono h2 fun r g2 hr => ?_
    obtain ⟨fl, e2⟩ := r
    obtain ⟨rfl, ⟨v, rfl, hi⟩ | ⟨x, v, rfl⟩⟩ := hr
    · have := for_first Inv enc V hi fun x hx => h x (List.mem_cons_of_mem _ hx)
      refine Ok.mono this fun r g3 hr => ?_
      rw [List.findSome?_cons, v]
      exact hr
    · exact ⟨rfl, .inr ⟨x, by rw [List.findSome?_cons, v], rfl⟩⟩
theorem enc_at {xs : List Int} {n : Nat} {d : D} (h : ((enumI xs).map encP)[n]? = some d) : n < xs.length ∧ d = encP ((n : Int), getI xs (n : Int)) := by
  rw [List.getElem?_map] at h
  have hn : n < xs.length := by
    rcases Nat.lt_or_ge n xs.length with q | q
    · exact q
    · rw [List.getElem?_eq_none (by rw [enumI_length]; exact q)] at h; cases h
  refine ⟨hn, ?_⟩
  rw [List.getElem?_eq_getElem (by rw [enumI_length]; exact hn)] at h
  injection h with h
  rw [← h]
  congr 1
  simp [enumI, getI_nat hn]
def allB (B : Int) (L : List Int) : Bool := L.all fun y => decide (y ≤ B)
theorem allB_iff {B : Int} {L : List Int} : allB B L = true ↔ ∀ y ∈ L, y ≤ B := by simp [allB]
theorem max_all {L : List Int} (h : L ≠ []) (B : Int) : ∃ M : Int, maxXF [.list (IL L)] = some (.int M) ∧ decide (M ≤ B) = allB B L := by
  obtain ⟨M, e, m1, m2⟩ : ∃ M : Int, maxXF [.list (IL L)] = some (.int M) ∧ M ∈ L ∧ ∀ y ∈ L, y ≤ M := by
    cases L with
    | nil => exact (h rfl).elim
    | cons x xs => exact maxX_ints x xs
  refine ⟨M, e, ?_⟩
  rw [Bool.eq_iff_iff, decide_eq_true_eq, allB_iff]
  exact ⟨fun q y hy => Int.le_trans (m2 y hy) q, fun q => q M m1⟩
theorem lawshares_eq {rows doors : List Int} (g : Good rows doors) (B : Int) : m__law_shares [tuI rows, tuI doors, .int B] = .ok (if allB B (Lk rows doors B rows.length) = true then tuI (Fk rows doors B rows.length) else .none) := by
  have hr := g.n2
  have hd := g.dl
  have z : doors.length ≤ sizeLine := sl_le (by omega)
  have z2 : (doors.length : Int) < 9223372036854775808 := by omega
  have z3 : (-9223372036854775808 : Int) ≤ (doors.length : Int) := by omega
  refine ok_runP rfl ?_
  unfold b__law_shares
  simp -implicitDefEqProofs [rep_IL, z, z2, z3, kFor, rngE_IL]
  refine Ok.mono (for_ix (fun k env gg => gg = gZ ∧ ∃ x5 x6 x7 x8 x9, env = [.dat (tuI rows), .dat (tuI doors), .dat (.int B), .own (IL (Lk rows doors B k)), .own (IL (Fk rows doors B k)), x5, x6, x7, x8, x9]) (k := 0) ⟨rfl, _, _, _, _, _, rfl⟩ ?_) fun r g2 ⟨r1, r2, x5, x6, x7, x8, x9, r3⟩ => ?_
  · rintro n d hdn env gg ⟨rfl, x5, x6, x7, x8, x9, rfl⟩
    rw [Nat.zero_add]
    obtain ⟨hn, rfl⟩ := enc_at hdn
    refine ⟨_, rfl, ?_⟩
    have hz : (Fk rows doors B n).length < sizeLine := by rw [Fk_len]; exact sl_lt (by omega)
    have hlen := Lk_len rows doors B n
    have es : share B (backI doors n) (forthI doors n) (getI rows n) (Lk rows doors B n) = sk rows doors B n := rfl
    have eL := Lk_succ rows doors B n
    have eF : Fk rows doors B (n + 1) = Fk rows doors B n ++ [sk rows doors B n] := rfl
    have hn0 := (g.rr _ (getI_mem (xs := rows) (j := (n : Int)) (by omega) (by omega))).1
    have okk := share_ok (B := B) (r := (n : Int)) g.d1 hn0 (Lk rows doors B n)
    rw [es] at okk
    obtain ⟨s0, s1, s2, s3⟩ := okk
    unfold y__law_shares_l1
    simp -implicitDefEqProofs [encP, ways_eq (n : Int) (show doors.length < 1000 by omega), isNone_oD, eqD_oD]
    rw [eL, eF]
    generalize Lk rows doors B n = L at *
    generalize Fk rows doors B n = Fd at *
    generalize sk rows doors B n = s at *
    generalize getI rows n = m at *
    unfold share at es
    cases hb : backI doors n with
    | none =>
      cases hf : forthI doors n with
      | none => exact (not_both g.d1 hb hf).elim
      | some j =>
        obtain ⟨j0, j1, _⟩ := forth_some hf
        have e3 := ixN_ok (n := doors.length) (j := j) j0 j1
        have e4 := atI_IL (xs := L) (j := j) j0 (by omega)
        have e0 : s = 0 := s2 hb
        have az := addO_zero (o := some j) (acc := L) fun i hi => by injection hi with hi; omega
        by_cases q : 0 < m
        · simp -implicitDefEqProofs [isNoneD, e0, q, hlen, e3, e4, IL_set, addO, hz]
        · have : m = 0 := by omega
          subst this
          subst e0
          simp -implicitDefEqProofs [isNoneD, hz]
          show IL L = IL (addO (some j) 0 L)
          rw [az]
    | some i =>
      obtain ⟨i0, i1, _⟩ := back_some hb
      have e1 := ixN_ok (n := doors.length) (j := i) i0 i1
      have e2 := atI_IL (xs := L) (j := i) i0 (by omega)
      cases hf : forthI doors n with
      | none =>
        have e0 : s = m := s3 (.inl hf)
        subst e0
        simp -implicitDefEqProofs [isNoneD, hlen, e1, e2, IL_set, addO, hz]
      | some j =>
        obtain ⟨j0, j1, _⟩ := forth_some hf
        have e3 := ixN_ok (n := doors.length) (j := j) j0 j1
        by_cases qi : j = i
        · have e0 : s = m := s3 (.inr (by rw [hf, hb, qi]))
          subst e0
          have az := addO_zero (o := some j) (acc := L.set i.toNat (getI L i + s)) fun k hk => by injection hk with hk; rw [List.length_set]; omega
          simp -implicitDefEqProofs [isNoneD, qi, hlen, e1, e2, IL_set, hz]
          subst qi
          simp [addO] at az ⊢
          rw [az]
        · rw [hb, hf] at es
          simp only [qi, if_false] at es
          have e4 := atI_IL (xs := L.set i.toNat (getI L i + s)) (j := j) j0 (by rw [List.length_set]; omega)
          have az := addO_zero (o := some j) (acc := L.set i.toNat (getI L i + s)) fun k hk => by injection hk with hk; rw [List.length_set]; omega
          have ne : ¬ (some j = some i) := by simp [qi]
          simp -implicitDefEqProofs [isNoneD, qi, e2]
          have es' : (if (if getI L i < B then B - getI L i else 0) < m then (if getI L i < B then B - getI L i else 0) else m) = s := by
            rw [← es]
            have : (B - getI L i > 0) = (getI L i < B) := by rw [eq_iff_iff]; omega
            simp only [this]
          rw [es']
          by_cases q : s < m
          · simp -implicitDefEqProofs [q, hlen, e1, e2, e3, e4, IL_set, addO, hz]
            congr 2
            omega
          · have : s = m := by omega
            subst this
            simp -implicitDefEqProofs [hlen, e1, e2, IL_set, hz]
            simp [addO] at az ⊢
            rw [az]
  · obtain ⟨fl, env⟩ := r
    cases r1
    cases r3
    have ek : 0 + ((enumI rows).map encP).length = rows.length := by simp [enumI_length]
    rw [ek]
    have hne : Lk rows doors B rows.length ≠ [] := fun h => by
      have := Lk_len rows doors B rows.length
      rw [h] at this
      exact g.d1 (List.length_eq_zero_iff.mp this.symm)
    obtain ⟨M, e1, e2⟩ := max_all hne B
    rw [← e2]
    generalize Lk rows doors B rows.length = L at *
    generalize Fk rows doors B rows.length = Fd at *
    by_cases q : M ≤ B <;> simp -implicitDefEqProofs [e1, q, tupleF_l]
end K82

namespace K82
open PySem PySem.Spec PyProof.Rows L2 DL
/-! the pairs of doors that bar -/
def short (rows doors : List Int) (B f l : Int) : Bool := decide (B * (l - f + 1) < aloneI rows doors f l)
def pr (f l : Int) : D := .tuple [.int f, .int l]
def barF (rows doors : List Int) (B f l : Int) : List D := if short rows doors B f l = true then [pr f l] else []
def rowBar (rows doors : List Int) (B f : Int) : List D := (irng f ((doors.length : Int) - f).toNat).flatMap (barF rows doors B f)
def barsL (rows doors : List Int) (B : Int) : List D := (irng 0 doors.length).flatMap (rowBar rows doors B)
theorem short_eq {rows doors : List Int} {B : Int} (hr : rows.length < 1000) (hl : doors.length < 1000) (hB : smallI B = true) (f l : Int) : m_is_short [tuI rows, tuI doors, .int B, .int f, .int l] = .ok (.bool (short rows doors B f l)) := by
  have a := alone_eq f l hr hl
  refine ok_runP rfl ?_
  unfold b_is_short
  simp -implicitDefEqProofs [a, hB, short]
theorem rawshort_eq {rows doors : List Int} {B : Int} (g : Good rows doors) (hB : smallI B = true) : m_raw_short [tuI rows, tuI doors, .int B] = .ok ((barsL rows doors B).head?.getD .none) := by
  have hr := g.n2
  have hd := g.dl
  have ok1 : okR (doors.length : Int) = true := by rw [okR_iff]; omega
  refine ok_runP rfl ?_
  unfold b_raw_short
  simp -implicitDefEqProofs [kFor, ok1, rng_irng]
  have e : (barsL rows doors B).head? = (irng 0 doors.length).findSome? fun f => (rowBar rows doors B f).head? := List.head?_flatMap ..
  rw [e]
  refine Ok.mono (for_first (fun env => ∃ x3 x4, env = [.dat (tuI rows), .dat (tuI doors), .dat (.int B), x3, x4]) PyData.int (fun f => (rowBar rows doors B f).head?) ⟨_, _, rfl⟩ ?_) fun r g2 ⟨r1, hr2⟩ => ?_
  · rintro f hf env ⟨x3, x4, rfl⟩
    rw [mem_irng] at hf
    refine ⟨_, rfl, ?_⟩
    have ok2 : okR f = true := by rw [okR_iff]; omega
    unfold y_raw_short_l2
    have e : (rowBar rows doors B f).head? = (irng f ((doors.length : Int) - f).toNat).findSome? fun l => (barF rows doors B f l).head? := List.head?_flatMap ..
    rw [e]
    generalize hv : (irng f ((doors.length : Int) - f).toNat).findSome? (fun l => (barF rows doors B f l).head?) = v
    simp -implicitDefEqProofs [kFor, ok1, ok2, rng_irng]
    subst hv
    refine Ok.mono (for_first (fun env => ∃ x4, env = [.dat (tuI rows), .dat (tuI doors), .dat (.int B), .dat (.int f), x4]) PyData.int (fun l => (barF rows doors B f l).head?) ⟨_, rfl⟩ ?_) fun r g2 ⟨r1, hr2⟩ => ?_
    · rintro l hl env ⟨x4, rfl⟩
      refine ⟨_, rfl, ?_⟩
      have s := short_eq (rows := rows) (doors := doors) (B := B) (by omega) (by omega) hB f l
      unfold y_raw_short_l1
      simp -implicitDefEqProofs [s]
      unfold barF
      cases short rows doors B f l <;> simp -implicitDefEqProofs [pr]
    · refine ⟨r1, ?_⟩
      rcases hr2 with ⟨a, b, x4, c⟩ | ⟨x, a, b⟩
      · exact .inl ⟨a, b, _, _, c⟩
      · exact .inr ⟨x, a, b⟩
  · obtain ⟨fl, env⟩ := r
    rcases hr2 with ⟨a, b, x3, x4, c⟩ | ⟨x, a, b⟩
    · rw [a]
      cases b
      cases c
      simp -implicitDefEqProofs
    · rw [a]
      cases b
      simp -implicitDefEqProofs
theorem flat_len {β : Type} (f : β → List D) (n : Nat) : ∀ (L : List β), (∀ x ∈ L, (f x).length ≤ n) → (L.flatMap f).length ≤ L.length * n
  | [], _ => by simp
  | x :: xs, h => by
    have ih := flat_len f n xs fun y hy => h y (List.mem_cons_of_mem _ hy)
    have h0 := h x List.mem_cons_self
    rw [List.flatMap_cons, List.length_append, List.length_cons, Nat.add_mul]
    omega
theorem barF_len (rows doors : List Int) (B f l : Int) : (barF rows doors B f l).length ≤ 1 := by
  unfold barF; split <;> simp
theorem bars_eq {rows doors : List Int} {B : Int} (g : Good rows doors) (hB : smallI B = true) : m__law_bars [tuI rows, tuI doors, .int B] = .ok (.list (barsL rows doors B)) := by
  have hr := g.n2
  have hd := g.dl
  have ok1 : okR (doors.length : Int) = true := by rw [okR_iff]; omega
  refine ok_runP rfl ?_
  unfold b__law_bars
  simp -implicitDefEqProofs [kFor, ok1, rng_irng]
  refine Ok.mono (for_ix (fun k env gg => gg = gZ ∧ ∃ x4 x5 x6 x7 x8 x9 x10, env = [.dat (tuI rows), .dat (tuI doors), .dat (.int B), .own ((irng 0 k).flatMap (rowBar rows doors B)), x4, x5, x6, x7, x8, x9, x10]) (k := 0) ⟨rfl, _, _, _, _, _, _, _, rfl⟩ ?_) fun r g2 ⟨r1, r2, x4, x5, x6, x7, x8, x9, x10, r3⟩ => ?_
  · rintro n d hdn env gg ⟨rfl, x4, x5, x6, x7, x8, x9, x10, rfl⟩
    rw [Nat.zero_add]
    have hn : n < doors.length ∧ d = .int (n : Int) := by
      rw [List.getElem?_map] at hdn
      have hn : n < doors.length := by
        rcases Nat.lt_or_ge n doors.length with q | q
        · exact q
        · rw [List.getElem?_eq_none (by rw [irng_length]; exact q)] at hdn; cases hdn
      refine ⟨hn, ?_⟩
      rw [List.getElem?_eq_getElem (by rw [irng_length]; exact hn)] at hdn
      injection hdn with hdn
      rw [← hdn]
      simp [irng]
    obtain ⟨hn, rfl⟩ := hn
    refine ⟨_, rfl, ?_⟩
    have ok2 : okR (n : Int) = true := by rw [okR_iff]; omega
    have hlen : ((irng 0 n).flatMap (rowBar rows doors B)).length ≤ 81 := by
      have h1 := flat_len (rowBar rows doors B) 9 (irng 0 n) fun f hf => by
        have h2 := flat_len (barF rows doors B f) 1 (irng f ((doors.length : Int) - f).toNat) fun l _ => barF_len ..
        rw [irng_length] at h2
        rw [mem_irng] at hf
        unfold rowBar
        omega
      rw [irng_length] at h1
      have : n * 9 ≤ 9 * 9 := Nat.mul_le_mul_right _ (by omega)
      omega
    have es : (irng 0 (n + 1)).flatMap (rowBar rows doors B) = (irng 0 n).flatMap (rowBar rows doors B) ++ rowBar rows doors B n := by
      rw [irng_succ, List.flatMap_append]; simp
    rw [es]
    generalize (irng 0 n).flatMap (rowBar rows doors B) = acc0 at *
    unfold y__law_bars_l4
    simp -implicitDefEqProofs [kFor, ok1, ok2, rng_irng]
    refine Ok.mono (for_app 100 (fun acc env => ∃ x5 x6 x7 x8 x9 x10, env = [.dat (tuI rows), .dat (tuI doors), .dat (.int B), .own acc, .dat (.int n), x5, x6, x7, x8, x9, x10]) PyData.int (barF rows doors B n) (fun l => barF_len ..) (acc := acc0) (by rw [irng_length]; omega) ⟨_, _, _, _, _, _, rfl⟩ ?_) fun r g2 ⟨r1, r2, x5, x6, x7, x8, x9, x10, r3⟩ => ?_
    · rintro l hl acc env hN ⟨x5, x6, x7, x8, x9, x10, rfl⟩
      rw [mem_irng] at hl
      refine ⟨_, rfl, ?_⟩
      have hz : acc.length < sizeLine := sl_lt (by omega)
      unfold y__law_bars_l3
      simp -implicitDefEqProofs [kFor, rngE_IL]
      refine Ok.mono (for_st (fun a env => ∃ x7 x8 x9 x10, env = [.dat (tuI rows), .dat (tuI doors), .dat (.int B), .own acc, .dat (.int n), .dat (.int l), .dat (.int a), x7, x8, x9, x10]) encP (stepA doors n l) ⟨_, _, _, _, rfl⟩ ?_) fun r g2 ⟨r1, r2, x7, x8, x9, x10, r3⟩ => ?_
      · rintro p hp a env ⟨x7, x8, x9, x10, rfl⟩
        refine ⟨_, rfl, ?_⟩
        unfold y__law_bars_l2
        have lc : ∀ x8 z : Sl, lcGo (bName 10) t__law_bars_c1 x__law_bars_c1 [.dat (tuI rows), .dat (tuI doors), .dat (.int B), .own acc, .dat (.int n), .dat (.int l), .dat (.int a), .dat (.int p.1), .dat (.int p.2), x8, z] [oD (backI doors p.1), oD (forthI doors p.1)] gZ = .ok ([oD (backI doors p.1), oD (forthI doors p.1)].filter fun d => !isNoneD d) gZ := fun x8 z => by
          have := lc_filter (b := bName 10) (t := t__law_bars_c1) (e := x__law_bars_c1) (env := [.dat (tuI rows), .dat (tuI doors), .dat (.int B), .own acc, .dat (.int n), .dat (.int l), .dat (.int a), .dat (.int p.1), .dat (.int p.2), x8, z]) (fun d => !isNoneD d) (fun d => d) (ds := [oD (backI doors p.1), oD (forthI doors p.1)]) (g := gZ) fun d hd => by
            refine ⟨_, rfl, eqB_of ?_, fun _ => eqE_of ?_⟩
            · unfold t__law_bars_c1; simp
            · unfold x__law_bars_c1; simp
          rw [this, List.map_id']
        obtain ⟨mn, mx, e1, e2, e3⟩ := few_test (f := (n : Int)) (l := l) (a := backI doors p.1) (b := forthI doors p.1) fun h => not_both g.d1 h.1 h.2
        simp -implicitDefEqProofs [ways_eq _ (show doors.length < 1000 by omega), kLc]
        rw [lc]
        generalize [oD (backI doors p.1), oD (forthI doors p.1)].filter (fun d => !isNoneD d) = FL at e1 e2
        simp -implicitDefEqProofs [e1, e2]
        by_cases q : (n : Int) ≤ mn
        · by_cases q2 : mx ≤ l
          · have := e3.mp ⟨q, q2⟩
            simp -implicitDefEqProofs [q, q2, stepA, inB, this]
          · have : (inO n l (backI doors p.1) && inO n l (forthI doors p.1)) = false := by
              rw [← Bool.not_eq_true, ← e3]; exact fun h => q2 h.2
            simp -implicitDefEqProofs [q, q2, stepA, inB, this]
        · have : (inO n l (backI doors p.1) && inO n l (forthI doors p.1)) = false := by
            rw [← Bool.not_eq_true, ← e3]; exact fun h => q h.1
          simp -implicitDefEqProofs [q, stepA, inB, this]
      · obtain ⟨fl, env⟩ := r
        have ea : (enumI rows).foldl (stepA doors n l) 0 = aloneI rows doors n l := rfl
        rw [ea] at r3
        cases r1
        cases r3
        have cm : (l - (n : Int) + 1) * B = B * (l - n + 1) := Int.mul_comm ..
        simp -implicitDefEqProofs [r2, hB, cm]
        unfold barF short
        by_cases q : B * (l - n + 1) < aloneI rows doors n l <;> simp -implicitDefEqProofs [q, pr, hz]
    · obtain ⟨fl, env⟩ := r
      cases r1
      cases r3
      simp -implicitDefEqProofs [r2, rowBar]
  · obtain ⟨fl, env⟩ := r
    cases r1
    cases r3
    have ek : 0 + ((irng 0 doors.length).map PyData.int).length = doors.length := by simp [irng_length]
    rw [ek]
    simp -implicitDefEqProofs [barsL]
theorem mem_bars {rows doors : List Int} {B : Int} {d : D} : d ∈ barsL rows doors B ↔ ∃ f l : Int, 0 ≤ f ∧ f ≤ l ∧ l < doors.length ∧ short rows doors B f l = true ∧ d = pr f l := by
  unfold barsL rowBar barF
  constructor
  · intro h
    obtain ⟨f, hf, h⟩ := List.mem_flatMap.mp h
    obtain ⟨l, hl, h⟩ := List.mem_flatMap.mp h
    rw [mem_irng] at hf hl
    split at h
    · rename_i q
      exact ⟨f, l, hf.1, hl.1, by omega, q, List.mem_singleton.mp h⟩
    · cases h
  · rintro ⟨f, l, a, b, c, q, rfl⟩
    refine List.mem_flatMap.mpr ⟨f, mem_irng.mpr (by omega), List.mem_flatMap.mpr ⟨l, mem_irng.mpr (by omega), ?_⟩⟩
    rw [if_pos q]
    exact List.mem_singleton.mpr rfl
/-- THE FACT -/
theorem fact {rows doors : List Int} (g : Good rows doors) {B : Int} (hB : 0 ≤ B) : barsL rows doors B = [] ↔ allB B (Lk rows doors B rows.length) = true := by
  constructor
  · intro h
    rw [allB_iff]
    intro y hy
    obtain ⟨j, j0, j1, rfl⟩ := getI_of_mem hy
    rw [Lk_len] at j1
    by_cases q : getI (Lk rows doors B rows.length) j ≤ B
    · exact q
    · obtain ⟨f, f0, f1, e⟩ := over_bar g hB j0 j1 (by omega)
      have : pr f j ∈ barsL rows doors B := mem_bars.mpr ⟨f, j, f0, f1, j1, by unfold short; simpa using e, rfl⟩
      rw [h] at this
      cases this
  · intro h
    rw [allB_iff, ← greedy_loads] at h
    by_cases q : barsL rows doors B = []
    · exact q
    · obtain ⟨d, hd⟩ := List.exists_mem_of_ne_nil _ q
      obtain ⟨f, l, f0, f1, l1, e, _⟩ := mem_bars.mp hd
      have := alone_le g (greedy_valid g B) f0 f1 hB h
      unfold short at e
      rw [decide_eq_true_eq] at e
      omega
end K82

namespace K82
open PySem PySem.Spec PyProof.Rows L2 DL
/-! the room that is left -/
def room (B : Int) (L : List Int) : List Int := L.map fun y => B - y
def subO : Option Int → Int → List Int → List Int
  | none, _, R => R
  | some i, v, R => R.set i.toNat (getI R i - v)
theorem room_len (B : Int) (L : List Int) : (room B L).length = L.length := List.length_map ..
theorem getI_room {B : Int} {L : List Int} {j : Int} (h0 : 0 ≤ j) (h1 : j < L.length) : getI (room B L) j = B - getI L j := by
  obtain ⟨n, rfl⟩ := Int.eq_ofNat_of_zero_le h0
  have hn : n < L.length := by omega
  have hn2 : n < (room B L).length := by rw [room_len]; exact hn
  show getI (room B L) (n : Int) = B - getI L (n : Int)
  rw [getI_nat hn, getI_nat hn2]
  simp [room]
theorem room_addO {B : Int} {o : Option Int} {v : Int} {L : List Int} (h : ∀ i, o = some i → 0 ≤ i ∧ i < L.length) : room B (addO o v L) = subO o v (room B L) := by
  cases o with
  | none => rfl
  | some i =>
    obtain ⟨h0, h1⟩ := h i rfl
    show (L.set i.toNat (getI L i + v)).map (fun y => B - y) = (room B L).set i.toNat (getI (room B L) i - v)
    rw [getI_room h0 h1, List.map_set]
    have : B - (getI L i + v) = B - getI L i - v := by omega
    rw [this]
    rfl
theorem room_zero (B : Int) (n : Nat) : room B (List.replicate n 0) = List.replicate n B := by
  unfold room
  rw [List.map_replicate, Int.sub_zero]
theorem subO_zero {o : Option Int} {R : List Int} (h : ∀ i, o = some i → 0 ≤ i ∧ i < R.length) : subO o 0 R = R := by
  cases o with
  | none => rfl
  | some i =>
    have := addO_zero (o := some i) (acc := R) h
    show R.set i.toNat (getI R i - 0) = R
    rw [Int.sub_zero]
    have e : addO (some i) 0 R = R.set i.toNat (getI R i + 0) := rfl
    rw [e, Int.add_zero] at this
    exact this
theorem anyF_false {ys : List D} (h : ∀ y ∈ ys, y = .bool false) : anyF [.list ys] = some (.bool false) := by
  have e : ys = (List.replicate ys.length false).map PyData.bool := by
    rw [List.map_replicate]
    exact List.eq_replicate_iff.mpr ⟨rfl, h⟩
  show (allBools ys).map (fun ns => PyData.bool (ns.any id)) = _
  rw [e, allBools_map]
  simp
theorem Lk_up {rows doors : List Int} (g : Good rows doors) (B : Int) {k : Nat} (hk : k < rows.length) {j : Int} (j0 : 0 ≤ j) (j1 : j < doors.length) : getI (Lk rows doors B k) j ≤ getI (Lk rows doors B (k + 1)) j := by
  have hn := (g.rr _ (getI_mem (xs := rows) (j := (k : Int)) (by omega) (by omega))).1
  have hlen := Lk_len rows doors B k
  have ob : ∀ i, backI doors k = some i → 0 ≤ i ∧ i < (Lk rows doors B k).length := fun i hi => by
    have := back_some hi; omega
  have of : ∀ i, forthI doors k = some i → 0 ≤ i ∧ i < (addO (backI doors k) (sk rows doors B k) (Lk rows doors B k)).length := fun i hi => by
    have := forth_some hi
    rw [addO_len]; omega
  have okk := share_ok (B := B) (r := (k : Int)) g.d1 hn (Lk rows doors B k)
  have hsk : share B (backI doors k) (forthI doors k) (getI rows k) (Lk rows doors B k) = sk rows doors B k := rfl
  rw [hsk] at okk
  obtain ⟨s0, s1, _⟩ := okk
  rw [Lk_succ, getI_addO of j0 (by rw [addO_len]; omega), getI_addO ob j0 (by omega)]
  split <;> split <;> omega
theorem Lk_le {rows doors : List Int} (g : Good rows doors) (B : Int) {j : Int} (j0 : 0 ≤ j) (j1 : j < doors.length) : ∀ (d k : Nat), k + d = rows.length → getI (Lk rows doors B k) j ≤ getI (Lk rows doors B rows.length) j
  | 0, k, h => by
    have : k = rows.length := by omega
    subst this
    exact Int.le_refl _
  | d + 1, k, h => Int.le_trans (Lk_up g B (by omega) j0 j1) (Lk_le g B j0 j1 d (k + 1) (by omega))
theorem pre_ok {rows doors : List Int} (g : Good rows doors) {B : Int} (h : allB B (Lk rows doors B rows.length) = true) {k : Nat} (hk : k ≤ rows.length) : ∀ j : Int, 0 ≤ j → j < doors.length → getI (Lk rows doors B k) j ≤ B := by
  intro j j0 j1
  rw [allB_iff] at h
  have := h _ (getI_mem j0 (by rw [Lk_len]; exact j1))
  have := Lk_le g B j0 j1 (rows.length - k) k (by omega)
  omega
theorem rawsharing_eq {rows doors : List Int} (g : Good rows doors) {B : Int} (h : allB B (Lk rows doors B rows.length) = true) : m_raw_sharing [tuI rows, tuI doors, .int B] = .ok (tuI (Fk rows doors B rows.length)) := by
  have hr := g.n2
  have hd := g.dl
  have z : doors.length ≤ sizeLine := sl_le (by omega)
  have z2 : (doors.length : Int) < 9223372036854775808 := by omega
  have z3 : (-9223372036854775808 : Int) ≤ (doors.length : Int) := by omega
  have ro0 : List.replicate doors.length B = room B (Lk rows doors B 0) := (room_zero B doors.length).symm
  refine ok_runP rfl ?_
  unfold b_raw_sharing
  simp -implicitDefEqProofs [rep_IL, z, z2, z3, kFor, rngE_IL]
  rw [ro0]
  refine Ok.mono (for_ix (fun k env gg => gg = gZ ∧ ∃ x5 x6 x7 x8 x9 x10, env = [.dat (tuI rows), .dat (tuI doors), .dat (.int B), .own (IL (room B (Lk rows doors B k))), .own (IL (Fk rows doors B k)), x5, x6, x7, x8, x9, x10]) (k := 0) ⟨rfl, _, _, _, _, _, _, rfl⟩ ?_) fun r g2 ⟨r1, r2, x5, x6, x7, x8, x9, x10, r3⟩ => ?_
  · rintro n d hdn env gg ⟨rfl, x5, x6, x7, x8, x9, x10, rfl⟩
    rw [Nat.zero_add]
    obtain ⟨hn, rfl⟩ := enc_at hdn
    refine ⟨_, rfl, ?_⟩
    have hz : (Fk rows doors B n).length < sizeLine := by rw [Fk_len]; exact sl_lt (by omega)
    have hlen := Lk_len rows doors B n
    have p1 := pre_ok g h (k := n) (by omega)
    have p2 := pre_ok g h (k := n + 1) (by omega)
    have es : share B (backI doors n) (forthI doors n) (getI rows n) (Lk rows doors B n) = sk rows doors B n := rfl
    have eL := Lk_succ rows doors B n
    have eF : Fk rows doors B (n + 1) = Fk rows doors B n ++ [sk rows doors B n] := rfl
    have hn0 := (g.rr _ (getI_mem (xs := rows) (j := (n : Int)) (by omega) (by omega))).1
    have okk := share_ok (B := B) (r := (n : Int)) g.d1 hn0 (Lk rows doors B n)
    rw [es] at okk
    obtain ⟨s0, s1, s2, s3⟩ := okk
    have ob : ∀ i, backI doors n = some i → 0 ≤ i ∧ i < (Lk rows doors B n).length := fun i hi => by
      have := back_some hi; omega
    have of : ∀ i, forthI doors n = some i → 0 ≤ i ∧ i < (addO (backI doors n) (sk rows doors B n) (Lk rows doors B n)).length := fun i hi => by
      have := forth_some hi
      rw [addO_len]; omega
    have eR : room B (Lk rows doors B (n + 1)) = subO (forthI doors n) (getI rows n - sk rows doors B n) (subO (backI doors n) (sk rows doors B n) (room B (Lk rows doors B n))) := by
      rw [eL, room_addO of, room_addO ob]
    have anyOk : ∀ env : List Sl, env.length = 11 → lcGo (bName 10) bYes x_raw_sharing_c1 env (IL (room B (Lk rows doors B (n + 1)))) gZ = .ok ((room B (Lk rows doors B (n + 1))).map fun y => .bool (decide (y < 0))) gZ := by
      intro env he
      unfold IL
      rw [lc_enc PyData.int (fun _ => true) (fun y => .bool (decide (y < 0))), List.filter_eq_self.mpr (fun _ _ => rfl)]
      intro y hy
      refine ⟨_, rfl, rfl, fun _ => eqE_of ?_⟩
      unfold x_raw_sharing_c1
      simp -implicitDefEqProofs [he]
    have anyV : anyF [.list ((room B (Lk rows doors B (n + 1))).map fun y => .bool (decide (y < 0)))] = some (.bool false) := anyF_false fun y hy => by
      obtain ⟨v, hv, rfl⟩ := List.mem_map.mp hy
      obtain ⟨j, j0, j1, rfl⟩ := getI_of_mem hv
      rw [room_len, Lk_len] at j1
      rw [getI_room j0 (by rw [Lk_len]; exact j1)]
      have := p2 j j0 j1
      simp
      omega
    have hzd : doors.length < sizeLine := sl_lt (by omega)
    obtain ⟨Ys, anyOk, anyV⟩ : ∃ Ys, (∀ env : List Sl, env.length = 11 → lcGo (bName 10) bYes x_raw_sharing_c1 env (IL (room B (Lk rows doors B (n + 1)))) gZ = .ok Ys gZ) ∧ anyF [.list Ys] = some (.bool false) := ⟨_, anyOk, anyV⟩
    have hz2 : (IL (room B (Lk rows doors B (n + 1)))).length < sizeLine := by rw [IL_length, room_len, Lk_len]; exact sl_lt (by omega)
    have gR : ∀ i : Int, 0 ≤ i → i < doors.length → getI (room B (Lk rows doors B n)) i = B - getI (Lk rows doors B n) i := fun i a b => getI_room a (by omega)
    have hlR : (room B (Lk rows doors B n)).length = doors.length := by rw [room_len, hlen]
    unfold y_raw_sharing_l2
    simp -implicitDefEqProofs [encP, ends_eq (n : Int) (show doors.length < 1000 by omega), isNone_oD, eqD_oD]
    rw [eF]
    rw [eR] at anyOk hz2
    rw [eR]
    unfold share at es
    generalize room B (Lk rows doors B n) = R at *
    generalize Lk rows doors B n = L at *
    generalize Fk rows doors B n = Fd at *
    generalize sk rows doors B n = s at *
    generalize getI rows n = m at *
    cases hb : backI doors n with
    | none =>
      cases hf : forthI doors n with
      | none => exact (not_both g.d1 hb hf).elim
      | some j =>
        obtain ⟨j0, j1, _⟩ := forth_some hf
        have e3 := ixN_ok (n := doors.length) (j := j) j0 j1
        have e4 := IL_at (xs := R) (i := j) j0 (by omega)
        have e0 : s = 0 := s2 hb
        rw [hb, hf] at anyOk hz2
        subst e0
        by_cases q : 0 < m
        · simp [subO] at anyOk hz2 ⊢
          simp -implicitDefEqProofs [isNoneD, q, hlR, e3, e4, IL_set, hz, kLc, hz2, hzd, anyOk, anyV]
        · have : m = 0 := by omega
          subst this
          have az := subO_zero (o := some j) (R := R) fun i hi => by injection hi with hi; omega
          have en : subO none 0 R = R := rfl
          simp only [Int.sub_zero, en, az] at anyOk hz2 ⊢
          simp at hz2
          simp -implicitDefEqProofs [isNoneD, hz, kLc, hz2, hzd, anyOk, anyV]
    | some i =>
      obtain ⟨i0, i1, _⟩ := back_some hb
      have e1 := ixN_ok (n := doors.length) (j := i) i0 i1
      have e2 := IL_at (xs := R) (i := i) i0 (by omega)
      have e2' := atI_IL (xs := R) (j := i) i0 (by omega)
      cases hf : forthI doors n with
      | none =>
        have e0 : s = m := s3 (.inl hf)
        subst e0
        rw [hb, hf] at anyOk hz2
        simp [subO] at anyOk hz2 ⊢
        simp -implicitDefEqProofs [isNoneD, hlR, e1, e2, IL_set, hz, kLc, hz2, hzd, anyOk, anyV]
      | some j =>
        obtain ⟨j0, j1, _⟩ := forth_some hf
        have e3 := ixN_ok (n := doors.length) (j := j) j0 j1
        rw [hb, hf] at anyOk hz2
        by_cases qi : j = i
        · have e0 : s = m := s3 (.inr (by rw [hf, hb, qi]))
          subst e0
          have az := subO_zero (o := some j) (R := subO (some i) s R) fun k hk => by injection hk with hk; simp [subO]; omega
          rw [Int.sub_self, az] at anyOk hz2
          rw [Int.sub_self, az]
          simp [subO] at anyOk hz2 ⊢
          simp -implicitDefEqProofs [isNoneD, qi, hlR, e1, e2, IL_set, hz, kLc, hz2, hzd, anyOk, anyV]
        · rw [hb, hf] at es
          simp only [qi, if_false] at es
          have e4 := IL_at (xs := R.set i.toNat (getI R i - s)) (i := j) j0 (by rw [List.length_set]; omega)
          have hLi := p1 i i0 i1
          have eRi := gR i i0 i1
          have es' : (if getI R i < m then getI R i else m) = s := by
            rw [eRi, ← es]
            by_cases q : B - getI L i > 0
            · simp only [q, if_true]
            · have : B - getI L i = 0 := by omega
              simp [this]
          simp -implicitDefEqProofs [isNoneD, qi, e2']
          rw [es']
          by_cases q : s < m
          · simp [subO] at anyOk hz2 ⊢
            simp -implicitDefEqProofs [q, hlR, e1, e2, e3, e4, IL_set, hz, kLc, hz2, hzd, anyOk, anyV]
          · have : s = m := by omega
            subst this
            have az := subO_zero (o := some j) (R := subO (some i) s R) fun k hk => by injection hk with hk; simp [subO]; omega
            rw [Int.sub_self, az] at anyOk hz2
            rw [Int.sub_self, az]
            simp [subO] at anyOk hz2 ⊢
            simp -implicitDefEqProofs [hlR, e1, e2, IL_set, hz, kLc, hz2, hzd, anyOk, anyV]
  · obtain ⟨fl, env⟩ := r
    cases r1
    cases r3
    have ek : 0 + ((enumI rows).map encP).length = rows.length := by simp [enumI_length]
    rw [ek]
    generalize Fk rows doors B rows.length = Fd at *
    simp -implicitDefEqProofs [tupleF_l]
end K82

namespace K82
open PySem PySem.Spec PyProof.Rows L2 DL
theorem Ak_le {rows doors : List Int} (g : Good rows doors) (f j : Int) : ∀ k : Nat, k ≤ rows.length → Ak rows doors f j k ≤ 60 * k
  | 0, _ => Int.le_refl _
  | k + 1, h => by
    have ih := Ak_le g f j k (by omega)
    have hn := g.rr _ (getI_mem (xs := rows) (j := (k : Int)) (by omega) (by omega))
    simp only [Ak]
    split <;> omega
theorem fold_ge {β : Type} {st : Int → β → Int} : ∀ {bs : List β} {a : Int}, (∀ b ∈ bs, ∀ a, a ≤ st a b) → a ≤ bs.foldl st a
  | [], _, _ => Int.le_refl _
  | b :: bs, a, q => by
    rw [List.foldl_cons]
    exact Int.le_trans (q b List.mem_cons_self a) (fold_ge fun x hx => q x (List.mem_cons_of_mem _ hx))
theorem fold_at {β : Type} {st : Int → β → Int} {v : Int} {c : β} : ∀ {bs : List β} {a : Int}, c ∈ bs → (∀ b ∈ bs, ∀ a, a ≤ st a b) → (∀ a, v ≤ st a c) → v ≤ bs.foldl st a
  | b :: bs, a, hc, q, hv => by
    rw [List.foldl_cons]
    rcases List.mem_cons.mp hc with rfl | hc
    · exact Int.le_trans (hv a) (fold_ge fun x hx => q x (List.mem_cons_of_mem _ hx))
    · exact fold_at hc (fun x hx => q x (List.mem_cons_of_mem _ hx)) hv
theorem stepB_ge (rows doors : List Int) (f a l : Int) : a ≤ stepB rows doors f a l := by unfold stepB; split <;> omega
theorem stepB_at (rows doors : List Int) (f a l : Int) : -((-(aloneI rows doors f l)).fdiv (l - f + 1)) ≤ stepB rows doors f a l := by unfold stepB; split <;> omega
theorem beats_nonneg (rows doors : List Int) : 0 ≤ beatsI rows doors := fold_ge fun f _ a => fold_ge fun l _ a => stepB_ge ..
theorem beats_at {rows doors : List Int} {f l : Int} (f0 : 0 ≤ f) (fl : f ≤ l) (l1 : l < doors.length) : -((-(aloneI rows doors f l)).fdiv (l - f + 1)) ≤ beatsI rows doors := by
  unfold beatsI
  refine fold_at (c := f) (mem_irng.mpr (by omega)) (fun f _ a => fold_ge fun l _ a => stepB_ge ..) fun a => ?_
  exact fold_at (c := l) (mem_irng.mpr (by omega)) (fun l _ a => stepB_ge ..) fun a => stepB_at ..
theorem ceil_ge {A N M : Int} (hN : 0 < N) (h : -((-A).fdiv N) ≤ M) : A ≤ M * N := by
  have e : (-A).fdiv N = (-A) / N := Int.fdiv_eq_ediv_of_nonneg _ (by omega)
  rw [e] at h
  have h2 : -M ≤ (-A) / N := by omega
  have := (Int.le_ediv_iff_mul_le hN).mp h2
  rw [Int.neg_mul] at this
  omega
theorem beats_iff {rows doors : List Int} (g : Good rows doors) {B : Int} (hB : 0 ≤ B) : beatsI rows doors ≤ B ↔ barsL rows doors B = [] := by
  constructor
  · intro h
    by_cases q : barsL rows doors B = []
    · exact q
    · obtain ⟨d, hd⟩ := List.exists_mem_of_ne_nil _ q
      obtain ⟨f, l, f0, f1, l1, e, _⟩ := mem_bars.mp hd
      have := ceil_ge (by omega) (Int.le_trans (beats_at f0 f1 l1) h)
      unfold short at e
      rw [decide_eq_true_eq] at e
      omega
  · intro h
    have h := (fact g hB).mp h
    rw [allB_iff, ← greedy_loads] at h
    exact beats_le g (greedy_valid g B) hB h
theorem beats_540 {rows doors : List Int} (g : Good rows doors) : beatsI rows doors ≤ 540 := by
  unfold beatsI
  refine fold_le (by decide) fun f hf a ha => ?_
  rw [mem_irng] at hf
  refine fold_le ha fun l hl a ha => ?_
  rw [mem_irng] at hl
  unfold stepB
  split
  · refine ceil_le (by omega) ?_
    rw [Ak_alone]
    have := Ak_le g f l rows.length (Nat.le_refl _)
    have := g.n2
    have : (540 : Int) * 1 ≤ 540 * (l - f + 1) := Int.mul_le_mul_of_nonneg_left (by omega) (by decide)
    omega
  · exact ha
theorem chkB_ok {B : Int} (h0 : 0 ≤ B) (h1 : B ≤ 2000) : m_check_beats [.int B] = .ok .none := by
  refine ok_runP rfl ?_
  unfold b_check_beats
  simp -implicitDefEqProofs [within_eq, h0, h1]
theorem chkB_bad {d : D} (h : inRg d 0 2000 = false) : m_check_beats [d] = .err "NoNumber" := by
  unfold m_check_beats b_check_beats
  simp [sIf, bNot, eTru, eFn, eCons, eVar, eNil, eC, within_eq, h, truD, Out.bind, Out.of, sRaise]
def toldD (rows doors : List Int) (B : Int) : D := match barsL rows doors B with
  | [] => .tuple [.str "sharing", tuI (Fk rows doors B rows.length)]
  | .tuple ds :: _ => .tuple (.str "doors" :: ds)
  | _ => .none
theorem told_eq {rows doors : List Int} (g : Good rows doors) {B : Int} (h0 : 0 ≤ B) (h1 : B ≤ 2000) : m_sharing_told [tuI rows, tuI doors, .int B] = .ok (toldD rows doors B) := by
  have c1 := both_good g
  have c2 := chkB_ok h0 h1
  have c3 := rawshort_eq g (smallI_of (i := B) (by omega) (by omega))
  have mb := fun d => mem_bars (rows := rows) (doors := doors) (B := B) (d := d)
  unfold toldD
  cases hb : barsL rows doors B with
  | nil =>
    have c4 := rawsharing_eq g ((fact g h0).mp hb)
    rw [hb] at c3
    have c3' : m_raw_short [tuI rows, tuI doors, .int B] = .ok .none := c3
    generalize Fk rows doors B rows.length = Fd at *
    refine ok_runP rfl ?_
    unfold b_sharing_told
    simp -implicitDefEqProofs [c1, c2, c3', c4, isNoneD]
  | cons d r =>
    obtain ⟨f, l, _, _, _, _, e⟩ := (mb d).mp (by rw [hb]; exact List.mem_cons_self)
    subst e
    rw [hb] at c3
    have c3' : m_raw_short [tuI rows, tuI doors, .int B] = .ok (.tuple [.int f, .int l]) := c3
    refine ok_runP rfl ?_
    unfold b_sharing_told
    simp -implicitDefEqProofs [c1, c2, c3', isNoneD]
    rfl
/-! flags of things -/
def Fl (R Dd : D) (B : Int) (X : D) : Prop := ∃ b : Bool, m_is_sharing_told [R, Dd, .int B, X] = .ok (.bool b) ∧ m__law_is_told [R, Dd, .int B, X] = .ok (.bool b)
theorem nin23 (n : Int) : ninD (.int n) (.tuple [.int 2, .int 3]) = some (.bool (decide (n ≠ 2 ∧ n ≠ 3))) := by
  show (if (okD (.tuple [.int 2, .int 3]) && okD (.int n)) = true then some (PyData.bool (!inL (.int n) [.int 2, .int 3])) else none) = _
  rw [if_pos (by rw [(kb_int (p := 0) n).ok]; rfl)]
  by_cases a : n = 2
  · subst a; rfl
  · by_cases b : n = 3
    · subst b; rfl
    · have a' : ¬ (2 = n) := fun h => a h.symm
      have b' : ¬ (3 = n) := fun h => b h.symm
      simp [inL, PyData.eqv, a, b, a', b']
theorem fl_notup {R Dd : D} {B : Int} {X : D} (c1 : m_check_both [R, Dd] = .ok .none) (c2 : m_check_beats [.int B] = .ok .none) (h : isTupD X = false) : Fl R Dd B X := by
  refine ⟨false, ok_runP rfl ?_, ok_runP rfl ?_⟩
  · unfold b_is_sharing_told
    simp -implicitDefEqProofs [c1, c2, h]
  · unfold b__law_is_told
    simp -implicitDefEqProofs [h]
theorem fl_len {R Dd : D} {B : Int} {xs : List D} (c1 : m_check_both [R, Dd] = .ok .none) (c2 : m_check_beats [.int B] = .ok .none) (h : (xs.length : Int) ≠ 2 ∧ (xs.length : Int) ≠ 3) : Fl R Dd B (.tuple xs) := by
  have it : isTupD (.tuple xs) = true := rfl
  refine ⟨false, ok_runP rfl ?_, ok_runP rfl ?_⟩
  · unfold b_is_sharing_told
    simp -implicitDefEqProofs [c1, c2, it, nin23, h]
  · unfold b__law_is_told
    simp -implicitDefEqProofs [it, nin23, h]
theorem fl_nostr {R Dd : D} {B : Int} {a : D} {xs : List D} (c1 : m_check_both [R, Dd] = .ok .none) (c2 : m_check_beats [.int B] = .ok .none) (h : isStrD a = false) : Fl R Dd B (.tuple (a :: xs)) := by
  by_cases q : ((a :: xs).length : Int) ≠ 2 ∧ ((a :: xs).length : Int) ≠ 3
  · exact fl_len c1 c2 q
  · have it : isTupD (.tuple (a :: xs)) = true := rfl
    have a0 : atI (a :: xs) 0 = some a := atI_head _ _
    have ln : lenF [.tuple (a :: xs)] = some (.int ((a :: xs).length : Int)) := rfl
    have nn : ninD (.int ((a :: xs).length : Int)) (.tuple [.int 2, .int 3]) = some (.bool false) := by rw [nin23]; simp only [q, decide_false]
    generalize a :: xs = L at *
    refine ⟨false, ok_runP rfl ?_, ok_runP rfl ?_⟩
    · unfold b_is_sharing_told
      simp -implicitDefEqProofs [c1, c2, it, nn, a0, h]
    · unfold b__law_is_told
      simp -implicitDefEqProofs [it, nn, a0, h]
theorem fl_doors2 {R Dd : D} {B : Int} {b : D} (c1 : m_check_both [R, Dd] = .ok .none) (c2 : m_check_beats [.int B] = .ok .none) : Fl R Dd B (.tuple [.str "doors", b]) := by
  have it : isTupD (.tuple [.str "doors", b]) = true := rfl
  have a0 : atI [PyData.str "doors", b] 0 = some (.str "doors") := rfl
  have e1 : ¬ (("doors" : Str) = ("sharing" : Str)) := by decide
  refine ⟨false, ok_runP rfl ?_, ok_runP rfl ?_⟩
  · unfold b_is_sharing_told
    simp -implicitDefEqProofs [c1, c2, it, nin23, a0, isStrD, e1]
  · unfold b__law_is_told
    simp -implicitDefEqProofs [it, nin23, a0, isStrD, e1]
theorem fl_sharing3 {R Dd : D} {B : Int} {b c : D} (c1 : m_check_both [R, Dd] = .ok .none) (c2 : m_check_beats [.int B] = .ok .none) : Fl R Dd B (.tuple [.str "sharing", b, c]) := by
  have it : isTupD (.tuple [.str "sharing", b, c]) = true := rfl
  have a0 : atI [PyData.str "sharing", b, c] 0 = some (.str "sharing") := rfl
  have e1 : ¬ (("sharing" : Str) = ("doors" : Str)) := by decide
  refine ⟨false, ok_runP rfl ?_, ok_runP rfl ?_⟩
  · unfold b_is_sharing_told
    simp -implicitDefEqProofs [c1, c2, it, nin23, a0, isStrD, e1]
  · unfold b__law_is_told
    simp -implicitDefEqProofs [it, nin23, a0, isStrD, e1]
end K82

namespace K82
open PySem PySem.Spec PyProof.Rows L2 DL
instance (doors : List Int) (r n s : Int) : Decidable (okS doors r n s) := by unfold okS; infer_instance
def elemOk (rows doors : List Int) (p : Int × D) : Bool := match p.2 with
  | .int s => decide (okS doors p.1 (getI rows p.1) s)
  | _ => false
def idx (ds : List D) : List (Int × D) := ds.mapIdx fun i d => ((i : Int), d)
theorem rngE_idx (ds : List D) : rngE 0 ds = (idx ds).map fun p => PyData.tuple [.int p.1, p.2] := by
  apply List.ext_getElem
  · simp [rngE, idx]
  · intro n h1 h2
    simp [rngE, idx]
theorem mem_idx {ds : List D} {p : Int × D} (h : p ∈ idx ds) : 0 ≤ p.1 ∧ p.1 < ds.length := by
  unfold idx at h
  obtain ⟨i, hi, rfl⟩ := List.mem_mapIdx.mp h
  exact ⟨by simp, by simp; exact hi⟩
theorem lawloads_len {rows : List Int} {x b : D} (h : lenIs b (rows.length : Int) = false) : m__law_loads [tuI rows, x, b] = .ok .none := by
  refine ok_runP rfl ?_
  unfold b__law_loads
  cases b with
  | tuple ds =>
    simp [lenIs] at h
    simp -implicitDefEqProofs [isTupD, h]
  | _ => simp -implicitDefEqProofs [isTupD]
theorem lawloads_bad {rows doors : List Int} (g : Good rows doors) {ds : List D} (hl : ds.length = rows.length) (h : ∃ p ∈ idx ds, elemOk rows doors p = false) : m__law_loads [tuI rows, tuI doors, .tuple ds] = .ok .none := by
  have hr := g.n2
  have hd := g.dl
  have z : doors.length ≤ sizeLine := sl_le (by omega)
  have z2 : (doors.length : Int) < 9223372036854775808 := by omega
  have z3 : (-9223372036854775808 : Int) ≤ (doors.length : Int) := by omega
  have el : ((ds.length : Int) = (rows.length : Int)) := by omega
  refine ok_runP rfl ?_
  unfold b__law_loads
  simp -implicitDefEqProofs [isTupD, el, rep_IL, z, z2, z3, kFor, rngE_idx]
  refine Ok.mono (for_first (fun env => ∃ acc x4 x5 x6 x7, env = [.dat (tuI rows), .dat (tuI doors), .dat (.tuple ds), .own (IL acc), x4, x5, x6, x7] ∧ acc.length = doors.length) (fun p : Int × D => PyData.tuple [.int p.1, p.2]) (fun p => if elemOk rows doors p = true then none else some .none) ⟨_, _, _, _, _, rfl, by simp⟩ ?_) fun r g2 ⟨r1, hr2⟩ => ?_
  · rintro p hp env ⟨acc, x4, x5, x6, x7, rfl, ha⟩
    obtain ⟨t0, t1⟩ := mem_idx hp
    have hat := atI_IL (xs := rows) (j := p.1) t0 (by omega)
    obtain ⟨r, d⟩ := p
    simp only at t0 t1 hat
    refine ⟨_, rfl, ?_⟩
    unfold y__law_loads_l1
    have hb1 := fun i (h : backI doors r = some i) => back_some h
    have hf1 := fun i (h : forthI doors r = some i) => forth_some h
    simp -implicitDefEqProofs [ways_eq r (show doors.length < 1000 by omega)]
    cases d with
    | int s =>
      unfold elemOk
      simp only
      generalize hn : getI rows r = n at *
      simp -implicitDefEqProofs [isIntD, isBoolD, hat, isNone_oD, eqD_oD]
      by_cases k1 : 0 ≤ s
      · by_cases k2 : s ≤ n
        · simp -implicitDefEqProofs [k1, k2]
          unfold okS
          cases hb : backI doors r with
          | none =>
            cases hf : forthI doors r with
            | none => exact (not_both g.d1 hb hf).elim
            | some j =>
              obtain ⟨j0, j1, _⟩ := hf1 j hf
              have e3 := ixN_ok (n := doors.length) (j := j) j0 j1
              have e4 := atI_IL (xs := acc) (j := j) j0 (by omega)
              by_cases q : s = 0
              · subst q
                simp -implicitDefEqProofs [hat, ha, e3, e4, IL_set, isNoneD, k2]
                exact ⟨_, rfl, by simp [ha]⟩
              · simp -implicitDefEqProofs [q]
          | some i =>
            obtain ⟨i0, i1, _⟩ := hb1 i hb
            have e1 := ixN_ok (n := doors.length) (j := i) i0 i1
            have e2 := atI_IL (xs := acc) (j := i) i0 (by omega)
            cases hf : forthI doors r with
            | none =>
              by_cases q : s = n
              · subst q
                simp -implicitDefEqProofs [hat, ha, e1, e2, IL_set, isNoneD, k1]
                exact ⟨_, rfl, by simp [ha]⟩
              · simp -implicitDefEqProofs [hat, q, isNoneD]
            | some j =>
              obtain ⟨j0, j1, _⟩ := hf1 j hf
              have e3 := ixN_ok (n := doors.length) (j := j) j0 j1
              have e4 := atI_IL (xs := acc.set i.toNat (getI acc i + s)) (j := j) j0 (by rw [List.length_set]; omega)
              by_cases qi : j = i
              · by_cases q : s = n
                · subst q
                  subst qi
                  simp -implicitDefEqProofs [hat, ha, e1, e2, e3, e4, IL_set, isNoneD, k1]
                  exact ⟨_, rfl, by simp [ha]⟩
                · simp -implicitDefEqProofs [hat, q, qi, isNoneD]
              · simp -implicitDefEqProofs [hat, ha, qi, e1, e2, e3, e4, IL_set, isNoneD, k1, k2]
                exact ⟨_, rfl, by simp [ha]⟩
        · simp -implicitDefEqProofs [k1, k2, okS]
      · simp -implicitDefEqProofs [k1, okS]
    | _ => simp -implicitDefEqProofs [isIntD, isBoolD, elemOk]
  · obtain ⟨fl, env⟩ := r
    rcases hr2 with ⟨a, _⟩ | ⟨x, a, b⟩
    · exfalso
      rw [List.findSome?_eq_none_iff] at a
      obtain ⟨p, hp, e⟩ := h
      have := a p hp
      simp [e] at this
    · obtain ⟨p, hp, e⟩ := List.exists_of_findSome?_eq_some a
      split at e
      · cases e
      · injection e with e
        subst e
        cases b
        simp -implicitDefEqProofs
theorem is_sharing_bad {rows doors ss : List Int} (g : Good rows doors) (hl : rows.length = ss.length) (hw : withins (tuI ss) 0 60 = true) (h : ∃ t ∈ enumZ rows ss, ¬ okS doors t.1 t.2.1 t.2.2) : m_is_sharing [tuI rows, tuI doors, tuI ss] = .ok (.bool false) := by
  have hr := g.n2
  have hd := g.dl
  have hs : smallT (tuI ss) := small_tu (by omega)
  have el : ((ss.length : Int) = (rows.length : Int)) := by omega
  have w0 : ∀ s ∈ ss, 0 ≤ s := by
    obtain ⟨xs, e, hx⟩ := withins_int hw
    injection e with e
    have := IL_inj e
    subst this
    exact fun s hs => (hx s hs).1
  refine ok_runP rfl ?_
  unfold b_is_sharing
  simp -implicitDefEqProofs [tuple_of_eq, lenIs, el, withins_eq _ _ _ hs, hw, kFor, ezD_IL]
  refine Ok.mono (for_first (fun env => ∃ x3 x4 x5 x6 x7, env = [.dat (tuI rows), .dat (tuI doors), .dat (tuI ss), x3, x4, x5, x6, x7]) encQ (fun t => if okS doors t.1 t.2.1 t.2.2 then none else some (.bool false)) ⟨_, _, _, _, _, rfl⟩ ?_) fun r g2 ⟨r1, hr2⟩ => ?_
  · rintro t ht env ⟨x3, x4, x5, x6, x7, rfl⟩
    have s0 : 0 ≤ t.2.2 := w0 _ (mem_enumZ ht).2.2.2.2.2.2
    refine ⟨_, rfl, ?_⟩
    unfold y_is_sharing_l1
    simp -implicitDefEqProofs [ends_eq t.1 (show doors.length < 1000 by omega), isNone_oD, eqD_oD, encQ]
    generalize t.2.1 = n at *
    generalize t.2.2 = s at *
    by_cases k2 : s ≤ n
    · have q1 : ¬ n < s := by omega
      simp -implicitDefEqProofs [q1]
      unfold okS
      cases hb : backI doors t.1 with
      | none =>
        cases hf : forthI doors t.1 with
        | none => exact (not_both g.d1 hb hf).elim
        | some j =>
          by_cases q : s = 0
          · subst q
            simp -implicitDefEqProofs [k2]
          · have q' : 0 < s := by omega
            simp -implicitDefEqProofs [q, q']
      | some i =>
        cases hf : forthI doors t.1 with
        | none =>
          by_cases q : s = n
          · subst q
            simp -implicitDefEqProofs [s0]
          · have q' : s < n := by omega
            simp -implicitDefEqProofs [q, q']
        | some j =>
          by_cases qi : j = i
          · by_cases q : s = n
            · subst q
              simp -implicitDefEqProofs [s0, qi]
            · have q' : s < n := by omega
              simp -implicitDefEqProofs [q, q', qi]
          · simp -implicitDefEqProofs [qi, s0, k2]
    · have q1 : n < s := by omega
      simp -implicitDefEqProofs [q1, okS, k2]
  · obtain ⟨fl, env⟩ := r
    rcases hr2 with ⟨a, _⟩ | ⟨x, a, b⟩
    · exfalso
      rw [List.findSome?_eq_none_iff] at a
      obtain ⟨p, hp, e⟩ := h
      have := a p hp
      simp [e] at this
    · obtain ⟨p, hp, e⟩ := List.exists_of_findSome?_eq_some a
      split at e
      · cases e
      · injection e with e
        subst e
        cases b
        simp -implicitDefEqProofs
end K82

namespace K82
open PySem PySem.Spec PyProof.Rows L2 DL
theorem max_allT {L : List Int} (h : L ≠ []) (B : Int) : ∃ M : Int, maxXF [.tuple (IL L)] = some (.int M) ∧ decide (M ≤ B) = allB B L := by
  obtain ⟨M, e, h2⟩ := max_all h B
  exact ⟨M, e, h2⟩
theorem fl_s2_no {R Dd : D} {B : Int} {b : D} (c1 : m_check_both [R, Dd] = .ok .none) (c2 : m_check_beats [.int B] = .ok .none) (h1 : m_is_sharing [R, Dd, b] = .ok (.bool false)) (h2 : m__law_loads [R, Dd, b] = .ok .none) : Fl R Dd B (.tuple [.str "sharing", b]) := by
  have it : isTupD (.tuple [.str "sharing", b]) = true := rfl
  have a0 : atI [PyData.str "sharing", b] 0 = some (.str "sharing") := rfl
  have a1 : atI [PyData.str "sharing", b] 1 = some b := rfl
  refine ⟨false, ok_runP rfl ?_, ok_runP rfl ?_⟩
  · unfold b_is_sharing_told
    simp -implicitDefEqProofs [c1, c2, it, nin23, a0, a1, isStrD, h1]
  · unfold b__law_is_told
    simp -implicitDefEqProofs [it, nin23, a0, a1, isStrD, h2, isNoneD]
theorem fl_s2_yes {R Dd : D} {B : Int} {b : D} {L : List Int} (c1 : m_check_both [R, Dd] = .ok .none) (c2 : m_check_beats [.int B] = .ok .none) (hL : L ≠ []) (hl : L.length < 1000) (h1 : m_is_sharing [R, Dd, b] = .ok (.bool true)) (h3 : m_raw_out [R, Dd, b] = .ok (liI L)) (h2 : m__law_loads [R, Dd, b] = .ok (tuI L)) : Fl R Dd B (.tuple [.str "sharing", b]) := by
  have it : isTupD (.tuple [.str "sharing", b]) = true := rfl
  have a0 : atI [PyData.str "sharing", b] 0 = some (.str "sharing") := rfl
  have a1 : atI [PyData.str "sharing", b] 1 = some b := rfl
  obtain ⟨M, e1, e2⟩ := max_allT hL B
  have hz : (IL L).length < sizeLine := by rw [IL_length]; exact sl_lt (by omega)
  have lc : ∀ z : Sl, lcGo (bName 4) bYes x_is_sharing_told_c1 [.dat R, .dat Dd, .dat (.int B), .dat (.tuple [.str "sharing", b]), z] (IL L) gZ = .ok (L.map fun y => .bool (decide (y ≤ B))) gZ := fun z => by
    unfold IL
    rw [lc_enc PyData.int (fun _ => true) (fun y => .bool (decide (y ≤ B))), List.filter_eq_self.mpr (fun _ _ => rfl)]
    intro y hy
    refine ⟨_, rfl, rfl, fun _ => eqE_of ?_⟩
    unfold x_is_sharing_told_c1
    simp
  have al : allF [.list (L.map fun y => .bool (decide (y ≤ B)))] = some (.bool (allB B L)) := by
    have := allBools_map (L.map fun y => decide (y ≤ B))
    rw [List.map_map] at this
    show (allBools (L.map fun y => PyData.bool (decide (y ≤ B)))).map (fun ns => PyData.bool (ns.all id)) = _
    have e : (L.map fun y => PyData.bool (decide (y ≤ B))) = L.map (PyData.bool ∘ fun y => decide (y ≤ B)) := rfl
    rw [e, this]
    simp [allB]
  generalize (L.map fun y => PyData.bool (decide (y ≤ B))) = Ys at lc al
  refine ⟨allB B L, ok_runP rfl ?_, ok_runP rfl ?_⟩
  · unfold b_is_sharing_told
    simp -implicitDefEqProofs [c1, c2, it, nin23, a0, a1, isStrD, h1, h3, kLc, hz]
    simp at hz
    simp -implicitDefEqProofs [hz, lc, al]
  · unfold b__law_is_told
    rw [← e2]
    simp -implicitDefEqProofs [it, nin23, a0, a1, isStrD, h2, isNoneD, e1]
theorem fl_sharing2 {rows doors : List Int} (g : Good rows doors) {B : Int} (h0 : 0 ≤ B) (h1 : B ≤ 2000) {b : D} (hs : smallT b) : Fl (tuI rows) (tuI doors) B (.tuple [.str "sharing", b]) := by
  have c1 := both_good g
  have c2 := chkB_ok h0 h1
  have hd := g.dl
  cases hl : lenIs b (rows.length : Int) with
  | false => exact fl_s2_no c1 c2 (sharing_bad hs (by rw [hl]; rfl)) (lawloads_len hl)
  | true =>
    cases b with
    | tuple ds =>
      have hl' : ds.length = rows.length := by simp [lenIs] at hl; omega
      by_cases q : ∃ p ∈ idx ds, elemOk rows doors p = false
      · have ll := lawloads_bad g hl' q
        cases hw : withins (.tuple ds) 0 60 with
        | false => exact fl_s2_no c1 c2 (sharing_bad hs (by rw [hw, Bool.and_false])) ll
        | true =>
          obtain ⟨ss, e, _⟩ := withins_int hw
          injection e with e
          subst e
          rw [IL_length] at hl'
          refine fl_s2_no c1 c2 (is_sharing_bad g hl'.symm hw ?_) ll
          obtain ⟨p, hp, ep⟩ := q
          unfold idx at hp
          obtain ⟨i, hi, rfl⟩ := List.mem_mapIdx.mp hp
          rw [IL_length] at hi
          refine ⟨((i : Int), getI rows i, getI ss i), ?_, ?_⟩
          · rw [enumZ_irng hl'.symm]
            exact List.mem_map.mpr ⟨(i : Int), mem_irng.mpr (by omega), rfl⟩
          · have e1 : (IL ss)[i] = .int (getI ss i) := by
              rw [getI_nat hi]
              exact List.getElem_map ..
            simp only [elemOk, e1, decide_eq_false_iff_not] at ep
            exact ep
      · have all : ∀ p ∈ idx ds, elemOk rows doors p = true := fun p hp => by
          cases e : elemOk rows doors p with
          | true => rfl
          | false => exact (q ⟨p, hp, e⟩).elim
        obtain ⟨ss, rfl⟩ := ints_of (ds := ds) fun d hd => by
          obtain ⟨i, hi, rfl⟩ := List.mem_iff_getElem.mp hd
          have := all ((i : Int), ds[i]) (List.mem_mapIdx.mpr ⟨i, hi, rfl⟩)
          unfold elemOk at this
          generalize ds[i] = d at *
          cases d with
          | int s => exact ⟨s, rfl⟩
          | _ => cases this
        rw [IL_length] at hl'
        have v : Valid rows doors ss := by
          refine ⟨hl'.symm, fun i i0 i1 => ?_⟩
          obtain ⟨k, rfl⟩ := Int.eq_ofNat_of_zero_le i0
          have hk : k < ss.length := by omega
          have hk2 : k < (IL ss).length := by rw [IL_length]; exact hk
          have := all ((k : Int), (IL ss)[k]) (List.mem_mapIdx.mpr ⟨k, hk2, rfl⟩)
          have e1 : (IL ss)[k] = .int (getI ss k) := by
            rw [getI_nat hk]
            exact List.getElem_map ..
          rw [e1] at this
          simp only [elemOk, decide_eq_true_eq] at this
          exact this
        have hlen := loads_len rows doors ss
        refine fl_s2_yes c1 c2 (L := loadsI rows doors ss) (fun h => ?_) (by omega) (sharing_good g v) (out_eq g v) (lawloads_eq g v)
        rw [h] at hlen
        exact g.d1 (List.length_eq_zero_iff.mp hlen.symm)
    | _ => cases hl
def ib (d : D) : Bool := isIntD d && !isBoolD d
theorem fl_doors3 {rows doors : List Int} (g : Good rows doors) {B : Int} (h0 : 0 ≤ B) (h1 : B ≤ 2000) (b c : D) : Fl (tuI rows) (tuI doors) B (.tuple [.str "doors", b, c]) := by
  have c1 := both_good g
  have c2 := chkB_ok h0 h1
  have hr := g.n2
  have hd := g.dl
  have it : isTupD (.tuple [.str "doors", b, c]) = true := rfl
  have a0 : atI [PyData.str "doors", b, c] 0 = some (.str "doors") := rfl
  have a1 : atI [PyData.str "doors", b, c] 1 = some b := rfl
  have a2 : atI [PyData.str "doors", b, c] 2 = some c := rfl
  have cc : cut [PyData.str "doors", b, c] (some 1) none = [b, c] := rfl
  have e0 : ¬ (("doors" : Str) = ("sharing" : Str)) := by decide
  have hs : smallT (.tuple [b, c]) := small_lit (by simp)
  have sB := smallI_of (i := B) (by omega) (by omega)
  have bq := bars_eq g sB
  have lc : ∀ z y : Sl, lcGo (bName 5) bYes x__law_is_told_c1 [.dat (tuI rows), .dat (tuI doors), .dat (.int B), .dat (.tuple [.str "doors", b, c]), z, y] [b, c] gZ = .ok [.bool (ib b), .bool (ib c)] gZ := fun z y => by
    have := lc_map (b := bName 5) (e := x__law_is_told_c1) (env := [.dat (tuI rows), .dat (tuI doors), .dat (.int B), .dat (.tuple [.str "doors", b, c]), z, y]) (fun d => .bool (ib d)) (ds := [b, c]) (g := gZ) fun d hd => by
      refine ⟨_, rfl, eqE_of ?_⟩
      unfold x__law_is_told_c1
      cases d <;> simp -implicitDefEqProofs [ib, isIntD, isBoolD]
    exact this
  cases hib : (ib b && ib c) with
  | false =>
    have hw : withins (.tuple [b, c]) 0 ((doors.length : Int) - 1) = false := by
      show (inRg b _ _ && (inRg c _ _ && true)) = false
      cases h2 : ib b with
      | false => rw [inRg_isInt h2]; rfl
      | true =>
        rw [h2, Bool.true_and] at hib
        rw [inRg_isInt hib, Bool.false_and, Bool.and_false]
    refine ⟨false, ok_runP rfl ?_, ok_runP rfl ?_⟩
    · unfold b_is_sharing_told
      simp -implicitDefEqProofs [c1, c2, it, nin23, a0, a1, a2, isStrD, e0, cc, withins_eq _ _ _ hs, hw]
    · unfold b__law_is_told
      simp -implicitDefEqProofs [it, nin23, a0, a1, a2, isStrD, e0, cc, kLc, lc, allF_2, hib]
  | true =>
    rw [Bool.and_eq_true] at hib
    obtain ⟨i, rfl⟩ : ∃ i : Int, b = .int i := by
      cases b with
      | int i => exact ⟨i, rfl⟩
      | _ => cases hib.1
    obtain ⟨j, rfl⟩ : ∃ i : Int, c = .int i := by
      cases c with
      | int i => exact ⟨i, rfl⟩
      | _ => cases hib.2
    have sh := short_eq (rows := rows) (doors := doors) (B := B) (by omega) (by omega) sB i j
    have ws := withins_eq _ 0 ((doors.length : Int) - 1) hs
    have hw : withins (.tuple [.int i, .int j]) 0 ((doors.length : Int) - 1) = (decide (0 ≤ i) && decide (i ≤ (doors.length : Int) - 1) && (decide (0 ≤ j) && decide (j ≤ (doors.length : Int) - 1))) := by
      show (inRg (.int i) _ _ && (inRg (.int j) _ _ && true)) = _
      rw [Bool.and_true]; rfl
    have inn : inD (.tuple [.int i, .int j]) (.list (barsL rows doors B)) = some (.bool (decide (0 ≤ i) && decide (i ≤ j) && decide (j < doors.length) && short rows doors B i j)) := by
      have kb : KB 2 (.list (barsL rows doors B)) := kb_list (p := 1) fun d hd => by
        obtain ⟨f, l, _, _, _, _, rfl⟩ := mem_bars.mp hd
        exact kb_tup (p := 0) (kb_cons (kb_int _) (kb_cons (kb_int _) kb_nil))
      have kp : KB 1 (.tuple [.int i, .int j]) := kb_tup (p := 0) (kb_cons (kb_int _) (kb_cons (kb_int _) kb_nil))
      show (if (okD (.list (barsL rows doors B)) && okD (.tuple [.int i, .int j])) = true then some (PyData.bool (inL (.tuple [.int i, .int j]) (barsL rows doors B))) else none) = _
      rw [kb.ok, kp.ok, if_pos (by rfl)]
      congr 2
      rw [Bool.eq_iff_iff]
      unfold inL
      rw [List.any_eq_true]
      constructor
      · rintro ⟨d, hd, e⟩
        obtain ⟨f, l, f0, f1, l1, s, rfl⟩ := mem_bars.mp hd
        simp [pr, PyData.eqv, PyData.eqvAll] at e
        obtain ⟨rfl, rfl⟩ := e
        simp [f0, f1, l1, s]
      · intro e
        simp at e
        obtain ⟨⟨⟨e1, e2⟩, e3⟩, e4⟩ := e
        exact ⟨pr i j, mem_bars.mpr ⟨i, j, e1, e2, by omega, e4, rfl⟩, by simp [pr, PyData.eqv, PyData.eqvAll]⟩
    refine ⟨decide (0 ≤ i) && decide (i ≤ j) && decide (j < doors.length) && short rows doors B i j, ok_runP rfl ?_, ok_runP rfl ?_⟩
    · unfold b_is_sharing_told
      rw [hw] at ws
      generalize short rows doors B i j = sv at *
      simp -implicitDefEqProofs [c1, c2, it, nin23, a0, a1, a2, isStrD, e0, cc, ws, sh]
      by_cases k1 : 0 ≤ i
      · by_cases k2 : i ≤ j
        · by_cases k3 : j < (doors.length : Int)
          · have k4 : i ≤ (doors.length : Int) - 1 := by omega
            have k5 : 0 ≤ j := by omega
            have k6 : j ≤ (doors.length : Int) - 1 := by omega
            have k7 : ¬ j < i := by omega
            simp -implicitDefEqProofs [k1, k2, k3, k4, k5, k6, k7] <;> (intro h; omega)
          · have k6 : ¬ j ≤ (doors.length : Int) - 1 := by omega
            simp -implicitDefEqProofs [k1, k2, k3, k6]
        · have k7 : j < i := by omega
          simp -implicitDefEqProofs [k1, k2, k7]
      · simp -implicitDefEqProofs [k1]
    · unfold b__law_is_told
      have ib1 : ib (.int i) = true := rfl
      have ib2 : ib (.int j) = true := rfl
      rw [ib1, ib2] at lc
      generalize barsL rows doors B = bl at *
      generalize short rows doors B i j = sv at *
      simp -implicitDefEqProofs [it, nin23, a0, a1, a2, isStrD, e0, cc, kLc, lc, allF_2, bq, inn]
theorem deep_fl {g : G} (w : WF g) : Ok (m__law_deep [] g) fun d g' => WF g' ∧ (isTupD d = false ∨ ∃ x, d = .tuple [.dict [], x]) := by
  refine ok_runH rfl ?_
  unfold b__law_deep
  simp
  refine Ok.mono (draw_ok w (by decide) (by decide)) fun d2 g2 ⟨w2, v, e, h3, h4⟩ => ?_
  subst e
  have ok1 : okR v = true := by
    rw [okR_iff]; omega
  simp [ok1]
  refine Ok.mono (for_inv (fun env g => WF g ∧ ∃ d x, env = [.hand, .dat d, x] ∧ (isTupD d = false ∨ ∃ x, d = .tuple [.dict [], x])) ⟨w2, _, .un, rfl, .inl rfl⟩ ?_) fun r g3 ⟨e1, w3, d3, x, e2, hd3⟩ => ?_
  · rintro dd hdd env g ⟨wg, d3, x, rfl, hd3⟩
    refine ⟨_, rfl, ?_⟩
    unfold y__law_deep_l1
    simp
    refine Ok.mono (draw_ok wg (by decide) (by decide)) fun d4 g4 ⟨w4, v4, e4, h5, h6⟩ => ?_
    subst e4
    simp
    split <;> simp [w4, isTupD]
  · obtain ⟨fl, env⟩ := r
    cases e1
    cases e2
    simp [w3, hd3]
end K82

namespace K82
open PySem PySem.Spec PyProof.Rows L2 DL
theorem things_ok {g : G} (w : WF g) {rows doors : List Int} (gd : Good rows doors) {B : Int} (h0 : 0 ≤ B) (h1 : B ≤ 2000) {ts : List D} {wd : Str} {row : List Int} (hlt : ts.length ≤ 4)
    (a0 : atI ts 0 = some (.str wd)) (hrw : row.length = rows.length) (hrow : (wd = "sharing" ∧ atI ts 1 = some (tuI row)) ∨ (wd ≠ "sharing" ∧ row = rows))
    (f1 : Fl (tuI rows) (tuI doors) B (.tuple ts)) (f2 : Fl (tuI rows) (tuI doors) B (.tuple (cut ts none (some 1)))) (f3 : Fl (tuI rows) (tuI doors) B (.tuple (ts ++ [.int 0]))) :
    Ok (m__law_things [tuI rows, tuI doors, .tuple ts] g) fun d g' => WF g' ∧ ∃ ys, d = .list ys ∧ ∀ y ∈ ys, Fl (tuI rows) (tuI doors) B y := by
  have hr := gd.n2
  have hr1 := gd.n1
  have hd := gd.dl
  have hd1 := List.length_pos_iff.mpr gd.d1
  have c1 := both_good gd
  have c2 := chkB_ok h0 h1
  refine ok_runH rfl ?_
  unfold b__law_things
  simp -implicitDefEqProofs
  refine Ok.mono (draw_ok w (by omega) (by omega)) fun d g1 ⟨w1, at', e, at0, at1⟩ => ?_
  subst e
  simp -implicitDefEqProofs
  refine Ok.mono (some_ok w1 (by simp) (by simp)) fun odd g2 ⟨w2, ho⟩ => ?_
  simp -implicitDefEqProofs
  refine Ok.mono (draw_ok w2 (by omega) (by omega)) fun d g3 ⟨w3, first, e, fi0, fi1⟩ => ?_
  subst e
  simp -implicitDefEqProofs
  refine Ok.mono (draw_ok w3 (by omega) (by omega)) fun d g4 ⟨w4, last, e, la0, la1⟩ => ?_
  subst e
  have lf : listF [.tuple ts] = some (.list ts) := rfl
  have z1 : ts.length + 1 ≤ sizeLine := sl_le (by omega)
  simp -implicitDefEqProofs [lf, z1]
  refine Ok.mono (deep_fl w4) fun dp g5 ⟨w5, hdp⟩ => ?_
  have fdp : Fl (tuI rows) (tuI doors) B dp := by
    rcases hdp with h | ⟨x, rfl⟩
    · exact fl_notup c1 c2 h
    · exact fl_nostr c1 c2 rfl
  have hat := atI_IL (xs := rows) (j := at') at0 (by omega)
  have r60 := gd.rr _ (getI_mem (xs := rows) (j := at') at0 (by omega))
  have z14 : (10 : Nat) + 4 ≤ sizeLine := sl_le (by decide)
  generalize hn : getI rows at' = n at *
  have base : ∀ y ∈ [PyData.tuple ts, .list ts, .tuple (cut ts none (some 1)), .tuple (ts ++ [.int 0]), .none, .int 0, .dict [], .tuple [.str "doors", .int first, .int last], .tuple [.str "doors", .int first, odd], dp] ++ [.tuple [.str "doors", .tuple [.int first, .int last]], .tuple [.str "doors", odd, .int last], .tuple [.str "doors", .int 0, .int ((doors.length : Int) - 1)], .tuple [.str "sharing", tuI rows]], Fl (tuI rows) (tuI doors) B y := by
    intro y hy
    simp only [List.cons_append, List.nil_append, List.mem_cons, List.not_mem_nil, or_false] at hy
    rcases hy with rfl | rfl | rfl | rfl | rfl | rfl | rfl | rfl | rfl | rfl | rfl | rfl | rfl | rfl
    · exact f1
    · exact fl_notup c1 c2 rfl
    · exact f2
    · exact f3
    · exact fl_notup c1 c2 rfl
    · exact fl_notup c1 c2 rfl
    · exact fl_notup c1 c2 rfl
    · exact fl_doors3 gd h0 h1 _ _
    · exact fl_doors3 gd h0 h1 _ _
    · exact fdp
    · exact fl_doors2 c1 c2
    · exact fl_doors3 gd h0 h1 _ _
    · exact fl_doors3 gd h0 h1 _ _
    · exact fl_sharing2 gd h0 h1 (small_tu (by omega))
  have go : ∀ env : List Sl, env = [.hand, .dat (tuI rows), .dat (tuI doors), .dat (.tuple ts), .dat (.int at'), .dat odd, .dat (.int first), .dat (.int last), .own ([PyData.tuple ts, .list ts, .tuple (cut ts none (some 1)), .tuple (ts ++ [.int 0]), .none, .int 0, .dict [], .tuple [.str "doors", .int first, .int last], .tuple [.str "doors", .int first, odd], dp] ++ [.tuple [.str "doors", .tuple [.int first, .int last]], .tuple [.str "doors", odd, .int last], .tuple [.str "doors", .int 0, .int ((doors.length : Int) - 1)], .tuple [.str "sharing", tuI rows]]), .dat (tuI row), .un] →
      ∀ (d4 : D) (g6 : G), WF g6 → Ok (forGo (bName 10) y__law_things_l1 [odd, .int 0, .int n, d4] env g6) fun r g2 => r.1 = .next ∧ WF g2 ∧ ∃ acc x, r.2 = [.hand, .dat (tuI rows), .dat (tuI doors), .dat (.tuple ts), .dat (.int at'), .dat odd, .dat (.int first), .dat (.int last), .own acc, .dat (tuI row), x] ∧ acc.length = 18 ∧ ∀ y ∈ acc, Fl (tuI rows) (tuI doors) B y := by
    rintro env rfl d4 g6 w6
    refine Ok.mono (for_ix (fun k env gg => WF gg ∧ ∃ acc x, env = [.hand, .dat (tuI rows), .dat (tuI doors), .dat (.tuple ts), .dat (.int at'), .dat odd, .dat (.int first), .dat (.int last), .own acc, .dat (tuI row), x] ∧ acc.length = 14 + k ∧ ∀ y ∈ acc, Fl (tuI rows) (tuI doors) B y) (k := 0) ⟨w6, _, _, rfl, rfl, base⟩ ?_) fun r g2 ⟨r1, w7, acc, x, r3, r4, r5⟩ => ⟨r1, w7, acc, x, r3, r4, r5⟩
    rintro i d hdi env gg ⟨wg, acc, x, rfl, ha, hf⟩
    have hi : i < 4 := by
      rcases Nat.lt_or_ge i 4 with q | q
      · exact q
      · rw [List.getElem?_eq_none (by simpa using q)] at hdi; cases hdi
    refine ⟨_, rfl, ?_⟩
    have hz : acc.length < sizeLine := sl_lt (by omega)
    have l1 := cut_len (IL row) none (some at')
    have l2 := cut_len (IL row) (some (at' + 1)) none
    rw [IL_length] at l1 l2
    unfold y__law_things_l1
    simp -implicitDefEqProofs
    generalize cut (IL row) none (some at') = p1 at *
    generalize cut (IL row) (some (at' + 1)) none = p2 at *
    have z2 : p1.length + 1 ≤ sizeLine := sl_le (by omega)
    have z3 : p1.length + (p2.length + 1) ≤ sizeLine := sl_le (by omega)
    have z3' : p1.length + 1 + p2.length ≤ sizeLine := sl_le (by omega)
    simp -implicitDefEqProofs [z2, z3, z3', hz]
    refine ⟨wg, by omega, fun y hy => ?_⟩
    rcases hy with hy | rfl
    · exact hf y hy
    · exact fl_sharing2 gd h0 h1 (small_lit (by simp; omega))
  have lf2 : listF [tuI row] = some (liI row) := rfl
  have ml := mul_n (x := 0) (n := rows.length) hr1 (by omega)
  have e2 : ∀ t : D, addD (.tuple [.str "doors"]) (.tuple [t]) = some (.tuple [.str "doors", t]) := fun t => by
    show (if 1 + 1 ≤ sizeLine then some (PyData.tuple ([PyData.str "doors"] ++ [t])) else none) = _
    rw [if_pos (sl_le (by decide))]; rfl
  have lst : ∀ (acc : List D) (g2 : G), WF g2 → (∀ y ∈ acc, Fl (tuI rows) (tuI doors) B y) → WF g2 ∧ ∀ y, y ∈ acc ∨ y = .tuple [.str "sharing", liI row] ∨ y = .tuple [.str "sharing", tuI (row.drop 1)] ∨ y = .tuple [.str "sharing", tuI (List.replicate rows.length 0)] ∨ y = .tuple [.str "doors", tuI row] → Fl (tuI rows) (tuI doors) B y := by
    intro acc g2 w7 r5
    refine ⟨w7, fun y hy => ?_⟩
    rcases hy with hy | rfl | rfl | rfl | rfl
    · exact r5 y hy
    · exact fl_sharing2 gd h0 h1 trivial
    · exact fl_sharing2 gd h0 h1 (small_tu (by simp; omega))
    · exact fl_sharing2 gd h0 h1 (small_tu (by simp; omega))
    · exact fl_doors2 c1 c2
  simp -implicitDefEqProofs [z14, a0]
  rcases hrow with ⟨rfl, a1⟩ | ⟨hw, rfl⟩
  · simp -implicitDefEqProofs [a1, hat]
    refine Ok.mono (draw_ok w5 (by omega) (by omega)) fun d4 g6 ⟨w6, _⟩ => ?_
    simp -implicitDefEqProofs [kFor]
    refine Ok.mono (go _ rfl d4 g6 w6) fun r g2 ⟨r1, w7, acc, x, r3, r4, r5⟩ => ?_
    obtain ⟨fl, env⟩ := r
    cases r1
    cases r3
    have z4 : acc.length + 4 ≤ sizeLine := sl_le (by omega)
    simp -implicitDefEqProofs [lf2, cut1, ml, z4, e2]
    have := lst acc g2 w7 r5
    simp at this
    exact this
  · simp -implicitDefEqProofs [hw, hat]
    refine Ok.mono (draw_ok w5 (by omega) (by omega)) fun d4 g6 ⟨w6, _⟩ => ?_
    simp -implicitDefEqProofs [kFor]
    refine Ok.mono (go _ rfl d4 g6 w6) fun r g2 ⟨r1, w7, acc, x, r3, r4, r5⟩ => ?_
    obtain ⟨fl, env⟩ := r
    cases r1
    cases r3
    have z4 : acc.length + 4 ≤ sizeLine := sl_le (by omega)
    simp -implicitDefEqProofs [lf2, cut1, ml, z4, e2]
    have := lst acc g2 w7 r5
    simp at this
    exact this
end K82

namespace K82
open PySem PySem.Spec PyProof.Rows L2 DL
theorem eqD_nil_l {xs : List D} (h : okD (.list xs) = true) : eqD (.list xs) (.list []) = some (.bool xs.isEmpty) := by
  show (if (okD (.list xs) && okD (.list [])) = true then some (PyData.bool (PyData.eqv (.list xs) (.list []))) else none) = _
  rw [h, if_pos (by rfl)]
  cases xs <;> simp [PyData.eqv, PyData.eqvAll]
theorem flags_loop {g : G} (w : WF g) {R Dd : D} {B : Int} {ys : List D} (h : ∀ y ∈ ys, Fl R Dd B y) {few : Int} {x5 x6 x7 x8 x9 : Sl} :
    Ok (forGo (bName 9) y__law_is_cabin_right_l1 ys [.hand, .dat R, .dat Dd, .dat (.int few), .dat (.int B), x5, x6, x7, x8, x9] g) fun r g2 => r.1 = .next ∧ WF g2 ∧ ∃ x9, r.2 = [.hand, .dat R, .dat Dd, .dat (.int few), .dat (.int B), x5, x6, x7, x8, x9] := by
  refine Ok.mono (for_inv (fun env g => WF g ∧ ∃ x9, env = [.hand, .dat R, .dat Dd, .dat (.int few), .dat (.int B), x5, x6, x7, x8, x9]) ⟨w, _, rfl⟩ ?_) fun r g2 ⟨a, b, c⟩ => ⟨a, b, c⟩
  rintro d hd env gg ⟨wg, x9, rfl⟩
  obtain ⟨b, f1, f2⟩ := h d hd
  have f3 := is_same 8 (.bool b) trivial
  refine ⟨_, rfl, ?_⟩
  unfold y__law_is_cabin_right_l1
  simp -implicitDefEqProofs [f1, f2, f3, wg]
structure OkT (m : SM) (env : List Sl) (g : G) (P : DL.Fl → List Sl → G → Prop) : Prop where
  ok : OkS m env g P
theorem turn_nil {g : G} (w : WF g) {rows doors : List Int} (gd : Good rows doors) {B : Int} (h0 : 0 ≤ B) (h1 : B ≤ 2000) {fw : Int} (hfw : beatsI rows doors = fw) {x5 x6 x7 x8 x9 : Sl} (hb : barsL rows doors B = []) :
    OkT y__law_is_cabin_right_l2 [.hand, .dat (tuI rows), .dat (tuI doors), .dat (.int fw), .dat (.int B), x5, x6, x7, x8, x9] g fun fl e2 g2 => fl = .next ∧ WF g2 ∧ ∃ x5 x6 x7 x8 x9, e2 = [.hand, .dat (tuI rows), .dat (tuI doors), .dat (.int fw), .dat (.int B), x5, x6, x7, x8, x9] := by
  refine ⟨?_⟩
  have hr := gd.n2
  have c1 := both_good gd
  have c2 := chkB_ok h0 h1
  have c3 := lawshares_eq gd B
  have c4 := bars_eq gd (smallI_of (i := B) (by omega) (by omega))
  have c5 := told_eq gd h0 h1
  have bi := beats_iff gd h0
  rw [hfw] at bi
  have fa := fact gd h0
  have mb := fun d => mem_bars (rows := rows) (doors := doors) (B := B) (d := d)
  unfold toldD at c5
  unfold y__law_is_cabin_right_l2
  rw [hb] at c4 c5 bi fa
  rw [if_pos (fa.mp rfl)] at c3
  have few : fw ≤ B := bi.mpr rfl
  have flen := Fk_len rows doors B rows.length
  have c5' : m_sharing_told [tuI rows, tuI doors, .int B] = .ok (.tuple [.str "sharing", tuI (Fk rows doors B rows.length)]) := c5
  have sm := is_same 8 (.tuple [.str "sharing", tuI (Fk rows doors B rows.length)]) ⟨by simp, fun x hx => by
    rcases List.mem_cons.mp hx with rfl | hx
    · trivial
    · rw [List.mem_singleton.mp hx]
      exact ⟨by rw [IL_length]; omega, isG_ints 5 (by omega)⟩⟩
  have th := fun g (w : WF g) => things_ok w gd (B := B) h0 h1 (ts := [.str "sharing", tuI (Fk rows doors B rows.length)]) (wd := "sharing") (row := Fk rows doors B rows.length) (by simp) rfl flen (.inl ⟨rfl, rfl⟩) (fl_sharing2 gd h0 h1 (small_tu (by omega))) (fl_len (xs := [.str "sharing"]) c1 c2 ⟨by decide, by decide⟩) (fl_sharing3 c1 c2)
  generalize Fk rows doors B rows.length = F at *
  have n0 : eqD (.list []) (.list []) = some (.bool true) := rfl
  have a0 : atI [PyData.str "sharing", tuI F] 0 = some (.str "sharing") := rfl
  simp -implicitDefEqProofs [c3, c4, n0, isNoneD, c5', sm, a0, few]
  refine Ok.mono (th g w) fun d g2 ⟨w2, ys, e, hy⟩ => ?_
  subst e
  simp -implicitDefEqProofs [kFor]
  refine Ok.mono (flags_loop w2 hy) fun r g3 ⟨r1, w3, x9, r3⟩ => ?_
  exact ⟨r1, w3, _, _, _, _, _, r3⟩
theorem turn_cons {g : G} (w : WF g) {rows doors : List Int} (gd : Good rows doors) {B : Int} (h0 : 0 ≤ B) (h1 : B ≤ 2000) {fw : Int} (hfw : beatsI rows doors = fw) {x5 x6 x7 x8 x9 : Sl} (f l : Int) (r : List D) (hb : barsL rows doors B = pr f l :: r) :
    OkT y__law_is_cabin_right_l2 [.hand, .dat (tuI rows), .dat (tuI doors), .dat (.int fw), .dat (.int B), x5, x6, x7, x8, x9] g fun fl e2 g2 => fl = .next ∧ WF g2 ∧ ∃ x5 x6 x7 x8 x9, e2 = [.hand, .dat (tuI rows), .dat (tuI doors), .dat (.int fw), .dat (.int B), x5, x6, x7, x8, x9] := by
  refine ⟨?_⟩
  have hr := gd.n2
  have c1 := both_good gd
  have c2 := chkB_ok h0 h1
  have c3 := lawshares_eq gd B
  have c4 := bars_eq gd (smallI_of (i := B) (by omega) (by omega))
  have c5 := told_eq gd h0 h1
  have bi := beats_iff gd h0
  rw [hfw] at bi
  have fa := fact gd h0
  have mb := fun d => mem_bars (rows := rows) (doors := doors) (B := B) (d := d)
  unfold toldD at c5
  unfold y__law_is_cabin_right_l2
  have kb : okD (.list (barsL rows doors B)) = true := (kb_list (p := 1) fun d hd => by
      obtain ⟨f, l, _, _, _, _, rfl⟩ := (mb d).mp hd
      exact kb_tup (p := 0) (kb_cons (kb_int _) (kb_cons (kb_int _) kb_nil))).ok
  rw [hb] at c4 c5 bi fa kb
  have nob : ¬ allB B (Lk rows doors B rows.length) = true := fun h => by
    have := fa.mpr h
    cases this
  rw [if_neg nob] at c3
  have few : ¬ fw ≤ B := fun h => by
    have := bi.mp h
    cases this
  have c5' : m_sharing_told [tuI rows, tuI doors, .int B] = .ok (.tuple [.str "doors", .int f, .int l]) := c5
  have sm := is_same 8 (.tuple [.str "doors", .int f, .int l]) ⟨by simp, fun x hx => by
    rcases List.mem_cons.mp hx with rfl | hx
    · trivial
    · rcases List.mem_cons.mp hx with rfl | hx
      · trivial
      · rw [List.mem_singleton.mp hx]; trivial⟩
  have th := fun g (w : WF g) => things_ok w gd (B := B) h0 h1 (ts := [.str "doors", .int f, .int l]) (wd := "doors") (row := rows) (by simp) rfl rfl (.inr ⟨by decide, rfl⟩) (fl_doors3 gd h0 h1 _ _) (fl_len (xs := [.str "doors"]) c1 c2 ⟨by decide, by decide⟩) (fl_len c1 c2 (by constructor <;> simp))
  have n0 : eqD (.list (pr f l :: r)) (.list []) = some (.bool false) := eqD_nil_l kb
  have a0 : atI [PyData.str "doors", .int f, .int l] 0 = some (.str "doors") := rfl
  have a1 : atI (pr f l :: r) 0 = some (.tuple [.int f, .int l]) := atI_head _ _
  have e0 : ¬ (("doors" : Str) = ("sharing" : Str)) := by decide
  generalize pr f l :: r = bl at *
  have lt : B < fw := by omega
  simp -implicitDefEqProofs [c3, c4, n0, isNoneD, c5', a0, a1, few, e0]
  simp -implicitDefEqProofs [sm, a0, few, e0, lt]
  refine Ok.mono (th g w) fun d g2 ⟨w2, ys, e, hy⟩ => ?_
  subst e
  simp -implicitDefEqProofs [kFor]
  refine Ok.mono (flags_loop w2 hy) fun r g3 ⟨r1, w3, x9, r3⟩ => ?_
  exact ⟨r1, w3, _, _, _, _, _, r3⟩
end K82

namespace K82
open PySem PySem.Spec PyProof.Rows L2 DL
theorem turn_ok {rows doors : List Int} (gd : Good rows doors) {fw : Int} (hfw : beatsI rows doors = fw) (g : G) (B : Int) (x5 x6 x7 x8 x9 : Sl) (w : WF g) (h0 : 0 ≤ B) (h1 : B ≤ 2000) :
    OkT y__law_is_cabin_right_l2 [.hand, .dat (tuI rows), .dat (tuI doors), .dat (.int fw), .dat (.int B), x5, x6, x7, x8, x9] g fun fl e2 g2 => fl = .next ∧ WF g2 ∧ ∃ x5 x6 x7 x8 x9, e2 = [.hand, .dat (tuI rows), .dat (tuI doors), .dat (.int fw), .dat (.int B), x5, x6, x7, x8, x9] := by
  have key := turn_cons (x5 := x5) (x6 := x6) (x7 := x7) (x8 := x8) (x9 := x9) w gd h0 h1 hfw
  have key2 := turn_nil (x5 := x5) (x6 := x6) (x7 := x7) (x8 := x8) (x9 := x9) w gd h0 h1 hfw
  generalize y__law_is_cabin_right_l2 = Y at key key2 ⊢
  cases hb : barsL rows doors B with
  | nil => exact key2 hb
  | cons d r =>
    obtain ⟨f, l, _, _, _, _, e⟩ := mem_bars.mp (show d ∈ barsL rows doors B by rw [hb]; exact List.mem_cons_self)
    subst e
    exact key f l r hb
structure TurnP (Y : SM) (R Dd : D) (fw : Int) : Prop where
  ok : ∀ (g : G) (B : Int) (x5 x6 x7 x8 x9 : Sl), WF g → 0 ≤ B → B ≤ 2000 → OkT Y [.hand, .dat R, .dat Dd, .dat (.int fw), .dat (.int B), x5, x6, x7, x8, x9] g fun fl e2 g2 => fl = .next ∧ WF g2 ∧ ∃ x5 x6 x7 x8 x9, e2 = [.hand, .dat R, .dat Dd, .dat (.int fw), .dat (.int B), x5, x6, x7, x8, x9]
theorem turn_all {rows doors : List Int} (gd : Good rows doors) {fw : Int} (hfw : beatsI rows doors = fw) : TurnP y__law_is_cabin_right_l2 (tuI rows) (tuI doors) fw := ⟨turn_ok gd hfw⟩
theorem loop_ok {R Dd : D} {fw : Int} {Y : SM} {g : G} (w : WF g) {ds : List D} (hds : ∀ d ∈ ds, ∃ B : Int, d = .int B ∧ 0 ≤ B ∧ B ≤ 2000)
    (tn : TurnP Y R Dd fw) {x4 x5 x6 x7 x8 x9 : Sl} :
    Ok (forGo (bName 4) Y ds [.hand, .dat R, .dat Dd, .dat (.int fw), x4, x5, x6, x7, x8, x9] g) fun r g2 => r.1 = .next ∧ WF g2 := by
  refine Ok.mono (for_inv (fun env g => WF g ∧ ∃ x4 x5 x6 x7 x8 x9, env = [.hand, .dat R, .dat Dd, .dat (.int fw), x4, x5, x6, x7, x8, x9]) ⟨w, _, _, _, _, _, _, rfl⟩ ?_) fun r g3 h => ⟨h.1, h.2.1⟩
  rintro d hd env gg ⟨wg, x4, x5, x6, x7, x8, x9, rfl⟩
  obtain ⟨B, rfl, h0, h1⟩ := hds d hd
  refine ⟨_, rfl, ?_⟩
  refine Ok.mono (tn.ok _ _ _ _ _ _ _ wg h0 h1).ok fun r g2 ⟨a, b, x5, x6, x7, x8, x9, c⟩ => ?_
  exact ⟨a, b, _, _, _, _, _, _, c⟩
theorem right_fin {r : DL.Fl × List Sl} {g : G} (h : r.1 = .next ∧ WF g) : kThen (sRet (eC (.bool true))) (kRun fun d g' => WF g' ∧ d = PyData.bool true) r.1 r.2 g := by
  obtain ⟨fl, env⟩ := r
  obtain ⟨h1, h2⟩ := h
  cases h1
  simp [h2]
theorem right_ok {g : G} (w : WF g) {rows doors : List Int} (gd : Good rows doors) : Ok (m__law_is_cabin_right [tuI rows, tuI doors] g) fun d g' => WF g' ∧ d = .bool true := by
  have hr := gd.n2
  have hd := gd.dl
  have c1 := few_eq (rows := rows) (doors := doors) (by omega) (by omega) gd.d1
  have c2 := fewest_eq gd
  have c3 := is_same 8 (.int (beatsI rows doors)) trivial
  have b0 := beats_nonneg rows doors
  have b1 := beats_540 gd
  have tn := turn_all gd rfl
  generalize beatsI rows doors = fw at *
  refine ok_runH rfl ?_
  unfold b__law_is_cabin_right
  simp -implicitDefEqProofs [c1, c2, c3]
  refine Ok.mono (draw_ok w (by decide) (by decide)) fun d g1 ⟨w1, v, e, v0, v1⟩ => ?_
  subst e
  simp -implicitDefEqProofs
  refine Ok.mono (draw_ok w1 (by omega) (by omega)) fun d g2 ⟨w2, u, e, u0, u1⟩ => ?_
  subst e
  simp -implicitDefEqProofs [kFor]
  generalize y__law_is_cabin_right_l2 = Y at tn ⊢
  refine Ok.mono (loop_ok w2 (fun d hd => ?_) tn) fun r g3 h => right_fin h
  simp only [List.mem_cons, List.not_mem_nil, or_false] at hd
  rcases hd with rfl | rfl | rfl | rfl
  · exact ⟨_, rfl, by omega, by omega⟩
  · refine ⟨_, rfl, ?_, ?_⟩ <;> split <;> omega
  · exact ⟨_, rfl, by omega, by omega⟩
  · exact ⟨_, rfl, by omega, by omega⟩
theorem few_err {r d : D} {c : Str} (h : m_check_both [r, d] = .err c) : m_fewest_beats [r, d] = .err c := by
  unfold m_fewest_beats b_fewest_beats
  simp [sSeq, sExpr, eFn, eCons, eVar, eNil, h, Out.bind]
theorem told_err {r d s : D} {c : Str} (h : m_check_both [r, d] = .err c) : m_sharing_told [r, d, s] = .err c := by
  unfold m_sharing_told b_sharing_told
  simp [sSeq, sExpr, eFn, eCons, eVar, eNil, h, Out.bind]
theorem told_err2 {r d s : D} {c : Str} (h : m_check_both [r, d] = .ok .none) (h2 : m_check_beats [s] = .err c) : m_sharing_told [r, d, s] = .err c := by
  unfold m_sharing_told b_sharing_told
  simp [sSeq, sExpr, eFn, eCons, eVar, eNil, h, h2, Out.bind]
theorem istold_err2 {r d s x : D} {c : Str} (h : m_check_both [r, d] = .ok .none) (h2 : m_check_beats [s] = .err c) : m_is_sharing_told [r, d, s, x] = .err c := by
  unfold m_is_sharing_told b_is_sharing_told
  simp [sSeq, sExpr, eFn, eCons, eVar, eNil, h, h2, Out.bind]
theorem plain_law (ns : List Int) (hl : ns.length ≤ 63) : m_law ns := by
  obtain ⟨g, w, es, h1, h2⟩ := hand_eq ns hl
  refine ok_runLaw h1 h2 ?_
  unfold b_law
  have c1 : m_sharing_told [.tuple [.int 2, .int 3, .int 2], .tuple [.int 0, .int 2], .int 4] = .ok (.tuple [.str "sharing", .tuple [.int 2, .int 2, .int 2]]) := by kernel_rfl
  have c2 : m_sharing_told [.tuple [.int 2, .int 3, .int 2], .tuple [.int 0, .int 2], .int 3] = .ok (.tuple [.str "doors", .int 0, .int 1]) := by kernel_rfl
  have c3 : m_fewest_beats [.tuple [.int 5], .tuple [.int 0]] = .ok (.int 5) := by kernel_rfl
  have c6 := is_same 8 (.list [.tuple [.str "sharing", .tuple [.int 2, .int 2, .int 2]], .tuple [.str "doors", .int 0, .int 1], .int 5]) (by simp [isG])
  have ok3 : okR 3 = true := rfl
  simp -implicitDefEqProofs [c1, c2, c3, c6, kFor, ok3]
  refine Ok.mono (for_inv (fun env g => WF g ∧ ∃ x0 x2 x3 x4 x5 x6 x7 x8 x9, env = [x0, .hand, x2, x3, x4, x5, x6, x7, x8, x9]) ⟨w, _, _, _, _, _, _, _, _, _, rfl⟩ ?_) fun r g3 ⟨e1, w3, x0, x2, x3, x4, x5, x6, x7, x8, x9, e2⟩ => ?_
  · rintro d hd env g ⟨wg, x0, x2, x3, x4, x5, x6, x7, x8, x9, rfl⟩
    refine ⟨_, rfl, ?_⟩
    unfold y_law_l6
    simp -implicitDefEqProofs
    refine Ok.mono (cabin_ok wg) fun d g1 ⟨w1, rows, doors, e, gd⟩ => ?_
    subst e
    simp -implicitDefEqProofs
    refine Ok.mono (right_ok w1 gd) fun d g2 ⟨w2, e⟩ => ?_
    subst e
    simp -implicitDefEqProofs
    refine Ok.mono (norows_ok w2) fun bad g3 ⟨w3, hb1, hb2⟩ => ?_
    simp -implicitDefEqProofs
    refine Ok.mono (nodoors_ok w3 gd) fun nod g4 ⟨w4, hn⟩ => ?_
    simp -implicitDefEqProofs
    refine Ok.mono (some_ok w4 (by simp) (by simp)) fun odd g5 ⟨w5, hm⟩ => ?_
    have ho : inRg odd 0 2000 = false := by
      simp only [List.mem_cons, List.not_mem_nil, or_false] at hm
      rcases hm with rfl | rfl | rfl | rfl | rfl <;> rfl
    have cg := both_good gd
    have b1 := both_bad1 (d := nod) hb1 hb2
    have b2 := both_bad2 gd hn
    have b3 := chkB_bad ho
    generalize tuI rows = R at *
    generalize tuI doors = Dd at *
    have t1 : ∀ x0 x2 x3 x9 g, l_law_w1 [x0, .hand, x2, x3, .dat R, .dat Dd, .dat bad, .dat nod, .dat odd, x9] g = .err "NoRows" g := by
      intro x0 x2 x3 x9 g
      show ofPR (m_fewest_beats [bad, nod]) g = _
      rw [few_err b1]; rfl
    have t2 : ∀ x0 x2 x3 x9 g, l_law_w2 [x0, .hand, x2, x3, .dat R, .dat Dd, .dat bad, .dat nod, .dat odd, x9] g = .err "NoDoors" g := by
      intro x0 x2 x3 x9 g
      show ofPR (m_fewest_beats [R, nod]) g = _
      rw [few_err b2]; rfl
    have t3 : ∀ x0 x2 x3 x9 g, l_law_w3 [x0, .hand, x2, x3, .dat R, .dat Dd, .dat bad, .dat nod, .dat odd, x9] g = .err "NoDoors" g := by
      intro x0 x2 x3 x9 g
      show ofPR (m_sharing_told [R, nod, odd]) g = _
      rw [told_err b2]; rfl
    have t4 : ∀ x0 x2 x3 x9 g, l_law_w4 [x0, .hand, x2, x3, .dat R, .dat Dd, .dat bad, .dat nod, .dat odd, x9] g = .err "NoNumber" g := by
      intro x0 x2 x3 x9 g
      show ofPR (m_sharing_told [R, Dd, odd]) g = _
      rw [told_err2 cg b3]; rfl
    have t5 : ∀ x0 x2 x3 x9 g, l_law_w5 [x0, .hand, x2, x3, .dat R, .dat Dd, .dat bad, .dat nod, .dat odd, x9] g = .err "NoNumber" g := by
      intro x0 x2 x3 x9 g
      show ofPR (m_is_sharing_told [R, Dd, odd, .none]) g = _
      rw [istold_err2 cg b3]; rfl
    have lk1 : ((["NoDoors", "NoNumber", "NoRows"] : List Str).zip (["doors", "number", "rows"] : List Str)).lookup ("NoDoors" : Str) = some ("doors" : Str) := rfl
    have lk2 : ((["NoDoors", "NoNumber", "NoRows"] : List Str).zip (["doors", "number", "rows"] : List Str)).lookup ("NoNumber" : Str) = some ("number" : Str) := rfl
    have lk3 : ((["NoDoors", "NoNumber", "NoRows"] : List Str).zip (["doors", "number", "rows"] : List Str)).lookup ("NoRows" : Str) = some ("rows" : Str) := rfl
    have fin : neD (.list [.str "rows", .str "doors", .str "doors", .str "number", .str "number"]) (.list [.str "rows", .str "doors", .str "doors", .str "number", .str "number"]) = some (.bool false) := by kernel_rfl
    simp -implicitDefEqProofs [oe_word (t1 _ _ _ _ _) lk3, oe_word (t2 _ _ _ _ _) lk1, oe_word (t3 _ _ _ _ _) lk1, oe_word (t4 _ _ _ _ _) lk2, oe_word (t5 _ _ _ _ _) lk2, fin, w5]
  · obtain ⟨fl, env⟩ := r
    cases e1
    cases e2
    simp -implicitDefEqProofs
end K82


set_option Elab.async false
set_option linter.all false
set_option maxRecDepth 100000
set_option maxHeartbeats 0
namespace K82
open PySem PySem.Spec PyProof.Rows L2 DL
def fn0 : List He.DefD := [mkD "is_integer" "is_integer" s_is_integer, mkD "is_within" "is_within" s_is_within, mkD "are_within" "are_within" s_are_within, mkD "is_tuple_of" "is_tuple_of" s_is_tuple_of, mkD "is_lot" "is_lot" s_is_lot, mkD "check_both" "check_both" s_check_both, mkD "check_beats" "check_beats" s_check_beats, mkD "ends_of" "ends_of" s_ends_of, mkD "raw_sharing" "raw_sharing" s_raw_sharing, mkD "alone_to" "alone_to" s_alone_to, mkD "is_short" "is_short" s_is_short, mkD "raw_short" "raw_short" s_raw_short, mkD "raw_beats" "raw_beats" s_raw_beats, mkD "fewest_beats" "fewest_beats" s_fewest_beats, mkD "sharing_told" "sharing_told" s_sharing_told, mkD "is_sharing" "is_sharing" s_is_sharing, mkD "raw_out" "raw_out" s_raw_out, mkD "is_sharing_told" "is_sharing_told" s_is_sharing_told, mkD "_law_hand" "_law_hand" s__law_hand, mkD "_law_draw" "_law_draw" s__law_draw, mkD "_law_some" "_law_some" s__law_some, mkD "_law_is" "_law_is" s__law_is, mkD "_law_deep" "_law_deep" s__law_deep, mkD "_law_cabin" "_law_cabin" s__law_cabin, mkD "_law_ways" "_law_ways" s__law_ways, mkD "_law_shares" "_law_shares" s__law_shares, mkD "_law_bars" "_law_bars" s__law_bars, mkD "_law_loads" "_law_loads" s__law_loads, mkD "_law_no_rows" "_law_no_rows" s__law_no_rows, mkD "_law_no_doors" "_law_no_doors" s__law_no_doors]
def fn30 : List He.DefD := [mkD "_law_is_told" "_law_is_told" s__law_is_told, mkD "_law_things" "_law_things" s__law_things, mkD "_law_few" "_law_few" s__law_few, mkD "_law_is_cabin_right" "_law_is_cabin_right" s__law_is_cabin_right, mkD "_law_word" "_law_word" s__law_word, mkD "law" "law" s_law]
def fn : List He.DefD := fn0 ++ fn30
def fa0 : List He.Fa := [.glo "is_integer", .glo "is_within", .glo "are_within", .glo "is_tuple_of", .glo "is_lot", .glo "check_both", .glo "check_beats", .glo "ends_of", .glo "raw_sharing", .glo "alone_to", .glo "is_short", .glo "raw_short", .glo "raw_beats", .glo "fewest_beats", .glo "sharing_told", .glo "is_sharing", .glo "raw_out", .glo "is_sharing_told", .glo "_law_hand", .glo "_law_draw", .glo "_law_some", .glo "_law_is", .glo "_law_deep", .glo "_law_cabin", .glo "_law_ways", .glo "_law_shares", .glo "_law_bars", .glo "_law_loads", .glo "_law_no_rows", .glo "_law_no_doors"]
def fa30 : List He.Fa := [.glo "_law_is_told", .glo "_law_things", .glo "_law_few", .glo "_law_is_cabin_right", .glo "_law_word", .glo "law", .glo "NoDoors", .exc "NoDoors", .glo "NoNumber", .exc "NoNumber", .glo "NoRows", .exc "NoRows", .str "DOORS" "doors", .int "MOST_BEATS" 2000, .int "MOST_MANY" 60, .int "MOST_ROWS" 30, .str "SHARING" "sharing", .free "ValueError", .free "abs", .free "all", .free "any", .free "bool", .free "enumerate", .free "int", .free "isinstance", .free "len", .free "list", .free "max", .free "min", .free "range"]
def fa60 : List He.Fa := [.free "str", .free "tuple", .free "zip", .glo "FieldError"]
def fa : List He.Fa := fa0 ++ fa30 ++ fa60
def loose0 : List Str := ["is_integer", "is_within", "are_within", "is_tuple_of", "is_lot", "FieldError", "NoNumber", "NoRows", "NoDoors", "MOST_ROWS", "MOST_MANY", "MOST_BEATS", "SHARING", "DOORS", "check_both", "check_beats", "ends_of", "raw_sharing", "alone_to", "is_short", "raw_short", "fewest_beats", "raw_beats", "sharing_told", "is_sharing", "raw_out", "is_sharing_told", "_law_hand", "_law_draw", "_law_some"]
def loose30 : List Str := ["_law_is", "_law_deep", "_law_cabin", "_law_ways", "_law_shares", "_law_bars", "_law_loads", "_law_no_rows", "_law_no_doors", "_law_word", "_law_is_told", "_law_things", "_law_few", "_law_is_cabin_right"]
def loose : List Str := loose0 ++ loose30
def tf : List (Str × Str) := [("law", "law")]
def tfd : List He.Defn := tf.map fun p => (p.1, none)
def ex (K : PySem.W.Frag) : Bool := apartB K tf && tellB K "FieldError" ["NoDoors", "NoNumber", "NoRows"]
abbrev Rw : PySem.W.OpenRow := PySem.W.OpenLaw.row PySem.Challenge.rw_airfield_k82_whole_sharings_of_doors_or
abbrev hk : PySem.W.Hook := He.hookX 6 fa fn [] tfd ex
def ob (s : PySem.W.SharedT) : He.AlX := He.obsX 6 fa fn [] tfd ex (HandSHeadRun.getT s)
theorem ob_eq (s : PySem.W.SharedT) : ob s = hk.obs s.abs := He.obsX_eq (HandSHeadRun.getT_eq s)
theorem run (w : World) : HandSHeadRun.RunEq Rw (PySem.W.view Rw.prog [48]) hk ob 20000 loose w := by
  intro os
  kernel_rfl
theorem top_of {w : World} {K : PySem.W.Frag} {h base : Heap} {mg : Str → Option Value} (X : K.In h) (G : h.Ns mainGlobals mg) (c : He.SaysX fa fn [] tfd ex w h K) (hTB : ∀ p ∈ tabsC K tf, LamX.TabB base mg p.1 p.2) : TopF K mg base (tabsT K tf) := by
  have cd := c.t.d
  obtain ⟨ap, tb⟩ := He.ba c.more
  exact {
    d_is_integer := defAt_of (cd.def_ 0 (d := mkD "is_integer" "is_integer" s_is_integer) rfl) (He.glo_ok X G (cd.fact 0 (f := .glo "is_integer") rfl)) (fun _ _ _ _ _ _ us hl => match us, hl with | [_], _ => rfl)
    d_is_within := defAt_of (cd.def_ 1 (d := mkD "is_within" "is_within" s_is_within) rfl) (He.glo_ok X G (cd.fact 1 (f := .glo "is_within") rfl)) (fun _ _ _ _ _ _ us hl => match us, hl with | [_, _, _], _ => rfl)
    d_are_within := defAt_of (cd.def_ 2 (d := mkD "are_within" "are_within" s_are_within) rfl) (He.glo_ok X G (cd.fact 2 (f := .glo "are_within") rfl)) (fun _ _ _ _ _ _ us hl => match us, hl with | [_, _, _], _ => rfl)
    d_is_tuple_of := defAt_of (cd.def_ 3 (d := mkD "is_tuple_of" "is_tuple_of" s_is_tuple_of) rfl) (He.glo_ok X G (cd.fact 3 (f := .glo "is_tuple_of") rfl)) (fun _ _ _ _ _ _ us hl => match us, hl with | [_, _], _ => rfl)
    d_is_lot := defAt_of (cd.def_ 4 (d := mkD "is_lot" "is_lot" s_is_lot) rfl) (He.glo_ok X G (cd.fact 4 (f := .glo "is_lot") rfl)) (fun _ _ _ _ _ _ us hl => match us, hl with | [_, _], _ => rfl)
    d_check_both := defAt_of (cd.def_ 5 (d := mkD "check_both" "check_both" s_check_both) rfl) (He.glo_ok X G (cd.fact 5 (f := .glo "check_both") rfl)) (fun _ _ _ _ _ _ us hl => match us, hl with | [_, _], _ => rfl)
    d_check_beats := defAt_of (cd.def_ 6 (d := mkD "check_beats" "check_beats" s_check_beats) rfl) (He.glo_ok X G (cd.fact 6 (f := .glo "check_beats") rfl)) (fun _ _ _ _ _ _ us hl => match us, hl with | [_], _ => rfl)
    d_ends_of := defAt_of (cd.def_ 7 (d := mkD "ends_of" "ends_of" s_ends_of) rfl) (He.glo_ok X G (cd.fact 7 (f := .glo "ends_of") rfl)) (fun _ _ _ _ _ _ us hl => match us, hl with | [_, _], _ => rfl)
    d_raw_sharing := defAt_of (cd.def_ 8 (d := mkD "raw_sharing" "raw_sharing" s_raw_sharing) rfl) (He.glo_ok X G (cd.fact 8 (f := .glo "raw_sharing") rfl)) (fun _ _ _ _ _ _ us hl => match us, hl with | [_, _, _], _ => rfl)
    d_alone_to := defAt_of (cd.def_ 9 (d := mkD "alone_to" "alone_to" s_alone_to) rfl) (He.glo_ok X G (cd.fact 9 (f := .glo "alone_to") rfl)) (fun _ _ _ _ _ _ us hl => match us, hl with | [_, _, _, _], _ => rfl)
    d_is_short := defAt_of (cd.def_ 10 (d := mkD "is_short" "is_short" s_is_short) rfl) (He.glo_ok X G (cd.fact 10 (f := .glo "is_short") rfl)) (fun _ _ _ _ _ _ us hl => match us, hl with | [_, _, _, _, _], _ => rfl)
    d_raw_short := defAt_of (cd.def_ 11 (d := mkD "raw_short" "raw_short" s_raw_short) rfl) (He.glo_ok X G (cd.fact 11 (f := .glo "raw_short") rfl)) (fun _ _ _ _ _ _ us hl => match us, hl with | [_, _, _], _ => rfl)
    d_raw_beats := defAt_of (cd.def_ 12 (d := mkD "raw_beats" "raw_beats" s_raw_beats) rfl) (He.glo_ok X G (cd.fact 12 (f := .glo "raw_beats") rfl)) (fun _ _ _ _ _ _ us hl => match us, hl with | [_, _], _ => rfl)
    d_fewest_beats := defAt_of (cd.def_ 13 (d := mkD "fewest_beats" "fewest_beats" s_fewest_beats) rfl) (He.glo_ok X G (cd.fact 13 (f := .glo "fewest_beats") rfl)) (fun _ _ _ _ _ _ us hl => match us, hl with | [_, _], _ => rfl)
    d_sharing_told := defAt_of (cd.def_ 14 (d := mkD "sharing_told" "sharing_told" s_sharing_told) rfl) (He.glo_ok X G (cd.fact 14 (f := .glo "sharing_told") rfl)) (fun _ _ _ _ _ _ us hl => match us, hl with | [_, _, _], _ => rfl)
    d_is_sharing := defAt_of (cd.def_ 15 (d := mkD "is_sharing" "is_sharing" s_is_sharing) rfl) (He.glo_ok X G (cd.fact 15 (f := .glo "is_sharing") rfl)) (fun _ _ _ _ _ _ us hl => match us, hl with | [_, _, _], _ => rfl)
    d_raw_out := defAt_of (cd.def_ 16 (d := mkD "raw_out" "raw_out" s_raw_out) rfl) (He.glo_ok X G (cd.fact 16 (f := .glo "raw_out") rfl)) (fun _ _ _ _ _ _ us hl => match us, hl with | [_, _, _], _ => rfl)
    d_is_sharing_told := defAt_of (cd.def_ 17 (d := mkD "is_sharing_told" "is_sharing_told" s_is_sharing_told) rfl) (He.glo_ok X G (cd.fact 17 (f := .glo "is_sharing_told") rfl)) (fun _ _ _ _ _ _ us hl => match us, hl with | [_, _, _, _], _ => rfl)
    d__law_hand := defAt_of (cd.def_ 18 (d := mkD "_law_hand" "_law_hand" s__law_hand) rfl) (He.glo_ok X G (cd.fact 18 (f := .glo "_law_hand") rfl)) (fun _ _ _ _ _ _ us hl => match us, hl with | [_], _ => rfl)
    d__law_draw := defAt_of (cd.def_ 19 (d := mkD "_law_draw" "_law_draw" s__law_draw) rfl) (He.glo_ok X G (cd.fact 19 (f := .glo "_law_draw") rfl)) (fun _ _ _ _ _ _ us hl => match us, hl with | [_, _], _ => rfl)
    d__law_some := defAt_of (cd.def_ 20 (d := mkD "_law_some" "_law_some" s__law_some) rfl) (He.glo_ok X G (cd.fact 20 (f := .glo "_law_some") rfl)) (fun _ _ _ _ _ _ us hl => match us, hl with | [_, _], _ => rfl)
    d__law_is := defAt_of (cd.def_ 21 (d := mkD "_law_is" "_law_is" s__law_is) rfl) (He.glo_ok X G (cd.fact 21 (f := .glo "_law_is") rfl)) (fun _ _ _ _ _ _ us hl => match us, hl with | [_, _], _ => rfl)
    d__law_deep := defAt_of (cd.def_ 22 (d := mkD "_law_deep" "_law_deep" s__law_deep) rfl) (He.glo_ok X G (cd.fact 22 (f := .glo "_law_deep") rfl)) (fun _ _ _ _ _ _ us hl => match us, hl with | [_], _ => rfl)
    d__law_cabin := defAt_of (cd.def_ 23 (d := mkD "_law_cabin" "_law_cabin" s__law_cabin) rfl) (He.glo_ok X G (cd.fact 23 (f := .glo "_law_cabin") rfl)) (fun _ _ _ _ _ _ us hl => match us, hl with | [_, _], _ => rfl)
    d__law_ways := defAt_of (cd.def_ 24 (d := mkD "_law_ways" "_law_ways" s__law_ways) rfl) (He.glo_ok X G (cd.fact 24 (f := .glo "_law_ways") rfl)) (fun _ _ _ _ _ _ us hl => match us, hl with | [_, _], _ => rfl)
    d__law_shares := defAt_of (cd.def_ 25 (d := mkD "_law_shares" "_law_shares" s__law_shares) rfl) (He.glo_ok X G (cd.fact 25 (f := .glo "_law_shares") rfl)) (fun _ _ _ _ _ _ us hl => match us, hl with | [_, _, _], _ => rfl)
    d__law_bars := defAt_of (cd.def_ 26 (d := mkD "_law_bars" "_law_bars" s__law_bars) rfl) (He.glo_ok X G (cd.fact 26 (f := .glo "_law_bars") rfl)) (fun _ _ _ _ _ _ us hl => match us, hl with | [_, _, _], _ => rfl)
    d__law_loads := defAt_of (cd.def_ 27 (d := mkD "_law_loads" "_law_loads" s__law_loads) rfl) (He.glo_ok X G (cd.fact 27 (f := .glo "_law_loads") rfl)) (fun _ _ _ _ _ _ us hl => match us, hl with | [_, _, _], _ => rfl)
    d__law_no_rows := defAt_of (cd.def_ 28 (d := mkD "_law_no_rows" "_law_no_rows" s__law_no_rows) rfl) (He.glo_ok X G (cd.fact 28 (f := .glo "_law_no_rows") rfl)) (fun _ _ _ _ _ _ us hl => match us, hl with | [_], _ => rfl)
    d__law_no_doors := defAt_of (cd.def_ 29 (d := mkD "_law_no_doors" "_law_no_doors" s__law_no_doors) rfl) (He.glo_ok X G (cd.fact 29 (f := .glo "_law_no_doors") rfl)) (fun _ _ _ _ _ _ us hl => match us, hl with | [_, _], _ => rfl)
    d__law_is_told := defAt_of (cd.def_ 30 (d := mkD "_law_is_told" "_law_is_told" s__law_is_told) rfl) (He.glo_ok X G (cd.fact 30 (f := .glo "_law_is_told") rfl)) (fun _ _ _ _ _ _ us hl => match us, hl with | [_, _, _, _], _ => rfl)
    d__law_things := defAt_of (cd.def_ 31 (d := mkD "_law_things" "_law_things" s__law_things) rfl) (He.glo_ok X G (cd.fact 31 (f := .glo "_law_things") rfl)) (fun _ _ _ _ _ _ us hl => match us, hl with | [_, _, _, _], _ => rfl)
    d__law_few := defAt_of (cd.def_ 32 (d := mkD "_law_few" "_law_few" s__law_few) rfl) (He.glo_ok X G (cd.fact 32 (f := .glo "_law_few") rfl)) (fun _ _ _ _ _ _ us hl => match us, hl with | [_, _], _ => rfl)
    d__law_is_cabin_right := defAt_of (cd.def_ 33 (d := mkD "_law_is_cabin_right" "_law_is_cabin_right" s__law_is_cabin_right) rfl) (He.glo_ok X G (cd.fact 33 (f := .glo "_law_is_cabin_right") rfl)) (fun _ _ _ _ _ _ us hl => match us, hl with | [_, _, _], _ => rfl)
    d__law_word := defAt_of (cd.def_ 34 (d := mkD "_law_word" "_law_word" s__law_word) rfl) (He.glo_ok X G (cd.fact 34 (f := .glo "_law_word") rfl)) (fun _ _ _ _ _ _ us hl => match us, hl with | [_], _ => rfl)
    w_FieldError := telled_of tb (fun n hn => by
      simp only [List.mem_cons, List.not_mem_nil, or_false] at hn
      rcases hn with rfl | rfl | rfl
      · exact (He.glo_ok X G (cd.fact 36 (f := .glo "NoDoors") rfl))
      · exact (He.glo_ok X G (cd.fact 38 (f := .glo "NoNumber") rfl))
      · exact (He.glo_ok X G (cd.fact 40 (f := .glo "NoRows") rfl))) (He.glo_ok X G (cd.fact 63 (f := .glo "FieldError") rfl))
    e_NoDoors := ecls_of (He.glo_ok X G (cd.fact 36 (f := .glo "NoDoors") rfl)) (cd.fact 37 (f := .exc "NoDoors") rfl)
    e_NoNumber := ecls_of (He.glo_ok X G (cd.fact 38 (f := .glo "NoNumber") rfl)) (cd.fact 39 (f := .exc "NoNumber") rfl)
    e_NoRows := ecls_of (He.glo_ok X G (cd.fact 40 (f := .glo "NoRows") rfl)) (cd.fact 41 (f := .exc "NoRows") rfl)
    c_DOORS := He.str_ok X G (cd.fact 42 (f := .str "DOORS" "doors") rfl)
    c_MOST_BEATS := He.int_ok X G (cd.fact 43 (f := .int "MOST_BEATS" 2000) rfl)
    c_MOST_MANY := He.int_ok X G (cd.fact 44 (f := .int "MOST_MANY" 60) rfl)
    c_MOST_ROWS := He.int_ok X G (cd.fact 45 (f := .int "MOST_ROWS" 30) rfl)
    c_SHARING := He.str_ok X G (cd.fact 46 (f := .str "SHARING" "sharing") rfl)
    z_ValueError := He.free_ok X G (cd.fact 47 (f := .free "ValueError") rfl)
    z_abs := He.free_ok X G (cd.fact 48 (f := .free "abs") rfl)
    z_all := He.free_ok X G (cd.fact 49 (f := .free "all") rfl)
    z_any := He.free_ok X G (cd.fact 50 (f := .free "any") rfl)
    z_bool := He.free_ok X G (cd.fact 51 (f := .free "bool") rfl)
    z_enumerate := He.free_ok X G (cd.fact 52 (f := .free "enumerate") rfl)
    z_int := He.free_ok X G (cd.fact 53 (f := .free "int") rfl)
    z_isinstance := He.free_ok X G (cd.fact 54 (f := .free "isinstance") rfl)
    z_len := He.free_ok X G (cd.fact 55 (f := .free "len") rfl)
    z_list := He.free_ok X G (cd.fact 56 (f := .free "list") rfl)
    z_max := He.free_ok X G (cd.fact 57 (f := .free "max") rfl)
    z_min := He.free_ok X G (cd.fact 58 (f := .free "min") rfl)
    z_range := He.free_ok X G (cd.fact 59 (f := .free "range") rfl)
    z_str := He.free_ok X G (cd.fact 60 (f := .free "str") rfl)
    z_tuple := He.free_ok X G (cd.fact 61 (f := .free "tuple") rfl)
    z_zip := He.free_ok X G (cd.fact 62 (f := .free "zip") rfl)
  }
theorem facts {w : World} {K : PySem.W.Frag} {h : Heap} {mg : Str → Option Value} {f : Addr} (X : K.In h) (G : h.Ns mainGlobals mg) (hfa : mg ("law" : Str) = some (.ref f)) (c : He.SaysX fa fn [] tfd ex w h K) : LawAtG PySem.Challenge.rw_airfield_k82_whole_sharings_of_doors_or w K 13 63 "script" mg f h := by
  have cd := c.t.d
  obtain ⟨fd, FL⟩ := cd.def_ 35 (d := mkD "law" "law" s_law) rfl
  have e := hfa.symm.trans (He.glo_ok X G (cd.fact 35 (f := .glo "law") rfl))
  cases e
  have memT : ∀ p ∈ tabsC K tf, ∃ p2 ∈ tfd, p = He.cT K p2 := fun p hp => by
    obtain ⟨q, hq, rfl⟩ := List.mem_map.mp hp
    exact ⟨(q.1, none), List.mem_map.mpr ⟨q, hq, rfl⟩, rfl⟩
  refine ⟨fd, tabsC K tf, spLaw K (tabsT K tf) m_law, fun p hp => ?_, fun p hp => ?_, fun p hp => ?_, fun s u => (FunD.bindsA (ps := ["script"]) FL fun _ _ _ _ _ _ us hl => match us, hl with | [_], _ => rfl) s [u] rfl, fun H a ns hl hbits hT hS => law_sp (fun p hp => ?_) hS (plain_law ns hl), fun base _ _ hTB => by
      obtain ⟨c2, P2, h1, h2, h3, h4⟩ := lam_of (x := "law") (nm := "law") (st := s_law) (tf := tf) (fd := fd) FL (by decide) (He.ba c.more).1 hTB
      exact fn_law (top_of X G c hTB) (fun_of FL) h1 h2 h3 h4⟩
  · obtain ⟨p2, h2, rfl⟩ := memT p hp
    exact c.empty _ h2
  · obtain ⟨p2, h2, rfl⟩ := memT p hp
    exact c.out _ h2
  · obtain ⟨p2, h2, rfl⟩ := memT p hp
    exact PySem.W.codeHd_of_K X (c.hd _ h2)
  · obtain ⟨q, hq, rfl⟩ := List.mem_map.mp hp
    exact hT (He.cT K (q.1, none)) (List.mem_map.mpr ⟨q, hq, rfl⟩)
end K82
open PySem PySem.W PySem.Calls PyProof.Rows
theorem PySem.Challenge.cw_airfield_k82_whole_sharings_of_doors_or_holds : PySem.Challenge.rw_airfield_k82_whole_sharings_of_doors_or.Holds := by
  w_on; o_law
  refine HandSHeadRun.head_any (r := OpenLaw.row PySem.Challenge.rw_airfield_k82_whole_sharings_of_doors_or) (q := view (OpenLaw.row PySem.Challenge.rw_airfield_k82_whole_sharings_of_doors_or).prog [48]) (H := K82.hk) (ob := K82.ob) (M := 20000) (loose := K82.loose) (d := HandSHeadRun.topDef (OpenLaw.row PySem.Challenge.rw_airfield_k82_whole_sharings_of_doors_or).prog 48) (kwd := []) K82.ob_eq
    (by kernel_rfl) (fun s => by kernel_rfl) K82.run (by kernel_rfl) (by kernel_rfl) (by kernel_rfl) (by rfl) (by first | assumption | decide +kernel) (by decide +kernel) ⟨rfl, rfl, rfl, rfl, rfl, by decide +kernel⟩ ?hw ?hc
  case hw => w_witness2
  case hc =>
    refine DL.walk_ofG (l := PySem.Challenge.rw_airfield_k82_whole_sharings_of_doors_or) (n := 63) (k := 13) (x := "script") rfl (by decide) (by kernel_rfl) ⟨rfl, by decide, by decide⟩ ?F
    intro w mg fa h Y G hmg0
    obtain ⟨K, KX, c⟩ := Y
    have hmg : mg ("law" : PySem.Str) = some (.ref fa) := by
      have e : (HandSHeadRun.topDef (OpenLaw.row PySem.Challenge.rw_airfield_k82_whole_sharings_of_doors_or).prog 48).name = ("law" : PySem.Str) := by kernel_rfl
      rw [← e]
      exact hmg0
    exact ⟨K, KX, K82.facts KX G hmg c⟩

