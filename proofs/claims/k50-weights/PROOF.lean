import PyProof.Rows.All
import Wide.All
import OpenK.AllK
import Wide.FinOn
import HandS.ForMost
import HandS.Walk
import HandS.Lambda
import HandS.Exc
import HandS.TupAny
import HandS.TupMul
import HandS.IsInst
import HandS.Zip
import HandS.Conv
import HandS.NoneIn
import KE.GoesNew
import HandS.WordsExc
import KE.KExcSuper
import KE.KSuper
import PySem.Challenge.RW_plaitworld_k50_weights_summed
import PyProof.ReprRoads
import HandS.TryMany
import HandS.EndTab
import HandS.EndOwn
import HandS.HeadWalk
import HandS.ExcIs
import HandS.EndBits
set_option Elab.async false
set_option linter.all false
set_option maxRecDepth 100000
set_option maxHeartbeats 4000000
/-! DL0: values as data (PyData), the heap hidden: outcomes R, the state Sg of a body (slots, box), its relation Ok to the hand layer's slots and heap, the frame Fr. -/
namespace DL
open PySem L2
abbrev D := PyData

/-- how a piece of code ends: a value, an own exception (its class's name, its one argument), or nothing is told -/
inductive R (α : Type) where
  | ok (a : α)
  | er (c : Str) (d : D)
  | no
namespace R
variable {α β : Type}
def bind (r : R α) (f : α → R β) : R β := match r with
  | ok a => f a
  | er c d => er c d
  | no => no
end R

/-- a slot: nothing known; data that no one changes any more; a list of data, owned by this name; an owned list of owned lists -/
inductive Ent where
  | un | im (d : D) | ol (ds : List D) | oo (dss : List (List D))
/-- what is known of a body's state: the box (where the body has one), the slots -/
structure Sg where
  box : Option (List D)
  es : List Ent
  tab : Option Addr
abbrev M (α : Type) := Sg → R (α × Sg)
namespace M
variable {α β : Type}
def pur (a : α) : M α := fun g => .ok (a, g)
def no : M α := fun _ => .no
def bind (m : M α) (f : α → M β) : M β := fun g => (m g).bind fun p => f p.1 p.2
end M
/-- what an expression hands on: data, or the list that a name owns -/
inductive View where
  | dat (d : D) | own (i : Nat)

/-! ### heaps that grow -/
def Le (H H' : Hp) : Prop := ∀ a o, H a = some o → H' a = some o
theorem Le.refl (H : Hp) : Le H H := fun _ _ h => h
theorem Le.trans {H H1 H2 : Hp} (p : Le H H1) (q : Le H1 H2) : Le H H2 := fun a o h => q a o (p a o h)
theorem Le.new {H : Hp} {p : Addr} {o : HO} (h : H p = none) : Le H (upd H p o) := fun a u e => by
  rw [upd_ne (ne_of_none e h)]
  exact e
theorem Le.up {H H' : Hp} {p : Addr} {o : HO} (e : Le H H') (h : H' p = some o) (hn : H p = none) : Le (upd H p o) H' := fun a u q => by
  by_cases z : a = p
  · subst z
    rw [upd_same] at q
    cases q
    exact h
  · rw [upd_ne z] at q
    exact e a u q
theorem Le.both {H H' : Hp} {p : Addr} {o : HO} (e : Le H H') : Le (upd H p o) (upd H' p o) := fun a u q => by
  by_cases z : a = p
  · subst z
    rw [upd_same] at q ⊢
    exact q
  · rw [upd_ne z] at q ⊢
    exact e a u q
theorem Le.side {H H' : Hp} {p : Addr} {o : HO} (e : Le H H') (h : H p = none) : Le H (upd H' p o) := fun a u q => by
  rw [upd_ne (ne_of_none q h)]
  exact e a u q
theorem Le.free {H H' : Hp} (e : Le H H') {p : Addr} (h : H' p = none) : H p = none := by
  cases q : H p with
  | none => rfl
  | some o =>
    rw [e p o q] at h
    cases h
variable {K : PySem.W.Frag}
theorem Le.rd {H H' : Hp} {a : Addr} {u : HO} (e : Le H H') (h : Rd H a u) : Rd H' a u := by
  rcases h with h | ⟨o, h⟩
  · exact Or.inl (e a _ h)
  · exact Or.inr ⟨o, e a _ h⟩
theorem Le.sqL {H H' : Hp} {a : Addr} {xs : List V} (e : Le H H') (h : SqL K H a xs) : SqL K H' a xs := h.elim (fun z => Or.inl (e.rd z)) Or.inr
theorem Le.sqT {H H' : Hp} {a : Addr} {xs : List V} (e : Le H H') (h : SqT K H a xs) : SqT K H' a xs := h.elim (fun z => Or.inl (e.rd z)) Or.inr

/-! ### data in a heap -/
/-- a list that the program may not change (the law's script), as data -/
abbrev locked (ds : List D) : D := .dict [(.none, .list ds)]
/-- range(n), as data -/
abbrev rngD (n : Int) : D := .dict [(.bool true, .int n)]
mutual
/-- the value v is the data d; lists are tracked, tuples may be the module's own -/
inductive Dq (K : PySem.W.Frag) (F : Hp) : V → D → Prop
  | non : Dq K F .non .none
  | bl (b : Bool) : Dq K F (.bl b) (.bool b)
  | int (i : Int) : Dq K F (.int i) (.int i)
  | str (x : Str) : Dq K F (.str x) (.str x)
  | lst {a : Addr} {vs : List V} {ds : List D} : F a = some (.lst vs) → DqAll K F vs ds → Dq K F (.ref a) (.list ds)
  | tup {a : Addr} {vs : List V} {ds : List D} : SqT K F a vs → DqAll K F vs ds → Dq K F (.ref a) (.tuple ds)
  | scr {a : Addr} {vs : List V} {ds : List D} : SqL K F a vs → DqAll K F vs ds → Dq K F (.ref a) (locked ds)
  | rng {a : Addr} {n : Int} : F a = some (.rng 0 n) → Dq K F (.ref a) (rngD n)
inductive DqAll (K : PySem.W.Frag) (F : Hp) : List V → List D → Prop
  | nil : DqAll K F [] []
  | cons {v : V} {vs : List V} {d : D} {ds : List D} : Dq K F v d → DqAll K F vs ds → DqAll K F (v :: vs) (d :: ds)
end
mutual
/-- what the hand layer calls data (but for the script) -/
theorem Dq.dp {F : Hp} : ∀ {v : V} {d : D}, Dq K F v d → d.canLay0 = true → Dp K F v d
  | _, _, .non, _ => .non
  | _, _, .bl b, _ => .bl b
  | _, _, .int i, _ => .int i
  | _, _, .str x, _ => .str x
  | _, _, .lst h k, e => .lst (SqL.of h) (DqAll.dp k (by simpa [PyData.canLay0] using e))
  | _, _, .tup h k, e => .tup h (DqAll.dp k (by simpa [PyData.canLay0] using e))
  | _, _, .scr h k, e => by simp [PyData.canLay0] at e
  | _, _, .rng h, e => by simp [PyData.canLay0] at e
theorem DqAll.dp {F : Hp} : ∀ {vs : List V} {ds : List D}, DqAll K F vs ds → PyData.canLayAll0 ds = true → DpAll K F vs ds
  | _, _, .nil, _ => .nil
  | _, _, .cons h k, e => by
    rw [PyData.canLayAll0, Bool.and_eq_true] at e
    exact .cons (Dq.dp h e.1) (DqAll.dp k e.2)
end
mutual
theorem dp_mono {H H' : Hp} (e : Le H H') : ∀ {v : V} {d : D}, Dq K H v d → Dq K H' v d
  | _, _, .non => .non
  | _, _, .bl b => .bl b
  | _, _, .int i => .int i
  | _, _, .str x => .str x
  | _, _, .lst h k => .lst (e _ _ h) (dpAll_mono e k)
  | _, _, .tup h k => .tup (e.sqT h) (dpAll_mono e k)
  | _, _, .scr h k => .scr (e.sqL h) (dpAll_mono e k)
  | _, _, .rng h => .rng (e _ _ h)
theorem dpAll_mono {H H' : Hp} (e : Le H H') : ∀ {vs : List V} {ds : List D}, DqAll K H vs ds → DqAll K H' vs ds
  | _, _, .nil => .nil
  | _, _, .cons h k => .cons (dp_mono e h) (dpAll_mono e k)
end
theorem dpAll_len {H : Hp} : ∀ {vs : List V} {ds : List D}, DqAll K H vs ds → vs.length = ds.length
  | _, _, .nil => rfl
  | _, _, .cons _ k => congrArg (· + 1) (dpAll_len k)
theorem dpAll_app {H : Hp} : ∀ {vs ws : List V} {ds es : List D}, DqAll K H vs ds → DqAll K H ws es → DqAll K H (vs ++ ws) (ds ++ es)
  | _, _, _, _, .nil, q => q
  | _, _, _, _, .cons h k, q => .cons h (dpAll_app k q)
theorem dpAll_get {H : Hp} : ∀ {vs : List V} {ds : List D} {i : Nat} {d : D}, DqAll K H vs ds → ds[i]? = some d → ∃ v, vs[i]? = some v ∧ Dq K H v d
  | _, _, _, _, .nil, e => by simp at e
  | _, _, 0, _, .cons h _, e => by
    simp at e
    subst e
    exact ⟨_, rfl, h⟩
  | _, _, i + 1, _, .cons _ k, e => by
    obtain ⟨v, h1, h2⟩ := dpAll_get (i := i) k (by simpa using e)
    exact ⟨v, by simpa using h1, h2⟩
theorem dpAll_getV {H : Hp} : ∀ {vs : List V} {ds : List D} {i : Nat} {v : V}, DqAll K H vs ds → vs[i]? = some v → ∃ d, ds[i]? = some d ∧ Dq K H v d
  | _, _, _, _, .nil, e => by simp at e
  | _, _, 0, _, .cons h _, e => by
    simp at e
    subst e
    exact ⟨_, rfl, h⟩
  | _, _, i + 1, _, .cons _ k, e => by
    obtain ⟨v, h1, h2⟩ := dpAll_getV (i := i) k (by simpa using e)
    exact ⟨v, by simpa using h1, h2⟩
theorem dpAll_set {H : Hp} {v : V} {d : D} (hv : Dq K H v d) : ∀ {vs : List V} {ds : List D} (i : Nat), DqAll K H vs ds → DqAll K H (vs.set i v) (ds.set i d)
  | _, _, _, .nil => .nil
  | _, _, 0, .cons _ k => .cons hv k
  | _, _, i + 1, .cons h k => .cons h (dpAll_set hv i k)
theorem dpAll_take {H : Hp} : ∀ {vs : List V} {ds : List D} (n : Nat), DqAll K H vs ds → DqAll K H (vs.take n) (ds.take n)
  | _, _, 0, _ => .nil
  | _, _, _ + 1, .nil => .nil
  | _, _, n + 1, .cons h k => .cons h (dpAll_take n k)
theorem dpAll_drop {H : Hp} : ∀ {vs : List V} {ds : List D} (n : Nat), DqAll K H vs ds → DqAll K H (vs.drop n) (ds.drop n)
  | _, _, 0, h => h
  | _, _, _ + 1, .nil => .nil
  | _, _, n + 1, .cons _ k => dpAll_drop n k
theorem dpAll_rev {H : Hp} : ∀ {vs : List V} {ds : List D}, DqAll K H vs ds → DqAll K H vs.reverse ds.reverse
  | _, _, .nil => .nil
  | _, _, .cons h k => by
    rw [List.reverse_cons, List.reverse_cons]
    exact dpAll_app (dpAll_rev k) (.cons h .nil)
theorem dpAll_rep {H : Hp} {vs : List V} {ds : List D} (h : DqAll K H vs ds) : ∀ n : Nat, DqAll K H (List.replicate n vs).flatten (List.replicate n ds).flatten
  | 0 => .nil
  | n + 1 => by
    rw [List.replicate_succ, List.replicate_succ, List.flatten_cons, List.flatten_cons]
    exact dpAll_app h (dpAll_rep h n)
theorem dpAll_ints {H : Hp} : ∀ {vs : List V} {ns : List Int}, DqAll K H vs (ns.map PyData.int) → vs = ns.map V.int
  | _, [], h => by
    cases h
    rfl
  | _, n :: ns, h => by
    cases h with
    | cons a b =>
      cases a
      rw [dpAll_ints b]
      rfl
theorem dpAll_of_ints {H : Hp} : ∀ ns : List Int, DqAll K H (ns.map V.int) (ns.map PyData.int)
  | [] => .nil
  | n :: ns => .cons (.int n) (dpAll_of_ints ns)
theorem dpAll_bls {H : Hp} : ∀ {vs : List V} {bs : List Bool}, DqAll K H vs (bs.map PyData.bool) → vs = bs.map V.bl
  | _, [], h => by
    cases h
    rfl
  | _, n :: ns, h => by
    cases h with
    | cons a b =>
      cases a
      rw [dpAll_bls b]
      rfl
theorem dp_int {H : Hp} {v : V} {i : Int} (h : Dq K H v (.int i)) : v = .int i := by
  cases h
  rfl
theorem dp_bool {H : Hp} {v : V} {b : Bool} (h : Dq K H v (.bool b)) : v = .bl b := by
  cases h
  rfl
theorem dp_str {H : Hp} {v : V} {b : Str} (h : Dq K H v (.str b)) : v = .str b := by
  cases h
  rfl
theorem dp_none {H : Hp} {v : V} (h : Dq K H v .none) : v = .non := by
  cases h
  rfl
theorem dp_list {H : Hp} {v : V} {ds : List D} (h : Dq K H v (.list ds)) : ∃ a vs, v = .ref a ∧ H a = some (.lst vs) ∧ DqAll K H vs ds := by
  cases h with
  | lst h k => exact ⟨_, _, rfl, h, k⟩
theorem dp_tuple {H : Hp} {v : V} {ds : List D} (h : Dq K H v (.tuple ds)) : ∃ a vs, v = .ref a ∧ SqT K H a vs ∧ DqAll K H vs ds := by
  cases h with
  | tup h k => exact ⟨_, _, rfl, h, k⟩
theorem dp_locked {H : Hp} {v : V} {ds : List D} (h : Dq K H v (locked ds)) : ∃ a vs, v = .ref a ∧ SqL K H a vs ∧ DqAll K H vs ds := by
  cases h with
  | scr h k => exact ⟨_, _, rfl, h, k⟩

/-! ### slots and the heap -/
/-- the rows of an owned list of lists -/
def Rows (K : PySem.W.Frag) (F H : Hp) (ps : List Addr) (dss : List (List D)) : Prop := Paired (fun p ds => ∃ vs, H p = some (.lst vs) ∧ DqAll K F vs ds) ps dss
def EntR (K : PySem.W.Frag) (F H : Hp) (O : Addr → Prop) : Ent → Option V → Prop
  | .un, _ => True
  | .im d, o => ∃ v, o = some v ∧ Dq K F v d
  | .ol ds, o => ∃ a vs, o = some (.ref a) ∧ O a ∧ H a = some (.lst vs) ∧ DqAll K F vs ds
  | .oo dss, o => ∃ a ps, o = some (.ref a) ∧ O a ∧ H a = some (.lst (ps.map V.ref)) ∧ (a :: ps).Nodup ∧ (∀ p ∈ ps, O p) ∧ Rows K F H ps dss
theorem rows_mono {F F' H H' : Hp} {ps : List Addr} {dss : List (List D)} (r : Rows K F H ps dss) (e : Le F F') (h : ∀ p ∈ ps, ∀ o, H p = some o → H' p = some o) : Rows K F' H' ps dss := by
  induction r with
  | nil => exact .nil
  | cons q t ih =>
    obtain ⟨vs, h1, h2⟩ := q
    exact .cons ⟨vs, h _ List.mem_cons_self _ h1, dpAll_mono e h2⟩ (ih fun p hp => h p (List.mem_cons_of_mem _ hp))
theorem EntR.mono {F F' H H' : Hp} {O O' : Addr → Prop} {e : Ent} {o : Option V} (r : EntR K F H O e o) (ef : Le F F') (h : ∀ a, O a → O' a ∧ ∀ u, H a = some u → H' a = some u) : EntR K F' H' O' e o := by
  cases e with
  | un => exact True.intro
  | im d =>
    obtain ⟨v, h1, h2⟩ := r
    exact ⟨v, h1, dp_mono ef h2⟩
  | ol ds =>
    obtain ⟨a, vs, h1, h2, h3, h4⟩ := r
    exact ⟨a, vs, h1, (h a h2).1, (h a h2).2 _ h3, dpAll_mono ef h4⟩
  | oo dss =>
    obtain ⟨a, ps, h1, h2, h3, h4, h5, h6⟩ := r
    exact ⟨a, ps, h1, (h a h2).1, (h a h2).2 _ h3, h4, fun p hp => (h p (h5 p hp)).1, rows_mono h6 ef fun p hp => (h p (h5 p hp)).2⟩

/-! the state g is that of the slots σ and the heap H: F is the frozen part of the heap, own tells which slot owns an address; b is the box's slot -/
def lamQ : Str := "law.<locals>.<lambda>"
/-- the table at P of the code objects of lambdas, all known in F -/
def TabF (F H : Hp) (P : Addr) : Prop := ∃ ps : Array Value, H P = some (.tbl ps) ∧ TriplesOk ps.toList ∧ ∀ (pos : Pos) (cv : Value), codeAmong pos ps.toList = some cv → ∃ c, cv = .ref c ∧ F c = some (LamX.CodeO c lamQ)
theorem TabF.mono {F F' H H' : Hp} {P : Addr} (t : TabF F H P) (ef : Le F F') (h : ∀ u, H P = some u → H' P = some u) : TabF F' H' P := by
  obtain ⟨ps, h1, h2, h3⟩ := t
  refine ⟨ps, h _ h1, h2, fun pos cv hc => ?_⟩
  obtain ⟨c, e1, e2⟩ := h3 pos cv hc
  exact ⟨c, e1, ef _ _ e2⟩
structure Ok (K : PySem.W.Frag) (b : Nat) (F : Hp) (own : Addr → Option Nat) (g : Sg) (σ : St) (H : Hp) : Prop where
  len : g.es.length = σ.length
  le : Le F H
  apart : ∀ a i, own a = some i → F a = none
  there : ∀ a i, own a = some i → H a ≠ none
  sl : ∀ (i : Nat) (e : Ent) (v : Option V), g.es[i]? = some e → σ[i]? = some v → EntR K F H (fun a => own a = some i) e v
  bx : ∀ ds, g.box = some ds → g.es[b]? = some .un ∧ ∃ a vs, σ[b]? = some (some (.ref a)) ∧ own a = some b ∧ H a = some (.lst vs) ∧ DqAll K F vs ds
  tb : ∀ P, g.tab = some P → own P = some b ∧ TabF F H P

/-- what a step may do: F grows by what it owned or by what is new; what it does not own stays -/
structure Fr (F : Hp) (own : Addr → Option Nat) (H F' : Hp) (own' : Addr → Option Nat) (H' : Hp) : Prop where
  fl : Le F F'
  keep : ∀ a o, H a = some o → own a = none → H' a = some o
  dom : ∀ a, H' a = none → H a = none
  frz : ∀ a, F' a ≠ none → F a ≠ none ∨ H a = none ∨ own a ≠ none
  hold : ∀ a, own' a ≠ none → own a ≠ none ∨ H a = none
theorem Fr.refl {F H : Hp} {own : Addr → Option Nat} : Fr F own H F own H := ⟨Le.refl F, fun _ _ h _ => h, fun _ h => h, fun _ h => .inl h, fun _ h => .inl h⟩
theorem Fr.trans {F H F1 H1 F2 H2 : Hp} {o o1 o2 : Addr → Option Nat} (p : Fr F o H F1 o1 H1) (q : Fr F1 o1 H1 F2 o2 H2) : Fr F o H F2 o2 H2 where
  fl := p.fl.trans q.fl
  keep := fun a u h n => q.keep a u (p.keep a u h n) (by
    cases z : o1 a with
    | none => rfl
    | some i =>
      rcases p.hold a (by rw [z]; simp) with y | y
      · exact absurd n y
      · rw [y] at h
        cases h)
  dom := fun a h => p.dom a (q.dom a h)
  frz := fun a h => by
    rcases q.frz a h with z | z | z
    · exact p.frz a z
    · exact .inr (.inl (p.dom a z))
    · rcases p.hold a z with y | y
      · exact .inr (.inr y)
      · exact .inr (.inl y)
  hold := fun a h => by
    rcases q.hold a h with z | z
    · exact p.hold a z
    · exact .inr (p.dom a z)
theorem Fr.grow {F H F' H' : Hp} {own : Addr → Option Nat} (ef : Le F F') (eh : Le H H') (fr : ∀ a, F' a ≠ none → F a ≠ none ∨ H a = none) : Fr F own H F' own H' :=
  ⟨ef, fun a o h _ => eh a o h, fun a h => eh.free h, fun a h => (fr a h).elim .inl fun z => .inr (.inl z), fun a h => .inl h⟩

section
variable {b : Nat} {F F' H H' : Hp} {own own' : Addr → Option Nat} {g g' : Sg} {σ : St}
theorem Ok.box_at (k : Ok K b F own g σ H) {ds : List D} (h : g.box = some ds) : ∃ a vs, σ[b]? = some (some (.ref a)) ∧ own a = some b ∧ H a = some (.lst vs) ∧ DqAll K F vs ds := (k.bx ds h).2
/-- the heap and its frozen part grow -/
theorem Ok.grow (k : Ok K b F own g σ H) (ef : Le F F') (eh : Le H H') (e : Le F' H') (fr : ∀ a, F' a ≠ none → F a ≠ none ∨ H a = none) : Ok K b F' own g σ H' where
  len := k.len
  le := e
  apart := fun a i h => by
    cases z : F' a with
    | none => rfl
    | some o =>
      rcases fr a (by rw [z]; simp) with y | y
      · exact absurd (k.apart a i h) y
      · exact absurd y (k.there a i h)
  there := fun a i h z => k.there a i h (eh.free z)
  sl := fun i en v h1 h2 => (k.sl i en v h1 h2).mono ef fun a ha => ⟨ha, fun u hu => eh a u hu⟩
  bx := fun ds h => by
    obtain ⟨h0, a, vs, h1, h2, h3, h4⟩ := k.bx ds h
    exact ⟨h0, a, vs, h1, h2, eh a _ h3, dpAll_mono ef h4⟩
  tb := fun P h => ⟨(k.tb P h).1, (k.tb P h).2.mono ef (eh P)⟩
/-- a new object, frozen at once -/
theorem Ok.new (k : Ok K b F own g σ H) {p : Addr} {o : HO} (h : H p = none) : Ok K b (upd F p o) own g σ (upd H p o) ∧ Fr F own H (upd F p o) own (upd H p o) := by
  have fr : ∀ a, (upd F p o) a ≠ none → F a ≠ none ∨ H a = none := fun a ha => by
    by_cases z : a = p
    · subst z
      exact .inr h
    · rw [upd_ne z] at ha
      exact .inl ha
  exact ⟨k.grow (Le.new (k.le.free h)) (Le.new h) k.le.both fr, Fr.grow (Le.new (k.le.free h)) (Le.new h) fr⟩
/-- a new object that is not frozen -/
theorem Ok.side (k : Ok K b F own g σ H) {p : Addr} {o : HO} (h : H p = none) : Ok K b F own g σ (upd H p o) ∧ Fr F own H F own (upd H p o) :=
  ⟨k.grow (Le.refl F) (Le.new h) (k.le.trans (Le.new h)) fun _ z => .inl z, Fr.grow (Le.refl F) (Le.new h) fun _ z => .inl z⟩
/-- an object that no one owns and that is not frozen changes -/
theorem Ok.loose (k : Ok K b F own g σ H) {p : Addr} {o : HO} (h : own p = none) (hf : F p = none) : Ok K b F own g σ (upd H p o) := by
  have kp : ∀ a i, own a = some i → ∀ u, H a = some u → upd H p o a = some u := fun a i ha u hu => by
    rw [upd_ne (fun z => by rw [z, h] at ha; cases ha)]
    exact hu
  exact {
    len := k.len
    le := k.le.side hf
    apart := k.apart
    there := fun a i ha z => by
      rw [upd_ne (fun y => by rw [y, h] at ha; cases ha)] at z
      exact k.there a i ha z
    sl := fun i en v h1 h2 => (k.sl i en v h1 h2).mono (Le.refl F) fun a ha => ⟨ha, kp a i ha⟩
    bx := fun ds hb => by
      obtain ⟨h0, a, vs, h1, h2, h3, h4⟩ := k.bx ds hb
      exact ⟨h0, a, vs, h1, h2, kp a _ h2 _ h3, h4⟩
    tb := fun P h => ⟨(k.tb P h).1, (k.tb P h).2.mono (Le.refl F) (kp P b (k.tb P h).1)⟩ }
/-- what slot i owns becomes frozen -/
def fzF (F H : Hp) (own : Addr → Option Nat) (i : Nat) : Hp := fun a => if own a = some i then H a else F a
def fzO (own : Addr → Option Nat) (i : Nat) : Addr → Option Nat := fun a => if own a = some i then none else own a
theorem Ok.freeze (k : Ok K b F own g σ H) (i : Nat) (hb : i ≠ b) {e : Ent} (he : ∀ v, σ[i]? = some v → EntR K (fzF F H own i) H (fun _ => False) e v) : Ok K b (fzF F H own i) (fzO own i) { g with es := g.es.set i e } σ H ∧ Fr F own H (fzF F H own i) (fzO own i) H := by
  have lf : Le F (fzF F H own i) := fun a o h => by
    unfold fzF
    rw [if_neg fun z => by rw [k.apart a i z] at h; cases h]
    exact h
  have oo : ∀ a j, fzO own i a = some j → own a = some j ∧ j ≠ i := fun a j h => by
    unfold fzO at h
    by_cases z : own a = some i
    · rw [if_pos z] at h
      cases h
    · rw [if_neg z] at h
      exact ⟨h, fun y => z (by rw [h, y])⟩
  have oi : ∀ a j, own a = some j → j ≠ i → fzO own i a = some j := fun a j h n => by
    unfold fzO
    rw [if_neg fun z => n (by rw [h] at z; cases z; rfl)]
    exact h
  refine ⟨⟨by simpa using k.len, fun a o h => ?_, fun a j h => ?_, fun a j h => k.there a j (oo a j h).1, fun j en v h1 h2 => ?_, fun ds h => ?_, fun P h => ⟨oi P b (k.tb P h).1 (Ne.symm hb), (k.tb P h).2.mono lf fun u hu => hu⟩⟩, ⟨lf, fun _ _ h _ => h, fun _ h => h, fun a h => ?_, fun a h => ?_⟩⟩
  · unfold fzF at h
    split at h
    · exact h
    · exact k.le a o h
  · obtain ⟨h1, h2⟩ := oo a j h
    unfold fzF
    rw [if_neg fun z => h2 (by rw [h1] at z; cases z; rfl)]
    exact k.apart a j h1
  · by_cases z : j = i
    · subst z
      have hj : j < g.es.length := by
        have := (List.getElem?_eq_some_iff.mp h1).1
        simpa using this
      rw [List.getElem?_set_self hj] at h1
      cases h1
      exact (he v h2).mono (Le.refl _) fun a ha => ha.elim
    · rw [List.getElem?_set_ne (Ne.symm z)] at h1
      exact (k.sl j en v h1 h2).mono lf fun a ha => ⟨oi a j ha z, fun u hu => hu⟩
  · obtain ⟨h0, a, vs, h1, h2, h3, h4⟩ := k.bx ds h
    exact ⟨by rw [List.getElem?_set_ne hb]; exact h0, a, vs, h1, oi a b h2 (Ne.symm hb), h3, dpAll_mono lf h4⟩
  · unfold fzF at h
    by_cases z : own a = some i
    · exact .inr (.inr (by rw [z]; simp))
    · rw [if_neg z] at h
      exact .inl h
  · cases z : fzO own i a with
    | none => exact absurd z h
    | some j => exact .inl (by rw [(oo a j z).1]; simp)

/-- slot i takes a value: data, or what it owns from now on (a set O of new or own addresses) -/
def giO (own : Addr → Option Nat) (i : Nat) (O : Addr → Prop) [DecidablePred O] : Addr → Option Nat := fun a => if O a then some i else if own a = some i then none else own a
theorem Ok.assign (k : Ok K b F own g σ H) (i : Nat) (hb : i ≠ b) {e : Ent} {v : V} (O : Addr → Prop) [DecidablePred O] (hO : ∀ a, O a → (own a = none ∨ own a = some i) ∧ F a = none ∧ H a ≠ none) (he : EntR K F H O e (some v)) :
    Ok K b F (giO own i O) { g with es := g.es.set i e } (σ.set i (some v)) H := by
  have o1 : ∀ a j, j ≠ i → own a = some j → giO own i O a = some j := fun a j n h => by
    unfold giO
    rw [if_neg fun z => by
      rcases (hO a z).1 with y | y
      · rw [h] at y; cases y
      · rw [h] at y; cases y; exact n rfl, if_neg fun z => n (by rw [h] at z; cases z; rfl)]
    exact h
  have o2 : ∀ a j, giO own i O a = some j → (O a ∧ j = i) ∨ own a = some j := fun a j h => by
    unfold giO at h
    by_cases z : O a
    · rw [if_pos z] at h
      cases h
      exact .inl ⟨z, rfl⟩
    · rw [if_neg z] at h
      by_cases y : own a = some i
      · rw [if_pos y] at h
        cases h
      · rw [if_neg y] at h
        exact .inr h
  refine ⟨by simpa using k.len, k.le, fun a j h => ?_, fun a j h => ?_, fun j en w h1 h2 => ?_, fun ds h => ?_, fun P h => ⟨o1 P b (Ne.symm hb) (k.tb P h).1, (k.tb P h).2⟩⟩
  · rcases o2 a j h with ⟨z, _⟩ | z
    · exact (hO a z).2.1
    · exact k.apart a j z
  · rcases o2 a j h with ⟨z, _⟩ | z
    · exact (hO a z).2.2
    · exact k.there a j z
  · by_cases z : j = i
    · subst z
      have hj : j < g.es.length := by
        have := (List.getElem?_eq_some_iff.mp h1).1
        simpa using this
      have hj2 : j < σ.length := by rw [← k.len]; exact hj
      rw [List.getElem?_set_self hj] at h1
      rw [List.getElem?_set_self hj2] at h2
      cases h1
      cases h2
      exact he.mono (Le.refl _) fun a ha => ⟨by unfold giO; rw [if_pos ha], fun u hu => hu⟩
    · rw [List.getElem?_set_ne (Ne.symm z)] at h1 h2
      exact (k.sl j en w h1 h2).mono (Le.refl _) fun a ha => ⟨o1 a j z ha, fun u hu => hu⟩
  · obtain ⟨h0, a, vs, h1, h2, h3, h4⟩ := k.bx ds h
    exact ⟨by rw [List.getElem?_set_ne hb]; exact h0, a, vs, by rw [List.getElem?_set_ne hb]; exact h1, o1 a b (Ne.symm hb) h2, h3, h4⟩
theorem Fr.assign {i : Nat} {O : Addr → Prop} [DecidablePred O] (hO : ∀ a, O a → own a ≠ none ∨ H a = none) : Fr F own H F (giO own i O) H :=
  ⟨Le.refl F, fun _ _ h _ => h, fun _ h => h, fun _ h => .inl h, fun a h => by
    unfold giO at h
    by_cases z : O a
    · exact hO a z
    · rw [if_neg z] at h
      by_cases y : own a = some i
      · exact .inl (by rw [y]; simp)
      · rw [if_neg y] at h
        exact .inl h⟩
/-- data into slot i -/
theorem Ok.set (k : Ok K b F own g σ H) (i : Nat) (hb : i ≠ b) {d : D} {v : V} (h : Dq K F v d) : ∃ own', Ok K b F own' { g with es := g.es.set i (.im d) } (σ.set i (some v)) H ∧ Fr F own H F own' H :=
  ⟨giO own i fun _ => False, k.assign i hb (fun _ => False) (fun _ z => z.elim) ⟨v, rfl, h⟩, Fr.assign fun _ z => z.elim⟩
/-- an object that slot i owns changes; the slot's entry with it -/
theorem Ok.write (k : Ok K b F own g σ H) {i : Nat} {p : Addr} {o : HO} (hb : i ≠ b) (hp : own p = some i) {e : Ent} (he : ∀ v, σ[i]? = some v → EntR K F (upd H p o) (fun a => own a = some i) e v) :
    Ok K b F own { g with es := g.es.set i e } σ (upd H p o) ∧ Fr F own H F own (upd H p o) := by
  have kp : ∀ a j, j ≠ i → own a = some j → ∀ u, H a = some u → upd H p o a = some u := fun a j n ha u hu => by
    rw [upd_ne (fun z => by rw [z, hp] at ha; cases ha; exact n rfl)]
    exact hu
  have hpf := k.apart p i hp
  refine ⟨⟨by simpa using k.len, k.le.side hpf, k.apart, fun a j ha z => ?_, fun j en v h1 h2 => ?_, fun ds hd => ?_, fun P h => ⟨(k.tb P h).1, (k.tb P h).2.mono (Le.refl F) (kp P b (Ne.symm hb) (k.tb P h).1)⟩⟩, ⟨Le.refl F, fun a u h n => ?_, fun a h => ?_, fun _ h => .inl h, fun _ h => .inl h⟩⟩
  · by_cases y : a = p
    · subst y
      rw [upd_same] at z
      cases z
    · rw [upd_ne y] at z
      exact k.there a j ha z
  · by_cases z : j = i
    · subst z
      have hj : j < g.es.length := by
        have := (List.getElem?_eq_some_iff.mp h1).1
        simpa using this
      rw [List.getElem?_set_self hj] at h1
      cases h1
      exact he v h2
    · rw [List.getElem?_set_ne (Ne.symm z)] at h1
      exact (k.sl j en v h1 h2).mono (Le.refl _) fun a ha => ⟨ha, kp a j z ha⟩
  · obtain ⟨h0, a, vs, h1, h2, h3, h4⟩ := k.bx ds hd
    exact ⟨by rw [List.getElem?_set_ne hb]; exact h0, a, vs, h1, h2, kp a b (Ne.symm hb) h2 _ h3, h4⟩
  · rw [upd_ne (fun z => by rw [z, hp] at n; cases n)]
    exact h
  · by_cases y : a = p
    · subst y
      rw [upd_same] at h
      cases h
    · rw [upd_ne y] at h
      exact h
/-- the box changes -/
theorem Ok.wbox (k : Ok K b F own g σ H) {p : Addr} {vs : List V} {ds : List D} (hd : g.box = some ds) (hs : σ[b]? = some (some (.ref p))) (hp : own p = some b) {ds' : List D} (hv : DqAll K F vs ds') :
    Ok K b F own { g with box := some ds' } σ (upd H p (.lst vs)) ∧ Fr F own H F own (upd H p (.lst vs)) := by
  have hpf := k.apart p b hp
  have kp : ∀ a j, j ≠ b → own a = some j → ∀ u, H a = some u → upd H p (.lst vs) a = some u := fun a j n ha u hu => by
    rw [upd_ne (fun z => by rw [z, hp] at ha; cases ha; exact n rfl)]
    exact hu
  have hun := (k.bx ds hd).1
  have hpl : ∃ ws, H p = some (.lst ws) := by
    obtain ⟨_, a, ws, s1, s2, s3, s4⟩ := k.bx ds hd
    rw [hs] at s1
    cases s1
    exact ⟨ws, s3⟩
  refine ⟨⟨k.len, k.le.side hpf, k.apart, fun a j ha z => ?_, fun j en v h1 h2 => ?_, fun ds2 h2 => ?_, fun P h => ⟨(k.tb P h).1, (k.tb P h).2.mono (Le.refl F) fun u hu => by
    obtain ⟨ps, t1, _⟩ := (k.tb P h).2
    obtain ⟨ws, hw⟩ := hpl
    rw [upd_ne fun z => by rw [z, hw] at t1; cases t1]
    exact hu⟩⟩, ⟨Le.refl F, fun a u h n => ?_, fun a h => ?_, fun _ h => .inl h, fun _ h => .inl h⟩⟩
  · by_cases y : a = p
    · subst y
      rw [upd_same] at z
      cases z
    · rw [upd_ne y] at z
      exact k.there a j ha z
  · by_cases z : j = b
    · subst z
      have h1 : g.es[j]? = some en := h1
      rw [hun] at h1
      cases h1
      exact True.intro
    · exact (k.sl j en v h1 h2).mono (Le.refl _) fun a ha => ⟨ha, kp a j z ha⟩
  · cases h2
    exact ⟨hun, p, vs, hs, hp, upd_same, hv⟩
  · rw [upd_ne (fun z => by rw [z, hp] at n; cases n)]
    exact h
  · by_cases y : a = p
    · subst y
      rw [upd_same] at h
      cases h
    · rw [upd_ne y] at h
      exact h
end
end DL
set_option maxRecDepth 100000
set_option maxHeartbeats 4000000
/-! DL1: the readings by data (tV a view, tD data, tN a new list, tB a test, tAs arguments), what an error asks, and the rules of expressions. -/
namespace DL
open PySem L2

/-- own exception classes by name: the class's address, the one field that an instance has -/
abbrev XI := Str → Option (Addr × Str)
/-- what surrounds: the written part, the box's slot, the wished exceptions, the classes -/
structure Cc where
  K : PySem.W.Frag
  b : Nat
  E : XK
  xi : XI
def ErD (C : Cc) (F : Hp) (own : Addr → Option Nat) (H : Hp) (c : Str) (d : D) : Prop :=
  ∀ (cl : Addr) (f : Str), C.xi c = some (cl, f) → ∀ F' own' H' dp v, Fr F own H F' own' H' → Le F' H' → H' dp = some (.xd [(f, v)]) → Dq C.K F' v d → C.E (.ref cl) (some dp) H'
theorem ErD.back {C : Cc} {F H F1 H1 : Hp} {own own1 : Addr → Option Nat} {c : Str} {d : D} (h : ErD C F own H c d) (p : Fr F own H F1 own1 H1) : ErD C F1 own1 H1 c d :=
  fun cl f e F' own' H' dp v q => h cl f e F' own' H' dp v (p.trans q)
def After {α : Type} (C : Cc) (σ : St) (F : Hp) (own : Addr → Option Nat) (H : Hp) (r : R (α × Sg)) (P : α → Hp → (Addr → Option Nat) → Sg → Hp → Prop) : Prop :=
  match r with
  | .ok (a, g') => ∀ F' own' H', Ok C.K C.b F' own' g' σ H' → Fr F own H F' own' H' → P a F' own' g' H'
  | .er c d => ErD C F own H c d
  | .no => False
section
variable {α β : Type} {C : Cc} {σ : St} {F F1 H H1 : Hp} {own own1 : Addr → Option Nat} {g g1 : Sg}
theorem After.ok {r : R (α × Sg)} {P : α → Hp → (Addr → Option Nat) → Sg → Hp → Prop} (h : After C σ F own H r P) {a : α} {g' : Sg} (e : r = .ok (a, g')) {F' H' : Hp} {own' : Addr → Option Nat} (k : Ok C.K C.b F' own' g' σ H') (f : Fr F own H F' own' H') : P a F' own' g' H' := by
  subst e
  exact h F' own' H' k f
theorem After.at_ {r : R (α × Sg)} {P : α → Hp → (Addr → Option Nat) → Sg → Hp → Prop} (h : After C σ F own H r P) (p : Fr F own H F1 own1 H1) : After C σ F1 own1 H1 r P := by
  cases r with
  | ok q => exact fun F' own' H' k f => h F' own' H' k (p.trans f)
  | er c d => exact ErD.back h p
  | no => exact h
theorem After.imp {r : R (α × Sg)} {P P' : α → Hp → (Addr → Option Nat) → Sg → Hp → Prop} (h : After C σ F own H r P)
    (i : ∀ a F' own' g' H', r = .ok (a, g') → Ok C.K C.b F' own' g' σ H' → Fr F own H F' own' H' → P a F' own' g' H' → P' a F' own' g' H') : After C σ F own H r P' := by
  cases r with
  | ok q => exact fun F' own' H' k f => i _ _ _ _ _ rfl k f (h F' own' H' k f)
  | er c d => exact h
  | no => exact h
/-- of two steps in a row, the first -/
theorem After.fst {m : M α} {f : α → M β} {P : β → Hp → (Addr → Option Nat) → Sg → Hp → Prop} (h : After C σ F own H ((m.bind f) g) P) :
    After C σ F own H (m g) fun a F1 own1 g1 H1 => After C σ F1 own1 H1 (f a g1) P := by
  unfold M.bind R.bind at h
  cases e : m g with
  | ok q =>
    rw [e] at h
    exact fun F' own' H' k p => After.at_ h p
  | er c d =>
    rw [e] at h
    exact h
  | no =>
    rw [e] at h
    exact h
end

/-- the value v is what the view w tells -/
def Vw (K : PySem.W.Frag) (F : Hp) (σ : St) (v : V) : View → Prop
  | .dat d => Dq K F v d
  | .own i => σ[i]? = some (some v)
theorem Vw.mono {K : PySem.W.Frag} {F F' : Hp} {σ : St} {v : V} {w : View} (h : Vw K F σ v w) (e : Le F F') : Vw K F' σ v w := by
  cases w with
  | dat d => exact dp_mono e h
  | own i => exact h
/-- what a name owns is given away: no one changes it from here on -/
def frz (b : Nat) : View → M D
  | .dat d => M.pur d
  | .own i => fun g => if i = b then .no else match g.es[i]? with
    | some (.ol ds) => .ok (.list ds, { g with es := g.es.set i (.im (.list ds)) })
    | some (.oo dss) => .ok (.list (dss.map .list), { g with es := g.es.set i (.im (.list (dss.map .list))) })
    | _ => .no
/-- a sequence that is read as it stands: whether it is a tuple, its items -/
def seqD : D → Option (Bool × List D)
  | .list ds => some (false, ds)
  | .tuple ds => some (true, ds)
  | .dict [(.none, .list ds)] => some (false, ds)
  | _ => none
def seqOf : View → M (Bool × List D)
  | .dat d => fun g => match seqD d with
    | some p => .ok (p, g)
    | none => .no
  | .own i => fun g => match g.es[i]? with
    | some (.ol ds) => .ok ((false, ds), g)
    | _ => .no
section
variable {K : PySem.W.Frag} {b : Nat} {F H : Hp} {own : Addr → Option Nat} {g g' : Sg} {σ : St} {v : V} {w : View} {d : D}
theorem slot_lt (k : Ok K b F own g σ H) {i : Nat} (h : σ[i]? = some (some v)) : i < g.es.length := by
  rw [k.len]
  exact (List.getElem?_eq_some_iff.mp h).1
theorem frz_ok (k : Ok K b F own g σ H) (h : Vw K F σ v w) (e : frz b w g = .ok (d, g')) : ∃ F' own', Ok K b F' own' g' σ H ∧ Fr F own H F' own' H ∧ Dq K F' v d := by
  cases w with
  | dat d0 =>
    have e : (R.ok (d0, g) : R (D × Sg)) = .ok (d, g') := e
    cases e
    exact ⟨F, own, k, Fr.refl, h⟩
  | own i =>
    have e : (if i = b then R.no else match g.es[i]? with
      | some (.ol ds) => .ok (.list ds, { g with es := g.es.set i (.im (.list ds)) })
      | some (.oo dss) => .ok (.list (dss.map .list), { g with es := g.es.set i (.im (.list (dss.map .list))) })
      | _ => .no) = .ok (d, g') := e
    have h : σ[i]? = some (some v) := h
    by_cases hb : i = b
    · rw [if_pos hb] at e
      cases e
    rw [if_neg hb] at e
    cases hg : g.es[i]? with
    | none =>
      rw [hg] at e
      cases e
    | some en =>
      rw [hg] at e
      cases en with
      | un => cases e
      | im d0 => cases e
      | ol ds =>
        cases e
        obtain ⟨a, vs, h1, h2, h3, h4⟩ := k.sl i _ _ hg h
        cases h1
        have hd : Dq K (fzF F H own i) (.ref a) (.list ds) := by
          refine .lst ?_ (dpAll_mono (fun c o hc => ?_) h4) <;> first
            | (unfold fzF; rw [if_pos h2]; exact h3)
            | (unfold fzF; rw [if_neg fun z => by rw [k.apart c i z] at hc; cases hc]; exact hc)
        obtain ⟨k', f'⟩ := k.freeze i hb (e := .im (.list ds)) fun v' hv' => by
          rw [h] at hv'
          cases hv'
          exact ⟨_, rfl, hd⟩
        exact ⟨_, _, k', f', hd⟩
      | oo dss =>
        cases e
        obtain ⟨a, ps, h1, h2, h3, h4, h5, h6⟩ := k.sl i _ _ hg h
        cases h1
        have lf : Le F (fzF F H own i) := fun c o hc => by
          unfold fzF
          rw [if_neg fun z => by rw [k.apart c i z] at hc; cases hc]
          exact hc
        have rows : ∀ {ps : List Addr} {dss : List (List D)}, Rows K F H ps dss → (∀ p ∈ ps, own p = some i) → DqAll K (fzF F H own i) (ps.map V.ref) (dss.map .list) := by
          intro ps dss r
          induction r with
          | nil => intro _; exact .nil
          | @cons p ds ps' dss' q t ih =>
            intro hp
            obtain ⟨vs, q1, q2⟩ := q
            exact .cons (.lst (by unfold fzF; rw [if_pos (hp _ List.mem_cons_self)]; exact q1) (dpAll_mono lf q2)) (ih fun p hp' => hp p (List.mem_cons_of_mem _ hp'))
        have hd : Dq K (fzF F H own i) (.ref a) (.list (dss.map .list)) := .lst (by unfold fzF; rw [if_pos h2]; exact h3) (rows h6 h5)
        obtain ⟨k', f'⟩ := k.freeze i hb (e := .im (.list (dss.map .list))) fun v' hv' => by
          rw [h] at hv'
          cases hv'
          exact ⟨_, rfl, hd⟩
        exact ⟨_, _, k', f', hd⟩
theorem frz_no_er {c : Str} {x : D} : frz b w g ≠ .er c x := by
  intro e
  cases w with
  | dat d0 => cases e
  | own i =>
    have e : (if i = b then R.no else match g.es[i]? with
      | some (.ol ds) => .ok ((PyData.list ds : D), { g with es := g.es.set i (.im (.list ds)) })
      | some (.oo dss) => .ok ((PyData.list (dss.map .list) : D), { g with es := g.es.set i (.im (.list (dss.map .list))) })
      | _ => .no) = .er c x := e
    by_cases hb : i = b
    · rw [if_pos hb] at e
      cases e
    rw [if_neg hb] at e
    cases hg : g.es[i]? with
    | none =>
      rw [hg] at e
      cases e
    | some en =>
      rw [hg] at e
      cases en <;> cases e
def SqA (K : PySem.W.Frag) (H : Hp) (a : Addr) (vs : List V) (tup : Bool) : Prop := if tup = true then SqT K H a vs else SqL K H a vs
theorem seqD_ok {F : Hp} {v : V} {d : D} {q : Bool} {ds : List D} (h : Dq K F v d) (e : seqD d = some (q, ds)) : ∃ a vs, v = .ref a ∧ SqA K F a vs q ∧ DqAll K F vs ds := by
  cases h with
  | lst h1 h2 =>
    cases e
    exact ⟨_, _, rfl, SqL.of h1, h2⟩
  | tup h1 h2 =>
    cases e
    exact ⟨_, _, rfl, h1, h2⟩
  | scr h1 h2 =>
    cases e
    exact ⟨_, _, rfl, h1, h2⟩
  | non => cases e
  | bl _ => cases e
  | int _ => cases e
  | str _ => cases e
  | rng _ => cases e
theorem SqA.mono {H H' : Hp} {a : Addr} {vs : List V} {q : Bool} (h : SqA K H a vs q) (e : Le H H') : SqA K H' a vs q := by
  unfold SqA at h ⊢
  cases q with
  | true => exact e.sqT h
  | false => exact e.sqL h
theorem seqOf_ok (k : Ok K b F own g σ H) (h : Vw K F σ v w) {q : Bool} {ds : List D} (e : seqOf w g = .ok ((q, ds), g')) : g' = g ∧ ∃ a vs, v = .ref a ∧ SqA K H a vs q ∧ DqAll K F vs ds := by
  cases w with
  | dat d0 =>
    have e : (match seqD d0 with
      | some p => R.ok (p, g)
      | none => .no) = .ok ((q, ds), g') := e
    cases z : seqD d0 with
    | none =>
      rw [z] at e
      cases e
    | some p =>
      rw [z] at e
      cases e
      obtain ⟨a, vs, h1, h2, h3⟩ := seqD_ok h z
      exact ⟨rfl, a, vs, h1, h2.mono k.le, h3⟩
  | own i =>
    have e : (match g.es[i]? with
      | some (.ol ds) => R.ok ((false, ds), g)
      | _ => .no) = .ok ((q, ds), g') := e
    have h : σ[i]? = some (some v) := h
    cases hg : g.es[i]? with
    | none =>
      rw [hg] at e
      cases e
    | some en =>
      rw [hg] at e
      cases en with
      | un => cases e
      | im d0 => cases e
      | ol xs =>
        cases e
        obtain ⟨a, vs, h1, h2, h3, h4⟩ := k.sl i _ _ hg h
        cases h1
        exact ⟨rfl, a, vs, rfl, SqL.of h3, h4⟩
      | oo dss => cases e
theorem seqOf_no_er {c : Str} {x : D} : seqOf w g ≠ .er c x := by
  intro e
  cases w with
  | dat d0 =>
    have e : (match seqD d0 with
      | some p => R.ok (p, g)
      | none => .no) = .er c x := e
    cases z : seqD d0 with
    | none =>
      rw [z] at e
      cases e
    | some p =>
      rw [z] at e
      cases e
  | own i =>
    unfold seqOf at e
    cases hg : g.es[i]? with
    | none => simp [hg] at e
    | some en => cases en <;> simp [hg] at e
end

/-! ### the readings -/
def tV (C : Cc) (f : M View) : TE := fun σ H Q => ∃ F own g, Ok C.K C.b F own g σ H ∧ After C σ F own H (f g) fun w F' _ _ H' => ∀ v, Vw C.K F' σ v w → Q v H'
def tD (C : Cc) (f : M D) : TE := fun σ H Q => ∃ F own g, Ok C.K C.b F own g σ H ∧ After C σ F own H (f g) fun d F' _ _ H' => ∀ v, Dq C.K F' v d → Q v H'
/-- a new list, not yet frozen -/
def tN (C : Cc) (f : M (List D)) : TE := fun σ H Q => ∃ F own g, Ok C.K C.b F own g σ H ∧ After C σ F own H (f g) fun ds F' own' _ H' => ∀ p vs, H p = none → H' p = some (.lst vs) → F' p = none → own' p = none → DqAll C.K F' vs ds → Q (.ref p) H'
def tB (C : Cc) (f : M Bool) : TT := fun σ H Q => ∃ F own g, Ok C.K C.b F own g σ H ∧ After C σ F own H (f g) fun c _ _ _ H' => Q c H'
/-- arguments: views -/
def VwAll (K : PySem.W.Frag) (F : Hp) (σ : St) : List V → List View → Prop := Paired fun v w => Vw K F σ v w
theorem VwAll.mono {K : PySem.W.Frag} {F F' : Hp} {σ : St} {vs : List V} {ws : List View} (h : VwAll K F σ vs ws) (e : Le F F') : VwAll K F' σ vs ws := Paired.mapP h fun _ _ q => q.mono e
def tAs (C : Cc) (f : M (List View)) : TA := fun σ H Q => ∃ F own g, Ok C.K C.b F own g σ H ∧ After C σ F own H (f g) fun ws F' _ _ H' => ∀ vs, VwAll C.K F' σ vs ws → Q vs H'

section
variable {X : Cx} {C : Cc} {e : Expr}
theorem PE.imp {t t' : TE} (h : PE X e t) (w : ∀ σ H Q, t' σ H Q → t σ H Q) : PE X e t' := ⟨fun pins s σ H Q I q => h.run pins s σ H Q I (w σ H Q q)⟩
theorem PT.imp {t t' : TT} (h : PT X e t) (w : ∀ σ H Q, t' σ H Q → t σ H Q) : PT X e t' := ⟨fun pins s σ H Q I q => h.run pins s σ H Q I (w σ H Q q)⟩
theorem PA.imp {es : List Expr} {t t' : TA} (h : PA X es t) (w : ∀ σ H Q, t' σ H Q → t σ H Q) : PA X es t' := ⟨fun pos pins s σ H Q I q => h.run pos pins s σ H Q I (w σ H Q q)⟩
theorem PS.imp {st : Stmt} {t t' : TS} (h : PS X st t) (w : ∀ D σ H, t' D σ H → t D σ H) : PS X st t' := ⟨fun pins s σ H D I q => h.run pins s σ H D I (w D σ H q)⟩
theorem PSs.imp {st : List Stmt} {t t' : TS} (h : PSs X st t) (w : ∀ D σ H, t' D σ H → t D σ H) : PSs X st t' := ⟨fun pins s σ H D I q => h.run pins s σ H D I (w D σ H q)⟩

/-- the end of a row of readings: one step that no error leaves, at the state as it stands -/
theorem After.at_end {α β : Type} {σ : St} {F H : Hp} {own : Addr → Option Nat} {m : α → M β} {a : α} {g : Sg} {P : β → Hp → (Addr → Option Nat) → Sg → Hp → Prop} (q : After C σ F own H (m a g) P) (ne : ∀ c d, m a g ≠ .er c d) :
    ∃ z g', m a g = .ok (z, g') ∧ ∀ F' own' H', Ok C.K C.b F' own' g' σ H' → Fr F own H F' own' H' → P z F' own' g' H' := by
  cases e : m a g with
  | ok p =>
    rw [e] at q
    exact ⟨p.1, p.2, rfl, q⟩
  | er c d => exact absurd e (ne c d)
  | no =>
    rw [e] at q
    exact q.elim
/-- data from a view: given away -/
theorem vd {f : M View} (h : PE X e (tV C f)) : PE X e (tD C (f.bind (frz C.b))) := by
  refine PE.imp h fun σ H Q ⟨F, own, g, k, q⟩ => ⟨F, own, g, k, (After.fst q).imp fun w F1 own1 g1 H1 e1 k1 f1 q1 v hv => ?_⟩
  obtain ⟨d, g2, e2, q2⟩ := After.at_end (m := frz C.b) q1 fun _ _ => frz_no_er
  obtain ⟨F', own', k', f', hd⟩ := frz_ok k1 hv e2
  exact q2 F' own' H1 k' f' v hd
/-- a view of data -/
theorem dv {f : M D} (h : PE X e (tD C f)) : PE X e (tV C (f.bind fun d => M.pur (.dat d))) :=
  PE.imp h fun σ H Q ⟨F, own, g, k, q⟩ => ⟨F, own, g, k, (After.fst q).imp fun d F1 own1 g1 H1 e1 k1 f1 q1 v hv => q1 F1 own1 H1 k1 Fr.refl v hv⟩
/-- a new list, frozen at once -/
theorem Ok.thaw {K : PySem.W.Frag} {b : Nat} {F H : Hp} {own : Addr → Option Nat} {g : Sg} {σ : St} {p : Addr} {o : HO} (k : Ok K b F own g σ H) (hH : H p = some o) (hF : F p = none) (ho : own p = none) : Ok K b (upd F p o) own g σ H where
  len := k.len
  le := k.le.up hH hF
  apart := fun a i h => by
    rw [upd_ne fun z => by rw [z, ho] at h; cases h]
    exact k.apart a i h
  there := k.there
  sl := fun i en v h1 h2 => (k.sl i en v h1 h2).mono (Le.new hF) fun a ha => ⟨ha, fun u hu => hu⟩
  bx := fun ds h => by
    obtain ⟨h0, a, vs, h1, h2, h3, h4⟩ := k.bx ds h
    exact ⟨h0, a, vs, h1, h2, h3, dpAll_mono (Le.new hF) h4⟩
  tb := fun P h => ⟨(k.tb P h).1, (k.tb P h).2.mono (Le.new hF) fun u hu => hu⟩
theorem Fr.thaw {F F' H H' : Hp} {own own' : Addr → Option Nat} {p : Addr} {o : HO} (f : Fr F own H F' own' H') (hF : F' p = none) (hn : H p = none) : Fr F own H (upd F' p o) own' H' :=
  ⟨f.fl.trans (Le.new hF), f.keep, f.dom, fun a h => by
    by_cases z : a = p
    · subst z
      exact .inr (.inl hn)
    · rw [upd_ne z] at h
      exact f.frz a h, f.hold⟩
theorem After.map {α β : Type} {σ : St} {F H : Hp} {own : Addr → Option Nat} {m : M α} {φ : α → β} {g : Sg} {P : β → Hp → (Addr → Option Nat) → Sg → Hp → Prop} (h : After C σ F own H ((m.bind fun a => M.pur (φ a)) g) P) :
    After C σ F own H (m g) fun a _ _ g1 _ => ∀ F' own' H', Ok C.K C.b F' own' g1 σ H' → Fr F own H F' own' H' → P (φ a) F' own' g1 H' := by
  unfold M.bind R.bind at h
  cases e : m g with
  | ok q =>
    rw [e] at h
    exact fun _ _ _ _ _ => h
  | er c d =>
    rw [e] at h
    exact h
  | no =>
    rw [e] at h
    exact h
theorem nd {f : M (List D)} (h : PE X e (tN C f)) : PE X e (tD C (f.bind fun ds => M.pur (.list ds))) :=
  PE.imp h fun σ H Q ⟨F, own, g, k, q⟩ => ⟨F, own, g, k, (After.map q).imp fun ds F1 own1 g1 H1 e1 k1 f1 q1 p vs hn hp hF ho hd =>
    q1 (upd F1 p (.lst vs)) own1 H1 (k1.thaw hp hF ho) (f1.thaw hF hn) _ (.lst upd_same (dpAll_mono (Le.new hF) hd))⟩
end
end DL
set_option maxRecDepth 100000
set_option maxHeartbeats 4000000
/-! DL2: operators, subscripts, calls of built-ins, displays, tests by data. -/
namespace DL
open PySem L2

/-- data as it stands (nothing is given away) -/
def lookD : View → M D
  | .dat d => M.pur d
  | .own i => fun g => match g.es[i]? with
    | some (.ol ds) => .ok (.list ds, g)
    | _ => .no
section
variable {K : PySem.W.Frag} {b : Nat} {F H : Hp} {own : Addr → Option Nat} {g g' : Sg} {σ : St} {v : V} {w : View} {d : D}
theorem lookD_ok (k : Ok K b F own g σ H) (h : Vw K F σ v w) (e : lookD w g = .ok (d, g')) : g' = g ∧ Dq K H v d := by
  cases w with
  | dat d0 =>
    cases e
    exact ⟨rfl, dp_mono k.le h⟩
  | own i =>
    have e : (match g.es[i]? with
      | some (.ol ds) => R.ok ((PyData.list ds : D), g)
      | _ => .no) = .ok (d, g') := e
    have h : σ[i]? = some (some v) := h
    cases hg : g.es[i]? with
    | none =>
      rw [hg] at e
      cases e
    | some en =>
      rw [hg] at e
      cases en with
      | un => cases e
      | im d0 => cases e
      | ol xs =>
        cases e
        obtain ⟨a, vs, h1, h2, h3, h4⟩ := k.sl i _ _ hg h
        cases h1
        exact ⟨rfl, .lst h3 (dpAll_mono k.le h4)⟩
      | oo dss => cases e
theorem lookD_ne {c : Str} {x : D} : lookD w g ≠ .er c x := by
  intro e
  cases w with
  | dat d0 => cases e
  | own i =>
    unfold lookD at e
    cases hg : g.es[i]? with
    | none => simp [hg] at e
    | some en => cases en <;> simp [hg] at e
end

/-! ### operations on views -/
abbrev AftD (C : Cc) (σ : St) (F : Hp) (own : Addr → Option Nat) (H : Hp) (r : R (D × Sg)) (Q : VK) : Prop := After C σ F own H r fun d F' _ _ H' => ∀ v, Dq C.K F' v d → Q v H'
abbrev AftN (C : Cc) (σ : St) (F : Hp) (own : Addr → Option Nat) (H : Hp) (r : R (List D × Sg)) (Q : VK) : Prop := After C σ F own H r fun ds F' own' _ H' => ∀ p vs, H p = none → H' p = some (.lst vs) → F' p = none → own' p = none → DqAll C.K F' vs ds → Q (.ref p) H'
def OpV (C : Cc) (r : R2) (h : View → View → M D) : Prop := ∀ {σ F own g H x y wx wy Q}, Ok C.K C.b F own g σ H → Vw C.K F σ x wx → Vw C.K F σ y wy → AftD C σ F own H (h wx wy g) Q → r x y H Q
def OpN (C : Cc) (r : R2) (h : View → View → M (List D)) : Prop := ∀ {σ F own g H x y wx wy Q}, Ok C.K C.b F own g σ H → Vw C.K F σ x wx → Vw C.K F σ y wy → AftN C σ F own H (h wx wy g) Q → r x y H Q
def UnV (C : Cc) (r : V → Hp → VK → Prop) (h : View → M D) : Prop := ∀ {σ F own g H x wx Q}, Ok C.K C.b F own g σ H → Vw C.K F σ x wx → AftD C σ F own H (h wx g) Q → r x H Q
def CaV (C : Cc) (r : List V → Hp → VK → Prop) (h : List View → M D) : Prop := ∀ {σ F own g H xs ws Q}, Ok C.K C.b F own g σ H → VwAll C.K F σ xs ws → AftD C σ F own H (h ws g) Q → r xs H Q
def CaN (C : Cc) (r : List V → Hp → VK → Prop) (h : List View → M (List D)) : Prop := ∀ {σ F own g H xs ws Q}, Ok C.K C.b F own g σ H → VwAll C.K F σ xs ws → AftN C σ F own H (h ws g) Q → r xs H Q
section
variable {X : Cx} {C : Cc} {a e : Expr} {b' : Expr} {f f2 f3 : M View} {r : R2} {h : View → View → M D} {hn : View → View → M (List D)} {pos : Pos} {es : List Expr}
theorem AftN.back {σ : St} {F F1 H H1 : Hp} {own own1 : Addr → Option Nat} {r : R (List D × Sg)} {Q : VK}
    (q : After C σ F1 own1 H1 r fun ds F' own' _ H' => ∀ p vs, H p = none → H' p = some (.lst vs) → F' p = none → own' p = none → DqAll C.K F' vs ds → Q (.ref p) H') (f : Fr F own H F1 own1 H1) : AftN C σ F1 own1 H1 r Q :=
  q.imp fun ds F' own' g' H' _ _ _ z p vs hp => z p vs (f.dom p hp)
theorem red2 (hr : OpV C r h) (σ : St) (H : Hp) (Q : VK) : tD C (f.bind fun x => f2.bind fun y => h x y) σ H Q → tOp r (tV C f) (tV C f2) σ H Q := fun ⟨F, own, g, k, q⟩ =>
  ⟨F, own, g, k, (After.fst q).imp fun wx F1 own1 g1 H1 _ k1 f1 q1 x hx => ⟨F1, own1, g1, k1, (After.fst q1).imp fun wy F2 own2 g2 H2 _ k2 f2 q2 y hy => hr k2 (hx.mono f2.fl) hy q2⟩⟩
theorem red2N (hr : OpN C r hn) (σ : St) (H : Hp) (Q : VK) : tN C (f.bind fun x => f2.bind fun y => hn x y) σ H Q → tOp r (tV C f) (tV C f2) σ H Q := fun ⟨F, own, g, k, q⟩ =>
  ⟨F, own, g, k, (After.fst q).imp fun wx F1 own1 g1 H1 _ k1 f1 q1 x hx => ⟨F1, own1, g1, k1, (After.fst q1).imp fun wy F2 own2 g2 H2 _ k2 f2 q2 y hy => hr k2 (hx.mono f2.fl) hy (AftN.back q2 (f1.trans f2))⟩⟩
theorem xBin {op : Operator} (ho : OpR X (binaryOp op) r) (hr : OpV C r h) (ha : PE X a (tV C f)) (hb : PE X b' (tV C f2)) : PE X (.BinOp a op b' pos) (tD C (f.bind fun x => f2.bind fun y => h x y)) := PE.imp (pe_op ho ha hb) (red2 hr)
theorem xBinN {op : Operator} (ho : OpR X (binaryOp op) r) (hr : OpN C r hn) (ha : PE X a (tV C f)) (hb : PE X b' (tV C f2)) : PE X (.BinOp a op b' pos) (tN C (f.bind fun x => f2.bind fun y => hn x y)) := PE.imp (pe_op ho ha hb) (red2N hr)
theorem xCmp {op : CmpOp} (ho : OpR X (compareOp op) r) (hr : OpV C r h) (ha : PE X a (tV C f)) (hb : PE X b' (tV C f2)) (hm : behindInMarks op b' = false) : PE X (.Compare a [op] [b'] pos) (tD C (f.bind fun x => f2.bind fun y => h x y)) := PE.imp (pe_cmpR ho ha hb hm) (red2 hr)
/-- a bool from data -/
def toB : D → M Bool
  | .bool c => M.pur c
  | _ => M.no
theorem toB_ok {g : Sg} {d : D} {c : Bool} {g' : Sg} (e : toB d g = .ok (c, g')) : d = .bool c ∧ g' = g := by
  cases d <;> cases e
  exact ⟨rfl, rfl⟩
theorem toB_ne {g : Sg} {d : D} {c : Str} {x : D} : toB d g ≠ .er c x := by
  intro e
  cases d <;> cases e
theorem testD {fd : M D} (σ : St) (H : Hp) (Q : Bool → Hp → Prop) : tB C (fd.bind toB) σ H Q → tD C fd σ H fun x H' => ∃ c, x = .bl c ∧ Q c H' := fun ⟨F, own, g, k, q⟩ =>
  ⟨F, own, g, k, (After.fst q).imp fun d F1 own1 g1 H1 _ k1 f1 q1 v hv => by
    obtain ⟨c, g2, e2, q2⟩ := After.at_end (m := toB) q1 fun _ _ => toB_ne
    obtain ⟨e3, e4⟩ := toB_ok e2
    subst e3 e4
    exact ⟨c, dp_bool hv, q2 F1 own1 H1 k1 Fr.refl⟩⟩
theorem xCmpT {op : CmpOp} (ho : OpR X (compareOp op) r) (hr : OpV C r h) (ha : PE X a (tV C f)) (hb : PE X b' (tV C f2)) (hm : behindInMarks op b' = false) : PT X (.Compare a [op] [b'] pos) (tB C ((f.bind fun x => f2.bind fun y => h x y).bind toB)) :=
  PT.imp (pt_cmpR ho ha hb hm) fun σ H Q q => red2 hr σ H _ (testD σ H Q q)
theorem xTestB {fd : M D} (he : PE X e (tD C fd)) (hw : ∀ whole, isTrue e X.env whole = (do let v ← whole; standAt e.pos; holding [v] (truthy v)) := by intro _; rfl) : PT X e (tB C (fd.bind toB)) := PT.imp (pt_val he hw) fun σ H Q q => testD σ H Q q
/-- truth of data -/
def truD : D → Option Bool
  | .none => some false
  | .bool c => some c
  | .int i => some (i != 0)
  | .str z => if z.length ≤ sizeLine then some (z.length != 0) else none
  | .list ds => some (!ds.isEmpty)
  | .tuple ds => some (!ds.isEmpty)
  | _ => none
def truV (w : View) : M Bool := (lookD w).bind fun d => match truD d with
  | some c => M.pur c
  | none => M.no
theorem isEmpty_len {α β : Type} {xs : List α} {ys : List β} (h : xs.length = ys.length) : xs.isEmpty = ys.isEmpty := by
  cases xs <;> cases ys <;> simp_all
theorem truD_ok {H : Hp} {K : PySem.W.Frag} {v : V} {d : D} {c : Bool} (h : Dq K H v d) (e : truD d = some c) : TruV K v H c := by
  cases h with
  | non =>
    cases e
    rfl
  | bl _ =>
    cases e
    rfl
  | int _ =>
    cases e
    rfl
  | str z =>
    have e : (if z.length ≤ sizeLine then some (z.length != 0) else none) = some c := e
    by_cases hz : z.length ≤ sizeLine
    · rw [if_pos hz] at e
      cases e
      refine ⟨hz, ?_⟩
      rw [bne, bne, Bool.eq_iff_iff]
      simp
    · rw [if_neg hz] at e
      cases e
  | lst h1 h2 =>
    cases e
    exact .inl ⟨_, SqL.of h1, by rw [isEmpty_len (dpAll_len h2)]⟩
  | tup h1 h2 =>
    cases e
    exact .inr (.inl ⟨_, h1, by rw [isEmpty_len (dpAll_len h2)]⟩)
  | scr h1 h2 => cases e
  | rng h1 => cases e
theorem xTru (hK : C.K = X.K) (he : PE X e (tV C f)) (hw : ∀ whole, isTrue e X.env whole = (do let v ← whole; standAt e.pos; holding [v] (truthy v)) := by intro _; rfl) : PT X e (tB C (f.bind truV)) :=
  PT.imp (pt_truth he hw) fun σ H Q ⟨F, own, g, k, q⟩ => ⟨F, own, g, k, (After.fst q).imp fun w F1 own1 g1 H1 _ k1 f1 q1 v hv => by
    obtain ⟨d, g2, e2, q2⟩ := After.at_end (m := lookD) (After.fst q1) fun _ _ => lookD_ne
    obtain ⟨rfl, hd⟩ := lookD_ok k1 hv e2
    have q3 := q2 F1 own1 H1 k1 Fr.refl
    cases z : truD d with
    | none =>
      simp only [z] at q3
      exact q3.elim
    | some c =>
      simp only [z] at q3
      exact ⟨c, hK ▸ truD_ok hd z, q3 F1 own1 H1 k1 Fr.refl⟩⟩

/-! ### and, or, not, if as an expression -/
variable {t t2 : M Bool} {rest : List Expr}
theorem xAnd1 (ha : PT X a (tB C t)) : PW X (.BoolOp .And [a] pos) (tB C t) := pw_and1 ha
theorem xOr1 (ha : PT X a (tB C t)) : PW X (.BoolOp .Or [a] pos) (tB C t) := pw_or1 ha
theorem PW.imp {u u' : TT} (h : PW X e u) (w : ∀ σ H Q, u' σ H Q → u σ H Q) : PW X e u' := ⟨fun wh pins s σ H Q I q => h.run wh pins s σ H Q I (w σ H Q q)⟩
theorem xAnd (ha : PT X a (tB C t)) (hb : PW X (.BoolOp .And (b' :: rest) pos) (tB C t2)) : PW X (.BoolOp .And (a :: b' :: rest) pos) (tB C (t.bind fun c => if c = true then t2 else M.pur false)) :=
  PW.imp (pw_and ha hb) fun σ H Q ⟨F, own, g, k, q⟩ => ⟨F, own, g, k, (After.fst q).imp fun c F1 own1 g1 H1 _ k1 f1 q1 => by
    cases c with
    | true => exact ⟨F1, own1, g1, k1, q1⟩
    | false => exact q1 F1 own1 H1 k1 Fr.refl⟩
theorem xOr (ha : PT X a (tB C t)) (hb : PW X (.BoolOp .Or (b' :: rest) pos) (tB C t2)) : PW X (.BoolOp .Or (a :: b' :: rest) pos) (tB C (t.bind fun c => if c = true then M.pur true else t2)) :=
  PW.imp (pw_or ha hb) fun σ H Q ⟨F, own, g, k, q⟩ => ⟨F, own, g, k, (After.fst q).imp fun c F1 own1 g1 H1 _ k1 f1 q1 => by
    cases c with
    | true => exact q1 F1 own1 H1 k1 Fr.refl
    | false => exact ⟨F1, own1, g1, k1, q1⟩⟩
theorem xNot (ha : PT X a (tB C t)) : PT X (.UnaryOp .Not a pos) (tB C (t.bind fun c => M.pur (!c))) :=
  PT.imp (pt_not ha) fun σ H Q ⟨F, own, g, k, q⟩ => ⟨F, own, g, k, (After.fst q).imp fun c F1 own1 g1 H1 _ k1 f1 q1 => q1 F1 own1 H1 k1 Fr.refl⟩
theorem xIf {fa fb : M D} {c : Expr} (hc : PT X c (tB C t)) (ha : PE X a (tD C fa)) (hb : PE X b' (tD C fb)) : PE X (.IfExp c a b' pos) (tD C (t.bind fun c => if c = true then fa else fb)) :=
  PE.imp (pe_ifExp hc ha hb) fun σ H Q ⟨F, own, g, k, q⟩ => ⟨F, own, g, k, (After.fst q).imp fun c F1 own1 g1 H1 _ k1 f1 q1 => by
    cases c with
    | true => exact ⟨F1, own1, g1, k1, q1⟩
    | false => exact ⟨F1, own1, g1, k1, q1⟩⟩
/-- and, or as values: all are bools -/
theorem xAndV {fa fb : M D} (ha : PE X a (tD C fa)) (hb : PE X (.BoolOp .And (b' :: rest) pos) (tD C fb)) (hp : PE X (.BoolOp .And (a :: b' :: rest) pos) (tAndV (tD C fa) (tD C fb))) :
    PE X (.BoolOp .And (a :: b' :: rest) pos) (tD C ((fa.bind toB).bind fun c => if c = true then fb else M.pur (.bool false))) :=
  PE.imp hp fun σ H Q ⟨F, own, g, k, q⟩ => ⟨F, own, g, k, (After.fst (After.fst q)).imp fun d F1 own1 g1 H1 _ k1 f1 q1 v hv => by
    obtain ⟨c, g2, e2, q2⟩ := After.at_end (m := toB) q1 fun _ _ => toB_ne
    obtain ⟨e3, e4⟩ := toB_ok e2
    subst e3 e4
    refine ⟨c, dp_bool hv, ?_⟩
    have q3 := q2 F1 own1 H1 k1 Fr.refl
    cases c with
    | true => exact ⟨F1, own1, g2, k1, q3⟩
    | false => exact q3 F1 own1 H1 k1 Fr.refl _ (.bl false)⟩

/-! ### names and constants -/
theorem pur_done {α : Type} {σ : St} {F H : Hp} {own : Addr → Option Nat} {g : Sg} {a : α} {P : α → Hp → (Addr → Option Nat) → Sg → Hp → Prop} (k : Ok C.K C.b F own g σ H) (q : After C σ F own H (M.pur a g) P) : P a F own g H := q F own H k Fr.refl
theorem xC {d : D} {v : V} (he : PE X e (tC v)) (hd : ∀ F, Dq C.K F v d) : PE X e (tD C (M.pur d)) := PE.imp he fun σ H Q ⟨F, own, g, k, q⟩ => pur_done k q v (hd F)
theorem xInt {i : Int} {j} : PE X (.Constant (.int i) j pos) (tD C (M.pur (.int i))) := xC pe_int fun _ => .int i
theorem xBl {i : Bool} {j} : PE X (.Constant (.bool i) j pos) (tD C (M.pur (.bool i))) := xC pe_bl fun _ => .bl i
theorem xStr {i : Str} {j} : PE X (.Constant (.str i) j pos) (tD C (M.pur (.str i))) := xC pe_str fun _ => .str i
theorem xNon {j} : PE X (.Constant .none j pos) (tD C (M.pur .none)) := xC pe_non fun _ => .non
/-- a name: what its slot holds -/
def nam (i : Nat) : M View := fun g => match g.es[i]? with
  | some (.im d) => .ok (.dat d, g)
  | some (.ol _) => .ok (.own i, g)
  | some (.oo _) => .ok (.own i, g)
  | _ => .no
theorem xNam {i : Nat} (he : PE X e (tVar i)) : PE X e (tV C (nam i)) := PE.imp he fun σ H Q ⟨F, own, g, k, q⟩ => by
  unfold nam at q
  cases hg : g.es[i]? with
  | none =>
    rw [hg] at q
    exact q.elim
  | some en =>
    have hi : i < σ.length := by
      rw [← k.len]
      exact (List.getElem?_eq_some_iff.mp hg).1
    have r := k.sl i en σ[i] hg (by simp [hi])
    have hs : σ[i]? = some σ[i] := by simp [hi]
    rw [hg] at q
    cases en with
    | un => exact q.elim
    | im d =>
      obtain ⟨v, h1, h2⟩ := r
      exact ⟨v, by rw [hs, h1], q F own H k Fr.refl v h2⟩
    | ol ds =>
      obtain ⟨a, vs, h1, _⟩ := r
      exact ⟨_, by rw [hs, h1], q F own H k Fr.refl _ (by show σ[i]? = _; rw [hs, h1])⟩
    | oo ds =>
      obtain ⟨a, ps, h1, _⟩ := r
      exact ⟨_, by rw [hs, h1], q F own H k Fr.refl _ (by show σ[i]? = _; rw [hs, h1])⟩

/-! ### argument lists, displays -/
theorem xNil : PA X [] (tAs C (M.pur [])) := PA.imp pa_nil fun σ H Q ⟨F, own, g, k, q⟩ => pur_done k q [] .nil
theorem xCons {fs : M (List View)} (ha : PE X a (tV C f)) (hr : PA X es (tAs C fs)) (hs : starEach (a :: es) X.env = (false, eval a X.env) :: starEach es X.env := by rfl) : PA X (a :: es) (tAs C (f.bind fun w => fs.bind fun ws => M.pur (w :: ws))) :=
  PA.imp (pa_cons ha hr hs) fun σ H Q ⟨F, own, g, k, q⟩ => ⟨F, own, g, k, (After.fst q).imp fun w F1 own1 g1 H1 _ k1 f1 q1 x hx => ⟨F1, own1, g1, k1, (After.fst q1).imp fun ws F2 own2 g2 H2 _ k2 f2 q2 vs hvs => pur_done k2 q2 _ (.cons (hx.mono f2.fl) hvs)⟩⟩
/-- all are given away -/
def frzs (b : Nat) : List View → M (List D)
  | [] => M.pur []
  | w :: ws => (frz b w).bind fun d => (frzs b ws).bind fun ds => M.pur (d :: ds)
theorem frzs_ok {σ : St} {H : Hp} {P : List D → Hp → (Addr → Option Nat) → Sg → Hp → Prop} : ∀ {ws : List View} {vs : List V} {F : Hp} {own : Addr → Option Nat} {g : Sg}, Ok C.K C.b F own g σ H → VwAll C.K F σ vs ws → After C σ F own H (frzs C.b ws g) P →
    ∃ F' own' g' ds, Ok C.K C.b F' own' g' σ H ∧ Fr F own H F' own' H ∧ DqAll C.K F' vs ds ∧ P ds F' own' g' H
  | [], _, F, own, g, k, .nil, q => ⟨F, own, g, [], k, Fr.refl, .nil, pur_done k q⟩
  | w :: ws, _, F, own, g, k, .cons h hs, q => by
    obtain ⟨d, g1, e1, q1⟩ := After.at_end (m := frz C.b) (After.fst q) fun _ _ => frz_no_er
    obtain ⟨F1, own1, k1, f1, hd⟩ := frz_ok k h e1
    obtain ⟨F2, own2, g2, ds, k2, f2, hds, q2⟩ := frzs_ok (ws := ws) k1 (VwAll.mono hs f1.fl) (After.fst (q1 F1 own1 H k1 f1))
    exact ⟨F2, own2, g2, d :: ds, k2, f1.trans f2, .cons (dp_mono f2.fl hd) hds, pur_done k2 q2⟩
/-- a new object at p, frozen at once -/
theorem new_frozen {σ : St} {F H : Hp} {own : Addr → Option Nat} {g : Sg} {p : Addr} {o : HO} (k : Ok C.K C.b F own g σ H) (h : H p = none) : Ok C.K C.b (upd F p o) own g σ (upd H p o) ∧ Fr F own H (upd F p o) own (upd H p o) := k.new h
def lenOk (n : Nat) : Bool := decide (n ≤ 16777216)
theorem lenOk_le {n : Nat} (h : lenOk n = true) : n ≤ sizeLine := by
  rw [sizeLine_eq]
  exact of_decide_eq_true h
def need {α : Type} (c : Bool) (m : M α) : M α := if c = true then m else M.no
theorem need_ok {α : Type} {c : Bool} {m : M α} {σ : St} {F H : Hp} {own : Addr → Option Nat} {g : Sg} {P : α → Hp → (Addr → Option Nat) → Sg → Hp → Prop} (q : After C σ F own H (need c m g) P) : c = true ∧ After C σ F own H (m g) P := by
  unfold need at q
  cases c with
  | true => exact ⟨rfl, q⟩
  | false => exact q.elim
def tupF (ws : List View) (b : Nat) : M D := need (lenOk ws.length) ((frzs b ws).bind fun ds => M.pur (.tuple ds))
def lstF (ws : List View) (b : Nat) : M (List D) := need (lenOk ws.length) (frzs b ws)
theorem vwAll_len {K : PySem.W.Frag} {F : Hp} {σ : St} : ∀ {vs : List V} {ws : List View}, VwAll K F σ vs ws → vs.length = ws.length
  | _, _, .nil => rfl
  | _, _, .cons _ t => congrArg (· + 1) (vwAll_len t)
theorem xTup {fs : M (List View)} {x1} (h : PA X es (tAs C fs)) : PE X (.Tuple es x1 pos) (tD C (fs.bind fun ws => tupF ws C.b)) :=
  PE.imp (pe_tup h) fun σ H Q ⟨F, own, g, k, q⟩ => ⟨F, own, g, k, (After.fst q).imp fun ws F1 own1 g1 H1 _ k1 f1 q1 vs hvs => by
    obtain ⟨hl, q2⟩ := need_ok q1
    obtain ⟨F2, own2, g2, ds, k2, f2, hds, q3⟩ := frzs_ok k1 hvs (After.fst q2)
    refine ⟨by rw [vwAll_len hvs]; exact lenOk_le hl, fun p hp => ?_⟩
    obtain ⟨k3, f3⟩ := k2.new (o := .tup vs) hp
    exact q3 _ _ _ k3 f3 _ (.tup (SqT.of upd_same) (dpAll_mono (Le.new (k2.le.free hp)) hds))⟩
theorem xLst {fs : M (List View)} (h : PA X es (tAs C fs)) : PE X (.List es pos) (tN C (fs.bind fun ws => lstF ws C.b)) :=
  PE.imp (pe_lst h) fun σ H Q ⟨F, own, g, k, q⟩ => ⟨F, own, g, k, (After.fst q).imp fun ws F1 own1 g1 H1 _ k1 f1 q1 vs hvs => by
    obtain ⟨hl, q2⟩ := need_ok q1
    refine ⟨by rw [vwAll_len hvs]; exact lenOk_le hl, fun p hp => ?_⟩
    have q3 : After C σ F1 own1 H1 (frzs C.b ws g1) fun ds F' own' g' H' => Ok C.K C.b F' own' g' σ H' → H' p = none → own' p = none → DqAll C.K F' vs ds → Q (.ref p) (upd H' p (.lst vs)) :=
      q2.imp fun ds F' own' g' H' e' k' f' z kk hn ho hd => by
        cases hz : frzs C.b ws g1 with
        | ok pr =>
          rw [hz] at q2
          obtain ⟨k4, f4⟩ := kk.side (o := .lst vs) hn
          have e5 : pr = (ds, g') := by rw [hz] at e'; cases e'; rfl
          subst e5
          exact q2 F' own' _ k4 (f'.trans f4) p vs (f1.dom p hp) upd_same (kk.le.free hn) ho hd
        | er _ _ => rw [hz] at e'; cases e'
        | no => rw [hz] at e'; cases e'
    obtain ⟨F2, own2, g2, ds, k2, f2, hds, q4⟩ := frzs_ok k1 hvs q3
    refine q4 k2 hp ?_ hds
    cases z : own2 p with
    | none => rfl
    | some i => exact absurd hp (k2.there p i z)⟩
end
end DL
set_option maxRecDepth 100000
set_option maxHeartbeats 4000000
/-! DL3: what the operators and built-ins do on views. -/
namespace DL
open PySem L2
section
variable {X : Cx} {C : Cc}
theorem or_v {r r' : R2} {h : View → View → M D} (a : ∀ {σ F own g H x y wx wy Q}, Ok C.K C.b F own g σ H → Vw C.K F σ x wx → Vw C.K F σ y wy → AftD C σ F own H (h wx wy g) Q → r x y H Q ∨ r' x y H Q) : OpV C (fun x y H Q => r x y H Q ∨ r' x y H Q) h := a

/-! ### + - * // % -/
def addV (x y : View) : M D := match x, y with
  | .dat (.int i), .dat (.int j) => M.pur (.int (i + j))
  | .dat (.tuple xs), .dat (.tuple ys) => need (lenOk (xs.length + ys.length)) (M.pur (.tuple (xs ++ ys)))
  | .dat (.str a), .dat (.str b) => need (lenOk (a.length + b.length)) (M.pur (.str (a ++ b)))
  | _, _ => M.no
def rAddA (K : PySem.W.Frag) : R2 := fun x y H Q => rI0 (fun i j => .int (i + j)) x y H Q ∨ rCatA K x y H Q ∨ (fun x y H Q => ∃ i j, x = .str i ∧ y = .str j ∧ i.length + j.length ≤ sizeLine ∧ Q (.str (i ++ j)) H : R2) x y H Q
theorem op_addA : OpR X (binaryOp .Add) (rAddA X.K) := op_add.or (op_catA.or op_add_str)
theorem addV_ok (hK : C.K = X.K) : OpV C (rAddA X.K) addV := by
  intro σ F own g H x y wx wy Q k hx hy q
  cases wx with
  | own i => exact q.elim
  | dat dx =>
  cases wy with
  | own i => cases dx <;> exact q.elim
  | dat dy =>
  cases hx with
  | int i =>
    cases hy with
    | int j => exact .inl ⟨i, j, rfl, rfl, q F own H k Fr.refl _ (.int _)⟩
    | _ => exact q.elim
  | str i =>
    cases hy with
    | str j =>
      obtain ⟨h1, h2⟩ := need_ok q
      exact .inr (.inr ⟨i, j, rfl, rfl, lenOk_le h1, h2 F own H k Fr.refl _ (.str _)⟩)
    | _ => exact q.elim
  | @tup a vs ds ha hd =>
    cases hy with
    | @tup b ws es hb he =>
      obtain ⟨h1, h2⟩ := need_ok q
      have l1 := dpAll_len hd
      have l2 := dpAll_len he
      refine .inr (.inl ⟨a, b, vs, ws, rfl, rfl, hK ▸ k.le.sqT ha, hK ▸ k.le.sqT hb, by rw [l1, l2]; exact lenOk_le h1, fun z => ?_, fun _ z => ?_, fun _ _ p hp => ?_⟩)
      · subst z
        cases hd
        exact h2 F own H k Fr.refl _ (.tup hb he)
      · subst z
        cases he
        have e : ds ++ [] = ds := List.append_nil ds
        exact h2 F own H k Fr.refl _ (by rw [e]; exact .tup ha hd)
      · obtain ⟨k3, f3⟩ := k.new (o := .tup (vs ++ ws)) hp
        exact h2 _ _ _ k3 f3 _ (.tup (SqT.of upd_same) (dpAll_mono f3.fl (dpAll_app hd he)))
    | _ => exact q.elim
  | _ => cases dy <;> exact q.elim
theorem xAdd {a b : Expr} {f f2 : M View} {pos : Pos} (hK : C.K = X.K) (ha : PE X a (tV C f)) (hb : PE X b (tV C f2)) : PE X (.BinOp a .Add b pos) (tD C (f.bind fun x => f2.bind fun y => addV x y)) := xBin op_addA (addV_ok hK) ha hb
/-- two ints -/
def int2 (c : Int → Int → Bool) (f : Int → Int → D) (x y : View) : M D := match x, y with
  | .dat (.int i), .dat (.int j) => need (c i j) (M.pur (f i j))
  | _, _ => M.no
theorem int2_ok {c : Int → Int → Bool} {f : Int → Int → D} {r : R2} (hr : ∀ i j H Q v, c i j = true → (∀ F, Dq C.K F v (f i j) → Q v H) → (∀ F, Dq C.K F v (f i j)) → r (.int i) (.int j) H Q)
    (v : Int → Int → V) (hv : ∀ i j F, Dq C.K F (v i j) (f i j)) : OpV C r (int2 c f) := by
  intro σ F own g H x y wx wy Q k hx hy q
  cases wx with
  | own i => exact q.elim
  | dat dx =>
  cases wy with
  | own i => cases dx <;> exact q.elim
  | dat dy =>
  cases hx with
  | int i =>
    cases hy with
    | int j =>
      obtain ⟨h1, h2⟩ := need_ok q
      exact hr i j H Q (v i j) h1 (fun F' hd => h2 F own H k Fr.refl _ (hv i j F)) (hv i j)
    | _ => exact q.elim
  | _ => cases dy <;> exact q.elim
theorem int2_I0 {g : Int → Int → Int} : OpV C (rI0 fun i j => .int (g i j)) (int2 (fun _ _ => true) fun i j => .int (g i j)) :=
  int2_ok (fun i j H Q v _ h hd => ⟨i, j, rfl, rfl, by have z := hd (fun _ => none); cases z; exact h (fun _ => none) (.int _)⟩) (fun i j => .int (g i j)) fun _ _ _ => .int _
theorem int2_I {p : Int → Int → Prop} {c : Int → Int → Bool} (hc : ∀ i j, c i j = true → p i j) {g : Int → Int → Int} : OpV C (rI p fun i j => .int (g i j)) (int2 c fun i j => .int (g i j)) :=
  int2_ok (fun i j H Q v e h hd => ⟨i, j, rfl, rfl, hc i j e, by have z := hd (fun _ => none); cases z; exact h (fun _ => none) (.int _)⟩) (fun i j => .int (g i j)) fun _ _ _ => .int _
theorem int2_B {g : Int → Int → Bool} : OpV C (rI0 fun i j => .bl (g i j)) (int2 (fun _ _ => true) fun i j => .bool (g i j)) :=
  int2_ok (fun i j H Q v _ h hd => ⟨i, j, rfl, rfl, by have z := hd (fun _ => none); cases z; exact h (fun _ => none) (.bl _)⟩) (fun i j => .bl (g i j)) fun _ _ _ => .bl _
abbrev subV : View → View → M D := int2 (fun _ _ => true) fun i j => .int (i - j)
def smallI (i : Int) : Bool := decide (-(2 ^ 64) < i) && decide (i < 2 ^ 64)
abbrev mulV : View → View → M D := int2 (fun i j => smallI i || smallI j) fun i j => .int (i * j)
abbrev modV : View → View → M D := int2 (fun _ j => decide (0 < j)) fun i j => .int (i % j)
abbrev fdivV : View → View → M D := int2 (fun _ j => decide (0 < j) && decide (j < 1073741824)) fun i j => .int (i / j)
abbrev powV : View → View → M D := int2 (fun i j => decide (0 ≤ j) && decide (j ≤ 1000000) && decide (i.natAbs < 2 ^ 64)) fun i j => .int (i ^ j.toNat)
variable {a b : Expr} {f f2 f3 : M View} {pos : Pos}
theorem xSub (ha : PE X a (tV C f)) (hb : PE X b (tV C f2)) : PE X (.BinOp a .Sub b pos) (tD C (f.bind fun x => f2.bind fun y => subV x y)) := xBin op_sub int2_I0 ha hb
theorem smallI_ok {i : Int} (h : smallI i = true) : -(2 ^ 64) < i ∧ i < 2 ^ 64 := by
  unfold smallI at h
  rw [Bool.and_eq_true] at h
  exact ⟨of_decide_eq_true h.1, of_decide_eq_true h.2⟩
theorem xMul (ha : PE X a (tV C f)) (hb : PE X b (tV C f2)) : PE X (.BinOp a .Mult b pos) (tD C (f.bind fun x => f2.bind fun y => mulV x y)) := xBin op_mul (int2_I fun i j h => by
  rw [Bool.or_eq_true] at h
  exact h.elim (fun z => .inl (smallI_ok z)) fun z => .inr (smallI_ok z)) ha hb
theorem xMod (ha : PE X a (tV C f)) (hb : PE X b (tV C f2)) : PE X (.BinOp a .Mod b pos) (tD C (f.bind fun x => f2.bind fun y => modV x y)) := xBin op_mod (int2_I fun _ _ h => of_decide_eq_true h) ha hb
theorem xFdiv (ha : PE X a (tV C f)) (hb : PE X b (tV C f2)) : PE X (.BinOp a .FloorDiv b pos) (tD C (f.bind fun x => f2.bind fun y => fdivV x y)) := xBin op_fdiv (int2_I fun _ _ h => by
  rw [Bool.and_eq_true] at h
  exact ⟨of_decide_eq_true h.1, of_decide_eq_true h.2⟩) ha hb
theorem xPow (ha : PE X a (tV C f)) (hb : PE X b (tV C f2)) : PE X (.BinOp a .Pow b pos) (tD C (f.bind fun x => f2.bind fun y => powV x y)) := xBin op_pow (int2_I fun _ _ h => by
  rw [Bool.and_eq_true, Bool.and_eq_true] at h
  exact ⟨of_decide_eq_true h.1.1, of_decide_eq_true h.1.2, of_decide_eq_true h.2⟩) ha hb
/-! ### comparisons -/
abbrev ltV : View → View → M D := int2 (fun _ _ => true) fun i j => .bool (decide (i < j))
abbrev leV : View → View → M D := int2 (fun _ _ => true) fun i j => .bool (decide (i ≤ j))
abbrev gtV : View → View → M D := int2 (fun _ _ => true) fun i j => .bool (decide (j < i))
abbrev geV : View → View → M D := int2 (fun _ _ => true) fun i j => .bool (decide (j ≤ i))
theorem ltV_ok : OpV C (rI0 fun i j => .bl (decide (i < j))) ltV := int2_B
theorem leV_ok : OpV C (rI0 fun i j => .bl (decide (i ≤ j))) leV := int2_B
theorem gtV_ok : OpV C (rI0 fun i j => .bl (decide (j < i))) gtV := int2_B
theorem geV_ok : OpV C (rI0 fun i j => .bl (decide (j ≤ i))) geV := int2_B
/-- ==, != of data -/
def eqW (n : Bool) (x y : View) : M D := (lookD x).bind fun d => (lookD y).bind fun e => need (SeqAt.shaped d && SeqAt.shaped e) (M.pur (.bool (if n = true then !PyData.eqv d e else PyData.eqv d e)))
abbrev eqV' : View → View → M D := eqW false
abbrev neV' : View → View → M D := eqW true
theorem shaped_lay {d : D} (h : SeqAt.shaped d = true) : d.canLay0 = true := by
  unfold SeqAt.shaped at h
  rw [Bool.and_eq_true] at h
  exact h.1
theorem eqW_of {n : Bool} {σ : St} {F H : Hp} {own : Addr → Option Nat} {g : Sg} {x y : V} {wx wy : View} {Q : VK} (k : Ok C.K C.b F own g σ H) (hx : Vw C.K F σ x wx) (hy : Vw C.K F σ y wy) (q : AftD C σ F own H (eqW n wx wy g) Q) :
    ∃ d e, Dp C.K H x d ∧ Dp C.K H y e ∧ SeqAt.shaped d = true ∧ SeqAt.shaped e = true ∧ Q (.bl (if n = true then !PyData.eqv d e else PyData.eqv d e)) H := by
  obtain ⟨d, g1, e1, q1⟩ := After.at_end (m := lookD) (After.fst q) fun _ _ => lookD_ne
  obtain ⟨rfl, hd⟩ := lookD_ok k hx e1
  obtain ⟨e, g2, e2, q2⟩ := After.at_end (m := lookD) (After.fst (q1 F own H k Fr.refl)) fun _ _ => lookD_ne
  obtain ⟨rfl, he⟩ := lookD_ok k hy e2
  obtain ⟨h1, h2⟩ := need_ok (q2 F own H k Fr.refl)
  rw [Bool.and_eq_true] at h1
  exact ⟨d, e, hd.dp (shaped_lay h1.1), he.dp (shaped_lay h1.2), h1.1, h1.2, h2 F own H k Fr.refl _ (.bl _)⟩
theorem eqV_ok (hK : C.K = X.K) : OpV C (rEqD X.K) eqV' := by
  intro σ F own g H x y wx wy Q k hx hy q
  obtain ⟨d, e, h1, h2, h3, h4, h5⟩ := eqW_of k hx hy q
  exact ⟨d, e, hK ▸ h1, hK ▸ h2, h3, h4, h5⟩
theorem neV_ok (hK : C.K = X.K) : OpV C (rNeD X.K) neV' := by
  intro σ F own g H x y wx wy Q k hx hy q
  obtain ⟨d, e, h1, h2, h3, h4, h5⟩ := eqW_of k hx hy q
  exact ⟨d, e, hK ▸ h1, hK ▸ h2, h3, h4, h5⟩
/-- is None -/
def isN (n : Bool) (x : View) : M D := (lookD x).bind fun d => M.pur (.bool (match d with
  | .none => !n
  | _ => n))
theorem isN_of {n : Bool} {σ : St} {F H : Hp} {own : Addr → Option Nat} {g : Sg} {x : V} {wx : View} {Q : VK} (k : Ok C.K C.b F own g σ H) (hx : Vw C.K F σ x wx) (q : AftD C σ F own H (isN n wx g) Q) : Q (.bl (if n = true then !decide (x = .non) else decide (x = .non))) H := by
  obtain ⟨d, g1, e1, q1⟩ := After.at_end (m := lookD) (After.fst q) fun _ _ => lookD_ne
  obtain ⟨rfl, hd⟩ := lookD_ok k hx e1
  have q2 := q1 F own H k Fr.refl F own H k Fr.refl
  cases hd <;> cases n <;> exact q2 _ (.bl _)
theorem isN_r : ∀ σ H Q, tD C (f.bind (isN false)) σ H Q → tOp (fun x y H Q => y = .non ∧ Q (.bl (decide (x = .non))) H) (tV C f) (tC .non) σ H Q := fun σ H Q ⟨F, own, g, k, q⟩ =>
  ⟨F, own, g, k, (After.fst q).imp fun w F1 own1 g1 H1 _ k1 f1 q1 v hv => ⟨rfl, isN_of k1 hv q1⟩⟩
theorem notN_r : ∀ σ H Q, tD C (f.bind (isN true)) σ H Q → tOp (fun x y H Q => y = .non ∧ Q (.bl (!decide (x = .non))) H) (tV C f) (tC .non) σ H Q := fun σ H Q ⟨F, own, g, k, q⟩ =>
  ⟨F, own, g, k, (After.fst q).imp fun w F1 own1 g1 H1 _ k1 f1 q1 v hv => ⟨rfl, isN_of k1 hv q1⟩⟩
theorem xIsNT {j p2} (ha : PE X a (tV C f)) : PT X (.Compare a [.Is] [.Constant .none j p2] pos) (tB C ((f.bind (isN false)).bind toB)) := PT.imp (pt_cmpR op_isN ha pe_non (nomark _)) fun σ H Q q => isN_r σ H _ (testD σ H Q q)
theorem xNotNT {j p2} (ha : PE X a (tV C f)) : PT X (.Compare a [.IsNot] [.Constant .none j p2] pos) (tB C ((f.bind (isN true)).bind toB)) := PT.imp (pt_cmpR op_notN ha pe_non (nomark _)) fun σ H Q q => notN_r σ H _ (testD σ H Q q)
theorem xIsN {j p2} (ha : PE X a (tV C f)) : PE X (.Compare a [.Is] [.Constant .none j p2] pos) (tD C (f.bind (isN false))) := PE.imp (pe_cmpR op_isN ha pe_non (nomark _)) isN_r
theorem xNotN {j p2} (ha : PE X a (tV C f)) : PE X (.Compare a [.IsNot] [.Constant .none j p2] pos) (tD C (f.bind (isN true))) := PE.imp (pe_cmpR op_notN ha pe_non (nomark _)) notN_r
/-- in, not in: flat items -/
def flatD : D → Bool
  | .none => true
  | .bool _ => true
  | .int _ => true
  | .str _ => true
  | _ => false
theorem flat_ok {K : PySem.W.Frag} {H : Hp} {v : V} {d : D} (h : Dq K H v d) (e : flatD d = true) : flatV v = true ∧ ∀ {w : V} {c : D}, Dq K H w c → flatD c = true → eqV w v = PyData.eqv c d := by
  cases h <;> first
    | (cases e; done)
    | (refine ⟨rfl, fun hw e2 => ?_⟩
       cases hw <;> first
        | (cases e2; done)
        | (simp [eqV, PyData.eqv]; done)
        | rfl)
theorem flat_all {K : PySem.W.Frag} {H : Hp} {v : V} {d : D} (h : Dq K H v d) (e : flatD d = true) : ∀ {vs : List V} {ds : List D}, DqAll K H vs ds → ds.all flatD = true → vs.all flatV = true ∧ inV v vs = ds.any fun z => PyData.eqv z d
  | _, _, .nil, _ => ⟨rfl, rfl⟩
  | _, _, .cons h1 h2, e2 => by
    rw [List.all_cons, Bool.and_eq_true] at e2
    obtain ⟨q1, q2⟩ := flat_all h e h2 e2.2
    refine ⟨by rw [List.all_cons, (flat_ok h1 e2.1).1, q1] <;> rfl, ?_⟩
    show (_ :: _).any _ = _
    rw [List.any_cons, List.any_cons, (flat_ok h e).2 h1 e2.1]
    have q3 : (List.any _ fun y => eqV y v) = _ := q2
    rw [q3]
def inW (n : Bool) (x y : View) : M D := (lookD x).bind fun d => (seqOf y).bind fun p => need (flatD d && p.2.all flatD) (M.pur (.bool (if n = true then !(p.2.any fun z => PyData.eqv z d) else p.2.any fun z => PyData.eqv z d)))
theorem inW_ok {n : Bool} (hK : C.K = X.K) : OpV C (rIn X.K n) (inW n) := by
  intro σ F own g H x y wx wy Q k hx hy q
  obtain ⟨d, g1, e1, q1⟩ := After.at_end (m := lookD) (After.fst q) fun _ _ => lookD_ne
  obtain ⟨rfl, hd⟩ := lookD_ok k hx e1
  obtain ⟨p, g2, e2, q2⟩ := After.at_end (m := seqOf) (After.fst (q1 F own H k Fr.refl)) fun _ _ => seqOf_no_er
  obtain ⟨tup, ds⟩ := p
  obtain ⟨rfl, a, vs, hy1, hy2, hy3⟩ := seqOf_ok k hy e2
  obtain ⟨h1, h2⟩ := need_ok (q2 F own H k Fr.refl)
  rw [Bool.and_eq_true] at h1
  obtain ⟨h3, h4⟩ := flat_all hd h1.1 (dpAll_mono k.le hy3) h1.2
  refine ⟨a, vs, hy1, ?_, (flat_ok hd h1.1).1, h3, ?_⟩
  · unfold SqA at hy2
    cases tup with
    | true => exact .inr (hK ▸ hy2)
    | false => exact .inl (hK ▸ hy2)
  · rw [h4]
    exact h2 F own H k Fr.refl _ (.bl _)
/-! ### two comparisons in a row -/
def chF (h h2 : View → View → M D) (f f2 f3 : M View) : M D := f.bind fun x => f2.bind fun y => ((h x y).bind toB).bind fun c => if c = true then f3.bind fun z => h2 y z else M.pur (.bool false)
theorem chain_r {r r' : R2} {h h2 : View → View → M D} (hr : OpV C r h) (hr' : OpV C r' h2) : ∀ σ H Q, tD C (chF h h2 f f2 f3) σ H Q → tChain r r' (tV C f) (tV C f2) (tV C f3) σ H Q := fun σ H Q ⟨F, own, g, k, q⟩ =>
  ⟨F, own, g, k, (After.fst q).imp fun wx F1 own1 g1 H1 _ k1 f1 q1 x hx => ⟨F1, own1, g1, k1, (After.fst q1).imp fun wy F2 own2 g2 H2 _ k2 f2 q2 y hy =>
    hr k2 (hx.mono f2.fl) hy ((After.fst (After.fst q2)).imp fun d F3 own3 g3 H3 _ k3 f3 q3 v hv => by
      obtain ⟨c, g4, e4, q4⟩ := After.at_end (m := toB) q3 fun _ _ => toB_ne
      obtain ⟨e5, e6⟩ := toB_ok e4
      subst e5 e6
      refine ⟨c, dp_bool hv, ?_⟩
      have q5 := q4 F3 own3 H3 k3 Fr.refl
      cases c with
      | false => exact q5 F3 own3 H3 k3 Fr.refl _ (.bl false)
      | true => exact ⟨F3, own3, g4, k3, (After.fst q5).imp fun wz F6 own6 g6 H6 _ k6 f6 q6 z hz => hr' k6 (hy.mono (f3.fl.trans f6.fl)) hz q6⟩)⟩⟩
theorem xChain {c : Expr} {op op' : CmpOp} {r r' : R2} {h h2 : View → View → M D} (ho : OpR X (compareOp op) r) (ho' : OpR X (compareOp op') r') (hr : OpV C r h) (hr' : OpV C r' h2) (ha : PE X a (tV C f)) (hb : PE X b (tV C f2)) (hc : PE X c (tV C f3))
    (hm : lastMarks [op, op'] [b, c] = false := by with_unfolding_all rfl) : PE X (.Compare a [op, op'] [b, c] pos) (tD C (chF h h2 f f2 f3)) := PE.imp (pe_chain ho ho' ha hb hc hm) (chain_r hr hr')
theorem xChainT {c : Expr} {op op' : CmpOp} {r r' : R2} {h h2 : View → View → M D} (ho : OpR X (compareOp op) r) (ho' : OpR X (compareOp op') r') (hr : OpV C r h) (hr' : OpV C r' h2) (ha : PE X a (tV C f)) (hb : PE X b (tV C f2)) (hc : PE X c (tV C f3))
    (hm : lastMarks [op, op'] [b, c] = false := by with_unfolding_all rfl) : PT X (.Compare a [op, op'] [b, c] pos) (tB C ((chF h h2 f f2 f3).bind toB)) := PT.imp (pt_chain ho ho' ha hb hc hm) fun σ H Q q => chain_r hr hr' σ H _ (testD σ H Q q)

/-! ### list + list, list * int, tuple * int -/
def lstD : View → M (List D)
  | .dat (.list ds) => M.pur ds
  | .dat _ => M.no
  | .own i => fun g => match g.es[i]? with
    | some (.ol ds) => .ok (ds, g)
    | _ => .no
theorem lstD_ok {b : Nat} {F H : Hp} {own : Addr → Option Nat} {g g' : Sg} {σ : St} {v : V} {w : View} {ds : List D} {K : PySem.W.Frag} (k : Ok K b F own g σ H) (h : Vw K F σ v w) (e : lstD w g = .ok (ds, g')) : g' = g ∧ ∃ a vs, v = .ref a ∧ H a = some (.lst vs) ∧ DqAll K F vs ds := by
  cases w with
  | dat d0 =>
    cases h <;> cases e
    rename_i a vs h1 h2
    exact ⟨rfl, a, vs, rfl, k.le a _ h1, h2⟩
  | own i =>
    have e : (match g.es[i]? with
      | some (.ol ds) => R.ok (ds, g)
      | _ => .no) = .ok (ds, g') := e
    have h : σ[i]? = some (some v) := h
    cases hg : g.es[i]? with
    | none =>
      rw [hg] at e
      cases e
    | some en =>
      rw [hg] at e
      cases en with
      | un => cases e
      | im d0 => cases e
      | ol xs =>
        cases e
        obtain ⟨a, vs, h1, h2, h3, h4⟩ := k.sl i _ _ hg h
        cases h1
        exact ⟨rfl, a, vs, rfl, h3, h4⟩
      | oo dss => cases e
theorem lstD_ne {w : View} {g : Sg} {c : Str} {x : D} : lstD w g ≠ .er c x := by
  intro e
  cases w with
  | dat d0 => cases d0 <;> cases e
  | own i =>
    unfold lstD at e
    cases hg : g.es[i]? with
    | none => simp [hg] at e
    | some en => cases en <;> simp [hg] at e
def catN (x y : View) : M (List D) := (lstD x).bind fun xs => (lstD y).bind fun ys => need (lenOk (xs.length + ys.length)) (M.pur (xs ++ ys))
/-- the end of an operation that lays a new list -/
theorem aft_new {σ : St} {F H : Hp} {own : Addr → Option Nat} {g : Sg} {ds : List D} {vs : List V} {Q : VK} (k : Ok C.K C.b F own g σ H) (hd : DqAll C.K F vs ds) (q : AftN C σ F own H (M.pur ds g) Q) (p : Addr) (hp : H p = none) : Q (.ref p) (upd H p (.lst vs)) := by
  obtain ⟨k4, f4⟩ := k.side (o := .lst vs) hp
  refine q F own _ k4 f4 p vs hp upd_same (k.le.free hp) ?_ hd
  cases z : own p with
  | none => rfl
  | some i => exact absurd hp (k.there p i z)
theorem catN_ok : OpN C rCat catN := by
  intro σ F own g H x y wx wy Q k hx hy q
  obtain ⟨ds, g1, e1, q1⟩ := After.at_end (m := lstD) (After.fst q) fun _ _ => lstD_ne
  obtain ⟨rfl, a, vs, h1, h2, h3⟩ := lstD_ok k hx e1
  obtain ⟨es, g2, e2, q2⟩ := After.at_end (m := lstD) (After.fst (q1 F own H k Fr.refl)) fun _ _ => lstD_ne
  obtain ⟨rfl, b, ws, h4, h5, h6⟩ := lstD_ok k hy e2
  obtain ⟨h7, h8⟩ := need_ok (q2 F own H k Fr.refl)
  exact ⟨a, b, vs, ws, h1, h4, h2, h5, by rw [dpAll_len h3, dpAll_len h6]; exact lenOk_le h7, fun p hp => aft_new k (dpAll_app h3 h6) h8 p hp⟩
def intD : View → M Int
  | .dat (.int i) => M.pur i
  | _ => M.no
theorem intD_ok {K : PySem.W.Frag} {F : Hp} {σ : St} {v : V} {w : View} {i : Int} {g g' : Sg} (h : Vw K F σ v w) (e : intD w g = .ok (i, g')) : g' = g ∧ v = .int i := by
  cases w with
  | own _ => cases e
  | dat d =>
    cases h <;> cases e
    exact ⟨rfl, rfl⟩
theorem intD_ne {w : View} {g : Sg} {c : Str} {x : D} : intD w g ≠ .er c x := by
  intro e
  cases w with
  | own _ => cases e
  | dat d => cases d <;> cases e
def repN (x y : View) : M (List D) := (lstD x).bind fun xs => (intD y).bind fun n => need (decide (n ≤ 16777216) && decide (-1 ≤ n) && lenOk (xs.length * n.toNat)) (M.pur (List.replicate n.toNat xs).flatten)
theorem repN_ok : OpN C rRep repN := by
  intro σ F own g H x y wx wy Q k hx hy q
  obtain ⟨ds, g1, e1, q1⟩ := After.at_end (m := lstD) (After.fst q) fun _ _ => lstD_ne
  obtain ⟨rfl, a, vs, h1, h2, h3⟩ := lstD_ok k hx e1
  obtain ⟨n, g2, e2, q2⟩ := After.at_end (m := intD) (After.fst (q1 F own H k Fr.refl)) fun _ _ => intD_ne
  obtain ⟨rfl, h4⟩ := intD_ok hy e2
  obtain ⟨h7, h8⟩ := need_ok (q2 F own H k Fr.refl)
  rw [Bool.and_eq_true, Bool.and_eq_true] at h7
  have b1 : n ≤ 16777216 := of_decide_eq_true h7.1.1
  have b2 : -1 ≤ n := of_decide_eq_true h7.1.2
  exact ⟨a, n, vs, h1, h4, h2, by omega, by omega, by rw [dpAll_len h3]; exact lenOk_le h7.2, fun p hp => aft_new k (dpAll_rep h3 n.toNat) h8 p hp⟩
/-! ### items and slices -/
def atW (x y : View) : M D := (intD y).bind fun i => match x with
  | .dat (.str z) => need (lenOk z.length) (match atI z.cps.toList i with
    | some c => M.pur (.str ⟨#[c]⟩)
    | none => M.no)
  | w => (seqOf w).bind fun p => match atI p.2 i with
    | some d => M.pur d
    | none => M.no
theorem atI_all {K : PySem.W.Frag} {F : Hp} {vs : List V} {ds : List D} (h : DqAll K F vs ds) {i : Int} {d : D} (e : atI ds i = some d) : ∃ v, atI vs i = some v ∧ Dq K F v d := by
  unfold atI at e ⊢
  rw [dpAll_len h]
  cases z : ixN ds.length i with
  | none =>
    rw [z] at e
    cases e
  | some j =>
    rw [z] at e
    exact dpAll_get h (by simpa using e)
theorem atW_ok (hK : C.K = X.K) : OpV C (rIx X.K) atW := by
  intro σ F own g H x y wx wy Q k hx hy q
  obtain ⟨i, g1, e1, q1⟩ := After.at_end (m := intD) (After.fst q) fun _ _ => intD_ne
  obtain ⟨rfl, h4⟩ := intD_ok hy e1
  have q2 := q1 F own H k Fr.refl
  have sq : AftD C σ F own H (((seqOf wx).bind fun p => match atI p.2 i with
      | some d => M.pur d
      | none => M.no) g1) Q → rIx X.K x y H Q := fun q2 => by
    obtain ⟨p, g2, e2, q3⟩ := After.at_end (m := seqOf) (After.fst q2) fun _ _ => seqOf_no_er
    obtain ⟨tup, ds⟩ := p
    obtain ⟨rfl, a, vs, hy1, hy2, hy3⟩ := seqOf_ok k hx e2
    have q4 := q3 F own H k Fr.refl
    cases z : atI ds i with
    | none =>
      simp only [z] at q4
      exact q4.elim
    | some d =>
      simp only [z] at q4
      obtain ⟨v, hv1, hv2⟩ := atI_all hy3 z
      have q5 := q4 F own H k Fr.refl v hv2
      unfold SqA at hy2
      cases tup with
      | true => exact .inr (.inl ⟨a, vs, i, v, hy1, h4, hK ▸ hy2, hv1, q5⟩)
      | false => exact .inl ⟨a, vs, i, v, hy1, h4, hK ▸ hy2, hv1, q5⟩
  cases wx with
  | own j => exact sq q2
  | dat dx =>
    cases dx with
    | str z =>
      obtain ⟨h1, h2⟩ := need_ok q2
      cases z2 : atI z.cps.toList i with
      | none =>
        simp only [z2] at h2
        exact h2.elim
      | some c =>
        simp only [z2] at h2
        exact .inr (.inr ⟨z, i, c, dp_str hx, h4, lenOk_le h1, z2, h2 F own H k Fr.refl _ (.str _)⟩)
    | none => exact sq q2
    | bool _ => exact sq q2
    | int _ => exact sq q2
    | list _ => exact sq q2
    | tuple _ => exact sq q2
    | dict _ => exact sq q2
theorem xIx (hK : C.K = X.K) (ha : PE X a (tV C f)) (hb : PE X b (tV C f2)) (hs : PlainIx b := by exact fun _ _ => rfl) : PE X (.Subscript a b pos) (tD C (f.bind fun x => f2.bind fun y => atW x y)) := PE.imp (pe_ix ix_seq ha hb hs) (red2 (atW_ok hK))
/-- parts of a slice -/
def tOI (C : Cc) (f : M (Option Int)) : TO := fun σ H Q => ∃ F own g, Ok C.K C.b F own g σ H ∧ After C σ F own H (f g) fun o _ _ _ H' => Q o H'
theorem PO.imp {e : Option Expr} {t t' : TO} (h : PO X e t) (w : ∀ σ H Q, t' σ H Q → t σ H Q) : PO X e t' := ⟨fun pins s σ H Q I q => h.run pins s σ H Q I (w σ H Q q)⟩
theorem xPartN : PO X none (tOI C (M.pur none)) := PO.imp po_none fun σ H Q ⟨F, own, g, k, q⟩ => pur_done k q
theorem xPart (ha : PE X a (tV C f)) : PO X (some a) (tOI C (f.bind fun w => (intD w).bind fun i => M.pur (some i))) := PO.imp (po_some ha) fun σ H Q ⟨F, own, g, k, q⟩ => ⟨F, own, g, k, (After.fst q).imp fun w F1 own1 g1 H1 _ k1 f1 q1 v hv => by
  obtain ⟨i, g2, e2, q2⟩ := After.at_end (m := intD) (After.fst q1) fun _ _ => intD_ne
  obtain ⟨rfl, e3⟩ := intD_ok hv e2
  exact ⟨i, e3, pur_done k1 (q2 F1 own1 H1 k1 Fr.refl)⟩⟩
def cutD (ds : List D) (lo hi : Option Int) : List D := (ds.drop (HT.sIx ds.length 0 lo)).take (HT.sIx ds.length ds.length hi - HT.sIx ds.length 0 lo)
theorem cut_all {K : PySem.W.Frag} {F : Hp} {vs : List V} {ds : List D} (h : DqAll K F vs ds) (lo hi : Option Int) : DqAll K F (cutV vs lo hi) (cutD ds lo hi) := by
  unfold cutV cutD
  rw [dpAll_len h]
  exact dpAll_take _ (dpAll_drop _ h)
def cutW (x : View) (lo hi : Option Int) : M D := match x with
  | .dat (.str z) => need (lenOk z.length) (M.pur (.str (cutS z lo hi)))
  | w => (seqOf w).bind fun p => M.pur (if p.1 = true then .tuple (cutD p.2 lo hi) else .list (cutD p.2 lo hi))
theorem xSl {lo hi : Option Expr} {fl fh : M (Option Int)} {p2 : Pos} (hK : C.K = X.K) (ha : PE X a (tV C f)) (hl : PO X lo (tOI C fl)) (hh : PO X hi (tOI C fh)) : PE X (.Subscript a (.Slice lo hi none p2) pos) (tD C (f.bind fun x => fl.bind fun l => fh.bind fun h => cutW x l h)) :=
  PE.imp (pe_slice (sl_list.or (sl_tupA.or sl_str)) ha hl hh) fun σ H Q ⟨F, own, g, k, q⟩ => ⟨F, own, g, k, (After.fst q).imp fun w F1 own1 g1 H1 _ k1 f1 q1 x hx => ⟨F1, own1, g1, k1, (After.fst q1).imp fun l F2 own2 g2 H2 _ k2 f2 q2 =>
    ⟨F2, own2, g2, k2, (After.fst q2).imp fun h F3 own3 g3 H3 _ k3 f3 q3 => by
      have hx := hx.mono (f2.fl.trans f3.fl)
      have sq : AftD C σ F3 own3 H3 (((seqOf w).bind fun p => M.pur (if p.1 = true then PyData.tuple (cutD p.2 l h) else .list (cutD p.2 l h))) g3) Q → (rSlL X.K x l h H3 Q ∨ rSlA X.K x l h H3 Q ∨ rSlS x l h H3 Q) := fun q4 => by
        obtain ⟨p, g4, e4, q5⟩ := After.at_end (m := seqOf) (After.fst q4) fun _ _ => seqOf_no_er
        obtain ⟨tup, ds⟩ := p
        obtain ⟨rfl, c, vs, hy1, hy2, hy3⟩ := seqOf_ok k3 hx e4
        have q6 := q5 F3 own3 H3 k3 Fr.refl
        unfold SqA at hy2
        cases tup with
        | false =>
          refine .inl ⟨c, vs, hy1, hK ▸ hy2, fun p hp => ?_⟩
          obtain ⟨k7, f7⟩ := k3.new (o := .lst (cutV vs l h)) hp
          exact q6 _ _ _ k7 f7 _ (.lst upd_same (dpAll_mono f7.fl (cut_all hy3 l h)))
        | true =>
          refine .inr (.inl ⟨c, vs, hy1, hK ▸ hy2, fun e => ?_, fun _ p hp => ?_⟩)
          · have e2 : cutD ds l h = ds := by
              unfold cutD
              rw [dpAll_len hy3] at e
              rw [e.1, e.2, List.drop_zero, Nat.sub_zero, List.take_length]
            exact q6 _ _ _ k3 Fr.refl _ (by
              show Dq C.K F3 _ (PyData.tuple (cutD ds l h))
              rw [e2]
              subst hy1
              cases w with
              | own i =>
                unfold seqOf at e4
                cases hg : g4.es[i]? with
                | none => simp [hg] at e4
                | some en => cases en <;> simp [hg] at e4
              | dat d =>
                have e4 : (match seqD d with
                  | some p => R.ok (p, g4)
                  | none => .no) = .ok ((true, ds), g4) := e4
                cases z : seqD d with
                | none =>
                  rw [z] at e4
                  cases e4
                | some p =>
                  rw [z] at e4
                  cases e4
                  have hx : Dq C.K F3 (.ref c) d := hx
                  cases hx <;> cases z
                  exact .tup ‹_› ‹_›)
          · obtain ⟨k7, f7⟩ := k3.new (o := .tup (cutV vs l h)) hp
            exact q6 _ _ _ k7 f7 _ (.tup (SqT.of upd_same) (dpAll_mono f7.fl (cut_all hy3 l h)))
      cases w with
      | own j => exact sq q3
      | dat dx =>
        cases dx with
        | str z =>
          obtain ⟨h1, h2⟩ := need_ok q3
          exact .inr (.inr ⟨z, dp_str hx, lenOk_le h1, h2 F3 own3 H3 k3 Fr.refl _ (.str _)⟩)
        | none => exact sq q3
        | bool _ => exact sq q3
        | int _ => exact sq q3
        | list _ => exact sq q3
        | tuple _ => exact sq q3
        | dict _ => exact sq q3⟩⟩⟩
end
end DL
set_option maxRecDepth 100000
set_option maxHeartbeats 4000000
/-! DL4: built-in functions on views. -/
namespace DL
open PySem L2 PyProof.Rows
section
variable {X : Cx} {C : Cc} {a e : Expr} {es : List Expr} {f f2 : M View} {fs : M (List View)} {pos p : Pos} {x : Str}
theorem xCallB {id : String} {r : List V → Hp → VK → Prop} {h : List View → M D} (hc : CallR X (.builtin id) r) (hr : CaV C r h) (hg : Gl X x) (hm : X.mg x = none) (hv : bootBuiltins x = some (.builtin id)) (ha : PA X (e :: es) (tAs C fs)) (hn : x ≠ "__name__" := by decide) (hdb : (x == ("__debug__" : Str)) = false := by decide)
    (he : starEach (e :: es) X.env = (false, eval e X.env) :: starEach es X.env := by rfl) (hpl : (backTo pos (starEach es X.env)).any (·.1) = false := by rfl) : PE X (.Call (.Name x p) (e :: es) [] pos) (tD C (fs.bind h)) :=
  PE.imp (pe_callB hc hg hm hv ha hn hdb he hpl) fun σ H Q ⟨F, own, g, k, q⟩ => ⟨F, own, g, k, (After.fst q).imp fun ws F1 own1 g1 H1 _ k1 f1 q1 vs hvs => hr k1 hvs q1⟩
theorem xCallTy {T : String} {r : List V → Hp → VK → Prop} {h : List View → M D} (hc : CallR X (.type T) r) (hr : CaV C r h) (hg : Gl X x) (hm : X.mg x = none) (hv : bootBuiltins x = some (.type T)) (ha : PA X (e :: es) (tAs C fs)) (hn : x ≠ "__name__" := by decide) (hdb : (x == ("__debug__" : Str)) = false := by decide)
    (he : starEach (e :: es) X.env = (false, eval e X.env) :: starEach es X.env := by rfl) (hpl : (backTo pos (starEach es X.env)).any (·.1) = false := by rfl) : PE X (.Call (.Name x p) (e :: es) [] pos) (tD C (fs.bind h)) :=
  PE.imp (pe_callTy hc hg hm hv ha hn hdb he hpl) fun σ H Q ⟨F, own, g, k, q⟩ => ⟨F, own, g, k, (After.fst q).imp fun ws F1 own1 g1 H1 _ k1 f1 q1 vs hvs => hr k1 hvs q1⟩
theorem xCallTyN {T : String} {r : List V → Hp → VK → Prop} {h : List View → M (List D)} (hc : CallR X (.type T) r) (hr : CaN C r h) (hg : Gl X x) (hm : X.mg x = none) (hv : bootBuiltins x = some (.type T)) (ha : PA X (e :: es) (tAs C fs)) (hn : x ≠ "__name__" := by decide) (hdb : (x == ("__debug__" : Str)) = false := by decide)
    (he : starEach (e :: es) X.env = (false, eval e X.env) :: starEach es X.env := by rfl) (hpl : (backTo pos (starEach es X.env)).any (·.1) = false := by rfl) : PE X (.Call (.Name x p) (e :: es) [] pos) (tN C (fs.bind h)) :=
  PE.imp (pe_callTy hc hg hm hv ha hn hdb he hpl) fun σ H Q ⟨F, own, g, k, q⟩ => ⟨F, own, g, k, (After.fst q).imp fun ws F1 own1 g1 H1 _ k1 f1 q1 vs hvs => hr k1 hvs (AftN.back q1 f1)⟩
/-- one argument -/
def arg1 (h : View → M D) : List View → M D
  | [w] => h w
  | _ => M.no
def arg1N (h : View → M (List D)) : List View → M (List D)
  | [w] => h w
  | _ => M.no
theorem arg1_ok {r : List V → Hp → VK → Prop} {h : View → M D} (hr : UnV C (fun v => r [v]) h) : CaV C r (arg1 h) := by
  intro σ F own g H xs ws Q k hx q
  cases hx with
  | nil => exact q.elim
  | cons h1 t =>
    cases t with
    | nil => exact hr k h1 q
    | cons h2 t => exact q.elim
theorem arg1N_ok {r : List V → Hp → VK → Prop} {h : View → M (List D)} (hr : ∀ {σ F own g H x wx Q}, Ok C.K C.b F own g σ H → Vw C.K F σ x wx → AftN C σ F own H (h wx g) Q → r [x] H Q) : CaN C r (arg1N h) := by
  intro σ F own g H xs ws Q k hx q
  cases hx with
  | nil => exact q.elim
  | cons h1 t =>
    cases t with
    | nil => exact hr k h1 q
    | cons h2 t => exact q.elim
/-- the read of a sequence -/
theorem seq_at {σ : L2.St} {F H : Hp} {own : Addr → Option Nat} {g : Sg} {v : V} {w : View} {h : Bool × List D → M D} {Q : VK} (k : Ok C.K C.b F own g σ H) (hv : Vw C.K F σ v w) (q : AftD C σ F own H (((seqOf w).bind h) g) Q) :
    ∃ tup ds a vs, v = .ref a ∧ SqA C.K H a vs tup ∧ DqAll C.K F vs ds ∧ seqOf w g = .ok ((tup, ds), g) ∧ AftD C σ F own H (h (tup, ds) g) Q := by
  obtain ⟨pr, g2, e2, q2⟩ := After.at_end (m := seqOf) (After.fst q) fun _ _ => seqOf_no_er
  obtain ⟨tup, ds⟩ := pr
  obtain ⟨rfl, a, vs, hy1, hy2, hy3⟩ := seqOf_ok k hv e2
  exact ⟨tup, ds, a, vs, hy1, hy2, hy3, e2, q2 F own H k Fr.refl⟩
theorem SqA.cases {K : PySem.W.Frag} {H : Hp} {a : Addr} {vs : List V} {tup : Bool} (h : SqA K H a vs tup) : (SqL K H a vs ∧ tup = false) ∨ (SqT K H a vs ∧ tup = true) := by
  unfold SqA at h
  cases tup with
  | true => exact .inr ⟨h, rfl⟩
  | false => exact .inl ⟨h, rfl⟩
/-- len -/
def lenW (w : View) : M D := match w with
  | .dat (.str z) => need (lenOk z.length) (M.pur (.int z.length))
  | w => (seqOf w).bind fun q => M.pur (.int q.2.length)
def rLenA (K : PySem.W.Frag) : List V → Hp → VK → Prop := fun xs H Q => (∃ p ys, xs = [.ref p] ∧ (SqL K H p ys ∨ SqT K H p ys) ∧ Q (.int ys.length) H) ∨ ∃ z, xs = [.str z] ∧ z.length ≤ sizeLine ∧ Q (.int z.length) H
theorem call_lenA : CallR X (.builtin "len") (rLenA X.K) := call_len_seq.or call_len_str
theorem lenW_ok (hK : C.K = X.K) : CaV C (rLenA X.K) (arg1 lenW) := arg1_ok (r := rLenA X.K) fun {σ F own g H v w Q} k hv q => by
  have sq : AftD C σ F own H (((seqOf w).bind fun q => M.pur (.int q.2.length)) g) Q → rLenA X.K [v] H Q := fun q => by
    obtain ⟨tup, ds, a, vs, h1, h2, h3, _, q2⟩ := seq_at k hv q
    have q3 := q2 F own H k Fr.refl _ (.int _)
    have e : ((vs.length : Nat) : Int) = ((ds.length : Nat) : Int) := by rw [dpAll_len h3]
    refine .inl ⟨a, vs, by rw [h1], ?_, by rw [e]; exact q3⟩
    rcases h2.cases with z | z
    · exact .inl (hK ▸ z.1)
    · exact .inr (hK ▸ z.1)
  cases w with
  | own i => exact sq q
  | dat d =>
    cases d with
    | str z =>
      obtain ⟨h1, h2⟩ := need_ok q
      exact .inr ⟨z, by rw [dp_str hv], lenOk_le h1, h2 F own H k Fr.refl _ (.int _)⟩
    | none => exact sq q
    | bool _ => exact sq q
    | int _ => exact sq q
    | list _ => exact sq q
    | tuple _ => exact sq q
    | dict _ => exact sq q
/-- abs, int -/
def absW (w : View) : M D := (intD w).bind fun i => M.pur (.int (if i < 0 then -i else i))
def rAbs : List V → Hp → VK → Prop := fun xs H Q => ∃ i, xs = [.int i] ∧ Q (.int (if i < 0 then -i else i)) H
theorem absW_ok : CaV C rAbs (arg1 absW) := arg1_ok (r := rAbs) fun {σ F own g H v w Q} k hv q => by
  obtain ⟨i, g2, e2, q2⟩ := After.at_end (m := intD) (After.fst q) fun _ _ => intD_ne
  obtain ⟨rfl, e3⟩ := intD_ok hv e2
  exact ⟨i, by rw [e3], q2 F own H k Fr.refl F own H k Fr.refl _ (.int _)⟩
def intW : View → M D
  | .dat (.int i) => M.pur (.int i)
  | .dat (.bool c) => M.pur (.int (if c then 1 else 0))
  | _ => M.no
def rIntA : List V → Hp → VK → Prop := fun xs H Q => (∃ i, xs = [.int i] ∧ Q (.int i) H) ∨ ∃ k, xs = [.bl k] ∧ Q (.int (if k then 1 else 0)) H
theorem intW_ok : CaV C rIntA (arg1 intW) := arg1_ok (r := rIntA) fun {σ F own g H v w Q} k hv q => by
  cases w with
  | own i => exact q.elim
  | dat d =>
    cases hv with
    | int i => exact .inl ⟨i, rfl, q F own H k Fr.refl _ (.int _)⟩
    | bl c => exact .inr ⟨c, rfl, q F own H k Fr.refl _ (.int _)⟩
    | _ => exact q.elim
/-- tuple(..), list(..) -/
def tupW (w : View) : M D := (seqOf w).bind fun q => M.pur (.tuple q.2)
theorem seqD_tuple {K : PySem.W.Frag} {F : Hp} {v : V} {d : D} {ds : List D} (h : Dq K F v d) (e : seqD d = some (true, ds)) : d = .tuple ds := by
  cases h <;> cases e
  rfl
theorem seqOf_tuple {K : PySem.W.Frag} {F : Hp} {σ : L2.St} {g : Sg} {v : V} {w : View} {ds : List D} (h : Vw K F σ v w) (e : seqOf w g = .ok ((true, ds), g)) : Dq K F v (.tuple ds) := by
  cases w with
  | own i =>
    unfold seqOf at e
    cases hg : g.es[i]? with
    | none => simp [hg] at e
    | some en => cases en <;> simp [hg] at e
  | dat d =>
    have e : (match seqD d with
      | some p => R.ok (p, g)
      | none => .no) = .ok ((true, ds), g) := e
    cases z : seqD d with
    | none =>
      rw [z] at e
      cases e
    | some pr =>
      rw [z] at e
      cases e
      have hd : d = .tuple ds := seqD_tuple h z
      rw [← hd]
      exact h
def rTupA (K : PySem.W.Frag) : List V → Hp → VK → Prop := fun xs H Q => ∃ p ys, xs = [.ref p] ∧ ((SqL K H p ys ∧ ∀ l, H l = none → Q (.ref l) (upd H l (.tup ys))) ∨ (SqT K H p ys ∧ Q (.ref p) H))
theorem tupW_ok (hK : C.K = X.K) : CaV C (rTupA X.K) (arg1 tupW) := arg1_ok (r := rTupA X.K) fun {σ F own g H v w Q} k hv q => by
  obtain ⟨tup, ds, a, vs, h1, h2, h3, e2, q2⟩ := seq_at k hv q
  refine ⟨a, vs, by rw [h1], ?_⟩
  rcases h2.cases with z | z
  · refine .inl ⟨hK ▸ z.1, fun l hl => ?_⟩
    obtain ⟨k7, f7⟩ := k.new (o := .tup vs) hl
    exact q2 _ _ _ k7 f7 _ (.tup (SqT.of upd_same) (dpAll_mono f7.fl h3))
  · refine .inr ⟨hK ▸ z.1, ?_⟩
    obtain ⟨z1, rfl⟩ := z
    have hd := seqOf_tuple hv e2
    rw [h1] at hd
    exact q2 _ _ _ k Fr.refl _ hd
def lisW (w : View) : M (List D) := (seqOf w).bind fun q => M.pur q.2
def rLisA (K : PySem.W.Frag) : List V → Hp → VK → Prop := fun xs H Q => ∃ p ys, xs = [.ref p] ∧ (SqL K H p ys ∨ SqT K H p ys) ∧ ∀ l, H l = none → Q (.ref l) (upd H l (.lst ys))
theorem lisW_ok (hK : C.K = X.K) : CaN C (rLisA X.K) (arg1N lisW) := arg1N_ok (r := rLisA X.K) fun {σ F own g H v w Q} k hv q => by
  obtain ⟨pr, g2, e2, q2⟩ := After.at_end (m := seqOf) (After.fst q) fun _ _ => seqOf_no_er
  obtain ⟨tup, ds⟩ := pr
  obtain ⟨rfl, a, vs, hy1, hy2, hy3⟩ := seqOf_ok k hv e2
  refine ⟨a, vs, by rw [hy1], ?_, fun l hl => aft_new k hy3 (q2 F own H k Fr.refl) l hl⟩
  rcases hy2.cases with z | z
  · exact .inl (hK ▸ z.1)
  · exact .inr (hK ▸ z.1)
/-- ints of data -/
def asInts : List D → Option (List Int)
  | [] => some []
  | .int i :: r => (asInts r).map (i :: ·)
  | _ :: _ => none
theorem asInts_ok : ∀ {ds : List D} {ns : List Int}, asInts ds = some ns → ds = ns.map PyData.int
  | [], ns, h => by
    cases h
    rfl
  | .int i :: r, ns, h => by
    unfold asInts at h
    cases e : asInts r with
    | none =>
      rw [e] at h
      cases h
    | some q =>
      rw [e] at h
      cases h
      rw [asInts_ok e]
      rfl
  | .none :: _, _, h => by cases h
  | .bool _ :: _, _, h => by cases h
  | .str _ :: _, _, h => by cases h
  | .list _ :: _, _, h => by cases h
  | .tuple _ :: _, _, h => by cases h
  | .dict _ :: _, _, h => by cases h
/-- sum of ints, of a list or a tuple -/
def rSumA (K : PySem.W.Frag) : List V → Hp → VK → Prop := fun vs H Q => ∃ (a : Addr) (ns : List Int), vs = [.ref a] ∧ (SqL K H a (ns.map V.int) ∨ SqT K H a (ns.map V.int)) ∧ Q (.int ns.sum) H
theorem sum_tupleRaw {prog : Program} {w : World} {A : Around} {E : Value → Shared → Prop} {s : Shared} {l : Addr} {its : List Value} {ns : List Int} {Q : Value → Shared → Prop} (hh : A.handled = none) (hl : s.heap.IsTuple l its.toArray) (hi : IntsAre its ns)
    (h : ∀ h' tk t', (∀ b o, s.heap.get? b = some o → h'.get? b = some o) → Q (.int ns.sum t') { s with heap := h', toks := tk }) : wpAny (model prog w) A (call (.builtin "sum") [.ref l]) Q E s := by
  obtain ⟨xs, e⟩ := hi.allInts.items
  have hn : numsOf (intItems xs).toList = ns := by
    rw [← e]
    exact hi.numsOf
  rw [nums_intItems] at hn
  rw [e] at hl
  have hlt : l < s.heap.objs.size := by
    obtain ⟨_, e2, _⟩ := hl
    exact Heap.lt_size e2
  refine call_sum_walkG (wpAny_pyIter_tuple hl ?_)
  refine ⟨_, _, _, _, _, _, numAt xs, rfl, Walks.tuple (A := A.in1) hh s.heap.objs.size l (Nat.ne_of_lt hlt) (intItems xs), ?_, ?_, (fun _ _ => intItems_at), fun h' tk t' hk => ?_⟩
  · exact ⟨⟨_, Heap.get?_push_size _ rfl, rfl, rfl⟩, by
      obtain ⟨o, e2, r⟩ := hl
      exact ⟨o, Heap.get?_push_of_some _ e2, r⟩⟩
  · intro b hb
    simp only [List.mem_cons, List.not_mem_nil, or_false] at hb
    rw [Heap.size_push]
    rcases hb with rfl | rfl
    · exact Nat.lt_succ_self _
    · exact Nat.lt_succ_of_lt hlt
  · have q := h h' tk t' fun b o eo => hk b o (fun hmem => by
      simp only [List.mem_cons, List.not_mem_nil, or_false] at hmem
      subst hmem
      exact absurd (Heap.lt_size eo) (Nat.lt_irrefl _)) (Heap.get?_push_of_some _ eo)
    have e3 : preSum (numAt xs) (intItems xs).size = ns.sum := by
      rw [preSum_eq, List.take_of_length_le (by simp [intItems]), hn]
    rw [e3]
    exact q
theorem call_sumA (hc : X.calm = true) : CallR X (.builtin "sum") (rSumA X.K) := by
  intro pins s σ H vs us Q I r h
  obtain ⟨a, ns, rfl, hs, q⟩ := h
  rcases hs with hs | hs
  · exact cr_sum hc pins s σ H _ us Q I r ⟨a, ns, rfl, hs, q⟩
  · obtain ⟨its, rv, hl, _⟩ := I.tuple hs
    rw [Vals.ref1 r]
    exact sum_tupleRaw (I.ok.hd hc) hl rv.ints fun h' tk t' hk => ⟨.int _, H, I.kept hk, ⟨_, rfl⟩, q⟩
def sumW (w : View) : M D := (seqOf w).bind fun q => match asInts q.2 with
  | some ns => M.pur (.int ns.sum)
  | none => M.no
theorem sumW_ok (hK : C.K = X.K) : CaV C (rSumA X.K) (arg1 sumW) := arg1_ok (r := rSumA X.K) fun {σ F own g H v w Q} k hv q => by
  obtain ⟨tup, ds, a, vs, h1, h2, h3, e2, q2⟩ := seq_at k hv q
  cases z : asInts ds with
  | none =>
    simp only [z] at q2
    exact q2.elim
  | some ns =>
    simp only [z] at q2
    have e3 := asInts_ok z
    subst e3
    have e4 := dpAll_ints h3
    subst e4
    refine ⟨a, ns, by rw [h1], ?_, q2 F own H k Fr.refl _ (.int _)⟩
    rcases h2.cases with y | y
    · exact .inl (hK ▸ y.1)
    · exact .inr (hK ▸ y.1)
/-- truths of bools and ints -/
def asTru : List D → Option (List Bool)
  | [] => some []
  | .bool c :: r => (asTru r).map (c :: ·)
  | .int i :: r => (asTru r).map ((i != 0) :: ·)
  | _ :: _ => none
theorem truth_data {K : PySem.W.Frag} {H : Hp} {prog : Program} {w : World} {A : Around} : ∀ {ds : List D} {cs : List Bool} {vs : List V} {its : List Value}, asTru ds = some cs → DqAll K H vs ds → Vals vs its →
    its.length = cs.length ∧ ∀ (i : Nat) (v : Value) (s : Shared) (Q : Bool → Shared → Prop) (E : Value → Shared → Prop), its[i]? = some v → Q (cs.getD i false) s → wpAny (model prog w) A (truthy v) Q E s
  | [], cs, _, _, h, .nil, .nil => by
    cases h
    exact ⟨rfl, fun i v s Q E hv => by simp at hv⟩
  | .bool c :: r, cs, _, _, h, .cons h1 h2, .cons v1 v2 => by
    unfold asTru at h
    cases e : asTru r with
    | none =>
      rw [e] at h
      cases h
    | some q =>
      rw [e] at h
      cases h
      obtain ⟨l, t⟩ := truth_data (prog := prog) (w := w) (A := A) e h2 v2
      refine ⟨by simp [l], fun i v s Q E hv hq => ?_⟩
      cases i with
      | zero =>
        simp at hv
        subst hv
        cases h1
        cases v1
        exact wpAny_truthy_bool hq
      | succ i => exact t i v s Q E (by simpa using hv) hq
  | .int n :: r, cs, _, _, h, .cons h1 h2, .cons v1 v2 => by
    unfold asTru at h
    cases e : asTru r with
    | none =>
      rw [e] at h
      cases h
    | some q =>
      rw [e] at h
      cases h
      obtain ⟨l, t⟩ := truth_data (prog := prog) (w := w) (A := A) e h2 v2
      refine ⟨by simp [l], fun i v s Q E hv hq => ?_⟩
      cases i with
      | zero =>
        simp at hv
        subst hv
        cases h1
        obtain ⟨t0, rfl⟩ := v1
        exact P.truthy_int hq
      | succ i => exact t i v s Q E (by simpa using hv) hq
  | .none :: _, _, _, _, h, _, _ => by cases h
  | .str _ :: _, _, _, _, h, _, _ => by cases h
  | .list _ :: _, _, _, _, h, _, _ => by cases h
  | .tuple _ :: _, _, _, _, h, _, _ => by cases h
  | .dict _ :: _, _, _, _, h, _, _ => by cases h
def rAnyA (K : PySem.W.Frag) (all : Bool) : List V → Hp → VK → Prop := fun xs H Q => ∃ (a : Addr) (vs : List V) (ds : List D) (cs : List Bool), xs = [.ref a] ∧ SqL K H a vs ∧ DqAll K H vs ds ∧ asTru ds = some cs ∧ Q (.bl (if all = true then cs.all id else cs.any id)) H
theorem call_anyA (hc : X.calm = true) : CallR X (.builtin "any") (rAnyA X.K false) := by
  intro pins s σ H xs us Q I r h
  obtain ⟨a, vs, ds, cs, rfl, hs, hd, hcs, q⟩ := h
  obtain ⟨its, rv, hl, _⟩ := I.list hs
  rw [Vals.ref1 r]
  obtain ⟨hlen, htr⟩ := truth_data (prog := X.prog) (w := X.w) (A := X.A.in1) hcs hd rv
  refine call_any_walk (iter_any hl.isList fun s2 e2 st hne => ?_)
  subst e2
  refine ⟨_, _, _, _, _, _, fun i => cs.getD i false, rfl, Walks.list (A := X.A.in1) (I.ok.hd hc) _ a hne its.toArray, st, (fun i v s3 Q3 E3 hv hq => htr i v s3 Q3 E3 (by simpa using hv) hq), fun h' tk hk => ?_⟩
  refine ⟨.bl _, H, I.kept fun b o eo => hk b o (fun hm => by
    simp only [List.mem_cons, List.not_mem_nil, or_false] at hm
    subst hm
    exact absurd (Heap.lt_size eo) (Nat.lt_irrefl _)) (Heap.get?_push_of_some _ eo), ?_, q⟩
  show Value.bool _ = Value.bool (cs.any id)
  rw [← L2.any_range, List.size_toArray, hlen]
theorem call_allA (hc : X.calm = true) : CallR X (.builtin "all") (rAnyA X.K true) := by
  intro pins s σ H xs us Q I r h
  obtain ⟨a, vs, ds, cs, rfl, hs, hd, hcs, q⟩ := h
  obtain ⟨its, rv, hl, _⟩ := I.list hs
  rw [Vals.ref1 r]
  obtain ⟨hlen, htr⟩ := truth_data (prog := X.prog) (w := X.w) (A := X.A.in1) hcs hd rv
  refine call_all_walk (iter_any hl.isList fun s2 e2 st hne => ?_)
  subst e2
  refine ⟨_, _, _, _, _, _, fun i => cs.getD i false, rfl, Walks.list (A := X.A.in1) (I.ok.hd hc) _ a hne its.toArray, st, (fun i v s3 Q3 E3 hv hq => htr i v s3 Q3 E3 (by simpa using hv) hq), fun h' tk hk => ?_⟩
  refine ⟨.bl _, H, I.kept fun b o eo => hk b o (fun hm => by
    simp only [List.mem_cons, List.not_mem_nil, or_false] at hm
    subst hm
    exact absurd (Heap.lt_size eo) (Nat.lt_irrefl _)) (Heap.get?_push_of_some _ eo), ?_, q⟩
  show Value.bool _ = Value.bool (cs.all id)
  rw [← L2.all_range, List.size_toArray, hlen]
def anyW (all : Bool) (w : View) : M D := (lstD w).bind fun ds => match asTru ds with
  | some cs => M.pur (.bool (if all = true then cs.all id else cs.any id))
  | none => M.no
theorem anyW_ok {all : Bool} (hK : C.K = X.K) : CaV C (rAnyA X.K all) (arg1 (anyW all)) := arg1_ok (r := rAnyA X.K all) fun {σ F own g H v w Q} k hv q => by
  obtain ⟨ds, g1, e1, q1⟩ := After.at_end (m := lstD) (After.fst q) fun _ _ => lstD_ne
  obtain ⟨rfl, a, vs, h1, h2, h3⟩ := lstD_ok k hv e1
  have q2 := q1 F own H k Fr.refl
  cases z : asTru ds with
  | none =>
    simp only [z] at q2
    exact q2.elim
  | some cs =>
    simp only [z] at q2
    exact ⟨a, vs, ds, cs, by rw [h1], SqL.of h2, hK ▸ dpAll_mono k.le h3, z, q2 F own H k Fr.refl _ (.bl _)⟩

/-! ### isinstance -/
def tyN : D → Option String
  | .none => some "NoneType"
  | .bool _ => some "bool"
  | .int _ => some "int"
  | .str _ => some "str"
  | .list _ => some "list"
  | .tuple _ => some "tuple"
  | _ => none
def isT (T : String) (d : D) : Option Bool := match tyN d with
  | some t => some (t == T || (t == "bool" && T == "int"))
  | none => none
theorem tyX_of {K : PySem.W.Frag} {H : Hp} {v : V} {d : D} {t : String} (h : Dq K H v d) (e : tyN d = some t) : TyX K H v (.type t) := by
  cases h with
  | non => cases e; exact .base .non
  | bl c => cases e; exact .base (.bl c)
  | int i => cases e; exact .base (.int i)
  | str z => cases e; exact .base (.str z)
  | lst h1 _ => cases e; exact .base (.lst h1)
  | tup h1 _ =>
    cases e
    rcases h1 with (h1 | ⟨o, h1⟩) | ⟨o, its, n, h1, h2, _⟩
    · exact .base (.tup h1)
    · exact .fTuple h1
    · exact .kTuple h1 h2
  | scr _ _ => cases e
  | rng _ => cases e
theorem kit_all (t T : String) (ht : t ∈ ["NoneType", "bool", "int", "str", "list", "tuple"]) (hT : T ∈ ["bool", "int", "str", "list", "tuple"]) : kitB t T = some (t == T || (t == "bool" && T == "int")) := by
  simp only [List.mem_cons, List.not_mem_nil, or_false] at ht hT
  rcases ht with rfl | rfl | rfl | rfl | rfl | rfl <;> rcases hT with rfl | rfl | rfl | rfl | rfl <;> decide +kernel
theorem tyN_mem {d : D} {t : String} (e : tyN d = some t) : t ∈ ["NoneType", "bool", "int", "str", "list", "tuple"] := by
  cases d <;> cases e <;> decide
def isiW (T : String) (w : View) : M D := (lookD w).bind fun d => match isT T d with
  | some c => M.pur (.bool c)
  | none => M.no
theorem xIsi {T : String} {y : Str} {p2 : Pos} (hK : C.K = X.K) (hT : T ∈ ["bool", "int", "str", "list", "tuple"]) (hg : Gl X "isinstance") (hm : X.mg "isinstance" = none) (he : PE X e (tV C f)) (hg2 : Gl X y) (hm2 : X.mg y = none) (hv : bootBuiltins y = some (.type T)) (hn : y ≠ "__name__" := by decide) (hd : (y == ("__debug__" : Str)) = false := by decide)
    (h1 : starEach [e, .Name y p2] X.env = (false, eval e X.env) :: starEach [.Name y p2] X.env := by rfl) (h2 : (backTo pos (starEach [.Name y p2] X.env)).any (·.1) = false := by rfl) (h3 : starEach [.Name y p2] X.env = (false, eval (.Name y p2) X.env) :: starEach [] X.env := by rfl) :
    PE X (.Call (.Name "isinstance" p) [e, .Name y p2] [] pos) (tD C (f.bind (isiW T))) := by
  have hb : bootBuiltins "isinstance" = some (.builtin "isinstance") := by decide +kernel
  have hy : PE X (.Name y p2) (tC (.ty T)) := pe_bltn hg2 hm2 hv rfl hn hd
  refine PE.imp (pe_callB call_isi hg hm hb (pa_cons he (pa_cons hy pa_nil h3) h1) (by decide) (by decide) h1 h2) fun σ H Q ⟨F, own, g, k, q⟩ => ⟨F, own, g, k, (After.fst q).imp fun w F1 own1 g1 H1 _ k1 f1 q1 v hv => ?_⟩
  obtain ⟨d, g2, e2, q2⟩ := After.at_end (m := lookD) (After.fst q1) fun _ _ => lookD_ne
  obtain ⟨rfl, hd⟩ := lookD_ok k1 hv e2
  have q3 := q2 F1 own1 H1 k1 Fr.refl
  unfold isT at q3
  cases z : tyN d with
  | none =>
    simp only [z] at q3
    exact q3.elim
  | some t =>
    simp only [z] at q3
    exact ⟨v, .ty T, .type t, .type T, _, rfl, .ty T, hK ▸ tyX_of hd z, kit_ty (kit_all t T (tyN_mem z) hT), q3 F1 own1 H1 k1 Fr.refl _ (.bl _)⟩
/-- len(set(xs)) of ints that are all unlike -/
def lenSetW (w : View) : M D := (lstD w).bind fun ds => match asInts ds with
  | some ns => need (decide ns.Nodup && decide (ns.length ≤ 60)) (M.pur (.int ns.length))
  | none => M.no
theorem lst_ints {σ : L2.St} {F H : Hp} {own : Addr → Option Nat} {g : Sg} {v : V} {w : View} {h : List Int → M D} {Q : VK} (k : Ok C.K C.b F own g σ H) (hv : Vw C.K F σ v w)
    (q : AftD C σ F own H (((lstD w).bind fun ds => match asInts ds with
      | some ns => h ns
      | none => M.no) g) Q) : ∃ a ns, v = .ref a ∧ H a = some (.lst (ns.map V.int)) ∧ AftD C σ F own H (h ns g) Q := by
  obtain ⟨ds, g1, e1, q1⟩ := After.at_end (m := lstD) (After.fst q) fun _ _ => lstD_ne
  obtain ⟨rfl, a, vs, h1, h2, h3⟩ := lstD_ok k hv e1
  have q2 := q1 F own H k Fr.refl
  cases z : asInts ds with
  | none =>
    simp only [z] at q2
    exact q2.elim
  | some ns =>
    simp only [z] at q2
    have e3 := asInts_ok z
    subst e3
    have e4 := dpAll_ints h3
    subst e4
    exact ⟨a, ns, h1, h2, q2⟩
end
end DL
set_option maxRecDepth 100000
set_option maxHeartbeats 4000000
/-! DL5: statements by data: blocks, assignments, stores, if, return, loops. -/
namespace DL
open PySem L2

inductive Out where
  | nx | rt (d : D) | bk | ct
def OutR (C : Cc) (D0 : Ends) (o : Out) (σ : St) (F H : Hp) : Prop := match o with
  | .nx => D0.nx σ H
  | .rt d => ∀ v, Dq C.K F v d → D0.rt v H
  | .bk => D0.bk σ H
  | .ct => D0.ct σ H
def Cont {α : Type} (C : Cc) (σ : St) (F : Hp) (own : Addr → Option Nat) (H : Hp) (r : R (α × Sg)) (P : α → St → Hp → (Addr → Option Nat) → Sg → Hp → Prop) : Prop := match r with
  | .ok (o, g') => ∀ σ' F' own' H', Ok C.K C.b F' own' g' σ' H' → Fr F own H F' own' H' → σ'[C.b]? = σ[C.b]? → P o σ' F' own' g' H'
  | .er c d => ErD C F own H c d
  | .no => False
def tS (C : Cc) (f : M Out) : TS := fun D0 σ H => ∃ F own g, Ok C.K C.b F own g σ H ∧ Cont C σ F own H (f g) fun o σ' F' _ _ H' => OutR C D0 o σ' F' H'
section
variable {α β : Type} {C : Cc} {σ : St} {F F1 H H1 : Hp} {own own1 : Addr → Option Nat} {g g1 : Sg}
theorem Cont.at_ {σ1 : St} {r : R (α × Sg)} {P : α → St → Hp → (Addr → Option Nat) → Sg → Hp → Prop} (h : Cont C σ F own H r P) (p : Fr F own H F1 own1 H1) (hb : σ1[C.b]? = σ[C.b]?) : Cont C σ1 F1 own1 H1 r P := by
  cases r with
  | ok q => exact fun σ' F' own' H' k f e => h σ' F' own' H' k (p.trans f) (e.trans hb)
  | er c d => exact ErD.back h p
  | no => exact h
theorem Cont.imp {r : R (α × Sg)} {P P' : α → St → Hp → (Addr → Option Nat) → Sg → Hp → Prop} (h : Cont C σ F own H r P)
    (i : ∀ a σ' F' own' g' H', r = .ok (a, g') → Ok C.K C.b F' own' g' σ' H' → Fr F own H F' own' H' → σ'[C.b]? = σ[C.b]? → P a σ' F' own' g' H' → P' a σ' F' own' g' H') : Cont C σ F own H r P' := by
  cases r with
  | ok q => exact fun σ' F' own' H' k f e => i _ _ _ _ _ _ rfl k f e (h σ' F' own' H' k f e)
  | er c d => exact h
  | no => exact h
theorem Cont.fst {m : M α} {f : α → M β} {P : β → St → Hp → (Addr → Option Nat) → Sg → Hp → Prop} (h : Cont C σ F own H ((m.bind f) g) P) :
    Cont C σ F own H (m g) fun a σ1 F1 own1 g1 H1 => Cont C σ1 F1 own1 H1 (f a g1) P := by
  unfold M.bind R.bind at h
  cases e : m g with
  | ok q =>
    rw [e] at h
    exact fun σ' F' own' H' k p hb => Cont.at_ h p hb
  | er c d =>
    rw [e] at h
    exact h
  | no =>
    rw [e] at h
    exact h
/-- an expression ahead -/
theorem Cont.expr {m : M α} {f : α → M β} {P : β → St → Hp → (Addr → Option Nat) → Sg → Hp → Prop} (h : Cont C σ F own H ((m.bind f) g) P) :
    After C σ F own H (m g) fun a F1 own1 g1 H1 => Cont C σ F1 own1 H1 (f a g1) P := by
  unfold M.bind R.bind at h
  cases e : m g with
  | ok q =>
    rw [e] at h
    exact fun F' own' H' k p => Cont.at_ h p rfl
  | er c d =>
    rw [e] at h
    exact h
  | no =>
    rw [e] at h
    exact h
theorem Cont.ok_at {a : α} {g' : Sg} {P : α → St → Hp → (Addr → Option Nat) → Sg → Hp → Prop} (h : Cont C σ F own H (.ok (a, g')) P) {σ' : St} (k : Ok C.K C.b F1 own1 g' σ' H1) (f : Fr F own H F1 own1 H1) (e : σ'[C.b]? = σ[C.b]?) : P a σ' F1 own1 g' H1 := h σ' F1 own1 H1 k f e
/-- a step that no error leaves and that keeps slots and heap -/
theorem Cont.at_end {m : α → M β} {a : α} {P : β → St → Hp → (Addr → Option Nat) → Sg → Hp → Prop} (q : Cont C σ F own H (m a g) P) (ne : ∀ c d, m a g ≠ .er c d) :
    ∃ z g', m a g = .ok (z, g') ∧ Cont C σ F own H (.ok (z, g')) P := by
  cases e : m a g with
  | ok p =>
    rw [e] at q
    exact ⟨p.1, p.2, rfl, q⟩
  | er c d => exact absurd e (ne c d)
  | no =>
    rw [e] at q
    exact q.elim
end

/-! ### blocks -/
def sq (f g : M Out) : M Out := f.bind fun o => match o with
  | .nx => g
  | o => M.pur o
section
variable {X : Cx} {C : Cc} {e : Expr} {st : Stmt} {rest : List Stmt} {f g2 : M Out} {fd : M D} {fv : M View} {t : M Bool} {pos : Pos}
theorem sq_r {σ : St} {H : Hp} {D0 : Ends} : tS C (sq f g2) D0 σ H → tS C f { D0 with nx := tS C g2 D0 } σ H := fun ⟨F, own, g, k, q⟩ =>
  ⟨F, own, g, k, (Cont.fst q).imp fun o σ1 F1 own1 g1 H1 _ k1 f1 e1 q1 => by
    cases o with
    | nx => exact ⟨F1, own1, g1, k1, q1⟩
    | rt d => exact q1 σ1 F1 own1 H1 k1 Fr.refl rfl
    | bk => exact q1 σ1 F1 own1 H1 k1 Fr.refl rfl
    | ct => exact q1 σ1 F1 own1 H1 k1 Fr.refl rfl⟩
theorem yCons (h1 : PS X st (tS C f)) (h2 : PSs X rest (tS C g2)) : PSs X (st :: rest) (tS C (sq f g2)) := PSs.imp (pss_cons h1 h2) fun D0 σ H q => sq_r q
theorem yOne (h1 : PS X st (tS C f)) : PSs X [st] (tS C f) := pss_one h1
theorem yNil : PSs X [] (tS C (M.pur .nx)) := PSs.imp pss_nil fun D0 σ H ⟨F, own, g, k, q⟩ => q σ F own H k Fr.refl rfl
theorem yPass : PS X (.Pass pos) (tS C (M.pur .nx)) := PS.imp ps_pass fun D0 σ H ⟨F, own, g, k, q⟩ => q σ F own H k Fr.refl rfl
theorem yBreak : PS X (.Break pos) (tS C (M.pur .bk)) := PS.imp ps_break fun D0 σ H ⟨F, own, g, k, q⟩ => q σ F own H k Fr.refl rfl
theorem yCont : PS X (.Continue pos) (tS C (M.pur .ct)) := PS.imp ps_continue fun D0 σ H ⟨F, own, g, k, q⟩ => q σ F own H k Fr.refl rfl
theorem yIf {c : Expr} {a b : List Stmt} (hc : PT X c (tB C t)) (ha : PSs X a (tS C f)) (hb : PSs X b (tS C g2)) : PS X (.If c a b pos) (tS C (t.bind fun c => if c = true then f else g2)) :=
  PS.imp (ps_if hc ha hb) fun D0 σ H ⟨F, own, g, k, q⟩ => ⟨F, own, g, k, (Cont.expr q).imp fun c F1 own1 g1 H1 _ k1 f1 q1 => by
    cases c with
    | true => exact ⟨F1, own1, g1, k1, q1⟩
    | false => exact ⟨F1, own1, g1, k1, q1⟩⟩
theorem yRet (he : PE X e (tD C fd)) : PS X (.Return (some e) pos) (tS C (fd.bind fun d => M.pur (.rt d))) :=
  PS.imp (ps_ret he) fun D0 σ H ⟨F, own, g, k, q⟩ => ⟨F, own, g, k, (Cont.expr q).imp fun d F1 own1 g1 H1 _ k1 f1 q1 v hv => q1 σ F1 own1 H1 k1 Fr.refl rfl v hv⟩
theorem yRetN : PS X (.Return none pos) (tS C (M.pur (.rt .none))) := PS.imp ps_retN fun D0 σ H ⟨F, own, g, k, q⟩ => q σ F own H k Fr.refl rfl _ .non
theorem yExpr (he : PE X e (tD C fd)) (hs : swapsWith e none pos.line X.env = pure false := by rfl) : PS X (.Expr e pos) (tS C (fd.bind fun _ => M.pur .nx)) :=
  PS.imp (ps_expr he hs) fun D0 σ H ⟨F, own, g, k, q⟩ => ⟨F, own, g, k, (Cont.expr q).imp fun d F1 own1 g1 H1 _ k1 f1 q1 v hv => q1 σ F1 own1 H1 k1 Fr.refl rfl⟩

/-! ### names are set -/
/-- slot i holds data -/
def put (i : Nat) (d : D) : M Unit := fun g => .ok ((), { g with es := g.es.set i (.im d) })
def putO (i : Nat) (ds : List D) : M Unit := fun g => .ok ((), { g with es := g.es.set i (.ol ds) })
def putOO (i : Nat) (ds : List (List D)) : M Unit := fun g => .ok ((), { g with es := g.es.set i (.oo ds) })
theorem set_b {σ : St} {i b : Nat} {v : Option V} (h : i ≠ b) : (σ.set i v)[b]? = σ[b]? := List.getElem?_set_ne h
theorem tAsg_put {σ : St} {H : Hp} {D0 : Ends} {i : Nat} (hb : i ≠ C.b) : tS C (fd.bind fun d => (put i d).bind fun _ => M.pur .nx) D0 σ H → tAsg (tD C fd) (gName i) D0 σ H := fun ⟨F, own, g, k, q⟩ =>
  ⟨F, own, g, k, (Cont.expr q).imp fun d F1 own1 g1 H1 _ k1 f1 q1 v hv => by
    obtain ⟨own2, k2, f2⟩ := k1.set i hb hv
    exact q1 _ F1 own2 H1 k2 f2 (set_b hb)⟩
theorem tAsg_putO {σ : St} {H : Hp} {D0 : Ends} {i : Nat} {fn : M (List D)} (hb : i ≠ C.b) : tS C (fn.bind fun d => (putO i d).bind fun _ => M.pur .nx) D0 σ H → tAsg (tN C fn) (gName i) D0 σ H := fun ⟨F, own, g, k, q⟩ =>
  ⟨F, own, g, k, by
    unfold M.bind R.bind at q
    cases e : fn g with
    | er c d =>
      rw [e] at q
      exact q
    | no =>
      rw [e] at q
      exact q
    | ok pr =>
      rw [e] at q
      refine fun F1 own1 H1 k1 f1 p vs hn hp hF ho hd => ?_
      have k2 := k1.assign i hb (e := .ol pr.1) (v := .ref p) (fun a => a = p) (fun a ha => by subst ha; exact ⟨.inl ho, hF, by rw [hp]; simp⟩) ⟨p, vs, rfl, rfl, hp, hd⟩
      have f2 : Fr F own H F1 (giO own1 i fun a => a = p) H1 := ⟨f1.fl, f1.keep, f1.dom, f1.frz, fun a ha => by
        unfold giO at ha
        by_cases z : a = p
        · subst z
          exact .inr hn
        · rw [if_neg z] at ha
          by_cases y : own1 a = some i
          · rw [if_pos y] at ha
            exact absurd rfl ha
          · rw [if_neg y] at ha
            exact f1.hold a ha⟩
      exact q _ F1 _ H1 k2 f2 (set_b hb)⟩
theorem ySet {i : Nat} {x : Str} {p2 : Pos} (hb : i ≠ C.b) (hN : X.N.Nodup) (hi : X.N[i]? = some x) (hx : Loc X.env.scope x) (he : PE X e (tD C fd)) (hs : swapsWith e (some (.Name x p2)) pos.line X.env = pure false := by rfl) (hf : X.fn x = true ∨ X.env.scope.names.lookup x = some .local := by first | exact .inl rfl | exact .inr rfl | assumption) :
    PS X (.Assign [.Name x p2] e pos) (tS C (fd.bind fun d => (put i d).bind fun _ => M.pur .nx)) := PS.imp (ps_set hN hi hx he hs hf) fun _ _ _ q => tAsg_put hb q
theorem ySetO {i : Nat} {x : Str} {p2 : Pos} {fn : M (List D)} (hb : i ≠ C.b) (hN : X.N.Nodup) (hi : X.N[i]? = some x) (hx : Loc X.env.scope x) (he : PE X e (tN C fn)) (hs : swapsWith e (some (.Name x p2)) pos.line X.env = pure false := by rfl) (hf : X.fn x = true ∨ X.env.scope.names.lookup x = some .local := by first | exact .inl rfl | exact .inr rfl | assumption) :
    PS X (.Assign [.Name x p2] e pos) (tS C (fn.bind fun d => (putO i d).bind fun _ => M.pur .nx)) := PS.imp (ps_set hN hi hx he hs hf) fun _ _ _ q => tAsg_putO hb q
/-- x op= e -/
theorem yAug {i : Nat} {x : Str} {p2 : Pos} {op : Operator} {r : R2} {h : View → View → M D} (hb : i ≠ C.b) (hN : X.N.Nodup) (hi : X.N[i]? = some x) (hx : Loc X.env.scope x) (he : PE X e (tV C fv)) (ho : OpR X (inplaceOp op) r) (hr : OpV C r h) (hf : X.fn x = true ∨ X.env.scope.names.lookup x = some .local := by first | exact .inl rfl | exact .inr rfl | assumption) :
    PS X (.AugAssign (.Name x p2) op e pos) (tS C ((nam i).bind fun x => fv.bind fun y => (h x y).bind fun d => (put i d).bind fun _ => M.pur .nx)) :=
  PS.imp (ps_aug hN hi hx he ho hf) fun D0 σ H ⟨F, own, g, k, q⟩ => by
    have q0 := Cont.expr q
    unfold nam at q0
    cases hg : g.es[i]? with
    | none =>
      rw [hg] at q0
      exact q0.elim
    | some en =>
      have hl : i < σ.length := by
        rw [← k.len]
        exact (List.getElem?_eq_some_iff.mp hg).1
      have hs : σ[i]? = some σ[i] := by simp [hl]
      have r0 := k.sl i en σ[i] hg hs
      rw [hg] at q0
      have fin : ∀ (v : V) (w : View), σ[i]? = some (some v) → Vw C.K F σ v w → Cont C σ F own H ((fv.bind fun y => (h w y).bind fun d => (put i d).bind fun _ => M.pur .nx) g) (fun o σ' F' _ _ H' => OutR C D0 o σ' F' H') → tAug i (tV C fv) r D0 σ H := fun v w h1 h2 q1 =>
        ⟨v, h1, F, own, g, k, (Cont.expr q1).imp fun wy F1 own1 g1 H1 _ k1 f1 q2 y hy => hr k1 (h2.mono f1.fl) hy ((Cont.expr q2).imp fun d F2 own2 g2 H2 _ k2 f2 q3 z hz => by
          obtain ⟨own3, k3, f3⟩ := k2.set i hb hz
          exact q3 _ F2 own3 H2 k3 f3 (set_b hb))⟩
      cases en with
      | un => exact q0.elim
      | im d =>
        obtain ⟨v, h1, h2⟩ := r0
        exact fin v (.dat d) (by rw [hs, h1]) h2 (q0 F own H k Fr.refl)
      | ol ds =>
        obtain ⟨a, vs, h1, _⟩ := r0
        exact fin _ (.own i) (by rw [hs, h1]) (by show σ[i]? = _; rw [hs, h1]) (q0 F own H k Fr.refl)
      | oo ds =>
        obtain ⟨a, ps, h1, _⟩ := r0
        exact fin _ (.own i) (by rw [hs, h1]) (by show σ[i]? = _; rw [hs, h1]) (q0 F own H k Fr.refl)
/-- a, b = e1, e2: plain names -/
theorem yPar {i j : Nat} {x y : Str} {a b : Expr} {px py pt : Pos} {kt k2 pt2} {fs : M (List View)} (hbi : i ≠ C.b) (hbj : j ≠ C.b) (hc : X.calm = true) (hN : X.N.Nodup) (hi : X.N[i]? = some x) (hj : X.N[j]? = some y) (hij : i ≠ j) (hx : X.env.scope.names.lookup x = some .local) (hy : X.env.scope.names.lookup y = some .local) (ha : PA X [a, b] (tAs C fs))
    (hw : swappedStores [.Tuple [.Name x px, .Name y py] kt pt] (.Tuple [a, b] k2 pt2) X.env = pure (some [x, y]))
    (hs : swapsWithSole [.Tuple [.Name x px, .Name y py] kt pt] (.Tuple [a, b] k2 pt2) pos.line X.env = pure false := by rfl) :
    PS X (.Assign [.Tuple [.Name x px, .Name y py] kt pt] (.Tuple [a, b] k2 pt2) pos) (tS C (fs.bind fun ws => (frzs C.b ws).bind fun ds => match ds with
      | [d, e] => (put i d).bind fun _ => (put j e).bind fun _ => M.pur .nx
      | _ => M.no)) :=
  PS.imp (ps_par hc hN hi hj hij hx hy ha hw hs) fun D0 σ H ⟨F, own, g, k, q⟩ => ⟨F, own, g, k, (Cont.expr q).imp fun ws F1 own1 g1 H1 _ k1 f1 q1 vs hvs => by
    obtain ⟨F2, own2, g2, ds, k2, f2, hds, q2⟩ := frzs_ok k1 hvs (Cont.expr q1)
    cases hds with
    | nil => exact q2.elim
    | cons d1 r1 =>
      cases r1 with
      | nil => exact q2.elim
      | cons d2 r2 =>
        cases r2 with
        | cons _ _ => exact q2.elim
        | nil =>
          obtain ⟨own3, k3, f3⟩ := k2.set i hbi d1
          obtain ⟨own4, k4, f4⟩ := k3.set j hbj d2
          exact ⟨_, _, rfl, q2 _ F2 own4 H1 k4 (f3.trans f4) (by rw [set_b hbj, set_b hbi])⟩⟩

/-! ### targets -/
def noEr {α : Type} (m : M α) : M α := fun g => match m g with
  | .er _ _ => .no
  | r => r
def tG (C : Cc) (ga : D → M Unit) : TG := fun v σ H Q => ∃ F own g d, Ok C.K C.b F own g σ H ∧ Dq C.K F v d ∧ ∃ g', ga d g = .ok ((), g') ∧ ∀ σ' F' own' H', Ok C.K C.b F' own' g' σ' H' → Fr F own H F' own' H' → σ'[C.b]? = σ[C.b]? → Q σ' H'
theorem PG.imp {tg : Expr} {u u' : TG} (h : PG X tg u) (w : ∀ v σ H Q, u' v σ H Q → u v σ H Q) : PG X tg u' := ⟨fun pins s σ H v uu Q I r q => h.run pins s σ H v uu Q I r (w v σ H Q q)⟩
theorem gNam {i : Nat} {x : Str} (hb : i ≠ C.b) (hN : X.N.Nodup) (hi : X.N[i]? = some x) (hx : Loc X.env.scope x) (hf : X.fn x = true ∨ X.env.scope.names.lookup x = some .local := by first | exact .inl rfl | exact .inr rfl | assumption) : PG X (.Name x pos) (tG C (put i)) :=
  PG.imp (pg_name hN hi hx hf) fun v σ H Q ⟨F, own, g, d, k, hd, g', e, q⟩ => by
    cases e
    obtain ⟨own2, k2, f2⟩ := k.set i hb hd
    exact q _ F own2 H k2 f2 (set_b hb)
/-- several targets -/
def tGs (C : Cc) (ga : List D → M Unit) : TGs := fun vs σ H Q => ∃ F own g ds, Ok C.K C.b F own g σ H ∧ DqAll C.K F vs ds ∧ ∃ g', ga ds g = .ok ((), g') ∧ ∀ σ' F' own' H', Ok C.K C.b F' own' g' σ' H' → Fr F own H F' own' H' → σ'[C.b]? = σ[C.b]? → Q σ' H'
theorem PGs.imp {ts : List Expr} {u u' : TGs} (h : PGs X ts u) (w : ∀ v σ H Q, u' v σ H Q → u v σ H Q) : PGs X ts u' := ⟨fun pins s σ H v uu Q I r q => h.run pins s σ H v uu Q I r (w v σ H Q q)⟩
def gsNil : List D → M Unit
  | [] => M.pur ()
  | _ => M.no
def gsCons (ga : D → M Unit) (gr : List D → M Unit) : List D → M Unit
  | d :: ds => (ga d).bind fun _ => gr ds
  | [] => M.no
theorem gNil' : PGs X [] (tGs C gsNil) := PGs.imp pgs_nil fun vs σ H Q ⟨F, own, g, ds, k, hd, g', e, q⟩ => by
  cases hd with
  | nil =>
    cases e
    exact ⟨rfl, q σ F own H k Fr.refl rfl⟩
  | cons _ _ => cases e
theorem bind_ok {α β : Type} {m : M α} {f : α → M β} {g g' : Sg} {z : β} (h : (m.bind f) g = .ok (z, g')) : ∃ a g1, m g = .ok (a, g1) ∧ f a g1 = .ok (z, g') := by
  unfold M.bind R.bind at h
  cases e : m g with
  | ok p =>
    rw [e] at h
    exact ⟨p.1, p.2, rfl, h⟩
  | er c d =>
    rw [e] at h
    cases h
  | no =>
    rw [e] at h
    cases h
theorem gCons' {tg : Expr} {ts : List Expr} {ga : D → M Unit} {gr : List D → M Unit} (h1 : PG X tg (tG C ga)) (h2 : PGs X ts (tGs C gr)) (hs : (assignEach (tg :: ts) X.env).map (·.2) = assign tg X.env :: (assignEach ts X.env).map (·.2) := by rfl) : PGs X (tg :: ts) (tGs C (gsCons ga gr)) :=
  PGs.imp (pgs_cons h1 h2 hs) fun vs σ H Q ⟨F, own, g, ds, k, hd, g', e, q⟩ => by
    cases hd with
    | nil => cases e
    | cons d1 r1 =>
      obtain ⟨_, g1, e1, e2⟩ := bind_ok (m := ga _) (f := fun _ => gr _) e
      exact ⟨_, _, rfl, F, own, g, _, k, d1, g1, e1, fun σ1 F1 own1 H1 k1 f1 hb1 => ⟨F1, own1, g1, _, k1, dpAll_mono f1.fl r1, g', e2, fun σ2 F2 own2 H2 k2 f2 hb2 => q σ2 F2 own2 H2 k2 (f1.trans f2) (hb2.trans hb1)⟩⟩
def tupG (n : Nat) (ga : List D → M Unit) : D → M Unit
  | .tuple ds => if ds.length = n then ga ds else M.no
  | _ => M.no
theorem gTup' {es : List Expr} {kk : Nat} {ga : List D → M Unit} {n : Nat} (hK : C.K = X.K) (hc : X.calm = true) (h : PGs X es (tGs C ga)) (hn : (assignEach es X.env).length = n := by rfl) (hst : (assignEach es X.env).findIdx? (·.1) = none := by rfl) : PG X (.Tuple es kk pos) (tG C (tupG n ga)) :=
  PG.imp (pg_tup hc h hn hst) fun v σ H Q ⟨F, own, g, d, k, hd, g', e, q⟩ => by
    cases hd with
    | @tup a vs ds h1 h2 =>
      have e : (if ds.length = n then ga ds else M.no) g = .ok ((), g') := e
      by_cases hl : ds.length = n
      · rw [if_pos hl] at e
        exact ⟨a, vs, rfl, hK ▸ k.le.sqT h1, by rw [dpAll_len h2]; exact hl, F, own, g, ds, k, h2, g', e, q⟩
      · rw [if_neg hl] at e
        cases e
    | _ => cases e
/-- target = e -/
theorem yAsg {tg : Expr} {ga : D → M Unit} (he : PE X e (tD C fd)) (hg : PG X tg (tG C ga)) (hs : swapsWithSole [tg] e pos.line X.env = pure false := by rfl) (hw : swappedStores [tg] e X.env = pure none := by rfl) (h1 : (assignEach [tg] X.env).map (·.2) = [assign tg X.env] := by rfl) :
    PS X (.Assign [tg] e pos) (tS C (fd.bind fun d => (noEr (ga d)).bind fun _ => M.pur .nx)) :=
  PS.imp (ps_asg he hg hs hw h1) fun D0 σ H ⟨F, own, g, k, q⟩ => ⟨F, own, g, k, (Cont.expr q).imp fun d F1 own1 g1 H1 _ k1 f1 q1 v hv => by
    have q2 := Cont.fst q1
    unfold noEr at q2
    cases z : ga d g1 with
    | ok pr =>
      rw [z] at q2
      exact ⟨F1, own1, g1, d, k1, hv, pr.2, z, fun σ2 F2 own2 H2 k2 f2 hb2 => q2 σ2 F2 own2 H2 k2 f2 hb2 σ2 F2 own2 H2 k2 Fr.refl rfl⟩
    | er _ _ =>
      rw [z] at q2
      exact q2.elim
    | no =>
      rw [z] at q2
      exact q2.elim⟩
/-- x[i] = d, x a name that owns its list -/
def stO1 (i : Nat) (d : D) (n : Int) : M Unit := fun g => match g.es[i]? with
  | some (.ol ds) => (match ixN ds.length n with
    | some j => .ok ((), { g with es := g.es.set i (.ol (ds.set j d)) })
    | none => .no)
  | _ => .no
def stO (w wi : View) (d : D) : M Unit := match w with
  | .own i => (intD wi).bind (stO1 i d)
  | _ => M.no
def subG (fo fi : M View) (d : D) : M Unit := fo.bind fun w => fi.bind fun wi => stO w wi d
theorem after_ok {α : Type} {σ : St} {F H : Hp} {own : Addr → Option Nat} {g g' : Sg} {m : M α} {a : α} {P : α → Hp → (Addr → Option Nat) → Sg → Hp → Prop} (e : m g = .ok (a, g')) (h : ∀ F' own' H', Ok C.K C.b F' own' g' σ H' → Fr F own H F' own' H' → P a F' own' g' H') : After C σ F own H (m g) P := by
  rw [e]
  exact h
theorem gSub' {o i : Expr} {fo fi : M View} (hnb : ∀ g w g1, fo g = .ok (w, g1) → w ≠ .own C.b) (ho : PE X o (tV C fo)) (hi : PE X i (tV C fi))
    (ha : ∀ v, assign (.Subscript o i pos) X.env v = (do
      let ov ← holding [v] (eval o X.env)
      let iv ← holding [v, ov] (eval i X.env)
      standAt pos
      holding [v, ov, iv] (setItem ov iv v)
      release [v, ov, iv] []) := by intro _; rfl) : PG X (.Subscript o i pos) (tG C (subG fo fi)) :=
  PG.imp (pg_sub ho hi set_list ha) fun v σ H Q ⟨F, own, g, d, k, hd, g', e, q⟩ => by
    obtain ⟨w, g1, e1, e2⟩ := bind_ok e
    obtain ⟨wi, g2, e3, e4⟩ := bind_ok e2
    refine ⟨F, own, g, k, after_ok e1 fun F1 own1 H1 k1 f1 ov hov => ⟨F1, own1, g1, k1, after_ok e3 fun F2 own2 H2 k2 f2 iv hiv => ?_⟩⟩
    cases w with
    | dat _ => cases e4
    | own i =>
      obtain ⟨n, g3, e5, e6⟩ := bind_ok (m := intD wi) (f := stO1 i d) e4
      obtain ⟨rfl, e7⟩ := intD_ok hiv e5
      unfold stO1 at e6
      have hov : σ[i]? = some (some ov) := hov
      have hib : i ≠ C.b := fun z => hnb g _ g1 e1 (by rw [z])
      cases hg : g3.es[i]? with
      | none => simp [hg] at e6
      | some en =>
        cases en with
        | un => simp [hg] at e6
        | im _ => simp [hg] at e6
        | oo _ => simp [hg] at e6
        | ol ds =>
          simp only [hg] at e6
          cases hj : ixN ds.length n with
          | none => simp [hj] at e6
          | some j =>
            simp only [hj] at e6
            cases e6
            obtain ⟨a, vs, h1, h2, h3, h4⟩ := k2.sl i _ _ hg hov
            cases h1
            have hd2 := dp_mono (f1.fl.trans f2.fl) hd
            obtain ⟨k4, f4⟩ := k2.write (o := .lst (vs.set j v)) hib h2 (e := .ol (ds.set j d)) fun v' hv' => by
              rw [hov] at hv'
              cases hv'
              exact ⟨a, _, rfl, h2, upd_same, dpAll_set hd2 j h4⟩
            exact ⟨a, vs, n, j, rfl, e7, h3, by rw [dpAll_len h4]; exact hj, q σ F2 own2 _ k4 (f1.trans (f2.trans f4)) rfl⟩
/-- x.append(e), x a name that owns its list -/
def appO (i : Nat) (d : D) : M Out := fun g => match g.es[i]? with
  | some (.ol ds) => if lenOk (ds.length + 1) = true then .ok (.nx, { g with es := g.es.set i (.ol (ds ++ [d])) }) else .no
  | _ => .no
def ownL (i : Nat) : M Unit := fun g => match g.es[i]? with
  | some (.ol _) => .ok ((), g)
  | _ => .no
theorem yApp {i : Nat} (hb : i ≠ C.b) (hK : C.K = X.K) (hs : PS X st (tDrop (tBM X.K "list" rAppend (tVar i) (tCons (tD C fd) tNil)))) : PS X st (tS C ((ownL i).bind fun _ => fd.bind fun d => appO i d)) :=
  PS.imp hs fun D0 σ H ⟨F, own, g, k, q⟩ => by
    have q0 := Cont.expr q
    unfold ownL at q0
    cases hg0 : g.es[i]? with
    | none => simp only [hg0] at q0; exact q0.elim
    | some en0 =>
    cases en0 with
    | un => simp only [hg0] at q0; exact q0.elim
    | im _ => simp only [hg0] at q0; exact q0.elim
    | oo _ => simp only [hg0] at q0; exact q0.elim
    | ol ds0 =>
    simp only [hg0] at q0
    have q := q0 F own H k Fr.refl
    have hl0 : i < σ.length := by
      rw [← k.len]
      exact (List.getElem?_eq_some_iff.mp hg0).1
    have hs0 : σ[i]? = some σ[i] := by simp [hl0]
    obtain ⟨a0, vs0, z1, z2, z3, z4⟩ := k.sl i _ _ hg0 hs0
    have h1 : σ[i]? = some (some (.ref a0)) := by rw [hs0, z1]
    refine ⟨.ref a0, h1, .inl ⟨rfl, vs0, .inl (.inl z3)⟩, F, own, g, k, (Cont.expr q).imp fun d F1 own1 g1 H1 _ k1 f1 q1 v hv => ?_⟩
    unfold appO at q1
    cases hg : g1.es[i]? with
    | none => simp only [hg] at q1; exact q1.elim
    | some en =>
      cases en with
      | un => simp only [hg] at q1; exact q1.elim
      | im _ => simp only [hg] at q1; exact q1.elim
      | oo _ => simp only [hg] at q1; exact q1.elim
      | ol ds =>
        simp only [hg] at q1
        cases hl : lenOk (ds.length + 1) with
        | false =>
          rw [hl] at q1
          exact q1.elim
        | true =>
          rw [hl, if_pos rfl] at q1
          obtain ⟨a, vs, e1, e2, e3, e4⟩ := k1.sl i _ _ hg h1
          cases e1
          obtain ⟨k4, f4⟩ := k1.write (o := .lst (vs ++ [v])) hb e2 (e := .ol (ds ++ [d])) fun v' hv' => by
            rw [h1] at hv'
            cases hv'
            exact ⟨_, _, rfl, e2, upd_same, dpAll_app e4 (.cons hv .nil)⟩
          exact ⟨_, vs, v, rfl, rfl, e3, by rw [dpAll_len e4]; exact lenOk_le hl, q1 σ F1 own1 _ k4 f4 rfl⟩
end
end DL
set_option maxRecDepth 100000
set_option maxHeartbeats 4000000
/-! DL6: what is walked (lists, tuples, ranges, enumerate of both), and for loops. -/
namespace DL
open PySem PySem.Spec L2 PyProof.Rows

/-- what an iterator J yields, told by data: Fi is the part of the heap that it leans on -/
def ItD (K : PySem.W.Frag) (J : It) (Fi : Hp) (ds : List D) : Prop :=
  ∃ (G : Hp → Prop) (Y : Nat → Hp → V → Hp → Prop), Walk J ds.length G Y ∧ (∀ H, Le Fi H → G H) ∧
    ∀ i H1 x H2 d, ds[i]? = some d → Le Fi H1 → Y i H1 x H2 → ∀ F1, Le Fi F1 → Le F1 H1 → ∃ F2, Le F1 F2 ∧ Le F2 H2 ∧ Le H1 H2 ∧ (∀ a, F2 a ≠ none → F1 a ≠ none ∨ H1 a = none) ∧ Dq K F2 x d
def tI (C : Cc) (f : M (List D)) : TI := fun σ H R0 => ∃ F own g, Ok C.K C.b F own g σ H ∧ After C σ F own H (f g) fun ds F' _ _ H' => ∀ J, ItD C.K J F' ds → R0 J H'
section
variable {X : Cx} {C : Cc} {e tg : Expr} {f : M D} {pos p : Pos}
theorem PI.imp {u u' : TI} (h : PI X tg e u) (w : ∀ σ H R0, u' σ H R0 → u σ H R0) : PI X tg e u' := ⟨fun pins s σ H R0 I q => h.run pins s σ H R0 I (w σ H R0 q)⟩
/-! ### lists and tuples -/
def iSeq (K : PySem.W.Frag) (tl : TE) : TI := fun σ H R0 => tl σ H fun x H1 => ∃ a, x = .ref a ∧ ((∃ xs, SqL K H1 a xs ∧ R0 (Itl K a) H1) ∨ ∃ xs, SqT K H1 a xs ∧ R0 (Itt K a) H1)
theorem pi_seq {tl : TE} (hl : PE X e tl) : PI X tg e (iSeq X.K tl) := by
  refine ⟨fun pins s σ H R0 I h => thn (hl.run pins s σ H _ I h) fun v s1 q => ?_⟩
  obtain ⟨x, H1, I1, r1, a, ex, q1⟩ := q
  subst ex
  obtain rfl : v = Value.ref a := r1
  rcases q1 with ⟨xs, hq, q2⟩ | ⟨xs, hq, q2⟩
  · obtain ⟨its, rv, pl, _⟩ := I1.list hq
    exact wpAny_pyIter_list pl.isList (pi_one (tk := s1.toks) I1 _ (turn_list a _) ⟨_, Heap.get?_push_size _ rfl, rfl, rfl⟩ q2)
  · obtain ⟨its, rv, pl, _⟩ := I1.tuple hq
    exact wpAny_pyIter_tuple (show s1.heap.IsTuple a its.toArray from pl) (pi_one (tk := s1.toks) I1 _ (turn_tuple a _) ⟨_, Heap.get?_push_size _ rfl, rfl, rfl⟩ q2)
def seqF (d : D) : M (List D) := match seqD d with
  | some p => M.pur p.2
  | none => M.no
theorem itd_list {K : PySem.W.Frag} {F : Hp} {a : Addr} {vs : List V} {ds : List D} (h : SqL K F a vs) (hd : DqAll K F vs ds) : ItD K (Itl K a) F ds := by
  refine ⟨fun H => SqL K H a vs, YAt vs, (dpAll_len hd) ▸ walk_list, fun H e => e.sqL h, fun i H1 x H2 d hi e1 y F1 e2 e3 => ?_⟩
  obtain ⟨rfl, y2⟩ := y
  obtain ⟨d', h1, h2⟩ := dpAll_getV hd y2
  rw [hi] at h1
  cases h1
  exact ⟨F1, Le.refl _, e3, Le.refl _, fun a z => .inl z, dp_mono e2 h2⟩
theorem itd_tup {K : PySem.W.Frag} {F : Hp} {a : Addr} {vs : List V} {ds : List D} (h : SqT K F a vs) (hd : DqAll K F vs ds) : ItD K (Itt K a) F ds := by
  refine ⟨fun H => SqT K H a vs, YAt vs, (dpAll_len hd) ▸ walk_tup, fun H e => e.sqT h, fun i H1 x H2 d hi e1 y F1 e2 e3 => ?_⟩
  obtain ⟨rfl, y2⟩ := y
  obtain ⟨d', h1, h2⟩ := dpAll_getV hd y2
  rw [hi] at h1
  cases h1
  exact ⟨F1, Le.refl _, e3, Le.refl _, fun a z => .inl z, dp_mono e2 h2⟩
theorem wSeq (hK : C.K = X.K) (he : PE X e (tD C f)) : PI X tg e (tI C (f.bind seqF)) :=
  PI.imp (pi_seq he) fun σ H R0 ⟨F, own, g, k, q⟩ => ⟨F, own, g, k, (After.fst q).imp fun d F1 own1 g1 H1 _ k1 f1 q1 v hv => by
    unfold seqF at q1
    cases z : seqD d with
    | none =>
      simp only [z] at q1
      exact q1.elim
    | some pr =>
      obtain ⟨tup, ds⟩ := pr
      simp only [z] at q1
      obtain ⟨a, vs, h1, h2, h3⟩ := seqD_ok hv z
      refine ⟨a, h1, ?_⟩
      have q2 := q1 F1 own1 H1 k1 Fr.refl
      rcases h2.cases with y | y
      · exact .inl ⟨vs, hK ▸ k1.le.sqL y.1, hK ▸ q2 _ (itd_list y.1 h3)⟩
      · exact .inr ⟨vs, hK ▸ k1.le.sqT y.1, hK ▸ q2 _ (itd_tup y.1 h3)⟩⟩
/-! ### ranges -/
def rgD (a b : Int) : List D := (List.range (b - a).toNat).map fun (i : Nat) => PyData.int (a + (i : Int))
theorem itd_rg {K : PySem.W.Frag} {F : Hp} {a b : Int} : ItD K (Itr a (b - a).toNat) F (rgD a b) := by
  have hl : (rgD a b).length = (b - a).toNat := by simp [rgD]
  refine ⟨fun _ => True, YFn fun i => .int (a + i), by rw [hl]; exact walk_range, fun _ _ => True.intro, fun i H1 x H2 d hi e1 y F1 e2 e3 => ?_⟩
  obtain ⟨rfl, rfl⟩ := y
  have hi2 : d = .int (a + (i : Int)) := by
    unfold rgD at hi
    rw [List.getElem?_map] at hi
    obtain ⟨j, hj, rfl⟩ := Option.map_eq_some_iff.mp hi
    obtain ⟨h1, h2⟩ := List.getElem?_eq_some_iff.mp hj
    simp at h2
    subst h2
    rfl
  subst hi2
  exact ⟨F1, Le.refl _, e3, Le.refl _, fun a z => .inl z, .int _⟩
def okR (i : Int) : Bool := decide (-1000000000 ≤ i) && decide (i ≤ 1000000000)
theorem okR_le {i : Int} (h : okR i = true) : -1000000000 ≤ i ∧ i ≤ 1000000000 := by
  unfold okR at h
  rw [Bool.and_eq_true] at h
  exact ⟨of_decide_eq_true h.1, of_decide_eq_true h.2⟩
def rg1 : List View → M (List D)
  | [w] => (intD w).bind fun j => need (okR j) (M.pur (rgD 0 j))
  | _ => M.no
def rg2 : List View → M (List D)
  | [w, z] => (intD w).bind fun i => (intD z).bind fun j => need (okR i && okR j) (M.pur (rgD i j))
  | _ => M.no
theorem wRange1 {a : Expr} {fs : M (List View)} (hg : Gl X "range") (hm : X.mg "range" = none) (ha : PA X [a] (tAs C fs)) (hs : starEach [a] X.env = [(false, eval a X.env)] := by rfl) : PI X tg (.Call (.Name "range" p) [a] [] pos) (tI C (fs.bind rg1)) :=
  PI.imp (pi_range1 hg hm ha hs) fun σ H R0 ⟨F, own, g, k, q⟩ => ⟨F, own, g, k, (After.fst q).imp fun ws F1 own1 g1 H1 _ k1 f1 q1 vs hvs => by
    cases hvs with
    | nil => exact q1.elim
    | cons h1 t =>
      cases t with
      | cons _ _ => exact q1.elim
      | nil =>
        rename_i w1 v1
        have q1 : After C _ _ _ _ (((intD w1).bind fun j => need (okR j) (M.pur (rgD 0 j))) g1) _ := q1
        obtain ⟨j, g2, e2, q2⟩ := After.at_end (After.fst q1) fun _ _ => intD_ne
        obtain ⟨rfl, e3⟩ := intD_ok h1 e2
        obtain ⟨n1, n2⟩ := need_ok (q2 F1 own1 H1 k1 Fr.refl)
        have b := okR_le n1
        have q3 := n2 F1 own1 H1 k1 Fr.refl _ itd_rg
        rw [Int.sub_zero] at q3
        exact ⟨j, by rw [e3], by omega, by omega, q3⟩⟩
theorem wRange2 {a a2 : Expr} {fs : M (List View)} (hg : Gl X "range") (hm : X.mg "range" = none) (ha : PA X [a, a2] (tAs C fs)) (hs : starEach [a, a2] X.env = [(false, eval a X.env), (false, eval a2 X.env)] := by rfl) (hs2 : starEach [a2] X.env = [(false, eval a2 X.env)] := by rfl) : PI X tg (.Call (.Name "range" p) [a, a2] [] pos) (tI C (fs.bind rg2)) :=
  PI.imp (pi_range2 hg hm ha hs hs2) fun σ H R0 ⟨F, own, g, k, q⟩ => ⟨F, own, g, k, (After.fst q).imp fun ws F1 own1 g1 H1 _ k1 f1 q1 vs hvs => by
    cases hvs with
    | nil => exact q1.elim
    | cons h1 t =>
      cases t with
      | nil => exact q1.elim
      | cons h2 t =>
        cases t with
        | cons _ _ => exact q1.elim
        | nil =>
          rename_i w1 v1 w2 v2
          have q1 : After C _ _ _ _ (((intD w1).bind fun i => (intD w2).bind fun j => need (okR i && okR j) (M.pur (rgD i j))) g1) _ := q1
          obtain ⟨i, g2, e2, q2⟩ := After.at_end (After.fst q1) fun _ _ => intD_ne
          obtain ⟨rfl, e3⟩ := intD_ok h1 e2
          obtain ⟨j, g3, e4, q3⟩ := After.at_end (After.fst (q2 F1 own1 H1 k1 Fr.refl)) fun _ _ => intD_ne
          obtain ⟨rfl, e5⟩ := intD_ok h2 e4
          obtain ⟨n1, n2⟩ := need_ok (q3 F1 own1 H1 k1 Fr.refl)
          rw [Bool.and_eq_true] at n1
          have b1 := okR_le n1.1
          have b2 := okR_le n1.2
          exact ⟨i, j, by rw [e3, e5], ⟨by omega, by omega, by omega, by omega⟩, n2 F1 own1 H1 k1 Fr.refl _ itd_rg⟩⟩
/-! ### enumerate -/
/-- the tuple at a, its items in new pairs -/
def IteT (K : PySem.W.Frag) (a : Addr) : It :=
  ⟨fun i H => ∃ (xs : List V) (x : V), SqT K H a xs ∧ xs[i]? = some x, fun i H v H' => ∃ T x, v = .ref T ∧ H T = none ∧ H' = upd H T (.tup [.int (i : Nat), x]) ∧ ∀ xs, SqT K H a xs → xs[i]? = some x, fun i H => ∃ xs : List V, SqT K H a xs ∧ xs.length = i⟩
theorem turn_enumT {P : Program} {w : World} {K : PySem.W.Frag} {elts : List Expr} {kk : Nat} {tpos : Pos} (a en it : Addr) :
    Turn P w K (.Tuple elts kk tpos) (IteT K a) [en, it] en (fun i h => (∃ old, IsEnum h en it (0 + ((i : Nat) : Int)) old) ∧ h.IsTupleIter it a i ∧ en ≠ it) where
  mem := by simp
  obj := fun i h st b hb => by
    obtain ⟨⟨old, z1⟩, ⟨o, z2, z3, z4⟩, _⟩ := st
    rcases (show b = en ∨ b = it by simpa using hb) with y | y
    · exact ⟨_, by rw [y]; exact z1, fun v q => by cases q⟩
    · exact ⟨o, by rw [y]; exact z2, fun v q => by rw [z4] at q; cases q⟩
  keep := fun i h h' st kp => by
    obtain ⟨⟨old, z1⟩, z2, z3⟩ := st
    exact ⟨⟨old, kp en (by simp) _ z1⟩, z2.at fun o y => kp it (by simp) o y, z3⟩
  item := by
    intro X hP hw hK hc i pins s σ H E I hf st hg
    subst hP hw hK
    obtain ⟨⟨old, z1⟩, z2, z3⟩ := st
    obtain ⟨xs, x, hq, hx⟩ := hg
    obtain ⟨its, rv, pl, hz⟩ := I.tuple hq
    obtain ⟨u, hu, ru⟩ := rv.get hx
    obtain ⟨ha1, ha2⟩ : a ≠ it ∧ a ≠ en := by
      have hH : H a ≠ none ∨ ∃ o, X.K.lookup a = some o := by
        rcases hq with (y | ⟨o, y⟩) | ⟨o, _, _, y, _⟩
        · exact .inl (by rw [y]; simp)
        · exact .inl (by rw [y]; simp)
        · exact .inr ⟨o, y⟩
      have no : ∀ b ∈ [en, it], a ≠ b := fun b hb y => by
        have fb := hf b hb
        rcases hH with y1 | ⟨o, y1⟩
        · exact y1 (by rw [y]; exact fb.1)
        · have bs := I.ok.mod.kin a o y1
          rcases fb.2.2.2.1 with z | z
          · exact I.ok.noex a o bs (y ▸ z)
          · have l1 := Heap.lt_size (I.ok.bs a o bs).1
            rw [y] at l1
            exact absurd (Nat.lt_of_lt_of_le l1 z) (Nat.lt_irrefl _)
      exact ⟨no it (by simp), no en (by simp)⟩
    have W := GoesN.enumFrom (prog := X.prog) (w := X.w) (A := X.A) (elts := elts) (x1 := kk) (pos := tpos) 0 (Draws.tuple (A := X.A.in1) (I.ok.hd hc) it a ha1 its.toArray) en z3 (by simp [z3, Ne.symm ha2]) (by simp)
    have hin : i < its.toArray.size := by
      have := (List.getElem?_eq_some_iff.mp hu).1
      simpa using this
    refine W.goes i s _ _ hin ⟨⟨old, z1⟩, z2, show s.heap.IsTuple a its.toArray from pl⟩ fun v h' tk hY st' hk htk => ?_
    obtain ⟨T, t, y, rfl, hT, hy, hTt⟩ := hY
    obtain ⟨⟨old', z4⟩, z5, _⟩ := st'
    have hy2 : its[i]? = some y := by simpa using hy
    rw [hu] at hy2
    cases hy2
    have new : ObjOk X.prog X.w (upd H T (.tup [.int (i : Nat), x])) h' T (.tup [.int (i : Nat), x]) := by
      refine ⟨by show 2 ≤ sizeLine; decide, [.int (0 + (i : Int)) t, u], .cons ⟨t, by rw [Int.zero_add]⟩ (.cons ru .nil), ?_⟩
      exact hTt
    have I1 : Inv X pins σ (upd H T (.tup [.int (i : Nat), x])) { s with heap := h', toks := tk } := I.turnedNew (ch := [en, it]) (fun b ob hb q => hk b ob hb q) hf hT new
    refine ⟨.ref T, _, I1, rfl, ⟨T, x, rfl, I.hok.fresh hT, rfl, fun ys hy => by rw [I.tuple_inj hy hq]; exact hx⟩, ⟨⟨old', z4⟩, z5, z3⟩, fun b hb => ?_⟩
    have hb2 : b < s.heap.objs.size := by
      rcases (show b = en ∨ b = it by simpa using hb) with y | y
      · rw [y]; exact Heap.lt_size z1
      · obtain ⟨_, y2, _⟩ := z2
        rw [y]; exact Heap.lt_size y2
    rw [upd_ne (Nat.ne_of_lt (Nat.lt_of_lt_of_le hb2 hT))]
    exact (hf b hb).1
  done := by
    intro X hP hw hK hc i pins s σ H E I hf st hg
    subst hP hw hK
    obtain ⟨⟨old, z1⟩, z2, z3⟩ := st
    obtain ⟨xs, hq, hx⟩ := hg
    obtain ⟨its, rv, pl, hz⟩ := I.tuple hq
    have hH : H a ≠ none ∨ ∃ o, X.K.lookup a = some o := by
      rcases hq with (y | ⟨o, y⟩) | ⟨o, _, _, y, _⟩
      · exact .inl (by rw [y]; simp)
      · exact .inl (by rw [y]; simp)
      · exact .inr ⟨o, y⟩
    have no : ∀ b ∈ [en, it], a ≠ b := fun b hb y => by
      have fb := hf b hb
      rcases hH with y1 | ⟨o, y1⟩
      · exact y1 (by rw [y]; exact fb.1)
      · have bs := I.ok.mod.kin a o y1
        rcases fb.2.2.2.1 with z | z
        · exact I.ok.noex a o bs (y ▸ z)
        · have l1 := Heap.lt_size (I.ok.bs a o bs).1
          rw [y] at l1
          exact absurd (Nat.lt_of_lt_of_le l1 z) (Nat.lt_irrefl _)
    have W := GoesN.enumFrom (prog := X.prog) (w := X.w) (A := X.A) (elts := elts) (x1 := kk) (pos := tpos) 0 (Draws.tuple (A := X.A.in1) (I.ok.hd hc) it a (no it (by simp)) its.toArray) en z3 (by simp [z3, Ne.symm (no en (by simp))]) (by simp)
    have hn : its.toArray.size = i := by rw [List.size_toArray, ← rv.length, hx]
    refine W.stops s _ _ (by rw [hn]; exact ⟨⟨old, z1⟩, z2, pl⟩) fun h' tk hk htk => ?_
    -- an iterator that has come to its end: both records may have turned
    have kk2 : ∀ b o, b ∉ [en, it] → s.heap.get? b = some o → h'.get? b = some o := hk
    refine I.step (g' := s.gens) (d' := s.drawn) (ch := [en, it]) (fun b hb => ⟨(hf b hb).2.2.2.1, (hf b hb).2.1, (hf b hb).2.2.2.2.1, (hf b hb).2.2.2.2.2⟩) (fun b o _ _ hc e _ => kk2 b o hc e) (fun b o _ _ hc e _ => ⟨o.slots, kk2 b o hc e⟩)
      (fun b o _ e n => n) (fun b o hc e => ⟨o, kk2 b o hc e⟩) (fun b xs e => e) (fun b o u e => e) (fun b ps e => ⟨#[], by rw [e]; simp⟩) (fun m hm => ?_) (fun b u e => ?_) I.bare
    · obtain ⟨o, es, ep, ho, r⟩ := hm
      exact ⟨o, es, ep, kk2 _ o (fun hb => (hf _ hb).2.1 rfl) ho, r⟩
    · have nb : ∀ c v, H c = some v → c ∉ [en, it] := fun c v y hc => by
        rw [(hf c hc).1] at y
        cases y
      exact (I.hok b u e).stay (fun c v hc q => kk2 c v (by
        rcases hc with rfl | hc
        · exact nb _ _ e
        · exact nb _ _ hc) q) (fun _ q => q) fun _ _ q => q
  self := fun A i s Q E st h => by
    obtain ⟨⟨old, z1⟩, _⟩ := st
    exact wpAny_pyIter_enum z1 h
/-- enumerate of a tuple: two new records -/
theorem en_new (t : Addr) (its : Array Value) : Meets (Builtin.«enumerate.__new__» ⟨[.type "enumerate", .ref t], []⟩) (fun _ R s => s.heap.IsTuple t its ∧
      R (.ok (.ret (.ref (s.heap.push { cls := .type "tuple_iterator", data := .fields #[.ref t, .int 0 0] }).objs.size)))
        { s with heap := (s.heap.push { cls := .type "tuple_iterator", data := .fields #[.ref t, .int 0 0] }).push { cls := .type "enumerate", data := .fields #[.none, .bool false, .ref s.heap.objs.size, rawInt 0, .none, .none] } }) :=
  .of_wp fun prog w A R s h => by
    obtain ⟨hp, g, d, tk, os⟩ := s; obtain ⟨hl, h⟩ := h
    have hsub := sub_enumerate
    obtain ⟨ol, hol, hcl, nl, hdl⟩ := id hl
    wp_walk using AutoSeq1.wpAny_loadPart' hol, wpAny_pyIter_tuple hl
    refine wpAny_stack_any fun st => wpAny_pure ?_
    split
    · rename_i c _ _ _ _ _
      cases (c == Value.type "enumerate")
      · wp_walk using AutoSeq1.wpAny_loadPart' hol, wpAny_pyIter_tuple hl
        exact ⟨_, rfl, h⟩
      · wp_walk using AutoSeq1.wpAny_loadPart' hol, wpAny_pyIter_tuple hl
        exact ⟨_, rfl, h⟩
    · wp_walk using AutoSeq1.wpAny_loadPart' hol, wpAny_pyIter_tuple hl
      exact ⟨_, rfl, h⟩
theorem en_call {prog : Program} {w : World} {A : Around} {E : Value → Shared → Prop} {s : Shared} {t : Addr} {its : Array Value} {Q : Value → Shared → Prop} (hL : s.heap.IsTuple t its)
    (h : ∀ h', IsEnum h' (s.heap.objs.size + 1) s.heap.objs.size 0 .none → h'.IsTupleIter s.heap.objs.size t 0 → h'.objs.size = s.heap.objs.size + 2 →
      (∀ b o, s.heap.get? b = some o → h'.get? b = some o) → Q (.ref (s.heap.objs.size + 1)) { s with heap := h' }) :
    wpAny (model prog w) A (call (.type "enumerate") [.ref t]) Q E s := by
  refine callType_new F.called_enumerate (by decide) (F.typeCall_enumerate_1 _) (F.newCall_enumerate_1 _) (fun obj => F.args_object_init_2 obj _) F.entry_enumerate_new (en_new t its) ⟨hL, ?_⟩
  have hz : (s.heap.push { cls := .type "tuple_iterator", data := .fields #[.ref t, .int 0 0] }).objs.size = s.heap.objs.size + 1 := Heap.size_push ..
  show _ ∧ _
  rw [hz]
  have he : IsEnum ((s.heap.push { cls := .type "tuple_iterator", data := .fields #[.ref t, .int 0 0] }).push
      { cls := .type "enumerate", data := .fields #[.none, .bool false, .ref s.heap.objs.size, rawInt 0, .none, .none] }) (s.heap.objs.size + 1) s.heap.objs.size 0 .none := by
    have := Heap.get?_push_size (s.heap.push { cls := .type "tuple_iterator", data := .fields #[.ref t, .int 0 0] })
      (o := { cls := .type "enumerate", data := .fields #[.none, .bool false, .ref s.heap.objs.size, rawInt 0, .none, .none] }) rfl
    rw [hz] at this; exact this
  exact ⟨⟨_, he, rfl⟩, h _ he ⟨_, Heap.get?_push_of_some _ (Heap.get?_push_size _ rfl), rfl, rfl⟩ (by rw [Heap.size_push, hz]) fun b o x => Heap.get?_push_of_some _ (Heap.get?_push_of_some _ x)⟩
def iEnumA (K : PySem.W.Frag) (ta : TA) : TI := fun σ H R0 => ta σ H fun vs H1 => ∃ a, vs = [.ref a] ∧ ((∃ xs, SqL K H1 a xs ∧ R0 (Ite K a) H1) ∨ ∃ xs, SqT K H1 a xs ∧ R0 (IteT K a) H1)
theorem pi_enumA {ta : TA} {tpos : Pos} {elts : List Expr} {kk : Nat} (hg : Gl X "enumerate") (hm : X.mg "enumerate" = none) (ha : PA X [e] ta) (hs : starEach [e] X.env = [(false, eval e X.env)] := by rfl) :
    PI X (.Tuple elts kk tpos) (.Call (.Name "enumerate" p) [e] [] pos) (iEnumA X.K ta) := by
  refine ⟨fun pins s σ H R0 I h => Call_ (ld_blt I hg hm PyProof.Rows.boot_enumerate (PyProof.Rows.callWith_type1 (thn (ha.run pos pins s σ H _ I h) fun us s1 q => ?_) hs rfl))⟩
  obtain ⟨vs, H1, I1, r1, a, ex, q1⟩ := q
  subst ex
  obtain rfl : us = [Value.ref a] := Vals.ref1 r1
  have new : ∀ b, b = s1.heap.objs.size + 1 ∨ b = s1.heap.objs.size → FpOk X pins H1 b := fun b hb => by
    have hle : s1.heap.objs.size ≤ b := by
      rcases hb with z | z
      · rw [z]; exact Nat.le_succ _
      · rw [z]; exact Nat.le_refl _
    exact I1.fpOk hle (I1.hok.fresh hle)
  rcases q1 with ⟨xs, hq, q2⟩ | ⟨xs, hq, q2⟩
  · obtain ⟨its, rv, pl, _⟩ := I1.list hq
    refine PySem.call_enumerate_list pl.isList fun h' he hit hsz hk => wpAny_pyIter_enum he ?_
    exact ⟨s1.heap.objs.size + 1, [s1.heap.objs.size + 1, s1.heap.objs.size], _, _, H1, rfl, I1.kept (t' := s1.toks) hk, turn_enum a (s1.heap.objs.size + 1) s1.heap.objs.size, ⟨⟨.none, he⟩, hit, Nat.succ_ne_self _⟩, fun b hb => new b (by simpa using hb), q2⟩
  · obtain ⟨its, rv, pl, _⟩ := I1.tuple hq
    refine en_call (show s1.heap.IsTuple a its.toArray from pl) fun h' he hit hsz hk => wpAny_pyIter_enum he ?_
    exact ⟨s1.heap.objs.size + 1, [s1.heap.objs.size + 1, s1.heap.objs.size], _, _, H1, rfl, I1.kept (t' := s1.toks) hk, turn_enumT a (s1.heap.objs.size + 1) s1.heap.objs.size, ⟨⟨.none, he⟩, hit, Nat.succ_ne_self _⟩, fun b hb => new b (by simpa using hb), q2⟩
end
end DL
set_option maxRecDepth 100000
set_option maxHeartbeats 4000000
/-! DL7: enumerate by data; for loops. -/
namespace DL
open PySem L2 PyProof.Rows
section
variable {X : Cx} {C : Cc} {e tg : Expr} {fs : M (List View)} {pos p : Pos}
/-! ### enumerate -/
def numbered : Nat → List D → List D
  | _, [] => []
  | n, d :: ds => .tuple [.int (n : Nat), d] :: numbered (n + 1) ds
theorem numbered_at : ∀ {ds : List D} {n i : Nat} {x : D}, (numbered n ds)[i]? = some x → ∃ d, ds[i]? = some d ∧ x = .tuple [.int ((n + i : Nat) : Int), d]
  | [], n, i, x, h => by simp [numbered] at h
  | d :: ds, n, 0, x, h => by
    simp only [numbered, List.getElem?_cons_zero, Option.some.injEq] at h
    exact ⟨d, rfl, by rw [← h, Nat.add_zero]⟩
  | d :: ds, n, i + 1, x, h => by
    simp only [numbered, List.getElem?_cons_succ] at h
    obtain ⟨d', h1, h2⟩ := numbered_at h
    exact ⟨d', by simpa using h1, by rw [h2, show n + 1 + i = n + (i + 1) by omega]⟩
theorem numbered_len : ∀ (ds : List D) (n : Nat), (numbered n ds).length = ds.length
  | [], _ => rfl
  | _ :: ds, n => congrArg (· + 1) (numbered_len ds (n + 1))
def YNum (xs : List V) : Nat → Hp → V → Hp → Prop := fun i H v H' => ∃ T x, v = .ref T ∧ H T = none ∧ H' = upd H T (.tup [.int (i : Nat), x]) ∧ xs[i]? = some x
theorem itd_num {K : PySem.W.Frag} {J : It} {F : Hp} {vs : List V} {ds : List D} {G : Hp → Prop} (w : Walk J ds.length G (YNum vs)) (hG : ∀ H, Le F H → G H) (hd : DqAll K F vs ds) : ItD K J F (numbered 0 ds) := by
  refine ⟨G, YNum vs, by rw [numbered_len]; exact w, hG, fun i H1 x H2 d hi e1 y F1 e2 e3 => ?_⟩
  obtain ⟨T, u, rfl, hT, rfl, hu⟩ := y
  obtain ⟨d1, h1, h2⟩ := numbered_at hi
  obtain ⟨d2, h3, h4⟩ := dpAll_getV hd hu
  rw [h1] at h3
  cases h3
  subst h2
  have hF : F1 T = none := e3.free hT
  refine ⟨upd F1 T (.tup [.int (i : Nat), u]), Le.new hF, e3.both, Le.new hT, fun a ha => ?_, .tup (SqT.of upd_same) (.cons ?_ (.cons (dp_mono (e2.trans (Le.new hF)) h4) .nil))⟩
  · by_cases z : a = T
    · subst z
      exact .inr hT
    · rw [upd_ne z] at ha
      exact .inl ha
  · rw [Nat.zero_add]
    exact .int _
theorem walk_numL {K : PySem.W.Frag} {a : Addr} {vs : List V} : Walk (Ite K a) vs.length (fun H => SqL K H a vs) (YNum vs) := by
  refine ⟨fun i _ hi q => ⟨vs, vs[i], q, by simp [hi]⟩, fun _ q => ⟨vs, q, Nat.le_refl _⟩, fun i H v H' _ q y => ?_⟩
  obtain ⟨T, x, h1, h2, h3, h4⟩ := y
  exact ⟨T, x, h1, h2, h3, h4 vs q⟩
theorem walk_numT {K : PySem.W.Frag} {a : Addr} {vs : List V} : Walk (IteT K a) vs.length (fun H => SqT K H a vs) (YNum vs) := by
  refine ⟨fun i _ hi q => ⟨vs, vs[i], q, by simp [hi]⟩, fun _ q => ⟨vs, q, rfl⟩, fun i H v H' _ q y => ?_⟩
  obtain ⟨T, x, h1, h2, h3, h4⟩ := y
  exact ⟨T, x, h1, h2, h3, h4 vs q⟩
def enF (b : Nat) : List View → M (List D)
  | [w] => (frz b w).bind fun d => (seqF d).bind fun ds => M.pur (numbered 0 ds)
  | _ => M.no
theorem wEnum {elts : List Expr} {kk : Nat} {tpos : Pos} (hK : C.K = X.K) (hg : Gl X "enumerate") (hm : X.mg "enumerate" = none) (ha : PA X [e] (tAs C fs)) (hs : starEach [e] X.env = [(false, eval e X.env)] := by rfl) :
    PI X (.Tuple elts kk tpos) (.Call (.Name "enumerate" p) [e] [] pos) (tI C (fs.bind (enF C.b))) :=
  PI.imp (pi_enumA hg hm ha hs) fun σ H R0 ⟨F, own, g, k, q⟩ => ⟨F, own, g, k, (After.fst q).imp fun ws F1 own1 g1 H1 _ k1 f1 q1 vs hvs => by
    cases hvs with
    | nil => exact q1.elim
    | cons h1 t =>
      cases t with
      | cons _ _ => exact q1.elim
      | nil =>
        rename_i vv0 w0 ee0
        have q1 : After C σ F1 own1 H1 (((frz C.b w0).bind fun d => (seqF d).bind fun ds => M.pur (numbered 0 ds)) g1) _ := q1
        obtain ⟨d, g2, e2, q2⟩ := After.at_end (After.fst q1) fun _ _ => frz_no_er
        obtain ⟨F2, own2, k2, f2, hd⟩ := frz_ok k1 h1 e2
        have q3 : After C σ F2 own2 H1 (((seqF d).bind fun ds => M.pur (numbered 0 ds)) g2) _ := q2 F2 own2 H1 k2 f2
        unfold seqF at q3
        cases z : seqD d with
        | none =>
          simp only [z] at q3
          exact q3.elim
        | some pr =>
          obtain ⟨tup, ds⟩ := pr
          simp only [z] at q3
          obtain ⟨a, vs, h1, h2, h3⟩ := seqD_ok hd z
          have q4 := q3 F2 own2 H1 k2 Fr.refl
          refine ⟨a, by rw [h1], ?_⟩
          have hl := dpAll_len h3
          rcases h2.cases with y | y
          · exact .inl ⟨vs, hK ▸ k2.le.sqL y.1, hK ▸ q4 _ (itd_num (hl ▸ walk_numL) (fun H e => e.sqL y.1) h3)⟩
          · exact .inr ⟨vs, hK ▸ k2.le.sqT y.1, hK ▸ q4 _ (itd_num (hl ▸ walk_numT) (fun H e => e.sqT y.1) h3)⟩⟩

/-! ### for -/
def forD (ga : D → M Unit) (fb : M Out) : List D → M Out
  | [] => M.pur .nx
  | d :: ds => (noEr (ga d)).bind fun _ => fb.bind fun o => match o with
    | .nx => forD ga fb ds
    | .ct => forD ga fb ds
    | .bk => M.pur .nx
    | .rt v => M.pur (.rt v)
theorem noEr_ok {α : Type} {m : M α} {g : Sg} {z : α} {g' : Sg} (h : noEr m g = .ok (z, g')) : m g = .ok (z, g') := by
  unfold noEr at h
  cases e : m g with
  | ok p =>
    rw [e] at h
    exact h
  | er c d =>
    rw [e] at h
    cases h
  | no =>
    rw [e] at h
    cases h
theorem noEr_ne {α : Type} {m : M α} {g : Sg} {c : Str} {d : D} : noEr m g ≠ .er c d := by
  intro h
  unfold noEr at h
  cases e : m g with
  | ok p =>
    rw [e] at h
    cases h
  | er c d =>
    rw [e] at h
    cases h
  | no =>
    rw [e] at h
    cases h
theorem Cont.quiet {α β : Type} {σ : L2.St} {F H : Hp} {own : Addr → Option Nat} {g : Sg} {m : M α} {f : α → M β} {P : β → L2.St → Hp → (Addr → Option Nat) → Sg → Hp → Prop} (h : Cont C σ F own H (((noEr m).bind f) g) P) :
    ∃ a g', m g = .ok (a, g') ∧ ∀ σ' F' own' H', Ok C.K C.b F' own' g' σ' H' → Fr F own H F' own' H' → σ'[C.b]? = σ[C.b]? → Cont C σ' F' own' H' (f a g') P := by
  have q := Cont.fst h
  cases e : noEr m g with
  | ok p =>
    rw [e] at q
    exact ⟨p.1, p.2, noEr_ok e, q⟩
  | er c d => exact absurd e noEr_ne
  | no =>
    rw [e] at q
    exact q.elim
theorem yFor {iter : Expr} {body : List Stmt} {fi : M (List D)} {ga : D → M Unit} {fb : M Out} (hp : PassesOwn (model X.prog X.w) X.A X.env X.xe) (hc : X.calm = true) (hi : PI X tg iter (tI C fi)) (hg : PG X tg (tG C ga)) (hb : PSs X body (tS C fb))
    (hs : ∀ x, foldedSetIterable iter X.env x = pure x := by intro _; rfl) : PS X (.For tg iter body [] pos) (tS C (fi.bind fun ds => forD ga fb ds)) :=
  PS.imp (ps_for hp hc hi hg hb hs) fun D0 σ H ⟨F, own, g, k, q⟩ => ⟨F, own, g, k, (Cont.expr q).imp fun ds F1 own1 g1 H1 _ k1 f1 q1 J hJ => by
    obtain ⟨G, Y, w, hG, hY⟩ := hJ
    refine for_it w (fun i σ' H' => ∃ F' own' g', Ok C.K C.b F' own' g' σ' H' ∧ Le F1 F' ∧ Cont C σ' F' own' H' (forD ga fb (ds.drop i) g') fun o σ'' F'' _ _ H'' => OutR C D0 o σ'' F'' H'') ?_ ?_ ?_ ?_
    · exact ⟨F1, own1, g1, k1, Le.refl _, by rw [List.drop_zero]; exact q1⟩
    · rintro i σ' H' _ ⟨F', own', g', k', l', _⟩
      exact hG _ (l'.trans k'.le)
    · rintro i x σ2 H2 H3 hi2 ⟨F2, own2, g2, k2, l2, q2⟩ y
      have hdi : ds[i]? = some ds[i] := by simp [hi2]
      obtain ⟨F3, e1, e2, e3, e4, hd⟩ := hY i H2 x H3 ds[i] hdi (l2.trans k2.le) y F2 l2 k2.le
      have k3 := k2.grow e1 e3 e2 e4
      have fr3 : Fr F2 own2 H2 F3 own2 H3 := Fr.grow e1 e3 e4
      rw [List.drop_eq_getElem_cons hi2] at q2
      obtain ⟨_, g4, ez, q4⟩ := Cont.quiet (Cont.at_ q2 fr3 rfl)
      refine ⟨F3, own2, g2, ds[i], k3, hd, g4, ez, fun σ5 F5 own5 H5 k5 f5 hb5 => ⟨F5, own5, g4, k5, (Cont.fst (q4 σ5 F5 own5 H5 k5 f5 hb5)).imp fun o σ6 F6 own6 g6 H6 _ k6 f6 hb6 q6 => ?_⟩⟩
      have l6 : Le F1 F6 := l2.trans (e1.trans (f5.fl.trans f6.fl))
      cases o with
      | nx => exact ⟨F6, own6, g6, k6, l6, q6⟩
      | ct => exact ⟨F6, own6, g6, k6, l6, q6⟩
      | bk => exact q6 σ6 F6 own6 H6 k6 Fr.refl rfl
      | rt v => exact q6 σ6 F6 own6 H6 k6 Fr.refl rfl
    · rintro σ' H' ⟨F', own', g', k', l', q'⟩
      rw [List.drop_length] at q'
      exact q' σ' F' own' H' k' Fr.refl rfl⟩
end
end DL
set_option maxRecDepth 100000
set_option maxHeartbeats 4000000
/-! DL8: list comprehensions with any number of clauses: the loop of a clause, the whole. -/
namespace DL
open PySem PySem.Spec L2 PyProof.Rows

/-- one turn of a clause, its body told by what comes behind it -/
def clTurn (pp : Pos) (tg : Expr) (ifs : List Expr) (env : Env) (body : Sem PySem.Fin → Sem PySem.Fin) (it : Value) (c : Code) : Sem PySem.Fin := do
  standAt pp
  match ← pyNext it with
  | none => pure (.done .next)
  | some v =>
    letOwnedTupleGo tg it v
    assign tg env v
    let ok ← forIn ifs true fun t r => if r = true then do let ok ← isTrue t env (eval t env); pure (ForInStep.yield ok) else pure (ForInStep.yield r)
    if ok = true then body (again c) else again c
/-- the body of the last clause; of one ahead of another -/
def inPut (elt : Expr) (acc : Value) (env : Env) : Sem Unit := do
  let x ← eval elt env
  let _ ← call (.builtin "list.append") [acc, x]
def inBody (elt : Expr) (acc : Value) (env : Env) (kk : Sem PySem.Fin) : Sem PySem.Fin := do
  inPut elt acc env
  kk
def midBody (cmp : Expr) (n : Nat) (it1 : Expr) (acc : Value) (env : Env) (kk : Sem PySem.Fin) : Sem PySem.Fin := do
  let x ← eval it1 env
  standAt it1.pos
  let x ← foldedSetIterable it1 env x
  let y ← holding [x] (pyIter x)
  let _ ← runOwn (.compStart cmp n y acc env) env
  kk
section
variable {elt t0 i0 t1 i1 t2 i2 : Expr} {ifs0 ifs1 ifs2 : List Expr} {scope : Scope} {pos : Pos} {it acc : Value} {env : Env}
theorem turn1_0 : compTurn (.ListComp elt [⟨t0, i0, ifs0, 0⟩] scope pos) 0 it acc env = clTurn i0.pos t0 ifs0 env (inBody elt acc env) it (.compLoop (.ListComp elt [⟨t0, i0, ifs0, 0⟩] scope pos) 0 it acc env) := by rfl
theorem turn2_0 : compTurn (.ListComp elt [⟨t0, i0, ifs0, 0⟩, ⟨t1, i1, ifs1, 0⟩] scope pos) 0 it acc env = clTurn i0.pos t0 ifs0 env (midBody (.ListComp elt [⟨t0, i0, ifs0, 0⟩, ⟨t1, i1, ifs1, 0⟩] scope pos) 1 i1 acc env) it (.compLoop (.ListComp elt [⟨t0, i0, ifs0, 0⟩, ⟨t1, i1, ifs1, 0⟩] scope pos) 0 it acc env) := by rfl
theorem turn2_1 : compTurn (.ListComp elt [⟨t0, i0, ifs0, 0⟩, ⟨t1, i1, ifs1, 0⟩] scope pos) 1 it acc env = clTurn i1.pos t1 ifs1 env (inBody elt acc env) it (.compLoop (.ListComp elt [⟨t0, i0, ifs0, 0⟩, ⟨t1, i1, ifs1, 0⟩] scope pos) 1 it acc env) := by rfl
theorem turn3_0 : compTurn (.ListComp elt [⟨t0, i0, ifs0, 0⟩, ⟨t1, i1, ifs1, 0⟩, ⟨t2, i2, ifs2, 0⟩] scope pos) 0 it acc env = clTurn i0.pos t0 ifs0 env (midBody (.ListComp elt [⟨t0, i0, ifs0, 0⟩, ⟨t1, i1, ifs1, 0⟩, ⟨t2, i2, ifs2, 0⟩] scope pos) 1 i1 acc env) it (.compLoop (.ListComp elt [⟨t0, i0, ifs0, 0⟩, ⟨t1, i1, ifs1, 0⟩, ⟨t2, i2, ifs2, 0⟩] scope pos) 0 it acc env) := by rfl
theorem turn3_1 : compTurn (.ListComp elt [⟨t0, i0, ifs0, 0⟩, ⟨t1, i1, ifs1, 0⟩, ⟨t2, i2, ifs2, 0⟩] scope pos) 1 it acc env = clTurn i1.pos t1 ifs1 env (midBody (.ListComp elt [⟨t0, i0, ifs0, 0⟩, ⟨t1, i1, ifs1, 0⟩, ⟨t2, i2, ifs2, 0⟩] scope pos) 2 i2 acc env) it (.compLoop (.ListComp elt [⟨t0, i0, ifs0, 0⟩, ⟨t1, i1, ifs1, 0⟩, ⟨t2, i2, ifs2, 0⟩] scope pos) 1 it acc env) := by rfl
theorem turn3_2 : compTurn (.ListComp elt [⟨t0, i0, ifs0, 0⟩, ⟨t1, i1, ifs1, 0⟩, ⟨t2, i2, ifs2, 0⟩] scope pos) 2 it acc env = clTurn i2.pos t2 ifs2 env (inBody elt acc env) it (.compLoop (.ListComp elt [⟨t0, i0, ifs0, 0⟩, ⟨t1, i1, ifs1, 0⟩, ⟨t2, i2, ifs2, 0⟩] scope pos) 2 it acc env) := by rfl
end
/-- a later clause's start -/
theorem start_more {prog : Program} {w : World} {A : Around} {R : Result → Shared → Prop} {s : Shared} {elt : Expr} {gs : List Comprehension} {scope : Scope} {pos : Pos} {n : Nat} {it acc : Value} {env : Env} {t1 i1 : Expr} {ifs1 : List Expr} (hc : (clausesOf (.ListComp elt gs scope pos))[n]? = some ⟨t1, i1, ifs1, 0⟩)
    (h0 : codeAny (model prog w) A (.compLoop (.ListComp elt gs scope pos) n it acc env) R s)
    (h : wpAny (model prog w) A (pyIter it) (fun it' s' => codeAny (model prog w) A (.compLoop (.ListComp elt gs scope pos) n it' acc env) R s') (notedBy (model prog w) A env fun x s' => R (.error x) s') s) :
    codeAny (model prog w) A (.compStart (.ListComp elt gs scope pos) n it acc env) R s := by
  refine codeAny_of_tree ?_
  show wpAny _ _ ((compStart (.ListComp elt gs scope pos) n it acc env).onRaise fun x => do noteFrame x env; standAt theWindowsPlace) _ _ s
  refine wpAny_notedAt ?_
  unfold compStart
  rw [hc]
  show wpAny _ _ (ask >>= _) _ _ s
  refine wpAny_bind (wpAny_askSetting (wpAny_ite ?_))
  split
  · first
      | exact wpAny_bind (wpAny_pure (wpAny_pure ⟨rfl, h0⟩))
      | exact wpAny_pure ⟨rfl, h0⟩
  · refine wpAny_bind (wpAny_rule ?_)
    show wpAny _ _ (standAt i1.pos >>= _) _ _ s
    exact wpAny_bind (wpAny_standAt (wpAny_bind (wpAny_mono h (fun it' s' h' => wpAny_pure ⟨rfl, h'⟩) fun _ _ x => x)))

/-- what the body of a clause does: it ends with the slots told but for those at vs -/
structure PBo (X : Cx) (body : Sem PySem.Fin → Sem PySem.Fin) (vs : List Nat) (t : L2.St → Hp → (Hp → Prop) → Prop) : Prop where
  run : ∀ (pins : List (Addr × Obj)) (s : Shared) (σ : L2.St) (H : Hp) (Nx : Hp → Prop) (kk : Sem PySem.Fin) (R : PySem.Fin → Shared → Prop) (E : Value → Shared → Prop), Inv X pins σ H s → t σ H Nx →
    (∀ s' H', Inv X pins (wipe σ vs) H' s' → Nx H' → wpAny (model X.prog X.w) X.A kk R E s') → wpAny (model X.prog X.w) X.A (body kk) R E s
section
variable {X : Cx}
theorem thnX {α : Type} {t : Sem α} {Q Q' : α → Shared → Prop} {E : Value → Shared → Prop} {s : Shared} (hx : X.xe = fun _ _ => False) (h : wpAny (model X.prog X.w) X.A t Q X.xe s) (hQ : ∀ a s, Q a s → Q' a s) : wpAny (model X.prog X.w) X.A t Q' E s :=
  wpAny_mono h hQ fun _ _ z => by
    rw [hx] at z
    exact z.elim
/-- the last clause's body -/
def tPut (D : Addr) (te : TE) : L2.St → Hp → (Hp → Prop) → Prop := fun σ H Nx => te σ H fun y H4 => ∃ acc, H4 D = some (.lst acc) ∧ acc.length < sizeLine ∧ Nx (upd H4 D (.lst (acc ++ [y])))
theorem bo_last {elt : Expr} {te : TE} {D : Addr} (hx : X.xe = fun _ _ => False) (he : PE X elt te) : PBo X (inBody elt (.ref D) X.env) [] (tPut D te) := by
  refine ⟨fun pins s σ H Nx kk R E I h next => ?_⟩
  unfold inBody inPut
  refine wpAny_bind (wpAny_bind (thnX hx (he.run pins s σ H _ I h) fun u s1 q => ?_))
  obtain ⟨x, H1, I1, r1, acc, hD, hz, n1⟩ := q
  exact wpAny_bind (app_ok I1 hD hz r1 fun s2 I2 => wpAny_pure (next s2 _ I2 n1))
/-- a clause's loop, by an invariant W of the turn and a measure -/
def tLp (J : It) (ga : TG) (tt : TT) (tb : L2.St → Hp → (Hp → Prop) → Prop) (vs : List Nat) (σ : L2.St) (H1 : Hp) (Nx : Hp → Prop) : Prop := ∃ W : Nat → Nat → Hp → Prop, (∃ m, W 0 m H1) ∧ ∀ i m H, W i m H →
  (J.stop i H ∧ Nx H) ∨ (J.go i H ∧ ∃ N : Hp → Prop, (∀ H', N H' → ∃ m', m' < m ∧ W (i + 1) m' H') ∧ ∀ x H', J.yld i H x H' → ga x (wipe σ vs) H' fun σ2 H2 => wipe σ2 vs = wipe σ vs ∧ tt σ2 H2 fun b H3 => if b = true then tb σ2 H3 N else N H3)
theorem wipe_sub {σ : L2.St} {vs vs' : List Nat} (h : ∀ i ∈ vs', i ∈ vs) {i : Nat} {v : V} (e : (wipe σ vs)[i]? = some (some v)) : (wipe σ vs')[i]? = some (some v) := by
  obtain ⟨h1, h2⟩ := wipe_some e
  rw [wipe_out fun z => h2 (h i z)]
  exact h1
theorem cl_loop {elt : Expr} {gs : List Comprehension} {scope : Scope} {pos : Pos} {n : Nat} {pp : Pos} {tg : Expr} {ifs : List Expr} {body : Sem PySem.Fin → Sem PySem.Fin} {acc : Value} {ga : TG} {tt : TT} {tb : L2.St → Hp → (Hp → Prop) → Prop} {vs vs' : List Nat} {it : Addr} {fp : List Addr} {tn : Nat → Heap → Prop} {J : It} {pins : List (Addr × Obj)} {σ : L2.St} {H : Hp} {s : Shared} {Nx : Hp → Prop} {R : Result → Shared → Prop}
    (hx : X.xe = fun _ _ => False) (hc : X.calm = true) (hE : compTurn (.ListComp elt gs scope pos) n (.ref it) acc X.env = clTurn pp tg ifs X.env body (.ref it) (.compLoop (.ListComp elt gs scope pos) n (.ref it) acc X.env))
    (hg : PG X tg ga) (ht : PTs X ifs tt) (hb : PBo X body vs' tb) (sub : ∀ i ∈ vs', i ∈ vs) (T : Turn X.prog X.w X.K tg J fp it tn) (stat : ∀ H' : Hp, (∀ b ∈ fp, H' b = none) → ∀ b ∈ fp, FpOk X pins H' b)
    (hR : ∀ s' H', Inv X pins (wipe σ vs) H' s' → Nx H' → R (.ok .next) s') (I : Inv X pins (wipe σ vs) H s) (st : tn 0 s.heap) (fr : ∀ b ∈ fp, H b = none) (w : tLp J ga tt tb vs σ H Nx) :
    codeAny (model X.prog X.w) X.A (.compLoop (.ListComp elt gs scope pos) n (.ref it) acc X.env) R s := by
  obtain ⟨W, ⟨m0, w0⟩, turn⟩ := w
  refine codeAny_loop rfl (fun m s' => ∃ i H', Inv X pins (wipe σ vs) H' s' ∧ tn i s'.heap ∧ (∀ b ∈ fp, H' b = none) ∧ W i m H') (fun m s1 h1 => ?_) m0 ⟨0, H, I, st, fr, w0⟩
  obtain ⟨i, H1, I1, st1, fr1, w1⟩ := h1
  show wpAny _ X.A ((compTurn (.ListComp elt gs scope pos) n (.ref it) acc X.env).onRaise fun x => do noteFrame x X.env; theTreesLotGoes x) _ _ s1
  refine wpAny_noted ?_
  rw [hE]
  unfold clTurn
  refine wpAny_bind (wpAny_standAt (wpAny_bind ?_))
  rcases turn i m H1 w1 with ⟨stop, q⟩ | ⟨go, N, hN, step⟩
  · refine thnF (T.done X rfl rfl rfl hc i pins s1 _ H1 (fun _ _ => False) I1 (stat H1 fr1) st1 stop) fun r s2 h2 => ?_
    obtain ⟨rfl, I2⟩ := h2
    exact wpAny_pure (hR s2 H1 I2 q)
  · refine thnF (T.item X rfl rfl rfl hc i pins s1 _ H1 (fun _ _ => False) I1 (stat H1 fr1) st1 go) fun r s2 h2 => ?_
    obtain ⟨u, rfl, h3⟩ := h2
    refine wpAny_bind (thnF h3 fun _ s3 h4 => ?_)
    obtain ⟨x, H3, I3, r3, y3, st3, fr3⟩ := h4
    refine wpAny_bind (thnX hx (hg.run _ s3 _ H3 x u _ (I3.pinned (stat H3 fr3) (T.obj _ _ st3)) r3 (step x H3 y3)) fun _ s4 h5 => ?_)
    obtain ⟨σ4, H4, I4, e4, q4⟩ := h5
    refine wpAny_bind (thnX hx (ht.run _ s4 σ4 H4 _ I4 q4) fun b s5 h6 => ?_)
    obtain ⟨H5, I5, q5⟩ := h6
    have fin : ∀ {σ' : L2.St} {s' : Shared} {H' : Hp}, Inv X (pins ++ pinsAt fp s3.heap) σ' H' s' → σ'.length = σ4.length → (∀ (j : Nat) v, (wipe σ vs)[j]? = some (some v) → σ'[j]? = some (some v)) → N H' →
        ∃ m', m' < m ∧ ∃ i' H'', Inv X pins (wipe σ vs) H'' s' ∧ tn i' s'.heap ∧ (∀ b ∈ fp, H'' b = none) ∧ W i' m' H'' := fun {σ' s' H'} I' hl hk nx => by
      obtain ⟨m', hm, w'⟩ := hN H' nx
      have at' : ∀ b ∈ fp, ∀ o, s3.heap.get? b = some o → s'.heap.get? b = some o ∧ H' b = none := fun b hb o e =>
        have z := I'.pin (b, o) (List.mem_append_right _ (List.mem_append_right _ (mem_pinsAt hb e)))
        ⟨z.1, z.2.1⟩
      refine ⟨m', hm, i + 1, H', I'.unpinned.weak ?_ hk, T.keep _ _ _ st3 fun b hb o e => (at' b hb o e).1, fun b hb => ?_, w'⟩
      · rw [hl, ← e4, wipe_length]
      · obtain ⟨o, e, _⟩ := T.obj _ _ st3 b hb
        exact (at' b hb o e).2
    have hk4 : ∀ (j : Nat) v, (wipe σ vs)[j]? = some (some v) → σ4[j]? = some (some v) := fun j v e => by
      rw [← e4] at e
      exact (wipe_some e).1
    cases b with
    | false =>
      rw [if_neg Bool.false_ne_true]
      exact wpAny_pure ⟨rfl, fin I5 rfl hk4 q5⟩
    | true =>
      rw [if_pos rfl]
      exact hb.run _ s5 σ4 H5 N _ _ _ I5 q5 fun s6 H6 I6 n6 => wpAny_pure ⟨rfl, fin I6 (wipe_length _ _) (fun j v e => by
        rw [← e4] at e
        exact wipe_sub sub e) n6⟩
/-- a clause behind another -/
def tCl (wi : TI) (ga : TG) (tt : TT) (tb : L2.St → Hp → (Hp → Prop) → Prop) (vs : List Nat) : L2.St → Hp → (Hp → Prop) → Prop := fun σ H Nx => wi σ H fun J H1 => tLp J ga tt tb vs σ H1 Nx
theorem bo_mid {elt : Expr} {gs : List Comprehension} {scope : Scope} {pos : Pos} {n : Nat} {pp : Pos} {tg it1 : Expr} {ifs : List Expr} {body : Sem PySem.Fin → Sem PySem.Fin} {acc : Value} {wi : TI} {ga : TG} {tt : TT} {tb : L2.St → Hp → (Hp → Prop) → Prop} {vs vs' : List Nat}
    (hx : X.xe = fun _ _ => False) (hc : X.calm = true) (hE : ∀ it, compTurn (.ListComp elt gs scope pos) n (.ref it) acc X.env = clTurn pp tg ifs X.env body (.ref it) (.compLoop (.ListComp elt gs scope pos) n (.ref it) acc X.env)) (hcl : (clausesOf (.ListComp elt gs scope pos))[n]? = some ⟨tg, it1, ifs, 0⟩)
    (hi : PI X tg it1 wi) (hg : PG X tg ga) (ht : PTs X ifs tt) (hb : PBo X body vs' tb) (sub : ∀ i ∈ vs', i ∈ vs) (hs : ∀ x, foldedSetIterable it1 X.env x = pure x) : PBo X (midBody (.ListComp elt gs scope pos) n it1 acc X.env) vs (tCl wi ga tt tb vs) := by
  refine ⟨fun pins s σ H Nx kk R E I h next => ?_⟩
  unfold midBody
  refine wpAny_bind (thnX hx (hi.run pins s σ H _ I h) fun xv s1 h1 => wpAny_bind (wpAny_standAt (wpAny_bind (wpAny_of_eq (hs xv) (wpAny_bind (wpAny_holding (thnX hx h1 fun itv s2 h2 => ?_)))))))
  obtain ⟨it, fp, tn, J, H2, rfl, I2, T, st2, f2, q⟩ := h2
  refine wpAny_bind (wpAny_runOwn ?_)
  rw [Around.mark_none]
  have lp : ∀ s3, s3 = s2 → codeAny (model X.prog X.w) X.A (.compLoop (.ListComp elt gs scope pos) n (.ref it) acc X.env) (fun r s' => match r with
      | .ok _ => ∃ H', Inv X pins (wipe σ vs) H' s' ∧ Nx H'
      | .error _ => False) s3 := fun s3 e3 => by
    subst e3
    exact cl_loop hx hc (hE it) hg ht hb sub T (fun H' hn b hb => ⟨hn b hb, (f2 b hb).2⟩) (fun s' H' I' n' => ⟨H', I', n'⟩) (I2.weak (wipe_length _ _) fun j v e => (wipe_some e).1) st2 (fun b hb => (f2 b hb).1) q
  refine codeAny_mono (start_more hcl (lp s2 rfl) (T.self X.A 0 _ _ _ st2 (lp s2 rfl))) fun r s' hr => ?_
  cases r with
  | ok f =>
    obtain ⟨H', I', n'⟩ := hr
    exact next s' H' I' n'
  | error e => exact hr.elim
end
end DL
set_option maxRecDepth 100000
set_option maxHeartbeats 4000000
/-! DL9: a whole list comprehension, as a value and stored under a name on its own line. -/
namespace DL
open PySem PySem.Spec L2 PyProof.Rows
/-- ga: the first target's store; tb: what the first clause's body does, told the new list -/
def tCmp (wi : TI) (ga : TG) (tt : TT) (tb : Addr → L2.St → Hp → (Hp → Prop) → Prop) (vs : List Nat) : TE := fun σ H Q => wi σ H fun J H1 => ∀ D, H1 D = none → tLp J ga tt (tb D) vs σ (upd H1 D (.lst [])) (Q (.ref D))
/-- what holds in a comprehension's block -/
structure CmpOk (X : Cx) (scope : Scope) (own : List (Str × Nat)) (elt tg iter : Expr) (ifs : List Expr) (rest : List Comprehension) (pos : Pos) (wi : TI) (ga : TG) (tt : TT) (tb : Addr → L2.St → Hp → (Hp → Prop) → Prop) : Prop where
  calm : X.calm = true
  nodup : X.N.Nodup
  src : PI X tg iter wi
  blk : BlkOk X.N X.env.scope scope own
  fold : ∀ x, foldedSetIterable iter X.env x = pure x
  ins : ∀ (s : Shared) (H : Hp) (Ca : Addr) (cl : List (Str × Addr)) (fp : List Addr), PG (X.blk s H scope (compEnvC scope cl Ca X.env) fp) tg ga ∧ PTs (X.blk s H scope (compEnvC scope cl Ca X.env) fp) ifs tt ∧
    ∀ D, ∃ (body : Sem PySem.Fin → Sem PySem.Fin) (vs' : List Nat), (∀ i ∈ vs', i ∈ own.map (·.2)) ∧ PBo (X.blk s H scope (compEnvC scope cl Ca X.env) fp) body vs' (tb D) ∧
      ∀ it, compTurn (.ListComp elt (⟨tg, iter, ifs, 0⟩ :: rest) scope pos) 0 (.ref it) (.ref D) (compEnvC scope cl Ca X.env) = clTurn iter.pos tg ifs (compEnvC scope cl Ca X.env) body (.ref it) (.compLoop (.ListComp elt (⟨tg, iter, ifs, 0⟩ :: rest) scope pos) 0 (.ref it) (.ref D) (compEnvC scope cl Ca X.env))
section
variable {X : Cx} {scope : Scope} {own : List (Str × Nat)} {elt tg iter : Expr} {ifs : List Expr} {rest : List Comprehension} {pos : Pos} {wi : TI} {ga : TG} {tt : TT} {tb : Addr → L2.St → Hp → (Hp → Prop) → Prop}
theorem cmp_run {pins : List (Addr × Obj)} {s : Shared} {σ : L2.St} {H : Hp} {Q : VK} {pos' : Pos} {use : Option (Value → Sem Unit)} {Qf : Value → Shared → Prop} (c : CmpOk X scope own elt tg iter ifs rest pos wi ga tt tb) (I : Inv X pins σ H s)
    (h : tCmp wi ga tt tb (own.map (·.2)) σ H Q)
    (back : ∀ L B s' m H', Inv X pins σ H' s' → Q (.ref L) H' → s'.heap.Ns B m → FpOk X pins H' B → compPost (model X.prog X.w) X.A X.xe use Qf (.ref L) B (.ok .next) s') :
    wpAny (model X.prog X.w) X.A (comprehension (.ListComp elt (⟨tg, iter, ifs, 0⟩ :: rest) scope pos) scope X.env pos' (newList []) false (eval iter X.env) use) Qf X.xe s := by
  have taken : ∀ y ∈ scope.names, y.2 = NameKind.free → ∃ a, X.env.cells.lookup y.1 = some a := fun y hy e => by
    rcases c.blk.free y hy e with z | z
    · exact I.ok.has _ (Or.inl z)
    · exact I.ok.has _ (Or.inr z)
  refine wpAny_comprehension_free (use := use) rfl c.fold (closure_ok taken) c.blk.kind (fun y hy e => (c.blk.uniq y hy).trans (by rw [e])) ?_
  refine thn (c.src.run pins s σ H _ I h) fun xv s1 h1 => thn h1 fun itv s2 h2 => ?_
  obtain ⟨it, fp, tn, J, H2, rfl, I2, T, st2, f2, q⟩ := h2
  refine wpAny_newObj_type (newEnv_comp ?_) (Nat.zero_le _)
  have hnew : H2 s2.heap.objs.size = none := I2.hok.fresh (Nat.le_refl _)
  have w := q s2.heap.objs.size hnew
  generalize hL : s2.heap.objs.size = L at w hnew ⊢
  -- the list is laid
  generalize e3 : ({ s2 with heap := s2.heap.push { cls := .type "list", data := .seq ([] : List Value).toArray } } : Shared) = s3
  have p3 : s3.heap = s2.heap.push { cls := .type "list", data := .seq ([] : List Value).toArray } := by rw [← e3]
  have I3 : Inv X pins σ (upd H2 L (.lst [])) s3 := by
    rw [← e3]
    refine I2.laid (t' := s2.toks) (fun b o e => Heap.get?_push_of_some _ e) (Nat.le_of_eq hL) ⟨Nat.zero_le _, [], 0, .nil, ?_⟩
    rw [← hL]
    exact Heap.get?_push_size _ rfl
  have small : ∀ b ∈ fp, b < s2.heap.objs.size := fun b hb => by
    obtain ⟨o, e, _⟩ := T.obj _ _ st2 b hb
    exact Heap.lt_size e
  have f3 : ∀ b ∈ fp, FpOk X pins (upd H2 L (.lst [])) b ∧ b < s3.heap.objs.size := fun b hb => by
    have z := small b hb
    refine ⟨⟨?_, (f2 b hb).2⟩, by rw [p3, Heap.size_push]; exact Nat.lt_succ_of_lt z⟩
    rw [upd_ne (by rw [← hL]; exact Nat.ne_of_lt z)]
    exact (f2 b hb).1
  have st3 : tn 0 s3.heap := T.keep _ _ _ st2 fun b _ o e => by
    rw [p3]
    exact Heap.get?_push_of_some _ e
  have I4 := block_start I3 c.blk c.nodup f3
  obtain ⟨pg, pt, pb⟩ := c.ins s3 (upd H2 L (.lst [])) s3.heap.objs.size (cellsFrom (s3.heap.objs.size + 1) scope.names (cloFrom X.env.cells scope.names [])) fp
  obtain ⟨body, vs', sub, pbo, hE⟩ := pb L
  have none3 : ∀ b ∈ fp, (upd H2 L (.lst [])) b = none := fun b hb => (f3 b hb).1.1
  show codeAny _ _ (.compStart (.ListComp elt (⟨tg, iter, ifs, 0⟩ :: rest) scope pos) 0 (.ref it) (.ref L) (compEnvC scope (cellsFrom (s3.heap.objs.size + 1) scope.names (cloFrom X.env.cells scope.names [])) s3.heap.objs.size X.env)) (compPost (model X.prog X.w) X.A X.xe use Qf (.ref L) s3.heap.objs.size)
    { s3 with heap := pushCells (s3.heap.push { cls := .type "dict", data := .dict #[] }) scope.names }
  generalize hce : compEnvC scope (cellsFrom (s3.heap.objs.size + 1) scope.names (cloFrom X.env.cells scope.names [])) s3.heap.objs.size X.env = ce at I4 pg pt pbo hE ⊢
  have locs : ce.locals = s3.heap.objs.size := by
    subst hce
    rfl
  generalize eH3 : upd H2 L (.lst []) = H3 at I3 I4 pg pt pbo w none3 f3
  generalize e4 : ({ s3 with heap := pushCells (s3.heap.push { cls := .type "dict", data := .dict #[] }) scope.names } : Shared) = s4 at I4 ⊢
  have st4 : tn 0 s4.heap := T.keep _ _ _ st3 fun b _ o e => by
    rw [← e4]
    exact pushCells_keeps _ _ _ _ (Heap.get?_push_of_some _ e)
  have stat : ∀ H' : Hp, (∀ b ∈ fp, H' b = none) → ∀ b ∈ fp, FpOk (X.blk s3 H3 scope ce fp) [] H' b := fun H' hn b hb =>
    ⟨hn b hb, (I4.ok.exf b hb).1, I4.ok.exfs b hb, Or.inl hb, fun x a e => (I4.ok.exf b hb).2 x a e, fun p hp => by simp at hp⟩
  have loop : codeAny (model X.prog X.w) X.A (.compLoop (.ListComp elt (⟨tg, iter, ifs, 0⟩ :: rest) scope pos) 0 (.ref it) (.ref L) ce) (compPost (model X.prog X.w) X.A X.xe use Qf (.ref L) s3.heap.objs.size) s4 := by
    refine cl_loop (X := X.blk s3 H3 scope ce fp) (pins := []) rfl c.calm (hE it) pg pt pbo sub T stat (fun s6 H6 I6 q6 => ?_) I4 st4 none3 w
    have I7 : Inv X pins σ H6 s6 := I3.call' (ch := fp) I6.os I6.base I6.hok I6.bare fun b hb => ⟨(f3 b hb).1.2.2.2.1, (f3 b hb).1.2.1, (f3 b hb).1.2.2.2.2.1, (f3 b hb).1.2.2.2.2.2⟩
    have free6 : H6 ce.locals = none := I6.free
    obtain ⟨m, hn, _⟩ := I6.loc
    have hn : s6.heap.Ns ce.locals m := hn
    rw [locs] at hn free6
    exact back L s3.heap.objs.size s6 m H6 I7 q6 hn (I3.fpOk (Nat.le_refl _) free6)
  exact codeAny_compStart_list loop (T.self X.A 0 _ _ _ st4 loop)
theorem pe_cmp (c : CmpOk X scope own elt tg iter ifs rest pos wi ga tt tb) : PE X (.ListComp elt (⟨tg, iter, ifs, 0⟩ :: rest) scope pos) (tCmp wi ga tt tb (own.map (·.2))) := by
  refine ⟨fun pins s σ H Q I h => ?_⟩
  rw [eval_ListComp]
  refine cmp_run c I h fun L B s' m H' I' q hn f => ⟨m, hn, fun h'' sb => ?_⟩
  obtain ⟨f0, f1, f2, f3, f4, f5⟩ := f
  exact ⟨.ref L, H', I'.turned (t' := s'.toks) (fun b o hb e => (sb.2 b hb).trans e) f0 f1 f3 f4 f5, rfl, q⟩
/-- y = [..], both on one line -/
theorem ps_setCmp {i : Nat} {y : Str} {py spos : Pos} (hy : X.N[i]? = some y) (hl : X.env.scope.names.lookup y = some .local) (hw : swapsWith (.ListComp elt (⟨tg, iter, ifs, 0⟩ :: rest) scope pos) (some (.Name y py)) spos.line X.env = pure true)
    (c : CmpOk X scope own elt tg iter ifs rest pos wi ga tt tb) : PS X (.Assign [.Name y py] (.ListComp elt (⟨tg, iter, ifs, 0⟩ :: rest) scope pos) spos) (tAsg (tCmp wi ga tt tb (own.map (·.2))) (gName i)) := by
  refine ⟨fun pins s σ H D I h => ?_⟩
  rw [exec_Assign_Name_used _ _ _ _ hw]
  refine wpAny_bind (wpAny_standAt (wpAny_bind ?_))
  show wpAny _ X.A (do let _ ← comprehension (.ListComp elt (⟨tg, iter, ifs, 0⟩ :: rest) scope pos) scope X.env (firstIterPos (⟨tg, iter, ifs, 0⟩ :: rest) pos) (newList []) false (eval iter X.env) (some (assign (.Name y py) X.env))) _ _ s
  have h' : tCmp wi ga tt tb (own.map (·.2)) σ H (fun x H1 => gName i x σ H1 D.nx) := h
  refine wpAny_bind (thn (cmp_run (Qf := fun _ s' => SP X pins D .next s') c I h' fun L B s' m H' I' q hn f => ?_) fun _ s' hq => wpAny_pure (wpAny_pure hq))
  show wpAny _ _ (assign (.Name y py) X.env (.ref L)) _ _ _
  refine wpAny_assign_Name (store_ok2 (v := V.ref L) I' c.nodup hy (Or.inl hl) rfl (fun s2 I2 st => ?_) (Or.inr hl))
  obtain ⟨a, sb, ha⟩ := st
  obtain ⟨f0, f1, f2, f3, f4, f5⟩ := f
  have apart : B ≠ a := by
    rcases ha with z | z
    · rw [z]
      exact f1
    · exact fun e => f4 y a z e.symm
  exact ⟨m, hn.sameBut sb apart, fun h3 sb3 => ⟨_, H', I2.turned (t' := s2.toks) (fun b o hb e => (sb3.2 b hb).trans e) f0 f1 f3 f4 f5, q⟩⟩
end
end DL
set_option maxRecDepth 100000
set_option maxHeartbeats 4000000
/-! DL10: comprehensions by data. -/
namespace DL
open PySem PySem.Spec L2 PyProof.Rows

/-! ### slots forgotten, and known again -/
def clrE (es : List Ent) : List Nat → List Ent
  | [] => es
  | v :: vs => (clrE es vs).set v .un
def resE (e0 es : List Ent) : List Nat → List Ent
  | [] => es
  | v :: vs => (resE e0 es vs).set v (e0[v]?.getD .un)
theorem clrE_len (es : List Ent) : ∀ vs, (clrE es vs).length = es.length
  | [] => rfl
  | v :: vs => by
    unfold clrE
    rw [List.length_set, clrE_len es vs]
theorem resE_len (e0 es : List Ent) : ∀ vs, (resE e0 es vs).length = es.length
  | [] => rfl
  | v :: vs => by
    unfold resE
    rw [List.length_set, resE_len e0 es vs]
theorem clrE_out (es : List Ent) {i : Nat} : ∀ {vs : List Nat}, i ∉ vs → (clrE es vs)[i]? = es[i]?
  | [], _ => rfl
  | v :: vs, h => by
    simp only [List.mem_cons, not_or] at h
    unfold clrE
    rw [List.getElem?_set_ne (Ne.symm h.1)]
    exact clrE_out es h.2
theorem clrE_in (es : List Ent) {i : Nat} {e : Ent} : ∀ {vs : List Nat}, i ∈ vs → (clrE es vs)[i]? = some e → e = .un
  | v :: vs, h, q => by
    unfold clrE at q
    by_cases z : v = i
    · subst z
      have hl : v < (clrE es vs).length := by
        have := (List.getElem?_eq_some_iff.mp q).1
        simpa using this
      rw [List.getElem?_set_self hl] at q
      cases q
      rfl
    · rw [List.getElem?_set_ne z] at q
      rcases List.mem_cons.mp h with y | y
      · exact absurd y.symm z
      · exact clrE_in es y q
theorem resE_out (e0 es : List Ent) {i : Nat} : ∀ {vs : List Nat}, i ∉ vs → (resE e0 es vs)[i]? = es[i]?
  | [], _ => rfl
  | v :: vs, h => by
    simp only [List.mem_cons, not_or] at h
    unfold resE
    rw [List.getElem?_set_ne (Ne.symm h.1)]
    exact resE_out e0 es h.2
theorem resE_in (e0 es : List Ent) {i : Nat} {e : Ent} : ∀ {vs : List Nat}, i ∈ vs → (resE e0 es vs)[i]? = some e → e = e0[i]?.getD .un
  | v :: vs, h, q => by
    unfold resE at q
    by_cases z : v = i
    · subst z
      have hl : v < (resE e0 es vs).length := by
        have := (List.getElem?_eq_some_iff.mp q).1
        simpa using this
      rw [List.getElem?_set_self hl] at q
      cases q
      rfl
    · rw [List.getElem?_set_ne z] at q
      rcases List.mem_cons.mp h with y | y
      · exact absurd y.symm z
      · exact resE_in e0 es y q
def clr (vs : List Nat) : M Unit := fun g => .ok ((), { g with es := clrE g.es vs })
/-- what the block's names hold is data, or nothing -/
def keepable (g : Sg) (vs : List Nat) : Bool := vs.all fun i => match g.es[i]? with
  | some .un => true
  | some (.im _) => true
  | none => true
  | _ => false
theorem wipe_in {σ : L2.St} {i : Nat} {v : Option V} : ∀ {vs : List Nat}, i ∈ vs → (wipe σ vs)[i]? = some v → v = none
  | w :: vs, h, q => by
    unfold wipe at q
    by_cases z : w = i
    · subst z
      have hl : w < (wipe σ vs).length := by
        have := (List.getElem?_eq_some_iff.mp q).1
        simpa using this
      rw [List.getElem?_set_self hl] at q
      cases q
      rfl
    · rw [List.getElem?_set_ne z] at q
      rcases List.mem_cons.mp h with y | y
      · exact absurd y.symm z
      · exact wipe_in y q
theorem wipe_ext {σ σ' : L2.St} {vs : List Nat} (hl : σ'.length = σ.length) (h : ∀ i, i ∉ vs → σ'[i]? = σ[i]?) : wipe σ' vs = wipe σ vs := by
  refine List.ext_getElem? fun i => ?_
  by_cases hi : i ∈ vs
  · cases h1 : (wipe σ' vs)[i]? with
    | none =>
      have l1 := List.getElem?_eq_none_iff.mp h1
      rw [wipe_length] at l1
      exact (List.getElem?_eq_none (by rw [wipe_length]; omega)).symm
    | some v =>
      have l1 := (List.getElem?_eq_some_iff.mp h1).1
      rw [wipe_length] at l1
      have l2 : i < (wipe σ vs).length := by rw [wipe_length]; omega
      have h2 := List.getElem?_eq_getElem l2
      rw [h2, wipe_in hi h1, wipe_in hi h2]
  · rw [wipe_out hi, wipe_out hi, h i hi]
theorem wipe_wipe (σ : L2.St) (vs : List Nat) : wipe (wipe σ vs) vs = wipe σ vs := wipe_ext (wipe_length σ vs) fun _ h => wipe_out h
section
variable {K : PySem.W.Frag} {b : Nat} {F F' H H' : Hp} {own own' : Addr → Option Nat} {g g' : Sg} {σ : L2.St} {vs : List Nat}
theorem Ok.clr (k : Ok K b F own g σ H) (hb : b ∉ vs) : Ok K b F own { g with es := clrE g.es vs } (wipe σ vs) H where
  len := by
    show (clrE g.es vs).length = _
    rw [clrE_len, wipe_length]
    exact k.len
  le := k.le
  apart := k.apart
  there := k.there
  sl := fun i e v h1 h2 => by
    have h1 : (clrE g.es vs)[i]? = some e := h1
    by_cases z : i ∈ vs
    · rw [clrE_in _ z h1]
      exact True.intro
    · rw [clrE_out _ z] at h1
      rw [wipe_out z] at h2
      exact k.sl i e v h1 h2
  bx := fun ds h => by
    obtain ⟨h0, a, us, h1, h2⟩ := k.bx ds h
    exact ⟨by show (clrE g.es vs)[b]? = _; rw [clrE_out _ hb]; exact h0, a, us, by rw [wipe_out hb]; exact h1, h2⟩
  tb := k.tb
theorem Ok.res {g0 : Sg} {F0 H0 : Hp} {own0 : Addr → Option Nat} (k0 : Ok K b F0 own0 g0 σ H0) (k : Ok K b F own g (wipe σ vs) H) (hb : b ∉ vs) (hk : keepable g0 vs = true) (e : Le F0 F) : Ok K b F own { g with es := resE g0.es g.es vs } σ H where
  len := by
    show (resE g0.es g.es vs).length = _
    rw [resE_len, ← wipe_length σ vs]
    exact k.len
  le := k.le
  apart := k.apart
  there := k.there
  sl := fun i en v h1 h2 => by
    have h1 : (resE g0.es g.es vs)[i]? = some en := h1
    by_cases z : i ∈ vs
    · have h3 := resE_in _ _ z h1
      have h4 := List.all_eq_true.mp hk i z
      cases h5 : g0.es[i]? with
      | none =>
        rw [h5] at h3
        subst h3
        exact True.intro
      | some e0 =>
        rw [h5] at h3 h4
        have h6 := k0.sl i e0 v h5 h2
        have h3 : en = e0 := h3
        rw [h3]
        cases e0 with
        | un => exact True.intro
        | im d =>
          obtain ⟨u, y1, y2⟩ := h6
          exact ⟨u, y1, dp_mono e y2⟩
        | ol _ => cases h4
        | oo _ => cases h4
    · rw [resE_out _ _ z] at h1
      exact k.sl i en v h1 (by rw [wipe_out z]; exact h2)
  bx := fun ds h => by
    obtain ⟨h0, a, us, h1, h2⟩ := k.bx ds h
    exact ⟨by show (resE g0.es g.es vs)[b]? = _; rw [resE_out _ _ hb]; exact h0, a, us, by rw [← wipe_out (vs := vs) hb]; exact h1, h2⟩
  tb := k.tb

/-! ### the frame, but for the new list -/
structure FrD (L : Addr) (F : Hp) (own : Addr → Option Nat) (H F' : Hp) (own' : Addr → Option Nat) (H' : Hp) : Prop where
  fl : Le F F'
  keep : ∀ a o, a ≠ L → H a = some o → own a = none → H' a = some o
  dom : ∀ a, H' a = none → H a = none
  frz : ∀ a, F' a ≠ none → F a ≠ none ∨ H a = none ∨ own a ≠ none
  hold : ∀ a, own' a ≠ none → own a ≠ none ∨ H a = none
variable {L : Addr}
theorem Fr.toD (f : Fr F own H F' own' H') : FrD L F own H F' own' H' := ⟨f.fl, fun a o _ h n => f.keep a o h n, f.dom, f.frz, f.hold⟩
theorem FrD.trans {F1 H1 F2 H2 : Hp} {o o1 o2 : Addr → Option Nat} (p : FrD L F o H F1 o1 H1) (q : FrD L F1 o1 H1 F2 o2 H2) : FrD L F o H F2 o2 H2 where
  fl := p.fl.trans q.fl
  keep := fun a u hL h n => q.keep a u hL (p.keep a u hL h n) (by
    cases z : o1 a with
    | none => rfl
    | some i =>
      rcases p.hold a (by rw [z]; simp) with y | y
      · exact absurd n y
      · rw [y] at h
        cases h)
  dom := fun a h => p.dom a (q.dom a h)
  frz := fun a h => by
    rcases q.frz a h with z | z | z
    · exact p.frz a z
    · exact .inr (.inl (p.dom a z))
    · rcases p.hold a z with y | y
      · exact .inr (.inr y)
      · exact .inr (.inl y)
  hold := fun a h => by
    rcases q.hold a h with z | z
    · exact p.hold a z
    · exact .inr (p.dom a z)
theorem FrD.write {o o' : HO} (h : H L = some o) : FrD L F own H F own (upd H L o') :=
  ⟨Le.refl F, fun a u hL e _ => by rw [upd_ne hL]; exact e, fun a e => by
    by_cases z : a = L
    · subst z
      rw [upd_same] at e
      cases e
    · rw [upd_ne z] at e
      exact e, fun a e => .inl e, fun a e => .inl e⟩
/-- the list was not there ahead of all this -/
theorem FrD.close {o : HO} (hn : H L = none) (f : FrD L F own (upd H L o) F' own' H') : Fr F own H F' own' H' where
  fl := f.fl
  keep := fun a u e n => by
    have z : a ≠ L := fun y => by rw [y, hn] at e; cases e
    exact f.keep a u z (by rw [upd_ne z]; exact e) n
  dom := fun a e => by
    by_cases z : a = L
    · rw [z]
      exact hn
    · have y := f.dom a e
      rw [upd_ne z] at y
      exact y
  frz := fun a e => by
    by_cases z : a = L
    · rw [z]
      exact .inr (.inl hn)
    · have y := f.frz a e
      rw [upd_ne z] at y
      exact y
  hold := fun a e => by
    by_cases z : a = L
    · rw [z]
      exact .inr hn
    · have y := f.hold a e
      rw [upd_ne z] at y
      exact y
/-- it stays neither frozen nor owned while it is there -/
theorem FrD.out {o : HO} (f : FrD L F own H F' own' H') (h : H L = some o) (hF : F L = none) (ho : own L = none) : F' L = none ∧ own' L = none := by
  constructor
  · cases z : F' L with
    | none => rfl
    | some u =>
      rcases f.frz L (by rw [z]; simp) with y | y | y
      · exact absurd hF y
      · rw [h] at y
        cases y
      · exact absurd ho y
  · cases z : own' L with
    | none => rfl
    | some u =>
      rcases f.hold L (by rw [z]; simp) with y | y
      · exact absurd ho y
      · rw [h] at y
        cases y
end

/-! ### what the new list holds -/
abbrev ColR (β : Type) := Addr → Hp → (Addr → Option Nat) → Hp → List V → List β → Prop
structure ColOk {β : Type} (Col : ColR β) : Prop where
  step : ∀ {L F own H F' own' H' acc xs}, Col L F own H acc xs → FrD L F own H F' own' H' → Col L F' own' H' acc xs
  len : ∀ {L F own H acc xs}, Col L F own H acc xs → acc.length = xs.length
/-- data -/
def ColD (K : PySem.W.Frag) : ColR D := fun _ F _ _ acc xs => DqAll K F acc xs
theorem colD_ok {K : PySem.W.Frag} : ColOk (ColD K) := ⟨fun h f => dpAll_mono f.fl h, fun h => dpAll_len h⟩
/-- new lists: not there in the heap H0 -/
def ColL (K : PySem.W.Frag) (H0 : Hp) : ColR (List D) := fun L F own H acc xs => (∀ a, H a = none → H0 a = none) ∧ ∃ ps : List Addr, acc = ps.map V.ref ∧ (L :: ps).Nodup ∧ (∀ p ∈ ps, F p = none ∧ own p = none ∧ H0 p = none) ∧ Rows K F H ps xs
theorem refs_inj : ∀ {ps qs : List Addr}, ps.map V.ref = qs.map V.ref → ps = qs
  | [], [], _ => rfl
  | p :: ps, q :: qs, h => by
    simp only [List.map_cons, List.cons.injEq] at h
    obtain ⟨h1, h2⟩ := h
    cases h1
    rw [refs_inj h2]
theorem rows_there {K : PySem.W.Frag} {F H : Hp} : ∀ {ps : List Addr} {xs : List (List D)}, Rows K F H ps xs → ∀ p ∈ ps, ∃ vs, H p = some (.lst vs)
  | _, _, .nil, p, h => by simp at h
  | _, _, .cons q t, p, h => by
    rcases List.mem_cons.mp h with y | y
    · subst y
      obtain ⟨vs, h1, _⟩ := q
      exact ⟨vs, h1⟩
    · exact rows_there t p y
theorem rows_len {K : PySem.W.Frag} {F H : Hp} : ∀ {ps : List Addr} {xs : List (List D)}, Rows K F H ps xs → ps.length = xs.length
  | _, _, .nil => rfl
  | _, _, .cons _ t => congrArg (· + 1) (rows_len t)
theorem rows_app {K : PySem.W.Frag} {F H : Hp} {p : Addr} {vs : List V} {ds : List D} (h : H p = some (.lst vs)) (hd : DqAll K F vs ds) : ∀ {ps : List Addr} {xs : List (List D)}, Rows K F H ps xs → Rows K F H (ps ++ [p]) (xs ++ [ds])
  | _, _, .nil => .cons ⟨vs, h, hd⟩ .nil
  | _, _, .cons q t => .cons q (rows_app h hd t)
theorem colL_ok {K : PySem.W.Frag} {H0 : Hp} : ColOk (ColL K H0) where
  step := fun {L F own H F' own' H' acc xs} h f => by
    obtain ⟨hd, ps, e, nd, ou, rw⟩ := h
    have ne : ∀ p ∈ ps, p ≠ L := fun p hp z => (List.nodup_cons.mp nd).1 (z ▸ hp)
    refine ⟨fun a h => hd a (f.dom a h), ps, e, nd, fun p hp => ?_, rows_mono rw f.fl fun p hp o ho => f.keep p o (ne p hp) ho (ou p hp).2.1⟩
    obtain ⟨vs, hv⟩ := rows_there rw p hp
    obtain ⟨h1, h2, h3⟩ := ou p hp
    refine ⟨?_, ?_, h3⟩
    · cases z : F' p with
      | none => rfl
      | some u =>
        rcases f.frz p (by rw [z]; simp) with y | y | y
        · exact absurd h1 y
        · rw [hv] at y
          cases y
        · exact absurd h2 y
    · cases z : own' p with
      | none => rfl
      | some u =>
        rcases f.hold p (by rw [z]; simp) with y | y
        · exact absurd h2 y
        · rw [hv] at y
          cases y
  len := fun h => by
    obtain ⟨_, ps, rfl, _, _, rw⟩ := h
    rw [List.length_map, rows_len rw]

/-! ### meaning -/
section
variable {β : Type}
def lcL (vs : List Nat) (ga : D → M Unit) (gt : M Bool) (f : M (List β)) : List D → M (List β)
  | [] => M.pur []
  | d :: ds => (noEr (ga d)).bind fun _ => (noEr gt).bind fun c => (if c = true then f else M.pur []).bind fun ys => (clr vs).bind fun _ => (lcL vs ga gt f ds).bind fun zs => M.pur (ys ++ zs)
/-- the body of the last clause -/
def lastF (fe : M β) : M (List β) := (noEr fe).bind fun d => M.pur [d]
/-- of one ahead of another -/
def midF (vs : List Nat) (fi : M (List D)) (ga : D → M Unit) (gt : M Bool) (f : M (List β)) : M (List β) := (noEr fi).bind fun ds => (clr vs).bind fun _ => lcL vs ga gt f ds
def lcF (vs : List Nat) (fi : M (List D)) (ga : D → M Unit) (gt : M Bool) (f : M (List β)) : M (List β) := fi.bind fun ds => fun g =>
  if keepable g vs = true then (match lcL vs ga gt f ds { g with es := clrE g.es vs } with
    | .ok (ys, g') => if lenOk ys.length = true then .ok (ys, { g' with es := resE g.es g'.es vs }) else .no
    | _ => .no) else .no
end

/-! ### readings -/
def Cc.q (C : Cc) : Cc := { C with E := fun _ _ _ => False }
def tGv (C : Cc) (vs : List Nat) (ga : D → M Unit) : TG := fun v σ H Q => ∃ F own g d, Ok C.K C.b F own g σ H ∧ Dq C.K F v d ∧ ∃ g', ga d g = .ok ((), g') ∧ ∀ σ' F' own' H', Ok C.K C.b F' own' g' σ' H' → Fr F own H F' own' H' → wipe σ' vs = wipe σ vs → Q σ' H'
theorem gNamV {X : Cx} {C : Cc} {pos : Pos} {i : Nat} {x : Str} {vs : List Nat} (hb : i ≠ C.b) (hv : i ∈ vs) (hN : X.N.Nodup) (hi : X.N[i]? = some x) (hx : Loc X.env.scope x) (hf : X.fn x = true ∨ X.env.scope.names.lookup x = some .local := by first | exact .inl rfl | exact .inr rfl | assumption) : PG X (.Name x pos) (tGv C vs (put i)) :=
  PG.imp (pg_name hN hi hx hf) fun v σ H Q ⟨F, own, g, d, k, hd, g', e, q⟩ => by
    cases e
    obtain ⟨own2, k2, f2⟩ := k.set i hb hd
    exact q _ F own2 H k2 f2 (wipe_ext (List.length_set ..) fun j hj => List.getElem?_set_ne fun z => hj (by rw [← z]; exact hv))
theorem tB_yes {C : Cc} {X : Cx} : PTs X [] (tB C (M.pur true)) := ⟨fun pins s σ H Q I h => pts_nil.run pins s σ H Q I (by
  obtain ⟨F, own, g, k, q⟩ := h
  exact q F own H k Fr.refl)⟩
theorem tB_one {C : Cc} {X : Cx} {c : Expr} {gt : M Bool} (h : PT X c (tB C gt)) : PTs X [c] (tB C gt) := pts_one h

variable {C : Cc} {β : Type} {Col : ColR β}
/-- the list at L grows by what f tells -/
def tApp (C : Cc) (Col : ColR β) (vs : List Nat) (f : M (List β)) (L : Addr) : L2.St → Hp → (Hp → Prop) → Prop := fun σ H Nx => ∃ F own g acc xs ys g', Ok C.K C.b F own g σ H ∧ F L = none ∧ own L = none ∧ H L = some (.lst acc) ∧ Col L F own H acc xs ∧ f g = .ok (ys, g') ∧ xs.length + ys.length ≤ sizeLine ∧
  ∀ F' own' H' acc', Ok C.K C.b F' own' g' (wipe σ vs) H' → FrD L F own H F' own' H' → H' L = some (.lst acc') → Col L F' own' H' acc' (xs ++ ys) → Nx H'
theorem lastF_ok {fe : M β} {g : Sg} {ys : List β} {g' : Sg} (h : lastF fe g = .ok (ys, g')) : ∃ d, fe g = .ok (d, g') ∧ ys = [d] := by
  obtain ⟨d, g1, h1, h2⟩ := bind_ok h
  cases h2
  exact ⟨d, noEr_ok h1, rfl⟩
theorem app_D {fe : M D} {L : Addr} {σ : L2.St} {H : Hp} {Nx : Hp → Prop} : tApp C (ColD C.K) [] (lastF fe) L σ H Nx → tPut L (tD C.q fe) σ H Nx := fun ⟨F, own, g, acc, xs, ys, g', k, hF, ho, hL, hc, e, hz, q⟩ => by
  obtain ⟨d, e1, rfl⟩ := lastF_ok e
  refine ⟨F, own, g, k, after_ok e1 fun F' own' H' k' f' v hv => ?_⟩
  have h1 := f'.keep L _ hL ho
  obtain ⟨z1, z2⟩ := f'.toD.out hL hF ho
  have hl := colD_ok.len hc
  refine ⟨acc, h1, by rw [hl]; simp only [List.length_singleton] at hz; omega, ?_⟩
  exact q F' own' _ _ (k'.loose z2 z1) (f'.toD.trans (FrD.write h1)) upd_same (dpAll_app (dpAll_mono f'.fl hc) (.cons hv .nil))
theorem app_N {fe : M (List D)} {L : Addr} {σ : L2.St} {H H0 : Hp} {Nx : Hp → Prop} : tApp C (ColL C.K H0) [] (lastF fe) L σ H Nx → tPut L (tN C.q fe) σ H Nx := fun ⟨F, own, g, acc, xs, ys, g', k, hF, ho, hL, hc, e, hz, q⟩ => by
  obtain ⟨d, e1, rfl⟩ := lastF_ok e
  refine ⟨F, own, g, k, after_ok e1 fun F' own' H' k' f' p vs hn hp hpF hpo hv => ?_⟩
  have h1 := f'.keep L _ hL ho
  obtain ⟨z1, z2⟩ := f'.toD.out hL hF ho
  have hl := colL_ok.len hc
  refine ⟨acc, h1, by rw [hl]; simp only [List.length_singleton] at hz; omega, ?_⟩
  have fD := f'.toD.trans (FrD.write (F := F') (own := own') (o' := .lst (acc ++ [V.ref p])) h1)
  refine q F' own' _ _ (k'.loose z2 z1) fD upd_same ?_
  obtain ⟨h0, ps, rfl, nd, ou, rws⟩ := hc
  obtain ⟨h0', ps', e', nd', ou', rws'⟩ := colL_ok.step ⟨h0, ps, rfl, nd, ou, rws⟩ fD
  have e2 : ps' = ps := refs_inj e'.symm
  subst e2
  have pL : p ≠ L := fun z => by rw [z, hL] at hn; cases hn
  have pn : p ∉ ps' := fun z => by
    obtain ⟨us, hu⟩ := rows_there rws p z
    rw [hu] at hn
    cases hn
  refine ⟨h0', ps' ++ [p], by simp, ?_, fun r hr => ?_, rows_app (by rw [upd_ne pL]; exact hp) hv rws'⟩
  · have n1 := List.nodup_cons.mp nd
    refine List.nodup_cons.mpr ⟨fun z => ?_, List.nodup_append.mpr ⟨n1.2, by simp, fun a ha b hb z => ?_⟩⟩
    · rcases List.mem_append.mp z with y | y
      · exact n1.1 y
      · exact pL (List.mem_singleton.mp y).symm
    · rw [List.mem_singleton.mp hb] at z
      exact pn (z ▸ ha)
  · rcases List.mem_append.mp hr with y | y
    · exact ou' r y
    · rw [List.mem_singleton.mp y]
      exact ⟨hpF, hpo, h0 p hn⟩
theorem lcL_cons {vs : List Nat} {ga : D → M Unit} {gt : M Bool} {f : M (List β)} {d : D} {ds : List D} {g : Sg} {ys : List β} {g' : Sg} (h : lcL vs ga gt f (d :: ds) g = .ok (ys, g')) :
    ∃ g1 c g2 y1 g3 y2, ga d g = .ok ((), g1) ∧ gt g1 = .ok (c, g2) ∧ (if c = true then f else M.pur []) g2 = .ok (y1, g3) ∧ lcL vs ga gt f ds { g3 with es := clrE g3.es vs } = .ok (y2, g') ∧ ys = y1 ++ y2 := by
  obtain ⟨u, g1, h1, q1⟩ := bind_ok (m := noEr (ga d)) h
  obtain ⟨c, g2, h2, q2⟩ := bind_ok q1
  obtain ⟨y1, g3, h3, q3⟩ := bind_ok q2
  obtain ⟨u2, g4, h4, q4⟩ := bind_ok q3
  obtain ⟨y2, g5, h5, q5⟩ := bind_ok q4
  cases h4
  cases q5
  exact ⟨g1, c, g2, y1, g3, y2, noEr_ok h1, noEr_ok h2, h3, h5, rfl⟩
/-- the loop of a clause -/
theorem lp_D {J : It} {ga : D → M Unit} {gt : M Bool} {f : M (List β)} {vs vs' : List Nat} {L : Addr} {σ : L2.St} {H F : Hp} {own : Addr → Option Nat} {g : Sg} {acc : List V} {xs ys : List β} {g' : Sg} {ds : List D} {Nx : Hp → Prop} {tb : L2.St → Hp → (Hp → Prop) → Prop} (cv : ∀ σ H N, tApp C Col vs' f L σ H N → tb σ H N) (co : ColOk Col) (hb : C.b ∉ vs) (sub : ∀ i ∈ vs', i ∈ vs)
    (k : Ok C.K C.b F own g (wipe σ vs) H) (hJ : ItD C.K J F ds) (hF : F L = none) (ho : own L = none) (hL : H L = some (.lst acc)) (hc : Col L F own H acc xs) (e : lcL vs ga gt f ds g = .ok (ys, g')) (hz : xs.length + ys.length ≤ sizeLine)
    (q : ∀ F' own' H' acc', Ok C.K C.b F' own' g' (wipe σ vs) H' → FrD L F own H F' own' H' → H' L = some (.lst acc') → Col L F' own' H' acc' (xs ++ ys) → Nx H') :
    tLp J (tGv C.q vs ga) (tB C.q gt) tb vs σ H Nx := by
  obtain ⟨G, Y, w, hG, hY⟩ := hJ
  refine ⟨fun i m H1 => m = ds.length - i ∧ i ≤ ds.length ∧ ∃ F1 own1 g1 acc1 x1 y1, Ok C.K C.b F1 own1 g1 (wipe σ vs) H1 ∧ FrD L F own H F1 own1 H1 ∧ F1 L = none ∧ own1 L = none ∧ H1 L = some (.lst acc1) ∧ Col L F1 own1 H1 acc1 x1 ∧ x1 ++ y1 = xs ++ ys ∧ lcL vs ga gt f (ds.drop i) g1 = .ok (y1, g'),
    ⟨ds.length, rfl, Nat.zero_le _, F, own, g, acc, xs, ys, k, Fr.refl.toD, hF, ho, hL, hc, rfl, e⟩, ?_⟩
  rintro i m H1 ⟨rfl, hi, F1, own1, g1, acc1, x1, y1, k1, f1, hF1, ho1, hL1, hc1, exy, e1⟩
  have hg := hG H1 (f1.fl.trans k1.le)
  by_cases hlt : i < ds.length
  · have hdi : ds[i]? = some ds[i] := by simp [hlt]
    refine .inr ⟨w.goes i H1 hlt hg, fun H' => ∃ F2 own2 g2 acc2 x2 y2, Ok C.K C.b F2 own2 g2 (wipe σ vs) H' ∧ FrD L F own H F2 own2 H' ∧ F2 L = none ∧ own2 L = none ∧ H' L = some (.lst acc2) ∧ Col L F2 own2 H' acc2 x2 ∧ x2 ++ y2 = xs ++ ys ∧ lcL vs ga gt f (ds.drop (i + 1)) g2 = .ok (y2, g'),
      fun H' n => ⟨ds.length - (i + 1), by omega, rfl, hlt, n⟩, fun x H2 y => ?_⟩
    obtain ⟨F3, l1, l2, l3, l4, hd⟩ := hY i H1 x H2 ds[i] hdi (f1.fl.trans k1.le) (w.yields i H1 x H2 hlt hg y) F1 f1.fl k1.le
    have k3 := k1.grow l1 l3 l2 l4
    have f3 : Fr F1 own1 H1 F3 own1 H2 := Fr.grow l1 l3 l4
    rw [List.drop_eq_getElem_cons hlt] at e1
    obtain ⟨g4, c, g5, z1, g6, z2, ea, et, eb, er, rfl⟩ := lcL_cons e1
    obtain ⟨o3, o4⟩ := (f3.toD (L := L)).out hL1 hF1 ho1
    have hL3 := f3.keep L _ hL1 ho1
    refine ⟨F3, own1, g1, ds[i], k3, hd, g4, ea, fun σ5 F5 own5 H5 k5 f5 w5 => ⟨by rw [w5, wipe_wipe], F5, own5, g4, k5, after_ok et fun F6 own6 H6 k6 f6 => ?_⟩⟩
    have ww : wipe σ5 vs = wipe σ vs := by rw [w5, wipe_wipe]
    have f36 := f3.trans (f5.trans f6)
    obtain ⟨o5, o6⟩ := (f36.toD (L := L)).out hL1 hF1 ho1
    have hL6 := f36.keep L _ hL1 ho1
    have hc6 := co.step hc1 (f36.toD (L := L))
    cases c with
    | false =>
      rw [if_neg Bool.false_ne_true] at eb
      cases eb
      have k7 := k6.clr (vs := vs) hb
      rw [ww] at k7
      exact ⟨F6, own6, _, acc1, x1, z2, k7, f1.trans f36.toD, o5, o6, hL6, hc6, exy, er⟩
    | true =>
      rw [if_pos rfl] at eb
      show tb σ5 H6 _
      refine cv _ _ _ ⟨F6, own6, g5, acc1, x1, z1, g6, k6, o5, o6, hL6, hc6, eb, ?_, fun F7 own7 H7 acc7 k7 f7 hL7 hc7 => ?_⟩
      · have := congrArg List.length exy
        simp only [List.length_append] at this
        omega
      · obtain ⟨o7, o8⟩ := f7.out hL6 o5 o6
        have k8 := k7.clr (vs := vs) hb
        have w8 : wipe (wipe σ5 vs') vs = wipe σ vs := by
          rw [← ww]
          exact wipe_ext (wipe_length _ _) fun j hj => wipe_out fun z => hj (sub j z)
        rw [w8] at k8
        exact ⟨F7, own7, _, acc7, x1 ++ z1, z2, k8, f1.trans (f36.toD.trans f7), o7, o8, hL7, hc7, by rw [List.append_assoc]; exact exy, er⟩
  · have hi2 : i = ds.length := by omega
    subst hi2
    rw [List.drop_length] at e1
    cases e1
    rw [List.append_nil] at exy
    subst exy
    exact .inl ⟨w.stops H1 hg, q F1 own1 H1 acc1 k1 f1 hL1 hc1⟩
/-- a clause behind another -/
theorem mid_D {fi : M (List D)} {ga : D → M Unit} {gt : M Bool} {f : M (List β)} {vs vs' : List Nat} {L : Addr} (co : ColOk Col) (hb : C.b ∉ vs) (sub : ∀ i ∈ vs', i ∈ vs) {σ : L2.St} {H : Hp} {Nx : Hp → Prop} :
    tApp C Col vs (midF vs fi ga gt f) L σ H Nx → tCl (tI C.q fi) (tGv C.q vs ga) (tB C.q gt) (tApp C Col vs' f L) vs σ H Nx := fun ⟨F, own, g, acc, xs, ys, g', k, hF, ho, hL, hc, e, hz, q⟩ => by
  obtain ⟨ds, g1, h1, q1⟩ := bind_ok e
  obtain ⟨u, g2, h2, q2⟩ := bind_ok q1
  cases h2
  refine ⟨F, own, g, k, after_ok (noEr_ok h1) fun F1 own1 H1 k1 f1 J hJ => ?_⟩
  obtain ⟨o1, o2⟩ := (f1.toD (L := L)).out hL hF ho
  exact lp_D (fun _ _ _ z => z) co hb sub (k1.clr hb) hJ o1 o2 (f1.keep L _ hL ho) (co.step hc f1.toD) q2 hz fun F' own' H' acc' k' f' hL' hc' => q F' own' H' acc' k' (f1.toD.trans f') hL' hc'
/-- the whole: a new list -/
theorem cmp_D {fi : M (List D)} {ga : D → M Unit} {gt : M Bool} {f : M (List β)} {vs vs' : List Nat} {tb : Addr → L2.St → Hp → (Hp → Prop) → Prop} (cv : ∀ L σ H N, tApp C Col vs' f L σ H N → tb L σ H N) (co : ColOk Col) (hb : C.b ∉ vs) (sub : ∀ i ∈ vs', i ∈ vs) {σ : L2.St} {H : Hp} (nil : ∀ L F' own' H', (∀ a, H' a = none → H a = none) → Col L F' own' H' [] []) {Q : VK} {F : Hp} {own : Addr → Option Nat} {g : Sg} (k : Ok C.K C.b F own g σ H)
    (q : After C σ F own H (lcF vs fi ga gt f g) fun ys F' own' _ H' => ∀ p acc, H p = none → H' p = some (.lst acc) → F' p = none → own' p = none → Col p F' own' H' acc ys → Q (.ref p) H') :
    tCmp (tI C fi) (tGv C.q vs ga) (tB C.q gt) tb vs σ H Q := by
  refine ⟨F, own, g, k, (After.fst q).imp fun ds F1 own1 g1 H1 _ k1 f1 q1 J hJ L hn => ?_⟩
  by_cases hk : keepable g1 vs = true
  · have q1 := q1
    rw [if_pos hk] at q1
    cases e : lcL vs ga gt f ds { g1 with es := clrE g1.es vs } with
    | er _ _ =>
      rw [e] at q1
      exact q1.elim
    | no =>
      rw [e] at q1
      exact q1.elim
    | ok pr =>
      obtain ⟨ys, g2⟩ := pr
      rw [e] at q1
      have q1 : After C σ F1 own1 H1 (if lenOk ys.length = true then R.ok (ys, ({ g2 with es := resE g1.es g2.es vs } : Sg)) else .no) _ := q1
      by_cases hl : lenOk ys.length = true
      · rw [if_pos hl] at q1
        obtain ⟨k2, f2⟩ := k1.side (o := .lst []) hn
        have oL : own1 L = none := by
          cases z : own1 L with
          | none => rfl
          | some i => exact absurd hn (k1.there L i z)
        refine lp_D (cv L) co hb sub (k2.clr hb) hJ (k1.le.free hn) oL upd_same (nil L _ _ _ fun a ha => f1.dom a (f2.dom a ha)) e (by simpa using lenOk_le hl) fun F' own' H' acc' k' f' hL' hc' => ?_
        have fr := FrD.close hn f'
        obtain ⟨o1, o2⟩ := f'.out upd_same (k1.le.free hn) oL
        exact q1 F' own' H' (k1.res k' hb hk f'.fl) fr L acc' (f1.dom L hn) hL' o1 o2 hc'
      · rw [if_neg hl] at q1
        exact q1.elim
  · have q1 := q1
    rw [if_neg hk] at q1
    exact q1.elim
end DL
set_option maxRecDepth 100000
set_option maxHeartbeats 4000000
/-! DL11: comprehensions of one, two, three clauses; ranges as values; list(range(..)), len(set(..)), constants of the module. -/
namespace DL
open PySem PySem.Spec L2 PyProof.Rows
section
variable {X : Cx} {C : Cc} {scope : Scope} {own : List (Str × Nat)} {elt tg iter tg1 iter1 tg2 iter2 : Expr} {ifs ifs1 ifs2 : List Expr} {rest : List Comprehension} {pos p : Pos}
  {β : Type} {Col : ColR β} {fi fi1 fi2 : M (List D)} {ga ga1 ga2 : D → M Unit} {gt gt1 gt2 : M Bool} {fe : M D} {fl : M (List D)} {f : M (List β)} {vs' vs1 vs2 : List Nat}
theorem PBo.imp {body : Sem PySem.Fin → Sem PySem.Fin} {vs : List Nat} {t t' : L2.St → Hp → (Hp → Prop) → Prop} (h : PBo X body vs t) (w : ∀ σ H Nx, t' σ H Nx → t σ H Nx) : PBo X body vs t' :=
  ⟨fun pins s σ H Nx kk R E I q => h.run pins s σ H Nx kk R E I (w σ H Nx q)⟩
theorem bd_last {L : Addr} (hx : X.xe = fun _ _ => False) (he : PE X elt (tD C.q fe)) : PBo X (inBody elt (.ref L) X.env) [] (tApp C (ColD C.K) [] (lastF fe) L) := (bo_last hx he).imp fun _ _ _ q => app_D q
def tApL (C : Cc) (vs : List Nat) (f : M (List (List D))) (L : Addr) : L2.St → Hp → (Hp → Prop) → Prop := fun σ H Nx => ∃ H0, tApp C (ColL C.K H0) vs f L σ H Nx
theorem bd_new {L : Addr} (hx : X.xe = fun _ _ => False) (he : PE X elt (tN C.q fl)) : PBo X (inBody elt (.ref L) X.env) [] (tApL C [] (lastF fl) L) := (bo_last hx he).imp fun _ _ _ ⟨_, q⟩ => app_N q
/-- a list of data -/
theorem tN_cmp {vs : List Nat} {g2 : M (List D)} (hb : C.b ∉ vs) (sub : ∀ i ∈ vs', i ∈ vs) (σ : L2.St) (H : Hp) (Q : VK) : tN C (lcF vs fi ga gt g2) σ H Q → tCmp (tI C fi) (tGv C.q vs ga) (tB C.q gt) (tApp C (ColD C.K) vs' g2) vs σ H Q := fun ⟨F, own, g, k, q⟩ =>
  cmp_D (fun _ _ _ _ z => z) colD_ok hb sub (fun _ _ _ _ _ => .nil) k q
/-- a list of new lists -/
def tNN (C : Cc) (f : M (List (List D))) : TE := fun σ H Q => ∃ F own g, Ok C.K C.b F own g σ H ∧ After C σ F own H (f g) fun xs F' own' _ H' => ∀ p acc, H p = none → H' p = some (.lst acc) → F' p = none → own' p = none → ColL C.K H p F' own' H' acc xs → Q (.ref p) H'
theorem tNN_cmp {vs : List Nat} {g2 : M (List (List D))} (hb : C.b ∉ vs) (sub : ∀ i ∈ vs', i ∈ vs) (σ : L2.St) (H : Hp) (Q : VK) : tNN C (lcF vs fi ga gt g2) σ H Q → tCmp (tI C fi) (tGv C.q vs ga) (tB C.q gt) (tApL C vs' g2) vs σ H Q := fun ⟨F, own, g, k, q⟩ =>
  cmp_D (Col := ColL C.K H) (fun _ _ _ _ z => ⟨H, z⟩) colL_ok hb sub (fun L F' own' H' hd => ⟨hd, [], rfl, by simp, fun p h => by simp at h, .nil⟩) k q
/-- what is to be shown in the block of one clause -/
abbrev In1 (X : Cx) (C : Cc) (vs : List Nat) (elt tg : Expr) (ifs : List Expr) (ga : D → M Unit) (gt : M Bool) (te : TE) : Prop := PG X tg (tGv C.q vs ga) ∧ PTs X ifs (tB C.q gt) ∧ PE X elt te
theorem cmp1 (hc : X.calm = true) (hN : X.N.Nodup) (hi : PI X tg iter (tI C fi)) (ok : BlkOk X.N X.env.scope scope own) (hf : ∀ x, foldedSetIterable iter X.env x = pure x)
    (ins : ∀ (s : Shared) (H : Hp) (Ca : Addr) (cl : List (Str × Addr)) (fp : List Addr), In1 (X.blk s H scope (compEnvC scope cl Ca X.env) fp) C (own.map (·.2)) elt tg ifs ga gt (tD C.q fe)) :
    CmpOk X scope own elt tg iter ifs [] pos (tI C fi) (tGv C.q (own.map (·.2)) ga) (tB C.q gt) (tApp C (ColD C.K) [] (lastF fe)) where
  calm := hc
  nodup := hN
  src := hi
  blk := ok
  fold := hf
  ins := fun s H Ca cl fp => ⟨(ins s H Ca cl fp).1, (ins s H Ca cl fp).2.1, fun L => ⟨_, [], (by simp), bd_last rfl (ins s H Ca cl fp).2.2, fun it => turn1_0⟩⟩
theorem cmp1N (hc : X.calm = true) (hN : X.N.Nodup) (hi : PI X tg iter (tI C fi)) (ok : BlkOk X.N X.env.scope scope own) (hf : ∀ x, foldedSetIterable iter X.env x = pure x)
    (ins : ∀ (s : Shared) (H : Hp) (Ca : Addr) (cl : List (Str × Addr)) (fp : List Addr), In1 (X.blk s H scope (compEnvC scope cl Ca X.env) fp) C (own.map (·.2)) elt tg ifs ga gt (tN C.q fl)) :
    CmpOk X scope own elt tg iter ifs [] pos (tI C fi) (tGv C.q (own.map (·.2)) ga) (tB C.q gt) (tApL C [] (lastF fl)) where
  calm := hc
  nodup := hN
  src := hi
  blk := ok
  fold := hf
  ins := fun s H Ca cl fp => ⟨(ins s H Ca cl fp).1, (ins s H Ca cl fp).2.1, fun L => ⟨_, [], (by simp), bd_new rfl (ins s H Ca cl fp).2.2, fun it => turn1_0⟩⟩
/-- of two -/
structure In2 (X : Cx) (C : Cc) (vs vs1 : List Nat) (elt tg tg1 iter1 : Expr) (ifs ifs1 : List Expr) (ga ga1 : D → M Unit) (gt gt1 : M Bool) (fi1 : M (List D)) (te : TE) : Prop where
  g0 : PG X tg (tGv C.q vs ga)
  t0 : PTs X ifs (tB C.q gt)
  i1 : PI X tg1 iter1 (tI C.q fi1)
  g1 : PG X tg1 (tGv C.q vs1 ga1)
  t1 : PTs X ifs1 (tB C.q gt1)
  e : PE X elt te
theorem cmp2 (hc : X.calm = true) (hN : X.N.Nodup) (hb : C.b ∉ vs1) (sub : ∀ i ∈ vs1, i ∈ own.map (·.2)) (hi : PI X tg iter (tI C fi)) (ok : BlkOk X.N X.env.scope scope own) (hf : ∀ x, foldedSetIterable iter X.env x = pure x) (hf1 : ∀ env x, foldedSetIterable iter1 env x = pure x)
    (ins : ∀ (s : Shared) (H : Hp) (Ca : Addr) (cl : List (Str × Addr)) (fp : List Addr), In2 (X.blk s H scope (compEnvC scope cl Ca X.env) fp) C (own.map (·.2)) vs1 elt tg tg1 iter1 ifs ifs1 ga ga1 gt gt1 fi1 (tD C.q fe)) :
    CmpOk X scope own elt tg iter ifs [⟨tg1, iter1, ifs1, 0⟩] pos (tI C fi) (tGv C.q (own.map (·.2)) ga) (tB C.q gt) (tApp C (ColD C.K) vs1 (midF vs1 fi1 ga1 gt1 (lastF fe))) where
  calm := hc
  nodup := hN
  src := hi
  blk := ok
  fold := hf
  ins := fun s H Ca cl fp => ⟨(ins s H Ca cl fp).g0, (ins s H Ca cl fp).t0, fun L => ⟨_, vs1, sub,
    (bo_mid (X := X.blk s H scope (compEnvC scope cl Ca X.env) fp) rfl hc (fun it => turn2_1) rfl (ins s H Ca cl fp).i1 (ins s H Ca cl fp).g1 (ins s H Ca cl fp).t1 (bd_last rfl (ins s H Ca cl fp).e) (by simp) (hf1 _)).imp fun _ _ _ q => mid_D colD_ok hb (by simp) q, fun it => turn2_0⟩⟩
/-- of three -/
structure In3 (X : Cx) (C : Cc) (vs vs1 vs2 : List Nat) (elt tg tg1 iter1 tg2 iter2 : Expr) (ifs ifs1 ifs2 : List Expr) (ga ga1 ga2 : D → M Unit) (gt gt1 gt2 : M Bool) (fi1 fi2 : M (List D)) (te : TE) : Prop where
  g0 : PG X tg (tGv C.q vs ga)
  t0 : PTs X ifs (tB C.q gt)
  i1 : PI X tg1 iter1 (tI C.q fi1)
  g1 : PG X tg1 (tGv C.q vs1 ga1)
  t1 : PTs X ifs1 (tB C.q gt1)
  i2 : PI X tg2 iter2 (tI C.q fi2)
  g2 : PG X tg2 (tGv C.q vs2 ga2)
  t2 : PTs X ifs2 (tB C.q gt2)
  e : PE X elt te
theorem cmp3 (hc : X.calm = true) (hN : X.N.Nodup) (hb : C.b ∉ vs1) (hb2 : C.b ∉ vs2) (sub : ∀ i ∈ vs1, i ∈ own.map (·.2)) (sub2 : ∀ i ∈ vs2, i ∈ vs1) (hi : PI X tg iter (tI C fi)) (ok : BlkOk X.N X.env.scope scope own)
    (hf : ∀ x, foldedSetIterable iter X.env x = pure x) (hf1 : ∀ env x, foldedSetIterable iter1 env x = pure x) (hf2 : ∀ env x, foldedSetIterable iter2 env x = pure x)
    (ins : ∀ (s : Shared) (H : Hp) (Ca : Addr) (cl : List (Str × Addr)) (fp : List Addr), In3 (X.blk s H scope (compEnvC scope cl Ca X.env) fp) C (own.map (·.2)) vs1 vs2 elt tg tg1 iter1 tg2 iter2 ifs ifs1 ifs2 ga ga1 ga2 gt gt1 gt2 fi1 fi2 (tD C.q fe)) :
    CmpOk X scope own elt tg iter ifs [⟨tg1, iter1, ifs1, 0⟩, ⟨tg2, iter2, ifs2, 0⟩] pos (tI C fi) (tGv C.q (own.map (·.2)) ga) (tB C.q gt) (tApp C (ColD C.K) vs1 (midF vs1 fi1 ga1 gt1 (midF vs2 fi2 ga2 gt2 (lastF fe)))) where
  calm := hc
  nodup := hN
  src := hi
  blk := ok
  fold := hf
  ins := fun s H Ca cl fp => ⟨(ins s H Ca cl fp).g0, (ins s H Ca cl fp).t0, fun L => ⟨_, vs1, sub,
    (bo_mid (X := X.blk s H scope (compEnvC scope cl Ca X.env) fp) rfl hc (fun it => turn3_1) rfl (ins s H Ca cl fp).i1 (ins s H Ca cl fp).g1 (ins s H Ca cl fp).t1
      ((bo_mid (X := X.blk s H scope (compEnvC scope cl Ca X.env) fp) rfl hc (fun it => turn3_2) rfl (ins s H Ca cl fp).i2 (ins s H Ca cl fp).g2 (ins s H Ca cl fp).t2 (bd_last rfl (ins s H Ca cl fp).e) (by simp) (hf2 _)).imp fun _ _ _ q => mid_D colD_ok hb2 (by simp) q) sub2 (hf1 _)).imp fun _ _ _ q => mid_D colD_ok hb sub2 q,
    fun it => turn3_0⟩⟩
/-- as a new list -/
theorem xLc (hb : C.b ∉ own.map (·.2)) (sub : ∀ i ∈ vs', i ∈ own.map (·.2)) {g2 : M (List D)} (c : CmpOk X scope own elt tg iter ifs rest pos (tI C fi) (tGv C.q (own.map (·.2)) ga) (tB C.q gt) (tApp C (ColD C.K) vs' g2)) :
    PE X (.ListComp elt (⟨tg, iter, ifs, 0⟩ :: rest) scope pos) (tN C (lcF (own.map (·.2)) fi ga gt g2)) := PE.imp (pe_cmp c) (tN_cmp hb sub)
theorem xLcN (hb : C.b ∉ own.map (·.2)) (sub : ∀ i ∈ vs', i ∈ own.map (·.2)) {g2 : M (List (List D))} (c : CmpOk X scope own elt tg iter ifs rest pos (tI C fi) (tGv C.q (own.map (·.2)) ga) (tB C.q gt) (tApL C vs' g2)) :
    PE X (.ListComp elt (⟨tg, iter, ifs, 0⟩ :: rest) scope pos) (tNN C (lcF (own.map (·.2)) fi ga gt g2)) := PE.imp (pe_cmp c) (tNN_cmp hb sub)
theorem nd_r {f : M (List D)} (σ : L2.St) (H : Hp) (Q : VK) : tD C (f.bind fun ds => M.pur (.list ds)) σ H Q → tN C f σ H Q := fun ⟨F, own, g, k, q⟩ => ⟨F, own, g, k, (After.map q).imp fun ds F1 own1 g1 H1 e1 k1 f1 q1 p vs hn hp hF ho hd =>
  q1 (upd F1 p (.lst vs)) own1 H1 (k1.thaw hp hF ho) (f1.thaw hF hn) _ (.lst upd_same (dpAll_mono (Le.new hF) hd))⟩
/-- y = [..]: y a local name, both on one line; data that no one changes, or a list that y owns -/
theorem tAsg_imp {te te' : TE} {g : TG} (h : ∀ σ H Q, te' σ H Q → te σ H Q) (D0 : Ends) (σ : L2.St) (H : Hp) : tAsg te' g D0 σ H → tAsg te g D0 σ H := fun q => h σ H _ q
theorem yCmp {i : Nat} {y : Str} {py spos : Pos} (hb : C.b ∉ own.map (·.2)) (hbi : i ≠ C.b) (sub : ∀ i ∈ vs', i ∈ own.map (·.2)) {g2 : M (List D)} (hy : X.N[i]? = some y) (hl : X.env.scope.names.lookup y = some .local) (hw : swapsWith (.ListComp elt (⟨tg, iter, ifs, 0⟩ :: rest) scope pos) (some (.Name y py)) spos.line X.env = pure true)
    (c : CmpOk X scope own elt tg iter ifs rest pos (tI C fi) (tGv C.q (own.map (·.2)) ga) (tB C.q gt) (tApp C (ColD C.K) vs' g2)) :
    PS X (.Assign [.Name y py] (.ListComp elt (⟨tg, iter, ifs, 0⟩ :: rest) scope pos) spos) (tS C (((lcF (own.map (·.2)) fi ga gt g2).bind fun ds => M.pur (.list ds)).bind fun d => (put i d).bind fun _ => M.pur .nx)) :=
  PS.imp (ps_setCmp hy hl hw c) fun D0 σ H q => tAsg_imp (tN_cmp hb sub) D0 σ H (tAsg_imp nd_r D0 σ H (tAsg_put hbi q))
theorem yCmpO {i : Nat} {y : Str} {py spos : Pos} (hb : C.b ∉ own.map (·.2)) (hbi : i ≠ C.b) (sub : ∀ i ∈ vs', i ∈ own.map (·.2)) {g2 : M (List D)} (hy : X.N[i]? = some y) (hl : X.env.scope.names.lookup y = some .local) (hw : swapsWith (.ListComp elt (⟨tg, iter, ifs, 0⟩ :: rest) scope pos) (some (.Name y py)) spos.line X.env = pure true)
    (c : CmpOk X scope own elt tg iter ifs rest pos (tI C fi) (tGv C.q (own.map (·.2)) ga) (tB C.q gt) (tApp C (ColD C.K) vs' g2)) :
    PS X (.Assign [.Name y py] (.ListComp elt (⟨tg, iter, ifs, 0⟩ :: rest) scope pos) spos) (tS C ((lcF (own.map (·.2)) fi ga gt g2).bind fun d => (putO i d).bind fun _ => M.pur .nx)) :=
  PS.imp (ps_setCmp hy hl hw c) fun D0 σ H q => tAsg_imp (tN_cmp hb sub) D0 σ H (tAsg_putO hbi q)
/-- a name takes a new list of new lists -/
theorem tAsg_putOO {σ : L2.St} {H : Hp} {D0 : Ends} {i : Nat} {fn : M (List (List D))} (hb : i ≠ C.b) : tS C (fn.bind fun d => (putOO i d).bind fun _ => M.pur .nx) D0 σ H → tAsg (tNN C fn) (gName i) D0 σ H := fun ⟨F, own, g, k, q⟩ =>
  ⟨F, own, g, k, by
    unfold M.bind R.bind at q
    cases e : fn g with
    | er c d =>
      rw [e] at q
      exact q
    | no =>
      rw [e] at q
      exact q
    | ok pr =>
      rw [e] at q
      refine fun F1 own1 H1 k1 f1 p acc hn hp hF ho hc => ?_
      obtain ⟨_, ps, rfl, nd, ou, rws⟩ := hc
      have k2 := k1.assign i hb (e := .oo pr.1) (v := .ref p) (fun a => a ∈ p :: ps) (fun a ha => by
        rcases List.mem_cons.mp ha with z | z
        · subst z
          exact ⟨.inl ho, hF, by rw [hp]; simp⟩
        · obtain ⟨vs, hv⟩ := rows_there rws a z
          exact ⟨.inl (ou a z).2.1, (ou a z).1, by rw [hv]; simp⟩) ⟨p, ps, rfl, List.mem_cons_self, hp, nd, fun r hr => List.mem_cons_of_mem _ hr, rws⟩
      refine q _ F1 _ H1 k2 ⟨f1.fl, f1.keep, f1.dom, f1.frz, fun a ha => ?_⟩ (set_b hb)
      unfold giO at ha
      by_cases z : a ∈ p :: ps
      · rcases List.mem_cons.mp z with y | y
        · subst y
          exact .inr hn
        · exact .inr (ou a y).2.2
      · rw [if_neg z] at ha
        by_cases y : own1 a = some i
        · rw [if_pos y] at ha
          exact absurd rfl ha
        · rw [if_neg y] at ha
          exact f1.hold a ha⟩
theorem yCmpN {i : Nat} {y : Str} {py spos : Pos} (hb : C.b ∉ own.map (·.2)) (hbi : i ≠ C.b) (sub : ∀ i ∈ vs', i ∈ own.map (·.2)) {g2 : M (List (List D))} (hy : X.N[i]? = some y) (hl : X.env.scope.names.lookup y = some .local) (hw : swapsWith (.ListComp elt (⟨tg, iter, ifs, 0⟩ :: rest) scope pos) (some (.Name y py)) spos.line X.env = pure true)
    (c : CmpOk X scope own elt tg iter ifs rest pos (tI C fi) (tGv C.q (own.map (·.2)) ga) (tB C.q gt) (tApL C vs' g2)) :
    PS X (.Assign [.Name y py] (.ListComp elt (⟨tg, iter, ifs, 0⟩ :: rest) scope pos) spos) (tS C ((lcF (own.map (·.2)) fi ga gt g2).bind fun d => (putOO i d).bind fun _ => M.pur .nx)) :=
  PS.imp (ps_setCmp hy hl hw c) fun D0 σ H q => tAsg_imp (tNN_cmp hb sub) D0 σ H (tAsg_putOO hbi q)
theorem ySetOO {i : Nat} {x : Str} {p2 : Pos} {fn : M (List (List D))} {e : Expr} (hb : i ≠ C.b) (hN : X.N.Nodup) (hi : X.N[i]? = some x) (hx : Loc X.env.scope x) (he : PE X e (tNN C fn)) (hs : swapsWith e (some (.Name x p2)) pos.line X.env = pure false := by rfl) (hf : X.fn x = true ∨ X.env.scope.names.lookup x = some .local := by first | exact .inl rfl | exact .inr rfl | assumption) :
    PS X (.Assign [.Name x p2] e pos) (tS C (fn.bind fun d => (putOO i d).bind fun _ => M.pur .nx)) := PS.imp (ps_set hN hi hx he hs hf) fun _ _ _ q => tAsg_putOO hb q

/-! ### ranges as values -/
def rRange1 : List V → Hp → VK → Prop := fun vs H Q => ∃ j : Int, vs = [V.int j] ∧ ∀ p, H p = none → Q (.ref p) (upd H p (.rng 0 j))
theorem cr_range1 : CallR X (.type "range") rRange1 := by
  intro pins s σ H vs us Q I r h
  obtain ⟨j, rfl, q⟩ := h
  cases r with
  | cons r1 r2 =>
    cases r2
    obtain ⟨t, rfl⟩ := r1
    refine call_range_1 ⟨.ref s.heap.objs.size, upd H s.heap.objs.size (.rng 0 j), I.laid (t' := _) (fun b o e => Heap.get?_push_of_some _ e) (Nat.le_refl _) ?_, rfl, q _ (I.hok.fresh (Nat.le_refl _))⟩
    exact ⟨_, _, _, Heap.get?_push_size _ rfl⟩
def rgW (w : View) : M D := (intD w).bind fun n => M.pur (rngD n)
theorem rgW_ok : CaV C rRange1 (arg1 rgW) := arg1_ok (r := rRange1) fun {σ F own g H v w Q} k hv q => by
  obtain ⟨n, g2, e2, q2⟩ := After.at_end (m := intD) (After.fst q) fun _ _ => intD_ne
  obtain ⟨rfl, e3⟩ := intD_ok hv e2
  refine ⟨n, by rw [e3], fun p hp => ?_⟩
  obtain ⟨k7, f7⟩ := k.new (o := .rng 0 n) hp
  exact q2 F own H k Fr.refl _ _ _ k7 f7 _ (.rng upd_same)
/-- a walk over a range that a name holds -/
def iRgV (te : TE) : TI := fun σ H R0 => te σ H fun x H1 => ∃ a n, x = .ref a ∧ H1 a = some (.rng 0 n) ∧ -(2 ^ 62) ≤ n ∧ n < 2 ^ 62 ∧ R0 (Itr 0 n.toNat) H1
theorem pi_rgV {e : Expr} {te : TE} (he : PE X e te) : PI X tg e (iRgV te) := by
  refine ⟨fun pins s σ H R0 I h => thn (he.run pins s σ H _ I h) fun v s1 q => ?_⟩
  obtain ⟨x, H1, I1, r1, a, n, rfl, ha, h1, h2, q2⟩ := q
  obtain rfl : v = Value.ref a := r1
  obtain ⟨t, u, w, ho⟩ := (show ObjOk X.prog X.w H1 s1.heap a (.rng 0 n) from I1.hok a _ ha)
  refine wpAny_pyIter_range ho (small_one (by omega) (by omega) h1 h2) ?_
  refine ⟨s1.heap.objs.size, [s1.heap.objs.size], _, _, H1, rfl, I1.kept (t' := s1.toks) fun b o e => Heap.get?_push_of_some _ e, turn_range s1.heap.objs.size 0 n.toNat, ?_, fun b hb => ?_, q2⟩
  · have e1 : (0 : Int) + ((0 : Nat) : Int) * 1 = 0 := by simp
    have e2 : ((n.toNat : Nat) : Int) - ((0 : Nat) : Int) = Builtin.Range.rangeSize 0 n 1 := by rw [rangeSize_one]; split <;> omega
    show IsRangeIter _ _ ((0 : Int) + ((0 : Nat) : Int) * 1) (((n.toNat : Nat) : Int) - ((0 : Nat) : Int)) 1
    rw [e1, e2]
    exact Heap.get?_push_size _ rfl
  · have e : b = s1.heap.objs.size := by simpa using hb
    rw [e]
    exact I1.fpOk (Nat.le_refl _) (I1.hok.fresh (Nat.le_refl _))
def rgF (d : D) : M (List D) := match d with
  | .dict [(.bool true, .int n)] => need (okR n) (M.pur (rgD 0 n))
  | _ => M.no
theorem wRgV {e : Expr} {fd : M D} (he : PE X e (tD C fd)) : PI X tg e (tI C (fd.bind rgF)) :=
  PI.imp (pi_rgV he) fun σ H R0 ⟨F, own, g, k, q⟩ => ⟨F, own, g, k, (After.fst q).imp fun d F1 own1 g1 H1 _ k1 f1 q1 v hv => by
    cases hv with
    | @rng a n ha =>
      obtain ⟨n1, n2⟩ := need_ok (show After C σ F1 own1 H1 (need (okR n) (M.pur (rgD 0 n)) g1) _ from q1)
      have b := okR_le n1
      have q3 := n2 F1 own1 H1 k1 Fr.refl _ itd_rg
      rw [Int.sub_zero] at q3
      exact ⟨a, n, rfl, k1.le a _ ha, by omega, by omega, q3⟩
    | _ => exact q1.elim⟩
/-- list(range(n)) -/
def rgL (w : View) : M (List D) := (intD w).bind fun n => need (okR n && decide (n ≤ 16777216)) (M.pur (rgD 0 n))
theorem dq_rg {K : PySem.W.Frag} {F : Hp} (n : Int) : DqAll K F (rgV 0 n) (rgD 0 n) := by
  have h : ∀ l : List Nat, DqAll K F (l.map fun i => V.int (0 + (i : Nat))) (l.map fun (i : Nat) => PyData.int (0 + (i : Int))) := by
    intro l
    induction l with
    | nil => exact .nil
    | cons a l ih => exact .cons (.int _) ih
  exact h _
theorem xListRg {a : Expr} {fa : M View} {p2 p3 : Pos} (hc : X.calm = true) (hg : Gl X "list") (hm : X.mg "list" = none) (hg2 : Gl X "range") (hm2 : X.mg "range" = none) (ha : PE X a (tV C fa))
    (na : starEach [a] X.env = (false, eval a X.env) :: starEach [] X.env := by rfl) (na2 : starEach [.Call (.Name "range" p2) [a] [] p3] X.env = (false, eval (.Call (.Name "range" p2) [a] [] p3) X.env) :: starEach [] X.env := by rfl) :
    PE X (.Call (.Name "list" p) [.Call (.Name "range" p2) [a] [] p3] [] pos) (tN C (fa.bind rgL)) :=
  PE.imp (pe_listRg hc hg hm (prg_1 hg2 hm2 ha na) na2) fun σ H Q ⟨F, own, g, k, q⟩ => ⟨F, own, g, k, (After.fst q).imp fun w F1 own1 g1 H1 _ k1 f1 q1 v hv => by
    obtain ⟨n, g2, e2, q2⟩ := After.at_end (m := intD) (After.fst q1) fun _ _ => intD_ne
    obtain ⟨rfl, e3⟩ := intD_ok hv e2
    obtain ⟨n1, n2⟩ := need_ok (q2 F1 own1 H1 k1 Fr.refl)
    rw [Bool.and_eq_true] at n1
    have b := okR_le n1.1
    have b2 := of_decide_eq_true n1.2
    exact ⟨n, e3, ⟨by omega, by omega, by omega, by omega, by omega⟩, fun p hp => aft_new k1 (dq_rg n) (AftN.back n2 f1) p hp⟩⟩
/-- len(set(..)) of ints that are all unlike -/
theorem xLenSet {a : Expr} {fa : M View} {p2 q2 : Pos} (hK : C.K = X.K) (hc : X.calm = true) (hg : Gl X "len") (hm : X.mg "len" = none) (hg2 : Gl X "set") (hm2 : X.mg "set" = none) (ha : PE X a (tV C fa))
    (na : starEach [a] X.env = (false, eval a X.env) :: starEach [] X.env := by rfl) : PE X (.Call (.Name "len" p) [.Call (.Name "set" p2) [a] [] q2] [] pos) (tD C (fa.bind lenSetW)) :=
  PE.imp (RZ.pe_lenSetI hg hm hg2 hm2 ha hc na) fun σ H Q ⟨F, own, g, k, q⟩ => ⟨F, own, g, k, (After.fst q).imp fun w F1 own1 g1 H1 _ k1 f1 q1 v hv => by
    obtain ⟨a, ns, h1, h2, q3⟩ := lst_ints k1 hv q1
    obtain ⟨n1, n2⟩ := need_ok q3
    rw [Bool.and_eq_true] at n1
    have b1 := of_decide_eq_true n1.1
    have b2 := of_decide_eq_true n1.2
    exact ⟨a, ns, h1, SqL.of h2, b1, by omega, n2 F1 own1 H1 k1 Fr.refl _ (.int _)⟩⟩
/-- a constant of the module -/
theorem xGlob {x : Str} {u : Value} {v : V} {d : D} (hg : Gl X x) (hm : X.mg x = some u) (r : RelV v u) (hd : ∀ F, Dq C.K F v d) (hdb : (x == ("__debug__" : Str)) = false := by decide) : PE X (.Name x pos) (tD C (M.pur d)) := xC (pe_glob hg hm r hdb) hd
end
end DL
set_option maxRecDepth 100000
set_option maxHeartbeats 4000000
/-! DL12: defs by data: what a def promises, its proof from its body's reading, calls; the box. -/
namespace DL
open PySem PySem.Spec L2 PyProof.Rows

/-! ### promises -/
/-- behind a call: the heap grows, what the caller has frozen grows by what is new -/
structure Gw (F H F' H' : Hp) : Prop where
  fl : Le F F'
  le : Le F' H'
  hh : Le H H'
  nw : ∀ a, F' a ≠ none → F a ≠ none ∨ H a = none
/-- .. but for the list at a -/
structure GwB (a : Addr) (F H F' H' : Hp) : Prop where
  fl : Le F F'
  le : Le F' H'
  hh : ∀ b o, b ≠ a → H b = some o → H' b = some o
  nw : ∀ b, F' b ≠ none → F b ≠ none ∨ H b = none
def AnsE (K : PySem.W.Frag) (xi : XI) (G : Hp → Hp → Prop) (c : Str) (d : D) (E : XK) : Prop := ∀ (cl : Addr) (f : Str), xi c = some (cl, f) → ∀ F' H' dp v, G F' H' → H' dp = some (.xd [(f, v)]) → Dq K F' v d → E (.ref cl) (some dp) H'
def Ans (K : PySem.W.Frag) (xi : XI) (F H : Hp) (r : R D) (Q : VK) (E : XK) : Prop := match r with
  | .ok d => ∀ F' H' v, Gw F H F' H' → Dq K F' v d → Q v H'
  | .er c d => AnsE K xi (Gw F H) c d E
  | .no => False
def AnsB (K : PySem.W.Frag) (xi : XI) (a : Addr) (F H : Hp) (r : R (D × List D)) (Q : VK) (E : XK) : Prop := match r with
  | .ok (d, bs) => ∀ F' H' v ws, GwB a F H F' H' → H' a = some (.lst ws) → DqAll K F' ws bs → Dq K F' v d → Q v H'
  | .er _ _ => False
  | .no => False
def spP (K : PySem.W.Frag) (xi : XI) (n : Nat) (f : List D → R D) : Sp := fun vs H Q E => vs.length = n ∧ ∃ F ds, Le F H ∧ DqAll K F vs ds ∧ Ans K xi F H (f ds) Q E
/-- the first argument is the box, that the def may change -/
def spB (K : PySem.W.Frag) (xi : XI) (n : Nat) (f : List D → List D → R (D × List D)) : Sp := fun vs H Q E => vs.length = n ∧ ∃ a us F ws bs ds, vs = .ref a :: us ∧ Le F H ∧ F a = none ∧ H a = some (.lst ws) ∧ DqAll K F ws bs ∧ DqAll K F us ds ∧ AnsB K xi a F H (f bs ds) Q E

/-! ### from a body -/
def argsE (ds : List D) (n : Nat) : List Ent := ds.map Ent.im ++ List.replicate (n - ds.length) .un
def runO : R (Out × Sg) → R D
  | .ok (.nx, _) => .ok .none
  | .ok (.rt d, _) => .ok d
  | .ok _ => .no
  | .er c d => .er c d
  | .no => .no
def runB : R (Out × Sg) → R (D × List D)
  | .ok (.nx, g) => (match g.box with
    | some bs => .ok (.none, bs)
    | none => .no)
  | .ok (.rt d, g) => (match g.box with
    | some bs => .ok (d, bs)
    | none => .no)
  | .ok _ => .no
  | .er c d => .er c d
  | .no => .no
def semP (n : Nat) (m : M Out) (ds : List D) : R D := runO (m ⟨none, argsE ds n, none⟩)
def semB (n : Nat) (m : M Out) (bs ds : List D) : R (D × List D) := runB (m ⟨some bs, .un :: argsE ds (n - 1), none⟩)
theorem argsE_len {ds : List D} {n : Nat} (h : ds.length ≤ n) : (argsE ds n).length = n := by
  unfold argsE
  simp
  omega
theorem argsE_at {K : PySem.W.Frag} {F H : Hp} {O : Addr → Prop} : ∀ {vs : List V} {ds : List D} {n m : Nat} {i : Nat} {e : Ent} {v : Option V}, DqAll K F vs ds → (argsE ds n)[i]? = some e → (vs.map some ++ List.replicate m (none : Option V))[i]? = some v → EntR K F H O e v
  | [], [], n, m, i, e, v, .nil, h1, h2 => by
    unfold argsE at h1
    simp [List.getElem?_replicate] at h1
    rw [← h1.2]
    exact True.intro
  | u :: us, d :: ds, n, m, 0, e, v, .cons a b, h1, h2 => by
    unfold argsE at h1
    simp at h1 h2
    rw [← h1, ← h2]
    exact ⟨u, rfl, a⟩
  | u :: us, d :: ds, n, m, i + 1, e, v, .cons a b, h1, h2 => by
    refine argsE_at (n := n - 1) (m := m) (i := i) (H := H) b ?_ (by simpa using h2)
    unfold argsE at h1 ⊢
    simp only [List.map_cons, List.cons_append, List.getElem?_cons_succ, List.length_cons] at h1
    rw [show n - 1 - ds.length = n - (ds.length + 1) by omega]
    exact h1
section
variable {K : PySem.W.Frag} {F H : Hp} {N : List Str} {vs : List V} {ds : List D}
theorem ok_startP (hF : Le F H) (hd : DqAll K F vs ds) (hl : vs.length ≤ N.length) : Ok K N.length F (fun _ => none) ⟨none, argsE ds N.length, none⟩ (L2.start N vs) H where
  len := by
    have := dpAll_len hd
    rw [argsE_len (by omega)]
    unfold L2.start
    simp
    omega
  le := hF
  apart := fun a i h => by cases h
  there := fun a i h => by cases h
  sl := fun i e v h1 h2 => argsE_at hd h1 h2
  bx := fun ds h => by cases h
  tb := fun P h => by cases h
theorem ok_startB {a : Addr} {ws : List V} {bs : List D} (hF : Le F H) (ha : F a = none) (hw : H a = some (.lst ws)) (hb : DqAll K F ws bs) (hd : DqAll K F vs ds) (hl : vs.length + 1 ≤ N.length) :
    Ok K 0 F (fun x => if x = a then some 0 else none) ⟨some bs, .un :: argsE ds (N.length - 1), none⟩ (L2.start N (.ref a :: vs)) H where
  len := by
    have := dpAll_len hd
    rw [List.length_cons, argsE_len (by omega)]
    unfold L2.start
    simp
    omega
  le := hF
  apart := fun x i h => by
    by_cases z : x = a
    · rw [z]
      exact ha
    · rw [if_neg z] at h
      cases h
  there := fun x i h => by
    by_cases z : x = a
    · rw [z, hw]
      simp
    · rw [if_neg z] at h
      cases h
  sl := fun i e v h1 h2 => by
    cases i with
    | zero =>
      simp at h1
      rw [← h1]
      exact True.intro
    | succ i =>
      refine argsE_at (n := N.length - 1) (m := N.length - (vs.length + 1)) (i := i) hd (by simpa using h1) ?_
      unfold L2.start at h2
      simpa using h2
  bx := fun ds h => by
    cases h
    refine ⟨rfl, a, ws, ?_, by simp, hw, hb⟩
    unfold L2.start
    simp
  tb := fun P h => by cases h
end
section
variable {P : Program} {w : World} {K : PySem.W.Frag} {mg : Str → Option Value} {base : Heap}
theorem fnP {x qual : Str} {st : Stmt} {f : Addr} {fd : FuncData} {N ps : List Str} {k : Nat} {xi : XI} {m : M Out} (Fu : Fun K x qual st f fd) (S : FnScope N ps (defScope st)) (hl : ps.length ≤ N.length) (n : Nat) (hn0 : n = N.length)
    (hbody : ∀ (cdv : Value) (A : Around) (outer : List Env) (s : Shared) (H : Hp) (E : XK), Room k (A.deeper (envOfC qual (defScope st) s.heap.objs.size f cdv)) → PSs (cxOf (L2.CX P w) P w K mg base N qual (defScope st) f cdv A outer s H E) (defBody st) (tS ⟨K, n, E, xi⟩ m)) :
    FnOk P w K mg base (L2.CX P w) (k + 1) f fd ps (spP K xi ps.length (semP n m)) := by
  subst hn0
  refine Fu.okX S (fun vs H Q E h => h.1) fun cdv A outer s H vs Q E hr h => ⟨_, hbody cdv A outer s H E hr, ?_⟩
  obtain ⟨hn, F, ds, hF, hd, q⟩ := h
  have q : Ans K xi F H (runO (m ⟨none, argsE ds N.length, none⟩)) Q E := q
  refine ⟨F, fun _ => none, ⟨none, argsE ds N.length, none⟩, ok_startP hF hd (by omega), ?_⟩
  have gw : ∀ {F' H' : Hp} {own' : Addr → Option Nat}, Fr F (fun _ => none) H F' own' H' → Le F' H' → Gw F H F' H' := fun f l => ⟨f.fl, l, fun a o e => f.keep a o e rfl, fun a e => (f.frz a e).elim .inl fun z => z.elim .inr fun y => absurd rfl y⟩
  cases e : m ⟨none, argsE ds N.length, none⟩ with
  | ok pr =>
    obtain ⟨o, g'⟩ := pr
    rw [e] at q
    intro σ' F' own' H' k' f' _
    cases o with
    | nx => exact q F' H' .non (gw f' k'.le) .non
    | rt d => exact fun v hv => q F' H' v (gw f' k'.le) hv
    | bk => exact q.elim
    | ct => exact q.elim
  | er c d =>
    rw [e] at q
    exact fun cl fl hx F' own' H' dp v f' l' hdp hv => q cl fl hx F' H' dp v (gw f' l') hdp hv
  | no =>
    rw [e] at q
    exact q.elim
theorem fnB {x qual : Str} {st : Stmt} {f : Addr} {fd : FuncData} {N ps : List Str} {k : Nat} {xi : XI} {m : M Out} (Fu : Fun K x qual st f fd) (S : FnScope N ps (defScope st)) (hl : ps.length ≤ N.length) (n : Nat) (hn0 : n = N.length)
    (hbody : ∀ (cdv : Value) (A : Around) (outer : List Env) (s : Shared) (H : Hp) (E : XK), Room k (A.deeper (envOfC qual (defScope st) s.heap.objs.size f cdv)) → PSs (cxOf (L2.CX P w) P w K mg base N qual (defScope st) f cdv A outer s H E) (defBody st) (tS ⟨K, 0, E, xi⟩ m)) :
    FnOk P w K mg base (L2.CX P w) (k + 1) f fd ps (spB K xi ps.length (semB n m)) := by
  subst hn0
  refine Fu.okX S (fun vs H Q E h => h.1) fun cdv A outer s H vs Q E hr h => ⟨_, hbody cdv A outer s H E hr, ?_⟩
  obtain ⟨hn, a, us, F, ws, bs, ds, rfl, hF, ha, hw, hb, hd, q⟩ := h
  have q : AnsB K xi a F H (runB (m ⟨some bs, .un :: argsE ds (N.length - 1), none⟩)) Q E := q
  refine ⟨F, _, _, ok_startB hF ha hw hb hd (by simp at hn; omega), ?_⟩
  have gw : ∀ {F' H' : Hp} {own' : Addr → Option Nat}, Fr F (fun x => if x = a then some 0 else none) H F' own' H' → F' a = none → Le F' H' → GwB a F H F' H' := fun f na l => ⟨f.fl, l, fun c o ne e => f.keep c o e (if_neg ne), fun c e => (f.frz c e).elim .inl fun z => z.elim .inr fun y => by
    by_cases z : c = a
    · rw [z] at e
      exact absurd na e
    · exact absurd (if_neg z) y⟩
  cases e : m ⟨some bs, .un :: argsE ds (N.length - 1), none⟩ with
  | ok pr =>
    obtain ⟨o, g'⟩ := pr
    rw [e] at q
    intro σ' F' own' H' k' f' hs
    have box : ∀ bs', g'.box = some bs' → F' a = none ∧ ∃ ws', H' a = some (.lst ws') ∧ DqAll K F' ws' bs' := fun bs' hb => by
      obtain ⟨_, a', ws', h1, h2, h3, h4⟩ := k'.bx bs' hb
      have hs : σ'[0]? = (L2.start N (.ref a :: us))[0]? := hs
      have h1 : σ'[0]? = some (some (.ref a')) := h1
      rw [hs] at h1
      unfold L2.start at h1
      simp at h1
      subst h1
      exact ⟨k'.apart _ _ h2, ws', h3, h4⟩
    cases o with
    | nx =>
      have q : AnsB K xi a F H (match g'.box with
        | some bs => R.ok (PyData.none, bs)
        | none => .no) Q E := q
      cases hb : g'.box with
      | none =>
        rw [hb] at q
        exact q.elim
      | some bs' =>
        rw [hb] at q
        obtain ⟨na, ws', h1, h2⟩ := box bs' hb
        exact q F' H' .non ws' (gw f' na k'.le) h1 h2 .non
    | rt d =>
      have q : AnsB K xi a F H (match g'.box with
        | some bs => R.ok (d, bs)
        | none => .no) Q E := q
      cases hb : g'.box with
      | none =>
        rw [hb] at q
        exact q.elim
      | some bs' =>
        rw [hb] at q
        obtain ⟨na, ws', h1, h2⟩ := box bs' hb
        exact fun v hv => q F' H' v ws' (gw f' na k'.le) h1 h2 hv
    | bk => exact q.elim
    | ct => exact q.elim
  | er c d =>
    rw [e] at q
    exact q.elim
  | no =>
    rw [e] at q
    exact q.elim
end

/-! ### calls -/
def callD (f : List D → R D) (ds : List D) : M D := fun g => match f ds with
  | .ok d => .ok (d, g)
  | .er c d => .er c d
  | .no => .no
def callB (f : List D → List D → R (D × List D)) (ds : List D) : M D := fun g => match g.box with
  | some bs => (match f bs ds with
    | .ok (d, bs') => .ok (d, { g with box := some bs' })
    | _ => .no)
  | none => .no
section
variable {X : Cx} {C : Cc} {CX : CXT} {k : Nat} {f : Addr} {fd : FuncData} {ps : List Str} {x : Str} {p pos : Pos} {e : Expr} {es : List Expr} {fs : M (List View)} {n : Nat}
/-- a call of an own def, all data -/
theorem xCall {fn : List D → R D} (hK : C.K = X.K) (Fn : FnOk X.prog X.w X.K X.mg X.base CX k f fd ps (spP X.K C.xi n fn)) (hr : Room k X.A) (hg : Gl X x) (hm : X.mg x = some (.ref f)) (hk : PySem.W.keepIn X.K (.ref f) = true) (hb : Binds X.K fd ps []) (hx : Passes CX X C.E)
    (ha : PA X (e :: es) (tAs C fs)) (hn : ∀ ws g0 g1, fs g0 = .ok (ws, g1) → ws.length = n) (hdb : (x == ("__debug__" : Str)) = false := by decide) (he : starEach (e :: es) X.env = (false, eval e X.env) :: starEach es X.env := by rfl) (hpl : (backTo pos (starEach es X.env)).any (·.1) = false := by rfl) :
    PE X (.Call (.Name x p) (e :: es) [] pos) (tD C (fs.bind fun ws => (frzs C.b ws).bind (callD fn))) :=
  PE.imp (pe_call Fn hr hg hm hk hb .nil hx ha hdb he hpl) fun σ H Q ⟨F, own, g, k0, q⟩ => ⟨F, own, g, k0, (After.fst q).imp fun ws F1 own1 g1 H1 e1 k1 f1 q1 vs hvs => by
    obtain ⟨F2, own2, g2, ds, k2, f2, hds, q2⟩ := frzs_ok k1 hvs (After.fst q1)
    rw [List.append_nil]
    refine ⟨by rw [vwAll_len hvs]; exact hn _ _ _ e1, F2, ds, k2.le, hK ▸ hds, ?_⟩
    unfold callD at q2
    cases z : fn ds with
    | ok d =>
      rw [z] at q2
      exact fun F3 H3 v gw hv => q2 F3 own2 H3 (k2.grow gw.fl gw.hh gw.le gw.nw) (Fr.grow gw.fl gw.hh gw.nw) v (hK ▸ hv)
    | er c d =>
      rw [z] at q2
      exact fun cl fl hx F3 H3 dp v gw hdp hv => q2 cl fl hx F3 own2 H3 dp v (Fr.grow gw.fl gw.hh gw.nw) gw.le hdp (hK ▸ hv)
    | no =>
      rw [z] at q2
      exact q2.elim⟩
/-- .. without arguments -/
theorem xCall0 {fn : List D → R D} (hK : C.K = X.K) (Fn : FnOk X.prog X.w X.K X.mg X.base CX k f fd ps (spP X.K C.xi 0 fn)) (hr : Room k X.A) (hg : Gl X x) (hm : X.mg x = some (.ref f)) (hk : PySem.W.keepIn X.K (.ref f) = true) (hb : Binds X.K fd ps []) (hx : Passes CX X C.E)
    (hdb : (x == ("__debug__" : Str)) = false := by decide) : PE X (.Call (.Name x p) [] [] pos) (tD C (callD fn [])) :=
  PE.imp (pe_call0 Fn hr hg hm hk hb .nil hx hdb) fun σ H Q ⟨F, own, g, k0, q⟩ => by
    refine ⟨rfl, F, [], k0.le, .nil, ?_⟩
    unfold callD at q
    cases z : fn [] with
    | ok d =>
      rw [z] at q
      exact fun F3 H3 v gw hv => q F3 own H3 (k0.grow gw.fl gw.hh gw.le gw.nw) (Fr.grow gw.fl gw.hh gw.nw) v (hK ▸ hv)
    | er c d =>
      rw [z] at q
      exact fun cl fl hx F3 H3 dp v gw hdp hv => q cl fl hx F3 own H3 dp v (Fr.grow gw.fl gw.hh gw.nw) gw.le hdp (hK ▸ hv)
    | no =>
      rw [z] at q
      exact q.elim
/-- behind a call that changed the box -/
theorem Ok.afterB {K : PySem.W.Frag} {b : Nat} {F F' H H' : Hp} {own : Addr → Option Nat} {g : Sg} {σ : L2.St} {a : Addr} {bs bs' : List D} {ws : List V} (k0 : Ok K b F own g σ H) (hb : g.box = some bs) (hs : σ[b]? = some (some (.ref a))) (gw : GwB a F H F' H') (hw : H' a = some (.lst ws)) (hd : DqAll K F' ws bs') :
    Ok K b F' own { g with box := some bs' } σ H' ∧ Fr F own H F' own H' := by
  obtain ⟨hun, a0, w0, h1, h2, h3, h4⟩ := k0.bx bs hb
  have e0 : a0 = a := by
    rw [hs] at h1
    cases h1
    rfl
  subst e0
  have ne : ∀ c j, own c = some j → j ≠ b → c ≠ a0 := fun c j h n z => by
    rw [z, h2] at h
    cases h
    exact n rfl
  refine ⟨⟨k0.len, gw.le, fun c j h => ?_, fun c j h z => ?_, fun j en v e1 e2 => ?_, fun ds h => ?_, fun P h => ⟨(k0.tb P h).1, (k0.tb P h).2.mono gw.fl fun u hu => gw.hh P u (fun z => by
    obtain ⟨ps, t1, _⟩ := (k0.tb P h).2
    rw [z, h3] at t1
    cases t1) hu⟩⟩, gw.fl, fun c o h n => ?_, fun c h => ?_, fun c h => (gw.nw c h).elim .inl fun z => .inr (.inl z), fun c h => .inl h⟩
  · cases z : F' c with
    | none => rfl
    | some o =>
      rcases gw.nw c (by rw [z]; simp) with y | y
      · exact absurd (k0.apart c j h) y
      · exact absurd y (k0.there c j h)
  · by_cases y : c = a0
    · rw [y, hw] at z
      cases z
    · cases u : H c with
      | none => exact k0.there c j h u
      | some o =>
        rw [gw.hh c o y u] at z
        cases z
  · by_cases z : j = b
    · subst z
      have e1 : g.es[j]? = some en := e1
      rw [hun] at e1
      cases e1
      exact True.intro
    · exact (k0.sl j en v e1 e2).mono gw.fl fun c hc => ⟨hc, fun u hu => gw.hh c u (ne c j hc z) hu⟩
  · cases h
    exact ⟨hun, a0, ws, h1, h2, hw, hd⟩
  · exact gw.hh c o (fun z => by rw [z, h2] at n; cases n) h
  · cases u : H c with
    | none => rfl
    | some o =>
      by_cases y : c = a0
      · rw [y, hw] at h
        cases h
      · rw [gw.hh c o y u] at h
        cases h
/-- there is a box -/
def boxOk : M Unit := fun g => match g.box with
  | some _ => .ok ((), g)
  | none => .no
/-- a call that hands the box on -/
theorem xCallBox {fn : List D → List D → R (D × List D)} (hK : C.K = X.K) (Fn : FnOk X.prog X.w X.K X.mg X.base CX k f fd ps (spB X.K C.xi (n + 1) fn)) (hr : Room k X.A) (hg : Gl X x) (hm : X.mg x = some (.ref f)) (hk : PySem.W.keepIn X.K (.ref f) = true) (hb : Binds X.K fd ps []) (hx : Passes CX X C.E)
    (hv : PE X e (tVar C.b)) (ha : PA X es (tAs C fs)) (hn : ∀ ws g0 g1, fs g0 = .ok (ws, g1) → ws.length = n) (hdb : (x == ("__debug__" : Str)) = false := by decide)
    (he : starEach (e :: es) X.env = (false, eval e X.env) :: starEach es X.env := by rfl) (hpl : (backTo pos (starEach es X.env)).any (·.1) = false := by rfl) :
    PE X (.Call (.Name x p) (e :: es) [] pos) (tD C (boxOk.bind fun _ => fs.bind fun ws => (frzs C.b ws).bind (callB fn))) :=
  PE.imp (pe_call Fn hr hg hm hk hb .nil hx (pa_cons hv ha he) hdb he hpl) fun σ H Q ⟨F, own, g, k0, q⟩ => by
    have q0 := After.fst q
    unfold boxOk at q0
    cases hbox : g.box with
    | none =>
      simp only [hbox] at q0
      exact q0.elim
    | some bs =>
    simp only [hbox] at q0
    have q := q0 F own H k0 Fr.refl
    obtain ⟨_, a, w0, h1, h2, h3, h4⟩ := k0.bx bs hbox
    refine ⟨.ref a, h1, F, own, g, k0, (After.fst q).imp fun ws F1 own1 g1 H1 e1 k1 f1 q1 vs hvs => ?_⟩
    obtain ⟨F2, own2, g2, ds, k2, f2, hds, q2⟩ := frzs_ok k1 hvs (After.fst q1)
    rw [List.append_nil]
    unfold callB at q2
    cases hb2 : g2.box with
    | none =>
      simp only [hb2] at q2
      exact q2.elim
    | some bs2 =>
    simp only [hb2] at q2
    obtain ⟨_, a2, w2, z1, z2, z3, z4⟩ := k2.bx bs2 hb2
    rw [h1] at z1
    cases z1
    refine ⟨by simp only [List.length_cons]; rw [vwAll_len hvs, hn _ _ _ e1], a, vs, F2, w2, bs2, ds, rfl, k2.le, k2.apart _ _ z2, z3, hK ▸ z4, hK ▸ hds, ?_⟩
    cases z : fn bs2 ds with
    | ok pr =>
      obtain ⟨d, bs3⟩ := pr
      simp only [z] at q2
      intro F3 H3 v ws3 gw hw3 hd3 hv3
      obtain ⟨k3, f3⟩ := k2.afterB hb2 h1 gw hw3 (hK ▸ hd3)
      exact q2 F3 own2 H3 k3 f3 v (hK ▸ hv3)
    | er c d =>
      simp only [z] at q2
      exact q2.elim
    | no =>
      simp only [z] at q2
      exact q2.elim
end
end DL
set_option maxRecDepth 100000
set_option maxHeartbeats 4000000
/-! DL13: tuple * int, stores into lists of lists, x[i] += e, the box's own statements, a written dict read at once, operators in place. -/
namespace DL
open PySem PySem.Spec L2 PyProof.Rows

/-! ### tuple * int -/
theorem tup_mul_one (l : Addr) (items : Array Value) (n : Nat) (dd : Option Addr) (sl : Array (Option Value)) (u : Tok) :
    Meets (Builtin.«tuple.__mul__» ⟨[.ref l, .int 1 u], []⟩) (fun _ R s => s.heap.get? l = some { cls := .type "tuple", dict := dd, data := .seq items n, slots := sl } ∧ R (.ok (.ret (.ref l))) s) :=
  .of_wp fun prog w A R s h => by
    obtain ⟨hp, g, d, tk, os⟩ := s
    obtain ⟨hl, h⟩ := h
    have f1 := AutoSeq1.idx_int
    wp_walk using AutoSeq1.wpAny_loadPart' hl
    repeat (first
      | (refine wpAny_ite_false (by decide) ?_; wp_walk using AutoSeq1.wpAny_loadPart' hl)
      | (refine wpAny_ite_true (by simp) ?_; wp_walk using AutoSeq1.wpAny_loadPart' hl))
    exact ⟨_, rfl, h⟩
def rRepO (K : PySem.W.Frag) : R2 := fun x y H Q => ∃ l xs, x = .ref l ∧ y = .int 1 ∧ SqT K H l xs ∧ Q (.ref l) H
section
variable {X : Cx} {C : Cc} {f f2 : M View} {a b' : Expr} {pos p : Pos}
theorem op_repO : OpR X (binaryOp .Mult) (rRepO X.K) := by
  intro pins s σ H x y v u Q I rx ry h
  obtain ⟨l, xs, rfl, rfl, hT, q⟩ := h
  cases rx
  obtain ⟨t, rfl⟩ := ry
  obtain ⟨its, r, ⟨⟨cls, dd, data, sl⟩, ho, hc, n, hd⟩, hs⟩ := I.tuple hT
  simp only at hc hd
  subst hc hd
  refine wpAny_binaryOp_repeat_ref (T := "tuple") (U := "int") (by decide) ⟨_, ho, rfl⟩ (fun s' => typeIs_int s' 1 t) noFill_tuple_mul F.fills_int_mul F.slot_int_rmul repeat_tuple F.slot_int_index.lookup
    (call_meets F.slot_int_rmul (typeIs_int s 1 t) F.entry_int_rmul (F.args_int_rmul_2 _ _) (int_rmul_tuple 1 t l its.toArray n dd sl)
      ⟨ho, rfl, ⟨_, ho, rfl⟩, call_meets F.slot_tuple_mul ⟨_, ho, rfl⟩ F.entry_tuple_mul (F.args_tuple_mul_2 _ _) (tup_mul_one l its.toArray n dd sl t) ⟨ho, ?_⟩⟩)
  exact ⟨.ref l, H, I, rfl, q⟩
def repTW (x y : View) : M D := (intD y).bind fun k => match x with
  | .dat (.tuple xs) => need (!xs.isEmpty && decide (1 ≤ k) && decide (k ≤ 1000) && decide (xs.length ≤ 1000)) (M.pur (.tuple (List.replicate k.toNat xs).flatten))
  | _ => M.no
theorem repTW_ok (hK : C.K = X.K) : OpV C (fun x y H Q => rRepT X.K x y H Q ∨ rRepO X.K x y H Q) repTW := by
  intro σ F own g H x y wx wy Q k hx hy q
  obtain ⟨n, g2, e2, q2⟩ := After.at_end (m := intD) (After.fst q) fun _ _ => intD_ne
  obtain ⟨rfl, e3⟩ := intD_ok hy e2
  have q3 := q2 F own H k Fr.refl
  cases wx with
  | own i => exact q3.elim
  | dat d =>
    cases hx with
    | @tup a vs ds h1 h2 =>
      obtain ⟨c, q4⟩ := need_ok (show After C σ F own H (need (!ds.isEmpty && decide (1 ≤ n) && decide (n ≤ 1000) && decide (ds.length ≤ 1000)) (M.pur (PyData.tuple (List.replicate n.toNat ds).flatten)) g2) _ from q3)
      simp only [Bool.and_eq_true, Bool.not_eq_true', decide_eq_true_eq] at c
      obtain ⟨⟨⟨c1, c2⟩, c3⟩, c4⟩ := c
      have hl := dpAll_len h2
      by_cases z : n = 1
      · subst z
        refine .inr ⟨a, vs, rfl, e3, hK ▸ k.le.sqT h1, q4 F own H k Fr.refl _ (by
          show Dq C.K F _ (PyData.tuple (List.replicate 1 ds).flatten)
          simp only [List.replicate_one, List.flatten_cons, List.flatten_nil, List.append_nil]
          exact .tup h1 h2)⟩
      · refine .inl ⟨a, n, vs, rfl, e3, hK ▸ k.le.sqT h1, fun y => ?_, by omega, c3, by omega, fun p hp => ?_⟩
        · subst y
          cases h2
          cases c1
        · obtain ⟨k5, f5⟩ := k.new (o := .tup (List.replicate n.toNat vs).flatten) hp
          exact q4 _ _ _ k5 f5 _ (.tup (SqT.of upd_same) (dpAll_mono f5.fl (dpAll_rep h2 _)))
    | _ => exact q3.elim
theorem xRepT (hK : C.K = X.K) (ha : PE X a (tV C f)) (hb : PE X b' (tV C f2)) : PE X (.BinOp a .Mult b' pos) (tD C (f.bind fun x => f2.bind fun y => repTW x y)) := xBin (op_repT.or op_repO) (repTW_ok hK) ha hb

/-! ### x[j1][j2] = d: x owns a list of lists; the places stand under names -/
def stOO (i j1 j2 : Nat) (d : D) : M Unit := fun g => match g.es[j1]?, g.es[j2]?, g.es[i]? with
  | some (.im (.int n1)), some (.im (.int n2)), some (.oo dss) => (match ixN dss.length n1 with
    | some a => (match dss[a]? with
      | some ds => (match ixN ds.length n2 with
        | some b => .ok ((), { g with es := g.es.set i (.oo (dss.set a (ds.set b d))) })
        | none => .no)
      | none => .no)
    | none => .no)
  | _, _, _ => .no
theorem rows_at {K : PySem.W.Frag} {F H : Hp} : ∀ {ps : List Addr} {dss : List (List D)} {a : Nat} {ds : List D}, Rows K F H ps dss → dss[a]? = some ds → ∃ p vs, ps[a]? = some p ∧ H p = some (.lst vs) ∧ DqAll K F vs ds
  | _, _, a, _, .nil, e => by simp at e
  | _, _, 0, _, .cons q t, e => by
    simp at e
    subst e
    obtain ⟨vs, h1, h2⟩ := q
    exact ⟨_, vs, rfl, h1, h2⟩
  | _, _, a + 1, _, .cons q t, e => by
    obtain ⟨p, vs, h1, h2⟩ := rows_at (a := a) t (by simpa using e)
    exact ⟨p, vs, by simpa using h1, h2⟩
theorem rows_set {K : PySem.W.Frag} {F H : Hp} {p : Addr} {vs : List V} {ds : List D} (hd : DqAll K F vs ds) : ∀ {ps : List Addr} {dss : List (List D)} {a : Nat}, Rows K F H ps dss → ps.Nodup → ps[a]? = some p → Rows K F (upd H p (.lst vs)) ps (dss.set a ds)
  | _, _, a, .nil, nd, e => by simp at e
  | q :: ps, _, 0, .cons h t, nd, e => by
    simp at e
    subst e
    refine .cons ⟨vs, upd_same, hd⟩ (rows_mono t (Le.refl F) fun r hr o ho => ?_)
    rw [upd_ne fun z => (List.nodup_cons.mp nd).1 (by rw [z] at hr; exact hr)]
    exact ho
  | q :: ps, _, a + 1, .cons h t, nd, e => by
    have e2 : ps[a]? = some p := by simpa using e
    obtain ⟨us, h1, h2⟩ := h
    refine .cons ⟨us, ?_, h2⟩ (rows_set hd t (List.nodup_cons.mp nd).2 e2)
    rw [upd_ne fun z => (List.nodup_cons.mp nd).1 (by rw [z]; exact List.mem_of_getElem? e2)]
    exact h1
theorem gSubSub {o i1 i2 : Expr} {i j1 j2 : Nat} {p1 : Pos} (hb : i ≠ C.b) (hK : C.K = X.K) (ho : PE X o (tVar i)) (h1 : PE X i1 (tVar j1)) (h2 : PE X i2 (tVar j2)) (hs : PlainIx i1 := by exact fun _ _ => rfl)
    (ha : ∀ v, assign (.Subscript (.Subscript o i1 p1) i2 pos) X.env v = (do
      let ov ← holding [v] (eval (.Subscript o i1 p1) X.env)
      let iv ← holding [v, ov] (eval i2 X.env)
      standAt pos
      holding [v, ov, iv] (setItem ov iv v)
      release [v, ov, iv] []) := by intro _; rfl) : PG X (.Subscript (.Subscript o i1 p1) i2 pos) (tG C (stOO i j1 j2)) :=
  PG.imp (pg_sub (pe_ix ix_seq ho h1 hs) h2 set_list ha) fun v σ H Q ⟨F, own, g, d, k, hd, g', e, q⟩ => by
    unfold stOO at e
    cases e1 : g.es[j1]? with
    | none => simp [e1] at e
    | some en1 =>
    cases en1 with
    | un => simp [e1] at e
    | ol _ => simp [e1] at e
    | oo _ => simp [e1] at e
    | im d1 =>
    cases d1 with
    | none => simp [e1] at e
    | bool _ => simp [e1] at e
    | str _ => simp [e1] at e
    | list _ => simp [e1] at e
    | tuple _ => simp [e1] at e
    | dict _ => simp [e1] at e
    | int n1 =>
    cases e2 : g.es[j2]? with
    | none => simp [e1, e2] at e
    | some en2 =>
    cases en2 with
    | un => simp [e1, e2] at e
    | ol _ => simp [e1, e2] at e
    | oo _ => simp [e1, e2] at e
    | im d2 =>
    cases d2 with
    | none => simp [e1, e2] at e
    | bool _ => simp [e1, e2] at e
    | str _ => simp [e1, e2] at e
    | list _ => simp [e1, e2] at e
    | tuple _ => simp [e1, e2] at e
    | dict _ => simp [e1, e2] at e
    | int n2 =>
    cases e3 : g.es[i]? with
    | none => simp [e1, e2, e3] at e
    | some en3 =>
    cases en3 with
    | un => simp [e1, e2, e3] at e
    | im _ => simp [e1, e2, e3] at e
    | ol _ => simp [e1, e2, e3] at e
    | oo dss =>
    simp only [e1, e2, e3] at e
    cases ha1 : ixN dss.length n1 with
    | none => simp [ha1] at e
    | some a =>
    simp only [ha1] at e
    cases ha2 : dss[a]? with
    | none => simp [ha2] at e
    | some ds =>
    simp only [ha2] at e
    cases ha3 : ixN ds.length n2 with
    | none => simp [ha3] at e
    | some b =>
    simp only [ha3] at e
    cases e
    have at_ : ∀ {j : Nat} {en : Ent}, g.es[j]? = some en → ∃ o, σ[j]? = some o ∧ EntR C.K F H (fun a => own a = some j) en o := fun {j en} h => by
      have hj : j < σ.length := by
        rw [← k.len]
        exact (List.getElem?_eq_some_iff.mp h).1
      exact ⟨σ[j], by simp [hj], k.sl j en _ h (by simp [hj])⟩
    obtain ⟨o1, s1, v1, z1, y1⟩ := at_ e1
    obtain ⟨o2, s2, v2, z2, y2⟩ := at_ e2
    obtain ⟨o3, s3, A, ps, z3, y3, y4, nd, ow, rws⟩ := at_ e3
    subst z1 z2 z3
    have w1 := dp_int y1
    have w2 := dp_int y2
    subst w1 w2
    obtain ⟨p, vs, hp, hH, hd2⟩ := rows_at rws ha2
    have hlen := rows_len rws
    refine ⟨_, s3, _, s1, .inl ⟨A, ps.map V.ref, n1, .ref p, rfl, rfl, hK ▸ SqL.of y4, ?_, _, s2, p, vs, n2, b, rfl, rfl, hH, by rw [dpAll_len hd2]; exact ha3, ?_⟩⟩
    · unfold atI
      rw [List.length_map, hlen, ha1]
      show (ps.map V.ref)[a]? = _
      rw [List.getElem?_map, hp]
      rfl
    · have hpo := ow p (List.mem_of_getElem? hp)
      have neA : A ≠ p := fun z => (List.nodup_cons.mp nd).1 (z ▸ List.mem_of_getElem? hp)
      obtain ⟨k4, f4⟩ := k.write (o := .lst (vs.set b v)) hb hpo (e := .oo (dss.set a (ds.set b d))) fun v' hv' => by
        rw [s3] at hv'
        cases hv'
        exact ⟨A, ps, rfl, y3, by rw [upd_ne neA]; exact y4, nd, ow, rows_set (dpAll_set hd b hd2) rws (List.nodup_cons.mp nd).2 hp⟩
      exact q σ F own _ k4 f4 rfl

/-! ### x[i] += e of a list that x owns -/
def rGetN : V → V → Hp → VK → Prop := fun o i H Q => ∃ a xs n x, o = .ref a ∧ i = .int n ∧ H a = some (.lst xs) ∧ 0 ≤ n ∧ xs[n.toNat]? = some x ∧ Q x H
theorem pget_n : PGet X rGetN := by
  intro pins s σ H o i ov iv Q I ro ri h
  obtain ⟨a, xs, n, x, rfl, rfl, ha, h0, hx, q⟩ := h
  cases ro
  obtain ⟨t, rfl⟩ := ri
  obtain ⟨its, rv, pl, hz⟩ := I.list (SqL.of ha)
  obtain ⟨u, hu, ru⟩ := rv.get hx
  have hl := (List.getElem?_eq_some_iff.mp hx).1
  have hs : n < 2 ^ 63 := by
    rw [sizeLine_eq] at hz
    have := rv.length
    omega
  exact wpAny_getItem_list pl.isList h0 hs (by simpa using hu) ⟨x, H, I, ru, q⟩
def ixV (w : View) (i : Nat) : M Int := (intD w).bind fun n => fun g => match g.es[i]? with
  | some (.ol ds) => if 0 ≤ n then (match ds[n.toNat]? with
    | some (.int m) => .ok (m, g)
    | _ => .no) else .no
  | _ => .no
def stI (w : View) (i : Nat) (m : Int) : M Out := (intD w).bind fun n => fun g => match g.es[i]? with
  | some (.ol ds) => if n.toNat < ds.length then .ok (.nx, { g with es := g.es.set i (.ol (ds.set n.toNat (.int m))) }) else .no
  | _ => .no
theorem yAugIx {o ie e : Expr} {fi fv : M View} {tpos : Pos} {i : Nat} (hb : i ≠ C.b) (ho : PE X o (tVar i)) (hi : PE X ie (tV C fi)) (he : PE X e (tV C fv))
    (ha : ∀ ov iv new, augStore ie ov iv new = (do holding [new, ov, iv] (setItem ov iv new); release [new, ov, iv] []; pure .next) := by intros; rfl) : PS X (.AugAssign (.Subscript o ie tpos) .Add e pos) (tS C ((ownL i).bind fun _ => fi.bind fun w => (ixV w i).bind fun m => fv.bind fun u => (intD u).bind fun n => stI w i (m + n))) :=
  PS.imp (ps_augS ho hi pget_n he ip_add set_list ha) fun D0 σ H ⟨F, own, g, k, q⟩ => by
    have q0 := Cont.expr q
    unfold ownL at q0
    cases hg0 : g.es[i]? with
    | none => simp only [hg0] at q0; exact q0.elim
    | some en0 =>
    cases en0 with
    | un => simp only [hg0] at q0; exact q0.elim
    | im _ => simp only [hg0] at q0; exact q0.elim
    | oo _ => simp only [hg0] at q0; exact q0.elim
    | ol ds0 =>
    simp only [hg0] at q0
    have q := q0 F own H k Fr.refl
    have hl0 : i < σ.length := by
      rw [← k.len]
      exact (List.getElem?_eq_some_iff.mp hg0).1
    have hs0 : σ[i]? = some σ[i] := by simp [hl0]
    obtain ⟨a0, vs0, z1, z2, z3, z4⟩ := k.sl i _ _ hg0 hs0
    have h1 : σ[i]? = some (some (.ref a0)) := by rw [hs0, z1]
    refine ⟨.ref a0, h1, F, own, g, k, (Cont.expr q).imp fun w F1 own1 g1 H1 _ k1 f1 q1 iv hiv => ?_⟩
    have q2 := Cont.expr q1
    unfold ixV at q2
    obtain ⟨n, g2, e2, q3⟩ := After.at_end (m := intD) (After.fst q2) fun _ _ => intD_ne
    obtain ⟨rfl, e3⟩ := intD_ok hiv e2
    have q4 := q3 F1 own1 H1 k1 Fr.refl
    cases hg : g2.es[i]? with
    | none => simp only [hg] at q4; exact q4.elim
    | some en =>
    cases en with
    | un => simp only [hg] at q4; exact q4.elim
    | im _ => simp only [hg] at q4; exact q4.elim
    | oo _ => simp only [hg] at q4; exact q4.elim
    | ol ds =>
    simp only [hg] at q4
    have hn : 0 ≤ n := by
      by_cases z : 0 ≤ n
      · exact z
      · rw [if_neg z] at q4
        exact q4.elim
    rw [if_pos hn] at q4
    cases hx : ds[n.toNat]? with
    | none => simp only [hx] at q4; exact q4.elim
    | some dx =>
    cases dx with
    | none => simp only [hx] at q4; exact q4.elim
    | bool _ => simp only [hx] at q4; exact q4.elim
    | str _ => simp only [hx] at q4; exact q4.elim
    | list _ => simp only [hx] at q4; exact q4.elim
    | tuple _ => simp only [hx] at q4; exact q4.elim
    | dict _ => simp only [hx] at q4; exact q4.elim
    | int m =>
    simp only [hx] at q4
    obtain ⟨a, vs, y1, y2, y3, y4⟩ := k1.sl i _ _ hg h1
    cases y1
    obtain ⟨xv, hv1, hv2⟩ := dpAll_get y4 hx
    have hv3 := dp_int hv2
    subst hv3
    refine ⟨a0, vs, n, .int m, rfl, e3, y3, hn, hv1, F1, own1, g2, k1, (Cont.expr (q4 F1 own1 H1 k1 Fr.refl)).imp fun u F2 own2 g3 H2 _ k2 f2 q5 uv huv => ?_⟩
    obtain ⟨n2, g4, e4, q6⟩ := Cont.at_end (m := intD) (Cont.fst q5) fun _ _ => intD_ne
    obtain ⟨rfl, e5⟩ := intD_ok huv e4
    have q7 := q6 σ F2 own2 H2 k2 Fr.refl rfl
    refine ⟨m, n2, rfl, e5, ?_⟩
    unfold stI at q7
    have e6 : intD w g4 = .ok (n, g4) := by
      cases w with
      | own _ => cases e2
      | dat d => cases d <;> cases e2; rfl
    have q8 := Cont.fst q7
    rw [e6] at q8
    have q9 := q8 σ F2 own2 H2 k2 Fr.refl rfl
    cases hg4 : g4.es[i]? with
    | none => simp only [hg4] at q9; exact q9.elim
    | some en4 =>
    cases en4 with
    | un => simp only [hg4] at q9; exact q9.elim
    | im _ => simp only [hg4] at q9; exact q9.elim
    | oo _ => simp only [hg4] at q9; exact q9.elim
    | ol ds4 =>
    simp only [hg4] at q9
    have hlt : n.toNat < ds4.length := by
      by_cases z : n.toNat < ds4.length
      · exact z
      · rw [if_neg z] at q9
        exact q9.elim
    rw [if_pos hlt] at q9
    obtain ⟨a4, vs4, x1, x2, x3, x4⟩ := k2.sl i _ _ hg4 h1
    cases x1
    obtain ⟨k5, f5⟩ := k2.write (o := .lst (vs4.set n.toNat (.int (m + n2)))) hb x2 (e := .ol (ds4.set n.toNat (.int (m + n2)))) fun v' hv' => by
      rw [h1] at hv'
      cases hv'
      exact ⟨_, _, rfl, x2, upd_same, dpAll_set (.int _) _ x4⟩
    refine ⟨a0, vs4, n, n.toNat, rfl, e3, x3, ?_, q9 σ F2 own2 _ k5 f5 rfl⟩
    have h8 : n < (ds4.length : Int) := by omega
    unfold ixN
    rw [dpAll_len x4, if_pos hn, if_pos h8]

/-! ### the box -/
/-- a, b = box -/
def unbox (j1 j2 : Nat) : M Out := fun g => match g.box with
  | some [d1, d2] => .ok (.nx, { g with es := (g.es.set j1 (.im d1)).set j2 (.im d2) })
  | _ => .no
theorem yUnbox {x y : Str} {px py pt : Pos} {kt : Nat} {o : Expr} {j1 j2 : Nat} (hc : X.calm = true) (hK : C.K = X.K) (h1 : j1 ≠ C.b) (h2 : j2 ≠ C.b) (hN : X.N.Nodup) (hi : X.N[j1]? = some x) (hj : X.N[j2]? = some y) (hx : Loc X.env.scope x) (hy : Loc X.env.scope y) (ho : PE X o (tVar C.b))
    (hfx : X.fn x = true ∨ X.env.scope.names.lookup x = some .local := by first | exact .inl rfl | exact .inr rfl | assumption) (hfy : X.fn y = true ∨ X.env.scope.names.lookup y = some .local := by first | exact .inl rfl | exact .inr rfl | assumption)
    (hs : swapsWithSole [.Tuple [.Name x px, .Name y py] kt pt] o pos.line X.env = pure false := by rfl) (hw : swappedStores [.Tuple [.Name x px, .Name y py] kt pt] o X.env = pure none := by rfl) (h3 : (assignEach [.Tuple [.Name x px, .Name y py] kt pt] X.env).map (·.2) = [assign (.Tuple [.Name x px, .Name y py] kt pt) X.env] := by rfl) :
    PS X (.Assign [.Tuple [.Name x px, .Name y py] kt pt] o pos) (tS C (unbox j1 j2)) :=
  PS.imp (ps_asg ho (pg_unl (n := 2) hc (pgs_cons (pg_name hN hi hx hfx) (pgs_cons (pg_name hN hj hy hfy) pgs_nil))) hs hw h3) fun D0 σ H ⟨F, own, g, k, q⟩ => by
    unfold unbox at q
    cases hb : g.box with
    | none => simp only [hb] at q; exact q.elim
    | some bs =>
    obtain ⟨_, a, ws, s1, s2, s3, s4⟩ := k.bx bs hb
    cases s4 with
    | nil => simp only [hb] at q; exact q.elim
    | cons r1 t1 =>
    cases t1 with
    | nil => simp only [hb] at q; exact q.elim
    | cons r2 t2 =>
    cases t2 with
    | cons _ _ => simp only [hb] at q; exact q.elim
    | nil =>
    simp only [hb] at q
    obtain ⟨own3, k3, f3⟩ := k.set j1 h1 r1
    obtain ⟨own4, k4, f4⟩ := k3.set j2 h2 r2
    simp only [hb] at k4
    exact ⟨_, s1, a, _, rfl, hK ▸ (SqL.of s3 : SqL C.K H a _), rfl, _, _, rfl, _, _, rfl, rfl, q _ F own4 H k4 (f3.trans f4) (by rw [set_b h2, set_b h1])⟩
/-- box[j] = e, j written -/
def boxSet (j : Nat) (d : D) : M Out := fun g => match g.box with
  | some bs => if j < bs.length then .ok (.nx, { g with box := some (bs.set j d) }) else .no
  | none => .no
theorem yBoxSet {o e : Expr} {fd : M D} {j : Nat} {c : Nat} {p2 p3 : Pos} (ho : PE X o (tVar C.b)) (he : PE X e (tD C fd))
    (ha : ∀ v, assign (.Subscript o (.Constant (.int (j : Nat)) c p2) p3) X.env v = (do
      let ov ← holding [v] (eval o X.env)
      let iv ← holding [v, ov] (eval (.Constant (.int (j : Nat)) c p2) X.env)
      standAt p3
      holding [v, ov, iv] (setItem ov iv v)
      release [v, ov, iv] []) := by intro _; rfl)
    (hs : swapsWithSole [.Subscript o (.Constant (.int (j : Nat)) c p2) p3] e pos.line X.env = pure false := by rfl) (hw : swappedStores [.Subscript o (.Constant (.int (j : Nat)) c p2) p3] e X.env = pure none := by rfl)
    (h1 : (assignEach [.Subscript o (.Constant (.int (j : Nat)) c p2) p3] X.env).map (·.2) = [assign (.Subscript o (.Constant (.int (j : Nat)) c p2) p3) X.env] := by rfl) :
    PS X (.Assign [.Subscript o (.Constant (.int (j : Nat)) c p2) p3] e pos) (tS C (fd.bind (boxSet j))) :=
  PS.imp (ps_asg he (pg_sub ho pe_int set_list ha) hs hw h1) fun D0 σ H ⟨F, own, g, k, q⟩ => ⟨F, own, g, k, (Cont.expr q).imp fun d F1 own1 g1 H1 _ k1 f1 q1 v hv => by
    unfold boxSet at q1
    cases hb : g1.box with
    | none => simp only [hb] at q1; exact q1.elim
    | some bs =>
    simp only [hb] at q1
    have hl : j < bs.length := by
      by_cases z : j < bs.length
      · exact z
      · rw [if_neg z] at q1
        exact q1.elim
    rw [if_pos hl] at q1
    obtain ⟨_, a, ws, s1, s2, s3, s4⟩ := k1.bx bs hb
    have hll := dpAll_len s4
    obtain ⟨k5, f5⟩ := k1.wbox hb s1 s2 (dpAll_set hv j s4)
    refine ⟨_, s1, a, ws, (j : Nat), j, rfl, rfl, s3, ?_, q1 σ F1 own1 _ k5 f5 rfl⟩
    have h8 : ((j : Nat) : Int) < (ws.length : Int) := by omega
    unfold ixN
    rw [if_pos (by omega), if_pos h8]
    simp⟩

/-! ### a written dict of texts and ints, read at once -/
def kvK (kvs : List (Str × Int)) : List (Key × V) := kvs.map fun p => (Sum.inr p.1, V.int p.2)
def kvGet (kvs : List (Str × Int)) (s : Str) : Option Int := match valV (mergeK [] (kvK kvs)) (Sum.inr s : Key) with
  | some (.int n) => some n
  | _ => none
def dgetW (kvs : List (Str × Int)) : View → M D
  | .dat (.str s) => (match kvGet kvs s with
    | some n => M.pur (.int n)
    | none => M.no)
  | _ => M.no
theorem tPairs_kv {σ : L2.St} {H : Hp} : ∀ {kvs : List (Str × Int)} {Q : List (V × V) → Hp → Prop}, Q (kvs.map fun p => (V.str p.1, V.int p.2)) H → tPairs (kvs.map fun p => (tC (.str p.1), tC (.int p.2))) σ H Q
  | [], _, q => q
  | p :: r, _, q => tPairs_kv (kvs := r) q
theorem xDget {keys : List (Option Expr)} {values : List Expr} {kvs : List (Str × Int)} {ie : Expr} {fi : M View} (hu : X.A.units + 1 < cLine) (h : PPs X p keys values (kvs.map fun q => (tC (.str q.1), tC (.int q.2)))) (hall : keys.all (·.isSome) = true) (hl : keys.length = values.length) (h0 : keys ≠ []) (h15 : keys.length ≤ 15) (hk : kvs.length ≤ 15)
    (hi : PE X ie (tV C fi)) (hs : NoSl ie) : PE X (.Subscript (.Dict keys values p) ie pos) (tD C (fi.bind (dgetW kvs))) :=
  PE.imp (pe_dget hu (pe_disp h hall hl h0 h15) hi hs) fun σ H Q ⟨F, own, g, k, q⟩ => fun a ha => by
    refine tPairs_kv ⟨upd_same, kvK kvs, ?_, by unfold kvK; rw [List.length_map]; exact hk, ?_⟩
    · unfold kvK
      rw [List.map_map]
      rfl
    · obtain ⟨k1, f1⟩ := k.side (o := .dK (mergeK [] (kvK kvs))) ha
      have eu : upd (upd H a (.dK [])) a (.dK (mergeK [] (kvK kvs))) = upd H a (.dK (mergeK [] (kvK kvs))) := by
        funext c
        by_cases z : c = a
        · subst z
          rw [upd_same, upd_same]
        · rw [upd_ne z, upd_ne z, upd_ne z]
      rw [eu]
      have oa : own a = none := by
        cases z : own a with
        | none => rfl
        | some i => exact absurd ha (k.there a i z)
      refine ⟨F, own, g, k1, ((After.fst q).at_ f1).imp fun w F2 own2 g2 H2 _ k2 f2 q2 v hv => ?_⟩
      have hd : H2 a = some (.dK (mergeK [] (kvK kvs))) := f2.keep a _ upd_same oa
      unfold dgetW at q2
      cases w with
      | own i => exact q2.elim
      | dat d =>
      cases d with
      | none => exact q2.elim
      | bool _ => exact q2.elim
      | int _ => exact q2.elim
      | list _ => exact q2.elim
      | tuple _ => exact q2.elim
      | dict _ => exact q2.elim
      | str s =>
      cases hg : kvGet kvs s with
      | none => simp only [hg] at q2; exact q2.elim
      | some n =>
      simp only [hg] at q2
      have hvs := dp_str hv
      subst hvs
      have hval : valV (mergeK [] (kvK kvs)) (Sum.inr s : Key) = some (.int n) := by
        unfold kvGet at hg
        cases z : valV (mergeK [] (kvK kvs)) (Sum.inr s : Key) with
        | none => rw [z] at hg; cases hg
        | some u =>
          rw [z] at hg
          cases u <;> cases hg
          rfl
      exact ⟨a, .int n, rfl, hval ▸ DGet.k (k := Sum.inr s) hd, q2 F2 own2 H2 k2 Fr.refl _ (.int _)⟩
end
end DL
set_option maxRecDepth 100000
set_option maxHeartbeats 4000000
/-! DL14: and, not as values; written ints below 0; operators in place; lengths of argument lists. -/
namespace DL
open PySem PySem.Spec L2 PyProof.Rows
section
variable {X : Cx} {C : Cc} {a e : Expr} {b' : Expr} {rest : List Expr} {fa fb fd : M D} {fv : M View} {pos : Pos}
theorem xAnds (ha : PE X a (tD C fa)) (hb : PE X (.BoolOp .And (b' :: rest) pos) (tD C fb)) : PE X (.BoolOp .And (a :: b' :: rest) pos) (tD C ((fa.bind toB).bind fun c => if c = true then fb else M.pur (.bool false))) := xAndV ha hb (pe_and ha hb)
theorem xAnd0 (ha : PE X a (tD C fa)) : PE X (.BoolOp .And [a] pos) (tD C fa) := pe_one ha
theorem xNotV (ha : PE X a (tD C fa)) : PE X (.UnaryOp .Not a pos) (tD C ((fa.bind toB).bind fun c => M.pur (.bool (!c)))) :=
  PE.imp (pe_not ha) fun σ H Q ⟨F, own, g, k, q⟩ => ⟨F, own, g, k, (After.fst (After.fst q)).imp fun d F1 own1 g1 H1 _ k1 f1 q1 v hv => by
    obtain ⟨c, g2, e2, q2⟩ := After.at_end (m := toB) q1 fun _ _ => toB_ne
    obtain ⟨e3, e4⟩ := toB_ok e2
    subst e3 e4
    exact ⟨c, dp_bool hv, q2 F1 own1 H1 k1 Fr.refl F1 own1 H1 k1 Fr.refl _ (.bl _)⟩⟩
def negD : D → M D
  | .int i => M.pur (.int (-i))
  | _ => M.no
theorem xNeg (ha : PE X a (tD C fa)) : PE X (.UnaryOp .USub a pos) (tD C (fa.bind negD)) :=
  PE.imp (pe_un un_neg ha) fun σ H Q ⟨F, own, g, k, q⟩ => ⟨F, own, g, k, (After.fst q).imp fun d F1 own1 g1 H1 _ k1 f1 q1 v hv => by
    cases hv with
    | int i => exact ⟨i, rfl, q1 F1 own1 H1 k1 Fr.refl _ (.int _)⟩
    | _ => exact q1.elim⟩
abbrev addI : View → View → M D := int2 (fun _ _ => true) fun i j => .int (i + j)
theorem smallC {i j : Int} (h : (smallI i || smallI j) = true) : CMul i j := by
  rw [Bool.or_eq_true] at h
  exact h.elim (fun z => .inl (smallI_ok z)) fun z => .inr (smallI_ok z)
section
variable {i : Nat} {x : Str} {p2 : Pos} (hb : i ≠ C.b) (hN : X.N.Nodup) (hi : X.N[i]? = some x) (hx : Loc X.env.scope x) (he : PE X e (tV C fv))
theorem yAddI (hb : i ≠ C.b) (hN : X.N.Nodup) (hi : X.N[i]? = some x) (hx : Loc X.env.scope x) (he : PE X e (tV C fv)) (hf : X.fn x = true ∨ X.env.scope.names.lookup x = some .local := by first | exact .inl rfl | exact .inr rfl | assumption) : PS X (.AugAssign (.Name x p2) .Add e pos) (tS C ((nam i).bind fun x => fv.bind fun y => (addI x y).bind fun d => (put i d).bind fun _ => M.pur .nx)) := yAug hb hN hi hx he iop_add int2_I0 hf
theorem ySubI (hb : i ≠ C.b) (hN : X.N.Nodup) (hi : X.N[i]? = some x) (hx : Loc X.env.scope x) (he : PE X e (tV C fv)) (hf : X.fn x = true ∨ X.env.scope.names.lookup x = some .local := by first | exact .inl rfl | exact .inr rfl | assumption) : PS X (.AugAssign (.Name x p2) .Sub e pos) (tS C ((nam i).bind fun x => fv.bind fun y => (subV x y).bind fun d => (put i d).bind fun _ => M.pur .nx)) := yAug hb hN hi hx he iop_sub int2_I0 hf
theorem yMulI (hb : i ≠ C.b) (hN : X.N.Nodup) (hi : X.N[i]? = some x) (hx : Loc X.env.scope x) (he : PE X e (tV C fv)) (hf : X.fn x = true ∨ X.env.scope.names.lookup x = some .local := by first | exact .inl rfl | exact .inr rfl | assumption) : PS X (.AugAssign (.Name x p2) .Mult e pos) (tS C ((nam i).bind fun x => fv.bind fun y => (mulV x y).bind fun d => (put i d).bind fun _ => M.pur .nx)) := yAug hb hN hi hx he iop_mul (int2_I fun _ _ h => smallC h) hf
end
/-! ### short forms for what a program prints -/
abbrev sV (b : Nat) (f : M View) : M D := f.bind (frz b)
abbrev sD (f : M D) : M View := f.bind fun d => M.pur (.dat d)
abbrev sL (f : M (List D)) : M D := f.bind fun ds => M.pur (.list ds)
abbrev s2 (f f2 : M View) (h : View → View → M D) : M D := f.bind fun x => f2.bind fun y => h x y
abbrev s2N (f f2 : M View) (h : View → View → M (List D)) : M (List D) := f.bind fun x => f2.bind fun y => h x y
abbrev sT (f : M D) : M Bool := f.bind toB
abbrev sAnd (t t2 : M Bool) : M Bool := t.bind fun c => if c = true then t2 else M.pur false
abbrev sOr (t t2 : M Bool) : M Bool := t.bind fun c => if c = true then M.pur true else t2
abbrev sNot (t : M Bool) : M Bool := t.bind fun c => M.pur (!c)
abbrev sIf (t : M Bool) (fa fb : M D) : M D := t.bind fun c => if c = true then fa else fb
abbrev sAndV (fa fb : M D) : M D := (fa.bind toB).bind fun c => if c = true then fb else M.pur (.bool false)
abbrev sNotV (fa : M D) : M D := (fa.bind toB).bind fun c => M.pur (.bool (!c))
abbrev sCons (f : M View) (fs : M (List View)) : M (List View) := f.bind fun w => fs.bind fun ws => M.pur (w :: ws)
abbrev sNil : M (List View) := M.pur []
abbrev sTup (b : Nat) (fs : M (List View)) : M D := fs.bind fun ws => tupF ws b
abbrev sLst (b : Nat) (fs : M (List View)) : M (List D) := fs.bind fun ws => lstF ws b
abbrev sCall (b : Nat) (fs : M (List View)) (fn : List D → R D) : M D := fs.bind fun ws => (frzs b ws).bind (callD fn)
abbrev sCallB (b : Nat) (fs : M (List View)) (fn : List D → List D → R (D × List D)) : M D := boxOk.bind fun _ => fs.bind fun ws => (frzs b ws).bind (callB fn)
abbrev sSl (f : M View) (fl fh : M (Option Int)) : M D := f.bind fun x => fl.bind fun l => fh.bind fun h => cutW x l h
abbrev sPt (f : M View) : M (Option Int) := f.bind fun w => (intD w).bind fun i => M.pur (some i)
abbrev sNo : M (Option Int) := M.pur none
abbrev uSet (i : Nat) (f : M D) : M Out := f.bind fun d => (put i d).bind fun _ => M.pur .nx
abbrev uSetO (i : Nat) (f : M (List D)) : M Out := f.bind fun d => (putO i d).bind fun _ => M.pur .nx
abbrev uSetOO (i : Nat) (f : M (List (List D))) : M Out := f.bind fun d => (putOO i d).bind fun _ => M.pur .nx
abbrev uAug (i : Nat) (f : M View) (h : View → View → M D) : M Out := (nam i).bind fun x => f.bind fun y => (h x y).bind fun d => (put i d).bind fun _ => M.pur .nx
abbrev uRet (f : M D) : M Out := f.bind fun d => M.pur (.rt d)
abbrev uIf (t : M Bool) (f f2 : M Out) : M Out := t.bind fun c => if c = true then f else f2
abbrev uFor (fi : M (List D)) (ga : D → M Unit) (fb : M Out) : M Out := fi.bind fun ds => forD ga fb ds
abbrev uAsg (f : M D) (ga : D → M Unit) : M Out := f.bind fun d => (noEr (ga d)).bind fun _ => M.pur .nx
abbrev uPar (b i j : Nat) (fs : M (List View)) : M Out := fs.bind fun ws => (frzs b ws).bind fun ds => match ds with
  | [d, e] => (put i d).bind fun _ => (put j e).bind fun _ => M.pur .nx
  | _ => M.no
abbrev uApp (i : Nat) (f : M D) : M Out := (ownL i).bind fun _ => f.bind fun d => appO i d
abbrev uEx (f : M D) : M Out := f.bind fun _ => M.pur .nx
abbrev uAugIx (i : Nat) (fi fv : M View) : M Out := (ownL i).bind fun _ => fi.bind fun w => (ixV w i).bind fun m => fv.bind fun u => (intD u).bind fun n => stI w i (m + n)
abbrev chT (h h2 : View → View → M D) (f f2 f3 : M View) : M Bool := (chF h h2 f f2 f3).bind toB
theorem notB {i b : Nat} (h : i ≠ b) (g : Sg) (w : View) (g1 : Sg) (e : nam i g = .ok (w, g1)) : w ≠ .own b := by
  unfold nam at e
  cases z : g.es[i]? with
  | none => simp [z] at e
  | some en =>
    cases en with
    | un => simp [z] at e
    | im d =>
      simp only [z] at e
      cases e
      simp
    | ol d =>
      simp only [z] at e
      cases e
      intro q
      cases q
      exact h rfl
    | oo d =>
      simp only [z] at e
      cases e
      intro q
      cases q
      exact h rfl
/-! ### lengths of argument lists -/
def LenF (fs : M (List View)) (n : Nat) : Prop := ∀ ws g0 g1, fs g0 = .ok (ws, g1) → ws.length = n
theorem ln0 : LenF sNil 0 := fun ws g0 g1 h => by
  cases h
  rfl
theorem ln1 {f : M View} {fs : M (List View)} {n : Nat} (h : LenF fs n) : LenF (sCons f fs) (n + 1) := fun ws g0 g1 e => by
  obtain ⟨w, g2, e1, e2⟩ := bind_ok e
  obtain ⟨ws2, g3, e3, e4⟩ := bind_ok e2
  cases e4
  rw [List.length_cons, h _ _ _ e3]
end
end DL
set_option maxRecDepth 100000
set_option maxHeartbeats 4000000
/-! DX: an own exception, its class below ValueError by own classes, its __init__: super().__init__(r); self.f = r. -/
namespace DL
open PySem PySem.Spec L2 PyProof.Rows
/-- the body of __init__ -/
def eiB (par f : Str) (q1 q2 q3 q4 q5 q6 q7 q8 q9 q10 : Pos) : List Stmt := [.Expr (.Call (.Attribute (.Call (.Name "super" q1) [] [] q2) "__init__" q3) [.Name par q4] [] q5) q6, .Assign [.Attribute (.Name "self" q7) f q8] (.Name par q9) q10]
def eiS (par : Str) (l : List (Str × NameKind)) : Prop := l.lookup ("self" : Str) = some NameKind.local ∧ l.lookup par = some NameKind.local ∧ l.lookup ("super" : Str) = some NameKind.globalImplicit ∧ l.lookup ("__class__" : Str) = some NameKind.free ∧ ∀ x ∈ l, x.2 ≠ NameKind.cell
abbrev eiSc (l : List (Str × NameKind)) : Scope := { kind := .function, names := l, isGenerator := false, isCoroutine := false, more := [] }
/-- what is known of the class x at C and of its __init__ at fI; f is the field's and the parameter's name -/
structure ExT (P : Program) (K : PySem.W.Frag) (mg : Str → Option Value) (x : Str) (C fI : Addr) (f : Str) : Prop where
  gC : mg x = some (.ref C)
  sup : mg "super" = none
  cls : ∃ nm q N bs bm sn sub ab col dd k0 k1 k2 k3 k5, K.lookup C = some (excClassObj nm q C N bs bm true sn sub ab col dd k0 k1 k2 k3 k5 "ValueError.__new__") ∧ PySem.HandSPX.refsVE bm = true ∧ PySem.W.alongIn K "__init__" bm = some (some (.builtin "ValueError.__init__"))
  sa : PySem.W.findIn K (.ref C) "__setattr__" = some (some (.builtin "object.__setattr__"))
  ga : PySem.W.findIn K (.ref C) "__getattribute__" = some (some (.builtin "BaseException.__getattribute__"))
  gg : PySem.W.findIn K (.ref C) "__getattr__" = some none
  noN : PySem.W.findIn K (.ref C) f = some none
  iC : PySem.W.findIn K (.ref C) "__init__" = some (some (.ref fI))
  tI : PySem.W.typeIn K (.ref fI) = some (.type "function")
  kC : PySem.W.keepIn K (.ref C) = true
  exC : PySem.W.subIn K (.ref C) (.type "BaseException") = some true
  veC : PySem.W.subIn K (.ref C) (.type "ValueError") = some true
  self : PySem.W.mroIn K C (.ref C) = some true
  tyC : PySem.W.typeIn K (.ref C) = some (.type "type")
  hdC : PySem.W.hasDictIn K C = true
  opq : PySem.W.nsIn K cStatics "thirdparty.any" = some none
  top : (P.main.scope.names.lookup ("super" : Str)).isSome = false
  fn : ∃ (oc : Value) (od : Option Addr) (q : Str) (ps : Arguments) (l : List (Str × NameKind)) (doc pm : Value) (an : Option Addr) (cda : Addr) (ct : Value) (cc : Addr) (osl : Array (Option Value)) (q1 q2 q3 q4 q5 q6 q7 q8 q9 q10 : Pos) (ccl : Value) (cdd : Option Addr) (vs : Array Value) (ccs : Array (Option Value)) (file : Str) (tf : Tok) (cl : Value) (cld : Option Addr) (csl : Array (Option Value)),
    K.lookup fI = some ⟨oc, od, .func (PySem.W.ksFn "__init__" q ps (eiB f f q1 q2 q3 q4 q5 q6 q7 q8 q9 q10) (eiSc l) .none .none doc pm an (.ref cda) ct cc), osl⟩ ∧ PySem.W.codeIn K (.ref cda) q = true ∧
    K.lookup cda = some ⟨ccl, cdd, .fields vs, ccs⟩ ∧ vs[2]? = some (.str file tf) ∧ ((P.main.file : Str) == file) = true ∧ K.lookup cc = some ⟨cl, cld, .cell (some (.ref C)), csl⟩ ∧ eiS f l ∧ (∀ env : Env, ∃ pl : Sem Bool, eval (.Call (.Attribute (.Call (.Name "super" q1) [] [] q2) "__init__" q3) [.Name f q4] [] q5) env = (do
      let ov ← attributeBase (.Call (.Name "super" q1) [] [] q2) "__init__" env (eval (.Call (.Name "super" q1) [] [] q2) env)
      standAt q3.atName
      let (g, first) ← holding [ov] (getMethod ov "__init__" pl)
      callWith q5 g first (backTo q5 (starEach [.Name f q4] env)) [])) ∧
    (∃ ar, (ps.posonlyargs ++ ps.args).head? = some ar ∧ ar.arg = "self") ∧ ∀ a b : Value, bindArgs (PySem.W.ksFn "__init__" q ps (eiB f f q1 q2 q3 q4 q5 q6 q7 q8 q9 q10) (eiSc l) .none .none doc pm an (.ref cda) ct cc) ⟨[a, b], []⟩ = pure [(("self" : Str), a), (f, b)]
  ne : f ≠ "self"
  nd : (f == ("__debug__" : Str)) = false
theorem ld_in {M : Model} {A : Around} {E : Value → Shared → Prop} {s : Shared} {env : Env} {m : Str → Option Value} {y : Str} {pos : Pos} {v : Value} {Q : Value → Shared → Prop} (hk : env.scope.kind = .function) (hl : env.kindOf y = some .local) (hn : s.heap.Ns env.locals m) (hv : m y = some v) (h : Q v s)
    (hd : (y == ("__debug__" : Str)) = false) : wpAny M A (eval (.Name y pos) env) Q E s := wpAny_Name (wpAny_loadName_local hk hl hn hv h) hd
/-- what __init__ leaves -/
structure MadeI (h h' : Heap) (e C dx t1 : Addr) (f : Str) (v : Value) : Prop where
  keep : ∀ b o, b ≠ e → h.get? b = some o → h'.get? b = some o
  obj : h'.get? e = some { cls := .ref C, dict := some dx, data := .fields #[.ref t1, .none, .none, .none, .bool false, .none] }
  dbig : h.objs.size ≤ dx
  dne : dx ≠ e
  ns : h'.Ns1 dx fun y => if y = f then some v else none
section
variable {prog : Program} {w : World} {A : Around} {E : Value → Shared → Prop} {R : Result → Shared → Prop} {s : Shared} {K : PySem.W.Frag} {mg : Str → Option Value} {base : Heap} {C fI : Addr} {cn f : Str}
/-- the bound ValueError.__init__ called -/
theorem call_mw {h : Heap} {g : Array GenState} {d : Drawn} {t : Nat} {os : OsState} {u e t0 : Addr} {rest : List Value} {Q : Value → Shared → Prop} {nm q : Str} {N : Addr} {bs bm : List Value} {hdct : Bool} {sn : List Str} {sub : List Value} {ab : Bool} {col : Option Bool} {dd : Option Addr} {k0 k1 k2 k3 k5 : Option Value}
    (hC : h.get? C = some (excClassObj nm q C N bs bm hdct sn sub ab col dd k0 k1 k2 k3 k5 "ValueError.__new__")) (hbm : PySem.HandSPX.refsVE bm = true) (he : h.get? e = some (PySem.HandSPX.excO C t0)) (hu : h.get? u = some (PySem.W.kxs_mw "ValueError.__init__" e)) (hrest : rest.length ≤ sizeLine)
    (hq : ∀ h' t1, (∀ b o, b ≠ e → h.get? b = some o → h'.get? b = some o) → h'.get? e = some (PySem.HandSPX.excO C t1) → Q .none ⟨h', g, d, t, os⟩) : wpAny (model prog w) A (call (.ref u) rest) Q E ⟨h, g, d, t, os⟩ := by
  refine wpAny_call (codeAny_of_tree ?_)
  show wpAny _ A.in1 (callAny (.ref u) ⟨rest, []⟩) _ _ _
  simp only [callAny]
  refine wpAny_bind (wpAny_load hu ?_)
  simp only [PySem.W.kxs_mw, show (Value.type "method-wrapper" == Value.type "method" || Value.type "method-wrapper" == Value.type "builtin_function_or_method" || Value.type "method-wrapper" == Value.type "method-wrapper") = true by decide, if_true]
  refine PySem.W.KFB.if_so (by decide) ?_
  refine wpAny_bind (PySem.W.check_bound_init (F.excBase_ValueError).toExcCallFacts hC he rfl ?_)
  refine wpAny_bind (wpAny_pure (wpAny_pure ?_))
  refine ⟨plainId_quiet (F.excBase_ValueError).init.plain _, codeAny_builtin (F.excBase_ValueError).initEntry ?_⟩
  rw [Around.under_plainId (F.excBase_ValueError).init.plain _]
  exact PySem.W.exc_init_tree (cls := .ref C) (t0 := t0) (dv := none) (c2 := .none) (c3 := .none) (b4 := .bool false) he hrest fun h' k1 k2 k3 => hq h' _ k1 k2
theorem ei_run (T : ExT prog K mg cn C fI f) (M : Mod K mg base) (hb : ∀ b o, base.get? b = some o → s.heap.get? b = some o) {x t0 : Addr} {v : Value} (hx : s.heap.get? x = some (PySem.HandSPX.excO C t0)) (hnx : K.lookup x = none) (hroom : A.depth < recursionLimit)
    (hq : ∀ h' tk dx t1, MadeI s.heap h' x C dx t1 f v → R (.ok (.ret .none)) { s with heap := h', toks := tk }) :
    codeAny (model prog w) A (.call (.ref fI) ⟨[.ref x, v], []⟩) R s := by
  have X : K.In s.heap := M.kin.keeps hb
  have hlim : s.heap.NoLimit := M.nolimit.keeps hb
  obtain ⟨oc, od, q, ps, l, doc, pm, an, cda, ct, cc, osl, q1, q2, q3, q4, q5, q6, q7, q8, q9, q10, ccl, cdd, vs, ccs, file, tf, cl, cld, csl, hfn, hcd, hcode, hvs, hfile, hcell, ⟨n1, n2, n3, n4, n5⟩, hmc, ⟨ar, har1, har2⟩, hps⟩ := T.fn
  obtain ⟨nm, qq, N, bs, bm, sn, sub, ab, col, dd, k0, k1, k2, k3, k5, hC, hbm, hal⟩ := T.cls
  have hcl : PySem.W.clsIn K C = some { name := nm, bases := bs, mro := .ref C :: bm, ns := N, qualname := qq, hasDict := true, slotNames := sn, subclasses := sub, abstract := ab, collection := col, hasDel := false } := by
    unfold PySem.W.clsIn
    rw [hC] <;> rfl
  obtain ⟨mb, hB1, hB2⟩ := M.blt
  refine ks_codeAny_call_defAt (fd := PySem.W.ksFn "__init__" q ps (eiB f f q1 q2 q3 q4 q5 q6 q7 q8 q9 q10) (eiSc l) .none .none doc pm an (.ref cda) ct cc) (body := eiB f f q1 q2 q3 q4 q5 q6 q7 q8 q9 q10) (binds := [(("self" : Str), .ref x), (f, v)]) hroom (X _ _ hfn) rfl hlim (PySem.W.codeRec_of X hcd) rfl
    (BindsTo.of_eq (hps _ _)) n5 (fun y hy => ?_) (fun h₁ hns hk₁ => ?_) rfl rfl rfl
  · rcases List.mem_cons.mp hy with z | z
    · rw [z]
      exact n1
    · rw [List.mem_singleton.mp z]
      exact n2
  have X1 : K.In h₁ := X.keeps hk₁
  have hx1 := hk₁ _ _ hx
  have mself : (fun y : Str => List.lookup y ([(("self" : Str), Value.ref x), (f, v)] : List (Str × Value)).reverse) "self" = some (.ref x) := by
    show List.lookup ("self" : Str) [(f, v), (("self" : Str), Value.ref x)] = _
    rw [List.lookup_cons, beq_eq_false_iff_ne.mpr (Ne.symm T.ne)]
    rfl
  have mf : (fun y : Str => List.lookup y ([(("self" : Str), Value.ref x), (f, v)] : List (Str × Value)).reverse) f = some v := by
    show List.lookup f [(f, v), (("self" : Str), Value.ref x)] = _
    simp [List.lookup]
  generalize hm : (fun y : Str => List.lookup y ([(("self" : Str), Value.ref x), (f, v)] : List (Str × Value)).reverse) = m at hns mself mf
  have hL : s.heap.objs.size < h₁.objs.size := hns.lt
  have hxC : x ≠ C := fun z => by
    rw [z, hC] at hnx
    cases hnx
  have I1 : PySem.W.InstAt h₁ x (PySem.HandSPX.excO C t0) C none := ⟨hx1, rfl, rfl, True.intro⟩
  have hD : h₁.get? C = some (excClassObj nm qq C N bs bm true sn sub ab col dd k0 k1 k2 k3 k5 "ValueError.__new__") := X1 _ _ hC
  have hG : h₁.Ns mainGlobals mg := (M.glob.keeps hb).keeps hk₁
  have hBl : h₁.Ns builtinsNs mb := (hB1.keeps hb).keeps hk₁
  -- super().__init__(r)
  obtain ⟨pl, hmc⟩ := hmc (callEnv (PySem.W.ksFn "__init__" q ps (eiB f f q1 q2 q3 q4 q5 q6 q7 q8 q9 q10) (eiSc l) .none .none doc pm an (.ref cda) ct cc) s.heap.objs.size fI)
  refine ks_wpAt_execs_cons (ks_wpAt_Expr_any (ks_wpAt_MethodCall ?_ hmc))
  refine ks_wpAt_super_base (f := fI) (cc := cda) (file := file) (ar := ar) n3 n4 (by decide) rfl (X1 _ _ hfn) rfl har1 rfl (X1 _ _ hcode) rfl hvs hfile T.top ?_
  refine PySem.W.ks_loadName_global rfl n3 (Calls.loadGlobal_builtin hG T.sup hBl ((hB2 _ (by decide)).trans (by decide +kernel)) ⟨rfl, ?_⟩)
  refine wpAny_loadName_free rfl n4 (c := cc) (by rfl) ⟨_, X1 _ _ hcell, rfl⟩ ?_
  rw [har2]
  refine wpAny_loadName_local rfl n1 hns mself ?_
  refine ks_wpAny_isType_cls hD rfl ⟨rfl, ?_⟩
  refine ks_wpAny_call_super hD rfl hx1 rfl (fun c z => by cases z) (PySem.W.looks_mroIn X1 T.self) (fun h2 e2 k2 => ?_)
  have X2 : K.In h2 := X1.keeps k2
  have hI : PySem.W.Looks (model prog w) h2 (isInstance (.ref x) (.type "ValueError")) true := (PySem.W.InstAt.type (od := none) ⟨k2 _ _ hx1, rfl, rfl, True.intro⟩).andThen (PySem.W.looks_subIn X2 T.veC)
  refine PySem.W.kxs_getMethod PySem.W.kxs_ValueError e2 (PySem.W.looks_opaque X2 T.opq) (l₀ := .ref C :: bm) (fun A Q E s k q => wpAny_bind ((PySem.W.looks_clsIn X2 hcl) A _ E s k (wpAny_pure q))) (l := bm) (by simp [List.dropWhile_cons]) X2 hal hI hxC (by decide) ?_
  have kp : ∀ b o, h₁.get? b = some o → (h2.push (PySem.W.kxs_mw "ValueError.__init__" x)).get? b = some o := fun b o e => Heap.get?_push_of_some _ (k2 b o e)
  have hmw : (h2.push (PySem.W.kxs_mw "ValueError.__init__" x)).get? h2.objs.size = some (PySem.W.kxs_mw "ValueError.__init__" x) := Heap.get?_push_size _ rfl
  have hns2 := hns.keeps kp
  refine PySem.W.kxs_callWith (i := "ValueError.__init__") (x := x) (by rfl) ?_
  refine Calls.evalArgs_plain (Calls.spliced_cons (ld_in rfl n2 hns2 mf (Calls.spliced_nil ⟨hmw, ?_⟩) T.nd))
  refine call_mw (kp _ _ hD) hbm (kp _ _ hx1) hmw (by show 1 ≤ sizeLine; decide) fun h3 t1 k3 e3 => ?_
  -- self.f = r
  have xL : ∀ {o : Obj}, h₁.get? s.heap.objs.size = some o → s.heap.objs.size ≠ x := fun {o} _ z => by
    have := Heap.lt_size hx
    rw [z] at this
    exact absurd this (Nat.lt_irrefl _)
  have hns3 : h3.Ns s.heap.objs.size m := hns2.at fun o e => k3 _ o (fun z => absurd (Heap.lt_size hx) (by rw [← z]; exact Nat.lt_irrefl _)) e
  have old : ∀ b o, s.heap.get? b = some o → b ≠ x → h3.get? b = some o := fun b o e ne => k3 b o ne (kp b o (hk₁ b o e))
  have X3 : K.In h3 := fun b o e => k3 b o (fun z => by rw [z, hnx] at e; cases e) (kp b o (X1 b o e))
  refine wpAt_of_wpAny ?_
  refine wpAny_execs_cons (plainObj_wpAny_Assign_Attribute ?_)
  refine ld_in rfl n2 hns3 mf (ld_in rfl n1 hns3 mself ?_ (by decide)) T.nd
  refine PySem.W.set_plain X3 (ox := PySem.HandSPX.excO C t1) (od := none) ⟨e3, rfl, rfl, True.intro⟩ T.sa ?_
  refine PySem.HandSPX.exc_osa X3 e3 hcl (show PySem.HandSPX.refsVE (.ref C :: bm) = true from hbm) rfl T.noN (fun h4 tk4 dx k4 dn dne hx4 hn4 => ?_)
  refine wpAny_execs_nil (hq h4 tk4 dx t1 ⟨fun b o hne e => k4 b o hne (old b o e hne), hx4, ?_, dne, hn4⟩)
  have a1 : s.heap.objs.size < h3.objs.size := by
    obtain ⟨o, es, ep, e, _⟩ := hns3
    exact Heap.lt_size e
  exact Nat.le_trans (Nat.le_of_lt a1) dn
end
end DL
set_option maxRecDepth 100000
set_option maxHeartbeats 4000000
/-! DY: an own exception made and raised, by data. -/
namespace DL
open PySem PySem.Spec L2 PyProof.Rows
/-- behind the class called -/
structure MadeX (h h' : Heap) (e C dx : Addr) (f : Str) (v : Value) : Prop where
  keep : ∀ b o, h.get? b = some o → h'.get? b = some o
  new : h.objs.size ≤ e
  obj : ∃ vs, h'.get? e = some { cls := .ref C, dict := some dx, data := .fields vs } ∧ vs[1]? = some .none
  dbig : h.objs.size ≤ dx
  dne : dx ≠ e
  ns : h'.Ns1 dx fun y => if y = f then some v else none
section
variable {prog : Program} {w : World} {A : Around} {E : Value → Shared → Prop} {R : Result → Shared → Prop} {s : Shared} {K : PySem.W.Frag} {mg : Str → Option Value} {base : Heap} {C fI : Addr} {cn f : Str}
theorem ex_made (T : ExT prog K mg cn C fI f) (M : Mod K mg base) (hb : ∀ b o, base.get? b = some o → s.heap.get? b = some o) {v : Value} (hroom : A.depth + 1 < recursionLimit) (hq : ∀ h' tk e dx, MadeX s.heap h' e C dx f v → R (.ok (.ret (.ref e))) { s with heap := h', toks := tk }) :
    codeAny (model prog w) A (.call (.ref C) ⟨[v], []⟩) R s := by
  obtain ⟨nm, qq, N, bs, bm, sn, sub, ab, col, dd, k0, k1, k2, k3, k5, hC, hbm, hal⟩ := T.cls
  obtain ⟨hp, g, dr, tk, os⟩ := s
  have hb : ∀ b o, base.get? b = some o → hp.get? b = some o := hb
  have X : K.In hp := M.kin.keeps hb
  have up : ∀ b o, hp.get? b = some o → ((hp.push (PySem.W.kdv_tup [v])).push (PySem.HandSPX.excO C hp.objs.size)).get? b = some o := fun b o e => Heap.get?_push_of_some _ (Heap.get?_push_of_some _ e)
  have hget : ((hp.push (PySem.W.kdv_tup [v])).push (PySem.HandSPX.excO C hp.objs.size)).get? (hp.objs.size + 1) = some (PySem.HandSPX.excO C hp.objs.size) := by heap_get
  have hnx : K.lookup (hp.objs.size + 1) = none := by
    cases e : K.lookup (hp.objs.size + 1) with
    | none => rfl
    | some o => exact absurd (Nat.lt_of_succ_lt (Heap.lt_size (show hp.get? (hp.objs.size + 1) = some o from X _ _ e))) (Nat.lt_irrefl _)
  refine PySem.HandSPX.call_own F.excBase_ValueError (fun Y => PySem.HandSPX.refsVE_contains Y bm hbm) (X _ _ hC) (PySem.W.looks_findIn X T.iC) (fun self => PySem.W.bind_fn X self T.tI) (by show 1 ≤ sizeLine; decide) ?_
  refine ei_run (s := ⟨(hp.push (PySem.W.kdv_tup [v])).push (PySem.HandSPX.excO C hp.objs.size), g, dr, tk, os⟩) T M (fun b o e => up b o (hb b o e)) hget hnx (by rw [show (A.under (.builtin "type.__call__" ⟨.ref C :: [v], []⟩)).depth = A.depth + 1 from make_depth]; exact hroom) fun h' tk' dx t1 md => ?_
  have z : hp.objs.size + 1 + 1 ≤ dx := by
    have q := md.dbig
    rw [Heap.size_push, Heap.size_push] at q
    exact q
  exact ⟨rfl, hq h' tk' (hp.objs.size + 1) dx ⟨fun b o e => md.keep b o (Nat.ne_of_lt (Nat.lt_succ_of_lt (Heap.lt_size e))) (up b o e), Nat.le_succ _, ⟨_, md.obj, rfl⟩, Nat.le_trans (Nat.le_trans (Nat.le_succ _) (Nat.le_succ _)) z, md.dne, md.ns⟩⟩
end
section
variable {X : Cx} {Cx0 : Cc} {C fI : Addr} {x f : Str}
theorem relO_one {v : V} {v' : Value} (r : RelV v v') (f g : Str) : RelO (List.lookup g [(f, v)]) (if g = f then some v' else none) := by
  by_cases h : g = f
  · subst h
    rw [if_pos rfl, show List.lookup g [(g, v)] = some v by simp [List.lookup]]
    exact r
  · rw [if_neg h, show List.lookup g [(f, v)] = none by
      have : (g == f) = false := by simpa using h
      simp [List.lookup, this]]
    exact True.intro
def oneQ (P : V → Hp → Prop) : List V → Hp → Prop
  | [v], H => P v H
  | _, _ => False
theorem oneQ_at {P : V → Hp → Prop} : ∀ {vs : List V} {H : Hp}, oneQ P vs H → ∃ v, vs = [v] ∧ P v H
  | [v], _, h => ⟨v, rfl, h⟩
  | [], _, h => h.elim
  | _ :: _ :: _, _, h => h.elim
/-- C(e) -/
def tMk1 (C : Addr) (f : Str) (te : TE) : L2.St → Hp → XK → Prop := fun σ H Q => te σ H fun v H1 => ∀ dx, H1 dx = none → Q (.ref C) (some dx) (upd H1 dx (.xd [(f, v)]))
theorem pmk_one {a : Expr} {te : TE} {p pos : Pos} {k : Nat} (T : ExT X.prog X.K X.mg x C fI f) (hr : Room k X.A) (ha : PE X a te) (hg : Gl X x) (hdb : (x == ("__debug__" : Str)) = false := by decide)
    (he : starEach [a] X.env = (false, eval a X.env) :: starEach [] X.env := by rfl) (hpl : (backTo pos (starEach [] X.env)).any (·.1) = false := by rfl) : PMk X (.Call (.Name x p) [a] [] pos) (tMk1 C f te) := by
  intro pins s σ H Q I h
  refine wpAny_Call_Name_kw (ld_glob I hg T.gC ?_ hdb)
  refine PySem.W.callWith_K (h₀ := X.base) I.ok.mod.kin T.kC (thn ((pa_cons ha pa_nil he).run pos pins s σ H (oneQ fun v H1 => ∀ dx, H1 dx = none → Q (.ref C) (some dx) (upd H1 dx (.xd [(f, v)]))) I h) fun us s1 hh => ?_) he hpl
  · obtain ⟨vs, H1, I1, r1, q⟩ := hh
    obtain ⟨v, rfl, q⟩ := oneQ_at q
    refine ⟨I1.kIn, ?_⟩
    cases r1 with
    | cons rv rn =>
      rename_i v' us'
      cases rn
      show wpAny _ _ (call (.ref C) [v']) _ _ _
      have bk := I1.bk
      obtain ⟨hp, g, dr, tk, os⟩ := s1
      refine wpAny_call (ex_made T I1.mod bk (by have := hr.dp; omega) fun h' tk' e dx md => ?_)
      show MkP X pins σ Q (.ref e) ⟨h', g, dr, tk', os⟩
      obtain ⟨fv, hoe, h1⟩ := md.obj
      obtain ⟨G', g1, g2⟩ := restrict h' fun b => decide (b ≠ e)
      have gk : ∀ b, b ≠ e → G'.get? b = h'.get? b := fun b hb => g1 b (decide_eq_true hb)
      have ge : G'.get? e = none := g2 e (by simp)
      have old : ∀ b o, hp.get? b = some o → G'.get? b = some o := fun b o q => (gk b (Nat.ne_of_lt (Nat.lt_of_lt_of_le (Heap.lt_size q) md.new))).trans (md.keep b o q)
      have ob : ObjOk X.prog X.w (upd H1 dx (.xd [(f, v)])) G' dx (.xd [(f, v)]) := ⟨_, md.ns.at (fun o q => (gk dx md.dne).trans q), fun g => relO_one rv f g⟩
      have J : Inv X pins σ (upd H1 dx (.xd [(f, v)])) ⟨G', g, dr, tk', os⟩ := I1.laid (t' := tk') old md.dbig ob
      refine ⟨e, _, fv, ⟨G', g, dr, tk', os⟩, _, .ref C, some dx, rfl, J, fun b o q => ?_, ge, hoe, ⟨rfl, rfl⟩, rfl, h1, ?_, rfl, I1.bare, raises_own T.exC T.tyC, q dx (I1.hok.fresh md.dbig)⟩
      · by_cases hb : b = e
        · have q' : G'.get? b = some o := q
          rw [hb, ge] at q'
          cases q'
        · exact (gk b hb).symm.trans q
      · rw [upd_ne (Ne.symm md.dne)]
        exact I1.hok.fresh md.new
def raiseX (x : Str) (d : D) : M Out := fun _ => .er x d
abbrev uRaise (x : Str) (f : M D) : M Out := f.bind (raiseX x)
theorem yRaise {a : Expr} {fd : M D} {p pos pos2 : Pos} {k : Nat} {Ck : Cc} (hK : Ck.K = X.K) (hc : X.calm = true) (T : ExT X.prog X.K X.mg x C fI f) (hxi : Ck.xi x = some (C, f)) (hr : Room k X.A) (tk : Takes X fun cls d _ H => Ck.E cls d H) (hg : Gl X x) (ha : PE X a (tD Ck fd)) (hdb : (x == ("__debug__" : Str)) = false := by decide)
    (he : starEach [a] X.env = (false, eval a X.env) :: starEach [] X.env := by rfl) (hpl : (backTo pos (starEach [] X.env)).any (·.1) = false := by rfl) : PS X (.Raise (some (.Call (.Name x p) [a] [] pos)) none pos2) (tS Ck (uRaise x fd)) :=
  PS.imp (ps_raise hc tk (pmk_one T hr ha hg hdb he hpl)) fun D0 σ H ⟨F, own, g, k, q⟩ => ⟨F, own, g, k, (Cont.expr q).imp fun d F1 own1 g1 H1 _ k1 f1 q1 v hv dx hdx => by
    have q2 : ErD Ck F1 own1 H1 x d := q1
    obtain ⟨k2, f2⟩ := k1.side (o := .xd [(f, v)]) hdx
    exact q2 C f hxi F1 own1 _ dx v f2 k2.le upd_same hv⟩
end
end DL
set_option maxRecDepth 100000
set_option maxHeartbeats 4000000
/-! DT: the text by places; what is known of it behind the top. -/
namespace DL
open PySem PySem.Spec L2 PyProof.Rows
def topS (i : Nat) : Stmt := PySem.Challenge.pw_plaitworld_k50_weights_summed.main.body.getD i (.Pass ⟨0, 0, 0, 0⟩)
abbrev s_is_integer : Stmt := topS 8
abbrev s_to_power : Stmt := topS 9
abbrev s_check_word : Stmt := topS 10
abbrev s_all_rows : Stmt := topS 13
abbrev s_table_fault : Stmt := topS 16
abbrev s_back_table : Stmt := topS 17
abbrev s_counted_by : Stmt := topS 18
abbrev s_turned_table : Stmt := topS 19
abbrev s_shifted_table : Stmt := topS 20
abbrev s_weights_fault : Stmt := topS 22
abbrev s_edge_weights : Stmt := topS 23
abbrev s_weighed_colourings : Stmt := topS 24
abbrev s__law_cell : Stmt := topS 26
abbrev s__law_digits : Stmt := topS 27
abbrev s__law_draw : Stmt := topS 28
abbrev s__law_pick : Stmt := topS 29
abbrev s__law_same : Stmt := topS 30
abbrev s__law_word : Stmt := topS 31
abbrev s__law_row_reason : Stmt := topS 32
abbrev s__law_stepped : Stmt := topS 33
abbrev s__law_steps : Stmt := topS 34
abbrev s__law_other_word : Stmt := topS 35
abbrev s__law_told : Stmt := topS 36
abbrev s__law_known : Stmt := topS 37
abbrev s__law_fault : Stmt := topS 38
abbrev s__law_tried : Stmt := topS 39
abbrev s_law : Stmt := topS 40
/-- where the defs and classes stand -/
structure Ad where
  a_is_integer : Addr
  a_is_integer_d : FuncData
  a_to_power : Addr
  a_to_power_d : FuncData
  a_check_word : Addr
  a_check_word_d : FuncData
  a_all_rows : Addr
  a_all_rows_d : FuncData
  a_table_fault : Addr
  a_table_fault_d : FuncData
  a_back_table : Addr
  a_back_table_d : FuncData
  a_counted_by : Addr
  a_counted_by_d : FuncData
  a_turned_table : Addr
  a_turned_table_d : FuncData
  a_shifted_table : Addr
  a_shifted_table_d : FuncData
  a_weights_fault : Addr
  a_weights_fault_d : FuncData
  a_edge_weights : Addr
  a_edge_weights_d : FuncData
  a_weighed_colourings : Addr
  a_weighed_colourings_d : FuncData
  a__law_cell : Addr
  a__law_cell_d : FuncData
  a__law_digits : Addr
  a__law_digits_d : FuncData
  a__law_draw : Addr
  a__law_draw_d : FuncData
  a__law_pick : Addr
  a__law_pick_d : FuncData
  a__law_same : Addr
  a__law_same_d : FuncData
  a__law_word : Addr
  a__law_word_d : FuncData
  a__law_row_reason : Addr
  a__law_row_reason_d : FuncData
  a__law_stepped : Addr
  a__law_stepped_d : FuncData
  a__law_steps : Addr
  a__law_steps_d : FuncData
  a__law_other_word : Addr
  a__law_other_word_d : FuncData
  a__law_told : Addr
  a__law_told_d : FuncData
  a__law_known : Addr
  a__law_known_d : FuncData
  a__law_fault : Addr
  a__law_fault_d : FuncData
  a__law_tried : Addr
  a__law_tried_d : FuncData
  a_law : Addr
  a_law_d : FuncData
  a_PlaitError : Addr
  a_PlaitError_i : Addr
  a_BadWord : Addr
  a_BadWord_i : Addr
  a_TooMany : Addr
  a_TooMany_i : Addr
  a_Refused : Addr
  a_Refused_i : Addr
def Ad.xi (a : Ad) : XI := fun c => if c = "BadWord" then some (a.a_BadWord, "reason") else if c = "TooMany" then some (a.a_TooMany, "what") else if c = "Refused" then some (a.a_Refused, "reason") else none
structure Txt (P : Program) (K : PySem.W.Frag) (mg : Str → Option Value) (a : Ad) : Prop where
  b_range : mg "range" = none
  b_isinstance : mg "isinstance" = none
  b_int : mg "int" = none
  b_bool : mg "bool" = none
  b_str : mg "str" = none
  b_list : mg "list" = none
  b_tuple : mg "tuple" = none
  b_len : mg "len" = none
  b_set : mg "set" = none
  b_abs : mg "abs" = none
  b_any : mg "any" = none
  b_all : mg "all" = none
  b_sum : mg "sum" = none
  b_enumerate : mg "enumerate" = none
  b_repr : mg "repr" = none
  k_MOST_STRANDS : ∃ t, mg "MOST_STRANDS" = some (.int 6 t)
  k_MOST_LETTERS : ∃ t, mg "MOST_LETTERS" = some (.int 2000 t)
  k_MOST_TRIES : ∃ t, mg "MOST_TRIES" = some (.int 20000 t)
  k_MOST_COLOURS : ∃ t, mg "MOST_COLOURS" = some (.int 12 t)
  g_is_integer : mg "is_integer" = some (.ref a.a_is_integer)
  f_is_integer : Fun K "is_integer" "is_integer" s_is_integer a.a_is_integer a.a_is_integer_d
  n_is_integer : Binds K a.a_is_integer_d ["shape"] []
  g_to_power : mg "to_power" = some (.ref a.a_to_power)
  f_to_power : Fun K "to_power" "to_power" s_to_power a.a_to_power a.a_to_power_d
  n_to_power : Binds K a.a_to_power_d ["base", "many"] []
  g_check_word : mg "check_word" = some (.ref a.a_check_word)
  f_check_word : Fun K "check_word" "check_word" s_check_word a.a_check_word a.a_check_word_d
  n_check_word : Binds K a.a_check_word_d ["n", "word"] []
  g_all_rows : mg "all_rows" = some (.ref a.a_all_rows)
  f_all_rows : Fun K "all_rows" "all_rows" s_all_rows a.a_all_rows a.a_all_rows_d
  n_all_rows : Binds K a.a_all_rows_d ["n", "things"] []
  g_table_fault : mg "table_fault" = some (.ref a.a_table_fault)
  f_table_fault : Fun K "table_fault" "table_fault" s_table_fault a.a_table_fault a.a_table_fault_d
  n_table_fault : Binds K a.a_table_fault_d ["table"] []
  g_back_table : mg "back_table" = some (.ref a.a_back_table)
  f_back_table : Fun K "back_table" "back_table" s_back_table a.a_back_table a.a_back_table_d
  n_back_table : Binds K a.a_back_table_d ["table"] []
  g_counted_by : mg "counted_by" = some (.ref a.a_counted_by)
  f_counted_by : Fun K "counted_by" "counted_by" s_counted_by a.a_counted_by a.a_counted_by_d
  n_counted_by : Binds K a.a_counted_by_d ["n", "word", "table"] []
  g_turned_table : mg "turned_table" = some (.ref a.a_turned_table)
  f_turned_table : Fun K "turned_table" "turned_table" s_turned_table a.a_turned_table a.a_turned_table_d
  n_turned_table : Binds K a.a_turned_table_d ["many"] []
  g_shifted_table : mg "shifted_table" = some (.ref a.a_shifted_table)
  f_shifted_table : Fun K "shifted_table" "shifted_table" s_shifted_table a.a_shifted_table a.a_shifted_table_d
  n_shifted_table : Binds K a.a_shifted_table_d ["many", "by"] []
  g_weights_fault : mg "weights_fault" = some (.ref a.a_weights_fault)
  f_weights_fault : Fun K "weights_fault" "weights_fault" s_weights_fault a.a_weights_fault a.a_weights_fault_d
  n_weights_fault : Binds K a.a_weights_fault_d ["table", "rows", "many"] []
  g_edge_weights : mg "edge_weights" = some (.ref a.a_edge_weights)
  f_edge_weights : Fun K "edge_weights" "edge_weights" s_edge_weights a.a_edge_weights a.a_edge_weights_d
  n_edge_weights : Binds K a.a_edge_weights_d ["table", "numbers", "many"] []
  g_weighed_colourings : mg "weighed_colourings" = some (.ref a.a_weighed_colourings)
  f_weighed_colourings : Fun K "weighed_colourings" "weighed_colourings" s_weighed_colourings a.a_weighed_colourings a.a_weighed_colourings_d
  n_weighed_colourings : Binds K a.a_weighed_colourings_d ["n", "word", "table", "rows", "many"] []
  g__law_cell : mg "_law_cell" = some (.ref a.a__law_cell)
  f__law_cell : Fun K "_law_cell" "_law_cell" s__law_cell a.a__law_cell a.a__law_cell_d
  n__law_cell : Binds K a.a__law_cell_d ["script", "k"] []
  g__law_digits : mg "_law_digits" = some (.ref a.a__law_digits)
  f__law_digits : Fun K "_law_digits" "_law_digits" s__law_digits a.a__law_digits a.a__law_digits_d
  n__law_digits : Binds K a.a__law_digits_d ["script", "first", "last"] []
  g__law_draw : mg "_law_draw" = some (.ref a.a__law_draw)
  f__law_draw : Fun K "_law_draw" "_law_draw" s__law_draw a.a__law_draw a.a__law_draw_d
  n__law_draw : Binds K a.a__law_draw_d ["box", "m"] []
  g__law_pick : mg "_law_pick" = some (.ref a.a__law_pick)
  f__law_pick : Fun K "_law_pick" "_law_pick" s__law_pick a.a__law_pick a.a__law_pick_d
  n__law_pick : Binds K a.a__law_pick_d ["box", "rows"] []
  g__law_same : mg "_law_same" = some (.ref a.a__law_same)
  f__law_same : Fun K "_law_same" "_law_same" s__law_same a.a__law_same a.a__law_same_d
  n__law_same : Binds K a.a__law_same_d ["a", "b"] []
  g__law_word : mg "_law_word" = some (.ref a.a__law_word)
  f__law_word : Fun K "_law_word" "_law_word" s__law_word a.a__law_word a.a__law_word_d
  n__law_word : Binds K a.a__law_word_d ["box", "n", "most"] []
  g__law_row_reason : mg "_law_row_reason" = some (.ref a.a__law_row_reason)
  f__law_row_reason : Fun K "_law_row_reason" "_law_row_reason" s__law_row_reason a.a__law_row_reason a.a__law_row_reason_d
  n__law_row_reason : Binds K a.a__law_row_reason_d ["n", "word", "row"] []
  g__law_stepped : mg "_law_stepped" = some (.ref a.a__law_stepped)
  f__law_stepped : Fun K "_law_stepped" "_law_stepped" s__law_stepped a.a__law_stepped a.a__law_stepped_d
  n__law_stepped : Binds K a.a__law_stepped_d ["word", "row"] []
  g__law_steps : mg "_law_steps" = some (.ref a.a__law_steps)
  f__law_steps : Fun K "_law_steps" "_law_steps" s__law_steps a.a__law_steps a.a__law_steps_d
  n__law_steps : Binds K a.a__law_steps_d ["n", "word", "long"] []
  g__law_other_word : mg "_law_other_word" = some (.ref a.a__law_other_word)
  f__law_other_word : Fun K "_law_other_word" "_law_other_word" s__law_other_word a.a__law_other_word a.a__law_other_word_d
  n__law_other_word : Binds K a.a__law_other_word_d ["box", "n", "word", "turns", "long"] []
  g__law_told : mg "_law_told" = some (.ref a.a__law_told)
  f__law_told : Fun K "_law_told" "_law_told" s__law_told a.a__law_told a.a__law_told_d
  n__law_told : Binds K a.a__law_told_d ["call"] []
  g__law_known : mg "_law_known" = some (.ref a.a__law_known)
  f__law_known : Fun K "_law_known" "_law_known" s__law_known a.a__law_known a.a__law_known_d
  n__law_known : Binds K a.a__law_known_d [] []
  g__law_fault : mg "_law_fault" = some (.ref a.a__law_fault)
  f__law_fault : Fun K "_law_fault" "_law_fault" s__law_fault a.a__law_fault a.a__law_fault_d
  n__law_fault : Binds K a.a__law_fault_d ["table", "rows", "many"] []
  g__law_tried : mg "_law_tried" = some (.ref a.a__law_tried)
  f__law_tried : Fun K "_law_tried" "_law_tried" s__law_tried a.a__law_tried a.a__law_tried_d
  n__law_tried : Binds K a.a__law_tried_d ["n", "word", "table", "rows", "many"] []
  g_law : mg "law" = some (.ref a.a_law)
  f_law : Fun K "law" "law" s_law a.a_law a.a_law_d
  n_law : Binds K a.a_law_d ["script"] []
  x_BadWord : ExT P K mg "BadWord" a.a_BadWord a.a_BadWord_i "reason"
  x_TooMany : ExT P K mg "TooMany" a.a_TooMany a.a_TooMany_i "what"
  x_Refused : ExT P K mg "Refused" a.a_Refused a.a_Refused_i "reason"
end DL
set_option maxRecDepth 100000
set_option maxHeartbeats 4000000
namespace DL
open PySem PySem.Spec L2 PyProof.Rows
variable {P : Program} {w : World} {K : PySem.W.Frag} {mg : Str → Option Value} {base : Heap} {a : Ad}
theorem sc_is_integer : FnScope ["shape"] ["shape"] (defScope s_is_integer) := ⟨rfl, rfl, rfl, by decide +kernel, rfl, by decide +kernel, by decide +kernel⟩
def m_is_integer : M Out :=
  (uRet (sAndV ((nam 0).bind (isiW "int")) (sNotV ((nam 0).bind (isiW "bool")))))
def f_is_integer (ds : List D) : R D := semP 1 m_is_integer ds
set_option maxHeartbeats 4000000 in
theorem ok_is_integer (T : Txt P K mg a) : FnOk P w K mg base (L2.CX P w) 1 a.a_is_integer a.a_is_integer_d ["shape"] (spP K a.xi 1 f_is_integer) := by
  refine fnP T.f_is_integer sc_is_integer (by decide) 1 rfl fun cdv A outer s H E hr => ?_
  have hx := passes_call (E := E) (takes_of (X := cxOf (L2.CX P w) P w K mg base ["shape"] "is_integer" (defScope s_is_integer) a.a_is_integer cdv A outer s H E) rfl rfl rfl rfl) fun _ _ _ _ z => z
  exact (yOne (yRet (xAnds (xIsi rfl (by decide) (by rfl) T.b_isinstance (xNam (pv 0)) (by rfl) T.b_int (by decide +kernel)) (xAnd0 (xNotV (xIsi rfl (by decide) (by rfl) T.b_isinstance (xNam (pv 0)) (by rfl) T.b_bool (by decide +kernel)))))))
theorem sc_to_power : FnScope ["base", "many", "found", "turn"] ["base", "many"] (defScope s_to_power) := ⟨rfl, rfl, rfl, by decide +kernel, rfl, by decide +kernel, by decide +kernel⟩
def m_to_power : M Out :=
  (sq (uSet 2 (M.pur (.int 1)))
  (sq (uFor ((sCons (nam 1) sNil).bind rg1) (put 3) (uAug 2 (nam 0) mulV))
  (uRet (sV 4 (nam 2)))))
def f_to_power (ds : List D) : R D := semP 4 m_to_power ds
set_option maxHeartbeats 4000000 in
theorem ok_to_power (T : Txt P K mg a) : FnOk P w K mg base (L2.CX P w) 1 a.a_to_power a.a_to_power_d ["base", "many"] (spP K a.xi 2 f_to_power) := by
  refine fnP T.f_to_power sc_to_power (by decide) 4 rfl fun cdv A outer s H E hr => ?_
  have hx := passes_call (E := E) (takes_of (X := cxOf (L2.CX P w) P w K mg base ["base", "many", "found", "turn"] "to_power" (defScope s_to_power) a.a_to_power cdv A outer s H E) rfl rfl rfl rfl) fun _ _ _ _ z => z
  exact (yCons (ySet (show (2 : Nat) ≠ 4 from by decide) sc_to_power.nd rfl (by first | exact .inl rfl | exact .inr rfl) xInt)
    (yCons (yFor (passes_of rfl) rfl (wRange1 (by rfl) T.b_range (xCons (xNam (pv 1)) xNil)) (gNam (show (3 : Nat) ≠ 4 from by decide) sc_to_power.nd rfl (by first | exact .inl rfl | exact .inr rfl)) (yOne (yMulI (show (2 : Nat) ≠ 4 from by decide) sc_to_power.nd rfl (by first | exact .inl rfl | exact .inr rfl) (xNam (pv 0)))))
    (yOne (yRet (vd (xNam (pv 2)))))))
theorem sc_all_rows : FnScope ["n", "things", "found", "turn", "row", "one"] ["n", "things"] (defScope s_all_rows) := ⟨rfl, rfl, rfl, by decide +kernel, rfl, by decide +kernel, by decide +kernel⟩
def m_all_rows : M Out :=
  (sq (uSet 2 (sL (sLst 6 (sCons (sD (sTup 6 sNil)) sNil))))
  (sq (uFor ((sCons (nam 0) sNil).bind rg1) (put 3) (uSet 2 (sL (lcF [4, 5] ((sV 6 (nam 2)).bind seqF) (put 4) (M.pur true) (midF [5] ((sV 6 (nam 1)).bind seqF) (put 5) (M.pur true) (lastF (s2 (nam 4) (sD (sTup 6 (sCons (nam 5) sNil))) addV)))))))
  (uRet (sV 6 (nam 2)))))
def f_all_rows (ds : List D) : R D := semP 6 m_all_rows ds
set_option maxHeartbeats 4000000 in
theorem ok_all_rows (T : Txt P K mg a) : FnOk P w K mg base (L2.CX P w) 1 a.a_all_rows a.a_all_rows_d ["n", "things"] (spP K a.xi 2 f_all_rows) := by
  refine fnP T.f_all_rows sc_all_rows (by decide) 6 rfl fun cdv A outer s H E hr => ?_
  have hx := passes_call (E := E) (takes_of (X := cxOf (L2.CX P w) P w K mg base ["n", "things", "found", "turn", "row", "one"] "all_rows" (defScope s_all_rows) a.a_all_rows cdv A outer s H E) rfl rfl rfl rfl) fun _ _ _ _ z => z
  exact (yCons (ySet (show (2 : Nat) ≠ 6 from by decide) sc_all_rows.nd rfl (by first | exact .inl rfl | exact .inr rfl) (nd (xLst (xCons (dv (xTup xNil)) xNil))))
    (yCons (yFor (passes_of rfl) rfl (wRange1 (by rfl) T.b_range (xCons (xNam (pv 0)) xNil)) (gNam (show (3 : Nat) ≠ 6 from by decide) sc_all_rows.nd rfl (by first | exact .inl rfl | exact .inr rfl)) (yOne (yCmp (show (6 : Nat) ∉ [4, 5] from by decide) (show (2 : Nat) ≠ 6 from by decide) (by decide) rfl rfl (sw_true rfl rfl rfl rfl) (cmp2 (own := [("row", 4), ("one", 5)]) rfl sc_all_rows.nd (show (6 : Nat) ∉ [5] from by decide) (by decide) (wSeq rfl (vd (xNam (pv 2)))) (blkOk_by rfl) (fun _ => rfl) (fun _ _ => rfl) fun _ _ _ _ _ => ⟨(gNamV (show (4 : Nat) ≠ 6 from by decide) (by decide) sc_all_rows.nd rfl (by first | exact .inl rfl | exact .inr rfl)), tB_yes, (wSeq rfl (vd (xNam (pv 1)))), (gNamV (show (5 : Nat) ≠ 6 from by decide) (by decide) sc_all_rows.nd rfl (by first | exact .inl rfl | exact .inr rfl)), tB_yes, (xAdd rfl (xNam (pv 4)) (dv (xTup (xCons (xNam (pv 5)) xNil))))⟩))))
    (yOne (yRet (vd (xNam (pv 2)))))))
theorem sc_turned_table : FnScope ["many", "a", "b"] ["many"] (defScope s_turned_table) := ⟨rfl, rfl, rfl, by decide +kernel, rfl, by decide +kernel, by decide +kernel⟩
def m_turned_table : M Out :=
  (uRet ((sCons (sD (sL (lcF [1] ((sCons (nam 0) sNil).bind rg1) (put 1) (M.pur true) (lastF ((sCons (sD (sL (lcF [2] ((sCons (nam 0) sNil).bind rg1) (put 2) (M.pur true) (lastF (s2 (sD (s2 (sD (s2 (sD (M.pur (.int 2))) (nam 2) mulV)) (nam 1) subV)) (nam 0) modV))))) sNil).bind (arg1 tupW)))))) sNil).bind (arg1 tupW)))
def f_turned_table (ds : List D) : R D := semP 3 m_turned_table ds
set_option maxHeartbeats 4000000 in
theorem ok_turned_table (T : Txt P K mg a) : FnOk P w K mg base (L2.CX P w) 1 a.a_turned_table a.a_turned_table_d ["many"] (spP K a.xi 1 f_turned_table) := by
  refine fnP T.f_turned_table sc_turned_table (by decide) 3 rfl fun cdv A outer s H E hr => ?_
  have hx := passes_call (E := E) (takes_of (X := cxOf (L2.CX P w) P w K mg base ["many", "a", "b"] "turned_table" (defScope s_turned_table) a.a_turned_table cdv A outer s H E) rfl rfl rfl rfl) fun _ _ _ _ z => z
  exact (yOne (yRet (xCallTy call_tuple_of (tupW_ok rfl) (by rfl) T.b_tuple (by decide +kernel) (xCons (dv (nd (xLc (show (3 : Nat) ∉ [1] from by decide) (by decide) (cmp1 (own := [("a", 1)]) rfl sc_turned_table.nd (wRange1 (by rfl) T.b_range (xCons (xNam (pv 0)) xNil)) (blkOk_by rfl) (fun _ => rfl) fun _ _ _ _ _ => ⟨(gNamV (show (1 : Nat) ≠ 3 from by decide) (by decide) sc_turned_table.nd rfl (by first | exact .inl rfl | exact .inr rfl)), tB_yes, (xCallTy call_tuple_of (tupW_ok rfl) (by rfl) T.b_tuple (by decide +kernel) (xCons (dv (nd (xLc (show (3 : Nat) ∉ [2] from by decide) (by decide) (cmp1 (own := [("b", 2)]) rfl sc_turned_table.nd (wRange1 (by rfl) T.b_range (xCons (xNam (pv 0)) xNil)) (blkOk_by rfl) (fun _ => rfl) fun _ _ _ _ _ => ⟨(gNamV (show (2 : Nat) ≠ 3 from by decide) (by decide) sc_turned_table.nd rfl (by first | exact .inl rfl | exact .inr rfl)), tB_yes, (xMod (dv (xSub (dv (xMul (dv xInt) (xNam (pv 2)))) (xNam (pv 1)))) (xNam (pv 0)))⟩)))) xNil))⟩)))) xNil))))
end DL
set_option maxRecDepth 100000
set_option maxHeartbeats 4000000
namespace DL
open PySem PySem.Spec L2 PyProof.Rows
variable {P : Program} {w : World} {K : PySem.W.Frag} {mg : Str → Option Value} {base : Heap} {a : Ad}
theorem sc_check_word : FnScope ["n", "word", "letter"] ["n", "word"] (defScope s_check_word) := ⟨rfl, rfl, rfl, by decide +kernel, rfl, by decide +kernel, by decide +kernel⟩
def m_check_word : M Out :=
  (sq (uIf (sOr (sNot (sT (sCall 3 (sCons (nam 0) sNil) f_is_integer))) (sNot (chT leV leV (sD (M.pur (.int 1))) (nam 0) (sD (M.pur (.int 6)))))) (uRaise "BadWord" (M.pur (.str "strands"))) (M.pur .nx))
  (sq (uIf (sOr (sNot (sT ((nam 1).bind (isiW "tuple")))) (sT (s2 (sD ((sCons (nam 1) sNil).bind (arg1 lenW))) (sD (M.pur (.int 2000))) gtV))) (uRaise "BadWord" (M.pur (.str "letter"))) (M.pur .nx))
  (uIf (sNot (sT ((sCons (sD (sL (lcF [2] ((sV 3 (nam 1)).bind seqF) (put 2) (M.pur true) (lastF (sAndV (sCall 3 (sCons (nam 2) sNil) f_is_integer) (chF leV ltV (sD (M.pur (.int 1))) (sD ((sCons (nam 2) sNil).bind (arg1 absW))) (nam 0))))))) sNil).bind (arg1 (anyW true))))) (uRaise "BadWord" (M.pur (.str "letter"))) (M.pur .nx))))
def f_check_word (ds : List D) : R D := semP 3 m_check_word ds
set_option maxHeartbeats 4000000 in
theorem ok_check_word (T : Txt P K mg a) (c_is_integer : FnOk P w K mg base (L2.CX P w) 1 a.a_is_integer a.a_is_integer_d ["shape"] (spP K a.xi 1 f_is_integer)) : FnOk P w K mg base (L2.CX P w) 3 a.a_check_word a.a_check_word_d ["n", "word"] (spP K a.xi 2 f_check_word) := by
  obtain ⟨_, h_MOST_LETTERS⟩ := T.k_MOST_LETTERS
  obtain ⟨_, h_MOST_STRANDS⟩ := T.k_MOST_STRANDS
  refine fnP T.f_check_word sc_check_word (by decide) 3 rfl fun cdv A outer s H E hr => ?_
  have hx := passes_call (E := E) (takes_of (X := cxOf (L2.CX P w) P w K mg base ["n", "word", "letter"] "check_word" (defScope s_check_word) a.a_check_word cdv A outer s H E) rfl rfl rfl rfl) fun _ _ _ _ z => z
  exact (yCons (yIf (PW.pt (xOr (xNot (xTestB (xCall rfl c_is_integer (hr.mono (by decide)) (by rfl) T.g_is_integer T.f_is_integer.kp T.n_is_integer hx (xCons (xNam (pv 0)) xNil) (ln1 ln0)))) (xOr1 (xNot (xChainT op_le op_le leV_ok leV_ok (dv xInt) (xNam (pv 0)) (dv (xGlob (v := .int 6) (by rfl) h_MOST_STRANDS ⟨_, rfl⟩ fun _ => .int _))))))) (yOne (yRaise rfl rfl T.x_BadWord rfl (hr.mono (Nat.zero_le _)) (takes_of rfl rfl rfl rfl) (by rfl) xStr)) yNil)
    (yCons (yIf (PW.pt (xOr (xNot (xTestB (xIsi rfl (by decide) (by rfl) T.b_isinstance (xNam (pv 1)) (by rfl) T.b_tuple (by decide +kernel)))) (xOr1 (xCmpT op_gt gtV_ok (dv (xCallB call_lenA (lenW_ok rfl) (by rfl) T.b_len (by decide +kernel) (xCons (xNam (pv 1)) xNil))) (dv (xGlob (v := .int 2000) (by rfl) h_MOST_LETTERS ⟨_, rfl⟩ fun _ => .int _)) (nomark _))))) (yOne (yRaise rfl rfl T.x_BadWord rfl (hr.mono (Nat.zero_le _)) (takes_of rfl rfl rfl rfl) (by rfl) xStr)) yNil)
    (yOne (yIf (xNot (xTestB (xCallB (call_allA rfl) (anyW_ok rfl) (by rfl) T.b_all (by decide +kernel) (xCons (dv (nd (xLc (show (3 : Nat) ∉ [2] from by decide) (by decide) (cmp1 (own := [("letter", 2)]) rfl sc_check_word.nd (wSeq rfl (vd (xNam (pv 1)))) (blkOk_by rfl) (fun _ => rfl) fun _ _ _ _ _ => ⟨(gNamV (show (2 : Nat) ≠ 3 from by decide) (by decide) sc_check_word.nd rfl (by first | exact .inl rfl | exact .inr rfl)), tB_yes, (xAnds (xCall rfl c_is_integer (hr.mono (by decide)) (by rfl) T.g_is_integer T.f_is_integer.kp T.n_is_integer passL (xCons (xNam (pv 2)) xNil) (ln1 ln0)) (xAnd0 (xChain op_le op_lt leV_ok ltV_ok (dv xInt) (dv (xCallB call_abs absW_ok (by rfl) T.b_abs (by decide +kernel) (xCons (xNam (pv 2)) xNil))) (xNam (pv 0)))))⟩)))) xNil)))) (yOne (yRaise rfl rfl T.x_BadWord rfl (hr.mono (Nat.zero_le _)) (takes_of rfl rfl rfl rfl) (by rfl) xStr)) yNil))))
theorem sc_back_table : FnScope ["table", "found", "a", "row", "b", "goal"] ["table"] (defScope s_back_table) := ⟨rfl, rfl, rfl, by decide +kernel, rfl, by decide +kernel, by decide +kernel⟩
def m_back_table : M Out :=
  (sq (uSetOO 1 (lcF [3] ((sV 6 (nam 0)).bind seqF) (put 3) (M.pur true) (lastF (s2N (sD (sL (sLst 6 (sCons (sD (M.pur (.int 0))) sNil)))) (sD ((sCons (nam 0) sNil).bind (arg1 lenW))) repN))))
  (sq (uFor ((sCons (nam 0) sNil).bind (enF 6)) (tupG 2 (gsCons (put 2) (gsCons (put 3) gsNil))) (uFor ((sCons (nam 3) sNil).bind (enF 6)) (tupG 2 (gsCons (put 4) (gsCons (put 5) gsNil))) (uAsg (sV 6 (nam 2)) (stOO 1 5 4))))
  (uRet ((sCons (sD (sL (lcF [3] ((sV 6 (nam 1)).bind seqF) (put 3) (M.pur true) (lastF ((sCons (nam 3) sNil).bind (arg1 tupW)))))) sNil).bind (arg1 tupW)))))
def f_back_table (ds : List D) : R D := semP 6 m_back_table ds
set_option maxHeartbeats 4000000 in
theorem ok_back_table (T : Txt P K mg a) : FnOk P w K mg base (L2.CX P w) 1 a.a_back_table a.a_back_table_d ["table"] (spP K a.xi 1 f_back_table) := by
  refine fnP T.f_back_table sc_back_table (by decide) 6 rfl fun cdv A outer s H E hr => ?_
  have hx := passes_call (E := E) (takes_of (X := cxOf (L2.CX P w) P w K mg base ["table", "found", "a", "row", "b", "goal"] "back_table" (defScope s_back_table) a.a_back_table cdv A outer s H E) rfl rfl rfl rfl) fun _ _ _ _ z => z
  exact (yCons (yCmpN (show (6 : Nat) ∉ [3] from by decide) (show (1 : Nat) ≠ 6 from by decide) (by decide) rfl rfl (sw_true rfl rfl rfl rfl) (cmp1N (own := [("row", 3)]) rfl sc_back_table.nd (wSeq rfl (vd (xNam (pv 0)))) (blkOk_by rfl) (fun _ => rfl) fun _ _ _ _ _ => ⟨(gNamV (show (3 : Nat) ≠ 6 from by decide) (by decide) sc_back_table.nd rfl (by first | exact .inl rfl | exact .inr rfl)), tB_yes, (xBinN op_rep repN_ok (dv (nd (xLst (xCons (dv xInt) xNil)))) (dv (xCallB call_lenA (lenW_ok rfl) (by rfl) T.b_len (by decide +kernel) (xCons (xNam (pv 0)) xNil))))⟩))
    (yCons (yFor (passes_of rfl) rfl (wEnum rfl (by rfl) T.b_enumerate (xCons (xNam (pv 0)) xNil)) (gTup' rfl rfl (gCons' (gNam (show (2 : Nat) ≠ 6 from by decide) sc_back_table.nd rfl (by first | exact .inl rfl | exact .inr rfl)) (gCons' (gNam (show (3 : Nat) ≠ 6 from by decide) sc_back_table.nd rfl (by first | exact .inl rfl | exact .inr rfl)) gNil'))) (yOne (yFor (passes_of rfl) rfl (wEnum rfl (by rfl) T.b_enumerate (xCons (xNam (pv 3)) xNil)) (gTup' rfl rfl (gCons' (gNam (show (4 : Nat) ≠ 6 from by decide) sc_back_table.nd rfl (by first | exact .inl rfl | exact .inr rfl)) (gCons' (gNam (show (5 : Nat) ≠ 6 from by decide) sc_back_table.nd rfl (by first | exact .inl rfl | exact .inr rfl)) gNil'))) (yOne (yAsg (vd (xNam (pv 2))) (gSubSub (show (1 : Nat) ≠ 6 from by decide) rfl (pv 1) (pv 5) (pv 4)))))))
    (yOne (yRet (xCallTy call_tuple_of (tupW_ok rfl) (by rfl) T.b_tuple (by decide +kernel) (xCons (dv (nd (xLc (show (6 : Nat) ∉ [3] from by decide) (by decide) (cmp1 (own := [("row", 3)]) rfl sc_back_table.nd (wSeq rfl (vd (xNam (pv 1)))) (blkOk_by rfl) (fun _ => rfl) fun _ _ _ _ _ => ⟨(gNamV (show (3 : Nat) ≠ 6 from by decide) (by decide) sc_back_table.nd rfl (by first | exact .inl rfl | exact .inr rfl)), tB_yes, (xCallTy call_tuple_of (tupW_ok rfl) (by rfl) T.b_tuple (by decide +kernel) (xCons (xNam (pv 3)) xNil))⟩)))) xNil))))))
theorem sc_shifted_table : FnScope ["many", "by", "a", "b"] ["many", "by"] (defScope s_shifted_table) := ⟨rfl, rfl, rfl, by decide +kernel, rfl, by decide +kernel, by decide +kernel⟩
def m_shifted_table : M Out :=
  (uRet ((sCons (sD (sL (lcF [2] ((sCons (nam 0) sNil).bind rg1) (put 2) (M.pur true) (lastF ((sCons (sD (sL (lcF [3] ((sCons (nam 0) sNil).bind rg1) (put 3) (M.pur true) (lastF (s2 (sD (s2 (sD (s2 (nam 1) (nam 2) mulV)) (sD (s2 (sD (s2 (sD (M.pur (.int 1))) (nam 1) subV)) (nam 3) mulV)) addV)) (nam 0) modV))))) sNil).bind (arg1 tupW)))))) sNil).bind (arg1 tupW)))
def f_shifted_table (ds : List D) : R D := semP 4 m_shifted_table ds
set_option maxHeartbeats 4000000 in
theorem ok_shifted_table (T : Txt P K mg a) : FnOk P w K mg base (L2.CX P w) 1 a.a_shifted_table a.a_shifted_table_d ["many", "by"] (spP K a.xi 2 f_shifted_table) := by
  refine fnP T.f_shifted_table sc_shifted_table (by decide) 4 rfl fun cdv A outer s H E hr => ?_
  have hx := passes_call (E := E) (takes_of (X := cxOf (L2.CX P w) P w K mg base ["many", "by", "a", "b"] "shifted_table" (defScope s_shifted_table) a.a_shifted_table cdv A outer s H E) rfl rfl rfl rfl) fun _ _ _ _ z => z
  exact (yOne (yRet (xCallTy call_tuple_of (tupW_ok rfl) (by rfl) T.b_tuple (by decide +kernel) (xCons (dv (nd (xLc (show (4 : Nat) ∉ [2] from by decide) (by decide) (cmp1 (own := [("a", 2)]) rfl sc_shifted_table.nd (wRange1 (by rfl) T.b_range (xCons (xNam (pv 0)) xNil)) (blkOk_by rfl) (fun _ => rfl) fun _ _ _ _ _ => ⟨(gNamV (show (2 : Nat) ≠ 4 from by decide) (by decide) sc_shifted_table.nd rfl (by first | exact .inl rfl | exact .inr rfl)), tB_yes, (xCallTy call_tuple_of (tupW_ok rfl) (by rfl) T.b_tuple (by decide +kernel) (xCons (dv (nd (xLc (show (4 : Nat) ∉ [3] from by decide) (by decide) (cmp1 (own := [("b", 3)]) rfl sc_shifted_table.nd (wRange1 (by rfl) T.b_range (xCons (xNam (pv 0)) xNil)) (blkOk_by rfl) (fun _ => rfl) fun _ _ _ _ _ => ⟨(gNamV (show (3 : Nat) ≠ 4 from by decide) (by decide) sc_shifted_table.nd rfl (by first | exact .inl rfl | exact .inr rfl)), tB_yes, (xMod (dv (xAdd rfl (dv (xMul (xNam (pv 1)) (xNam (pv 2)))) (dv (xMul (dv (xSub (dv xInt) (xNam (pv 1)))) (xNam (pv 3)))))) (xNam (pv 0)))⟩)))) xNil))⟩)))) xNil))))
theorem sc_edge_weights : FnScope ["table", "numbers", "many", "size", "a", "b"] ["table", "numbers", "many"] (defScope s_edge_weights) := ⟨rfl, rfl, rfl, by decide +kernel, rfl, by decide +kernel, by decide +kernel⟩
def m_edge_weights : M Out :=
  (sq (uSet 3 ((sCons (sD ((sCons (nam 0) sNil).bind (arg1 lenW))) sNil).bind (arg1 rgW)))
  (uRet ((sCons (sD (sL (lcF [4] ((sV 6 (nam 3)).bind rgF) (put 4) (M.pur true) (lastF ((sCons (sD (sL (lcF [5] ((sV 6 (nam 3)).bind rgF) (put 5) (M.pur true) (lastF (s2 (sD (s2 (sD (s2 (nam 1) (nam 4) atW)) (sD (s2 (nam 1) (sD (s2 (sD (s2 (nam 0) (nam 4) atW)) (nam 5) atW)) atW)) subV)) (nam 2) modV))))) sNil).bind (arg1 tupW)))))) sNil).bind (arg1 tupW))))
def f_edge_weights (ds : List D) : R D := semP 6 m_edge_weights ds
set_option maxHeartbeats 4000000 in
theorem ok_edge_weights (T : Txt P K mg a) : FnOk P w K mg base (L2.CX P w) 1 a.a_edge_weights a.a_edge_weights_d ["table", "numbers", "many"] (spP K a.xi 3 f_edge_weights) := by
  refine fnP T.f_edge_weights sc_edge_weights (by decide) 6 rfl fun cdv A outer s H E hr => ?_
  have hx := passes_call (E := E) (takes_of (X := cxOf (L2.CX P w) P w K mg base ["table", "numbers", "many", "size", "a", "b"] "edge_weights" (defScope s_edge_weights) a.a_edge_weights cdv A outer s H E) rfl rfl rfl rfl) fun _ _ _ _ z => z
  exact (yCons (ySet (show (3 : Nat) ≠ 6 from by decide) sc_edge_weights.nd rfl (by first | exact .inl rfl | exact .inr rfl) (xCallTy cr_range1 rgW_ok (by rfl) T.b_range PyProof.Rows.boot_range (xCons (dv (xCallB call_lenA (lenW_ok rfl) (by rfl) T.b_len (by decide +kernel) (xCons (xNam (pv 0)) xNil))) xNil)))
    (yOne (yRet (xCallTy call_tuple_of (tupW_ok rfl) (by rfl) T.b_tuple (by decide +kernel) (xCons (dv (nd (xLc (show (6 : Nat) ∉ [4] from by decide) (by decide) (cmp1 (own := [("a", 4)]) rfl sc_edge_weights.nd (wRgV (vd (xNam (pv 3)))) (blkOk_by rfl) (fun _ => rfl) fun _ _ _ _ _ => ⟨(gNamV (show (4 : Nat) ≠ 6 from by decide) (by decide) sc_edge_weights.nd rfl (by first | exact .inl rfl | exact .inr rfl)), tB_yes, (xCallTy call_tuple_of (tupW_ok rfl) (by rfl) T.b_tuple (by decide +kernel) (xCons (dv (nd (xLc (show (6 : Nat) ∉ [5] from by decide) (by decide) (cmp1 (own := [("b", 5)]) rfl sc_edge_weights.nd (wRgV (vd (xNam (pv 3)))) (blkOk_by rfl) (fun _ => rfl) fun _ _ _ _ _ => ⟨(gNamV (show (5 : Nat) ≠ 6 from by decide) (by decide) sc_edge_weights.nd rfl (by first | exact .inl rfl | exact .inr rfl)), tB_yes, (xMod (dv (xSub (dv (xIx rfl (xNam (pv 1)) (xNam (pv 4)))) (dv (xIx rfl (xNam (pv 1)) (dv (xIx rfl (dv (xIx rfl (xNam (pv 0)) (xNam (pv 4)))) (xNam (pv 5)))))))) (xNam (pv 2)))⟩)))) xNil))⟩)))) xNil)))))
theorem sc__law_cell : FnScope ["script", "k"] ["script", "k"] (defScope s__law_cell) := ⟨rfl, rfl, rfl, by decide +kernel, rfl, by decide +kernel, by decide +kernel⟩
def m__law_cell : M Out :=
  (sq (uIf (sT (s2 (nam 1) (sD ((sCons (nam 0) sNil).bind (arg1 lenW))) ltV)) (uRet (s2 (nam 0) (nam 1) atW)) (M.pur .nx))
  (uRet (M.pur (.int 0))))
def f__law_cell (ds : List D) : R D := semP 2 m__law_cell ds
set_option maxHeartbeats 4000000 in
theorem ok__law_cell (T : Txt P K mg a) : FnOk P w K mg base (L2.CX P w) 1 a.a__law_cell a.a__law_cell_d ["script", "k"] (spP K a.xi 2 f__law_cell) := by
  refine fnP T.f__law_cell sc__law_cell (by decide) 2 rfl fun cdv A outer s H E hr => ?_
  have hx := passes_call (E := E) (takes_of (X := cxOf (L2.CX P w) P w K mg base ["script", "k"] "_law_cell" (defScope s__law_cell) a.a__law_cell cdv A outer s H E) rfl rfl rfl rfl) fun _ _ _ _ z => z
  exact (yCons (yIf (xCmpT op_lt ltV_ok (xNam (pv 1)) (dv (xCallB call_lenA (lenW_ok rfl) (by rfl) T.b_len (by decide +kernel) (xCons (xNam (pv 0)) xNil))) (nomark _)) (yOne (yRet (xIx rfl (xNam (pv 0)) (xNam (pv 1))))) yNil)
    (yOne (yRet xInt)))
theorem sc__law_digits : FnScope ["script", "first", "last", "found", "k", "c", "n", "turn", "s"] ["script", "first", "last"] (defScope s__law_digits) := ⟨rfl, rfl, rfl, by decide +kernel, rfl, by decide +kernel, by decide +kernel⟩
def m__law_digits : M Out :=
  (sq (uSetO 3 (sLst 9 sNil))
  (sq (uFor ((sCons (nam 1) (sCons (nam 2) sNil)).bind rg2) (put 4) (sq (uSet 5 (sCall 9 (sCons (nam 0) (sCons (nam 4) sNil)) f__law_cell))
  (sq (uIf (sT (s2 (nam 5) (sD (M.pur (.int 0))) ltV)) (uSet 5 (s2 (sD (M.pur (.int 1))) (sD (s2 (nam 5) (sD (M.pur (.int 2))) mulV)) subV)) (M.pur .nx))
  (uIf (sT (s2 (nam 5) (sD (s2 (sD (M.pur (.int 10))) (sD (M.pur (.int 18))) powV)) geV)) (sq (uSet 6 (sV 9 (nam 5)))
  (uFor ((sCons (sD (M.pur (.int 60))) sNil).bind rg1) (put 7) (uIf (sT (s2 (nam 6) (sD (M.pur (.int 0))) gtV)) (sq (uApp 3 (s2 (nam 6) (sD (M.pur (.int 1009))) modV))
  (uSet 6 (s2 (nam 6) (sD (M.pur (.int 1009))) fdivV))) (M.pur .nx)))) (sq (uSet 8 (s2 (sD (s2 (sD (s2 (sD (s2 (nam 5) (sD (M.pur (.int 48271))) mulV)) (sD (s2 (sD ((sCons (sD (s2 (nam 4) (sD (M.pur (.int 1))) addV)) sNil).bind (arg1 intW))) (sD (M.pur (.int 69621))) mulV)) addV)) (sD (M.pur (.int 11))) addV)) (sD (M.pur (.int 2147483647))) modV))
  (uFor ((sCons (sD (M.pur (.int 12))) sNil).bind rg1) (put 7) (sq (uSet 8 (s2 (sD (s2 (sD (s2 (sD (s2 (nam 8) (sD (M.pur (.int 16807))) mulV)) (sD (s2 (nam 7) (sD (M.pur (.int 7))) mulV)) addV)) (sD (M.pur (.int 1))) addV)) (sD (M.pur (.int 2147483647))) modV))
  (uApp 3 (s2 (sD (s2 (nam 8) (sD (M.pur (.int 997))) fdivV)) (sD (M.pur (.int 1009))) modV)))))))))
  (uRet (sV 9 (nam 3)))))
def f__law_digits (ds : List D) : R D := semP 9 m__law_digits ds
set_option maxHeartbeats 4000000 in
theorem ok__law_digits (T : Txt P K mg a) (c__law_cell : FnOk P w K mg base (L2.CX P w) 1 a.a__law_cell a.a__law_cell_d ["script", "k"] (spP K a.xi 2 f__law_cell)) : FnOk P w K mg base (L2.CX P w) 2 a.a__law_digits a.a__law_digits_d ["script", "first", "last"] (spP K a.xi 3 f__law_digits) := by
  refine fnP T.f__law_digits sc__law_digits (by decide) 9 rfl fun cdv A outer s H E hr => ?_
  have hx := passes_call (E := E) (takes_of (X := cxOf (L2.CX P w) P w K mg base ["script", "first", "last", "found", "k", "c", "n", "turn", "s"] "_law_digits" (defScope s__law_digits) a.a__law_digits cdv A outer s H E) rfl rfl rfl rfl) fun _ _ _ _ z => z
  exact (yCons (ySetO (show (3 : Nat) ≠ 9 from by decide) sc__law_digits.nd rfl (by first | exact .inl rfl | exact .inr rfl) (xLst xNil))
    (yCons (yFor (passes_of rfl) rfl (wRange2 (by rfl) T.b_range (xCons (xNam (pv 1)) (xCons (xNam (pv 2)) xNil))) (gNam (show (4 : Nat) ≠ 9 from by decide) sc__law_digits.nd rfl (by first | exact .inl rfl | exact .inr rfl)) (yCons (ySet (show (5 : Nat) ≠ 9 from by decide) sc__law_digits.nd rfl (by first | exact .inl rfl | exact .inr rfl) (xCall rfl c__law_cell (hr.mono (by decide)) (by rfl) T.g__law_cell T.f__law_cell.kp T.n__law_cell hx (xCons (xNam (pv 0)) (xCons (xNam (pv 4)) xNil)) (ln1 (ln1 ln0))))
    (yCons (yIf (xCmpT op_lt ltV_ok (xNam (pv 5)) (dv xInt) (nomark _)) (yOne (ySet (show (5 : Nat) ≠ 9 from by decide) sc__law_digits.nd rfl (by first | exact .inl rfl | exact .inr rfl) (xSub (dv xInt) (dv (xMul (xNam (pv 5)) (dv xInt)))))) yNil)
    (yOne (yIf (xCmpT op_ge geV_ok (xNam (pv 5)) (dv (xPow (dv xInt) (dv xInt))) (nomark _)) (yCons (ySet (show (6 : Nat) ≠ 9 from by decide) sc__law_digits.nd rfl (by first | exact .inl rfl | exact .inr rfl) (vd (xNam (pv 5))))
    (yOne (yFor (passes_of rfl) rfl (wRange1 (by rfl) T.b_range (xCons (dv xInt) xNil)) (gNam (show (7 : Nat) ≠ 9 from by decide) sc__law_digits.nd rfl (by first | exact .inl rfl | exact .inr rfl)) (yOne (yIf (xCmpT op_gt gtV_ok (xNam (pv 6)) (dv xInt) (nomark _)) (yCons (yApp (show (3 : Nat) ≠ 9 from by decide) rfl (ps_expr (pe_bm PySem.F.plainAttrs_list PySem.F.slot_list_append PySem.F.type_list_append mt_append (pv 3) (pa_cons (xMod (xNam (pv 6)) (dv xInt)) pa_nil))))
    (yOne (ySet (show (6 : Nat) ≠ 9 from by decide) sc__law_digits.nd rfl (by first | exact .inl rfl | exact .inr rfl) (xFdiv (xNam (pv 6)) (dv xInt))))) yNil))))) (yCons (ySet (show (8 : Nat) ≠ 9 from by decide) sc__law_digits.nd rfl (by first | exact .inl rfl | exact .inr rfl) (xMod (dv (xAdd rfl (dv (xAdd rfl (dv (xMul (xNam (pv 5)) (dv xInt))) (dv (xMul (dv (xCallTy call_int1 intW_ok (by rfl) T.b_int (by decide +kernel) (xCons (dv (xAdd rfl (xNam (pv 4)) (dv xInt))) xNil))) (dv xInt))))) (dv xInt))) (dv xInt)))
    (yOne (yFor (passes_of rfl) rfl (wRange1 (by rfl) T.b_range (xCons (dv xInt) xNil)) (gNam (show (7 : Nat) ≠ 9 from by decide) sc__law_digits.nd rfl (by first | exact .inl rfl | exact .inr rfl)) (yCons (ySet (show (8 : Nat) ≠ 9 from by decide) sc__law_digits.nd rfl (by first | exact .inl rfl | exact .inr rfl) (xMod (dv (xAdd rfl (dv (xAdd rfl (dv (xMul (xNam (pv 8)) (dv xInt))) (dv (xMul (xNam (pv 7)) (dv xInt))))) (dv xInt))) (dv xInt)))
    (yOne (yApp (show (3 : Nat) ≠ 9 from by decide) rfl (ps_expr (pe_bm PySem.F.plainAttrs_list PySem.F.slot_list_append PySem.F.type_list_append mt_append (pv 3) (pa_cons (xMod (dv (xFdiv (xNam (pv 8)) (dv xInt))) (dv xInt)) pa_nil))))))))))))))
    (yOne (yRet (vd (xNam (pv 3)))))))
theorem sc__law_draw : FnScope ["box", "m", "digits", "at"] ["box", "m"] (defScope s__law_draw) := ⟨rfl, rfl, rfl, by decide +kernel, rfl, by decide +kernel, by decide +kernel⟩
def m__law_draw : M Out :=
  (sq (unbox 2 3)
  (sq ((s2 (nam 3) (sD (M.pur (.int 1))) addV).bind (boxSet 1))
  (sq (uIf (sT (s2 (nam 3) (sD ((sCons (nam 2) sNil).bind (arg1 lenW))) ltV)) (uRet (s2 (sD (s2 (nam 2) (nam 3) atW)) (nam 1) modV)) (M.pur .nx))
  (uRet (s2 (sD (s2 (sD (s2 (sD (s2 (sD (s2 (sD (s2 (nam 3) (nam 3) mulV)) (sD (M.pur (.int 3))) mulV)) (sD (s2 (nam 3) (sD (M.pur (.int 4))) mulV)) addV)) (sD (s2 (nam 3) (sD (M.pur (.int 3))) fdivV)) addV)) (sD (M.pur (.int 1))) addV)) (nam 1) modV)))))
def f__law_draw (bs ds : List D) : R (D × List D) := semB 4 m__law_draw bs ds
set_option maxHeartbeats 4000000 in
theorem ok__law_draw (T : Txt P K mg a) : FnOk P w K mg base (L2.CX P w) 1 a.a__law_draw a.a__law_draw_d ["box", "m"] (spB K a.xi 2 f__law_draw) := by
  refine fnB T.f__law_draw sc__law_draw (by decide) 4 rfl fun cdv A outer s H E hr => ?_
  have hx := passes_call (E := E) (takes_of (X := cxOf (L2.CX P w) P w K mg base ["box", "m", "digits", "at"] "_law_draw" (defScope s__law_draw) a.a__law_draw cdv A outer s H E) rfl rfl rfl rfl) fun _ _ _ _ z => z
  exact (yCons (yUnbox rfl rfl (show (2 : Nat) ≠ 0 from by decide) (show (3 : Nat) ≠ 0 from by decide) sc__law_draw.nd rfl rfl (by first | exact .inl rfl | exact .inr rfl) (by first | exact .inl rfl | exact .inr rfl) (pv 0))
    (yCons (yBoxSet (pv 0) (xAdd rfl (xNam (pv 3)) (dv xInt)))
    (yCons (yIf (xCmpT op_lt ltV_ok (xNam (pv 3)) (dv (xCallB call_lenA (lenW_ok rfl) (by rfl) T.b_len (by decide +kernel) (xCons (xNam (pv 2)) xNil))) (nomark _)) (yOne (yRet (xMod (dv (xIx rfl (xNam (pv 2)) (xNam (pv 3)))) (xNam (pv 1))))) yNil)
    (yOne (yRet (xMod (dv (xAdd rfl (dv (xAdd rfl (dv (xAdd rfl (dv (xMul (dv (xMul (xNam (pv 3)) (xNam (pv 3)))) (dv xInt))) (dv (xMul (xNam (pv 3)) (dv xInt))))) (dv (xFdiv (xNam (pv 3)) (dv xInt))))) (dv xInt))) (xNam (pv 1))))))))
theorem sc__law_pick : FnScope ["box", "rows"] ["box", "rows"] (defScope s__law_pick) := ⟨rfl, rfl, rfl, by decide +kernel, rfl, by decide +kernel, by decide +kernel⟩
def m__law_pick : M Out :=
  (uRet (s2 (nam 1) (sD (sCallB 0 (sCons (sD ((sCons (nam 1) sNil).bind (arg1 lenW))) sNil) f__law_draw)) atW))
def f__law_pick (bs ds : List D) : R (D × List D) := semB 2 m__law_pick bs ds
set_option maxHeartbeats 4000000 in
theorem ok__law_pick (T : Txt P K mg a) (c__law_draw : FnOk P w K mg base (L2.CX P w) 1 a.a__law_draw a.a__law_draw_d ["box", "m"] (spB K a.xi 2 f__law_draw)) : FnOk P w K mg base (L2.CX P w) 2 a.a__law_pick a.a__law_pick_d ["box", "rows"] (spB K a.xi 2 f__law_pick) := by
  refine fnB T.f__law_pick sc__law_pick (by decide) 2 rfl fun cdv A outer s H E hr => ?_
  have hx := passes_call (E := E) (takes_of (X := cxOf (L2.CX P w) P w K mg base ["box", "rows"] "_law_pick" (defScope s__law_pick) a.a__law_pick cdv A outer s H E) rfl rfl rfl rfl) fun _ _ _ _ z => z
  exact (yOne (yRet (xIx rfl (xNam (pv 1)) (dv (xCallBox rfl c__law_draw (hr.mono (by decide)) (by rfl) T.g__law_draw T.f__law_draw.kp T.n__law_draw hx (pv 0) (xCons (dv (xCallB call_lenA (lenW_ok rfl) (by rfl) T.b_len (by decide +kernel) (xCons (xNam (pv 1)) xNil))) xNil) (ln1 ln0))))))
theorem sc__law_word : FnScope ["box", "n", "most", "found", "k", "letter"] ["box", "n", "most"] (defScope s__law_word) := ⟨rfl, rfl, rfl, by decide +kernel, rfl, by decide +kernel, by decide +kernel⟩
def m__law_word : M Out :=
  (sq (uIf (sT (s2 (nam 1) (sD (M.pur (.int 1))) eqV')) (uRet (sTup 0 sNil)) (M.pur .nx))
  (sq (uSetO 3 (sLst 0 sNil))
  (sq (uFor ((sCons (sD (sCallB 0 (sCons (sD (s2 (nam 2) (sD (M.pur (.int 1))) addV)) sNil) f__law_draw)) sNil).bind rg1) (put 4) (sq (uSet 5 (s2 (sD (M.pur (.int 1))) (sD (sCallB 0 (sCons (sD (s2 (nam 1) (sD (M.pur (.int 1))) subV)) sNil) f__law_draw)) addV))
  (uApp 3 (sIf (sT (s2 (sD (sCallB 0 (sCons (sD (M.pur (.int 2))) sNil) f__law_draw)) (sD (M.pur (.int 0))) eqV')) (sV 0 (nam 5)) (s2 (sD (M.pur (.int 0))) (nam 5) subV)))))
  (uRet ((sCons (nam 3) sNil).bind (arg1 tupW))))))
def f__law_word (bs ds : List D) : R (D × List D) := semB 6 m__law_word bs ds
set_option maxHeartbeats 4000000 in
theorem ok__law_word (T : Txt P K mg a) (c__law_draw : FnOk P w K mg base (L2.CX P w) 1 a.a__law_draw a.a__law_draw_d ["box", "m"] (spB K a.xi 2 f__law_draw)) : FnOk P w K mg base (L2.CX P w) 2 a.a__law_word a.a__law_word_d ["box", "n", "most"] (spB K a.xi 3 f__law_word) := by
  refine fnB T.f__law_word sc__law_word (by decide) 6 rfl fun cdv A outer s H E hr => ?_
  have hx := passes_call (E := E) (takes_of (X := cxOf (L2.CX P w) P w K mg base ["box", "n", "most", "found", "k", "letter"] "_law_word" (defScope s__law_word) a.a__law_word cdv A outer s H E) rfl rfl rfl rfl) fun _ _ _ _ z => z
  exact (yCons (yIf (xCmpT (op_eqD hr.units) (eqV_ok rfl) (xNam (pv 1)) (dv xInt) (nomark _)) (yOne (yRet (xTup xNil))) yNil)
    (yCons (ySetO (show (3 : Nat) ≠ 0 from by decide) sc__law_word.nd rfl (by first | exact .inl rfl | exact .inr rfl) (xLst xNil))
    (yCons (yFor (passes_of rfl) rfl (wRange1 (by rfl) T.b_range (xCons (dv (xCallBox rfl c__law_draw (hr.mono (by decide)) (by rfl) T.g__law_draw T.f__law_draw.kp T.n__law_draw hx (pv 0) (xCons (dv (xAdd rfl (xNam (pv 2)) (dv xInt))) xNil) (ln1 ln0))) xNil)) (gNam (show (4 : Nat) ≠ 0 from by decide) sc__law_word.nd rfl (by first | exact .inl rfl | exact .inr rfl)) (yCons (ySet (show (5 : Nat) ≠ 0 from by decide) sc__law_word.nd rfl (by first | exact .inl rfl | exact .inr rfl) (xAdd rfl (dv xInt) (dv (xCallBox rfl c__law_draw (hr.mono (by decide)) (by rfl) T.g__law_draw T.f__law_draw.kp T.n__law_draw hx (pv 0) (xCons (dv (xSub (xNam (pv 1)) (dv xInt))) xNil) (ln1 ln0)))))
    (yOne (yApp (show (3 : Nat) ≠ 0 from by decide) rfl (ps_expr (pe_bm PySem.F.plainAttrs_list PySem.F.slot_list_append PySem.F.type_list_append mt_append (pv 3) (pa_cons (xIf (xCmpT (op_eqD hr.units) (eqV_ok rfl) (dv (xCallBox rfl c__law_draw (hr.mono (by decide)) (by rfl) T.g__law_draw T.f__law_draw.kp T.n__law_draw hx (pv 0) (xCons (dv xInt) xNil) (ln1 ln0))) (dv xInt) (nomark _)) (vd (xNam (pv 5))) (xSub (dv xInt) (xNam (pv 5)))) pa_nil)))))))
    (yOne (yRet (xCallTy call_tuple_of (tupW_ok rfl) (by rfl) T.b_tuple (by decide +kernel) (xCons (xNam (pv 3)) xNil)))))))
theorem sc__law_row_reason : FnScope ["n", "word", "row", "wide", "a", "b", "good", "one"] ["n", "word", "row"] (defScope s__law_row_reason) := ⟨rfl, rfl, rfl, by decide +kernel, rfl, by decide +kernel, by decide +kernel⟩
def m__law_row_reason : M Out :=
  (sq (uIf (sOr (sNot (sT ((nam 2).bind (isiW "tuple")))) (sOr (sT (s2 (sD ((sCons (nam 2) sNil).bind (arg1 lenW))) (sD (M.pur (.int 0))) eqV')) (sNot (sT ((sD (s2 (nam 2) (sD (M.pur (.int 0))) atW)).bind (isiW "str")))))) (uRet (M.pur (.str "shape"))) (M.pur .nx))
  (sq (uIf (sOr (sT (s2 (sD (s2 (nam 2) (sD (M.pur (.int 0))) atW)) (sD (sTup 8 (sCons (sD (M.pur (.str "in"))) (sCons (sD (M.pur (.str "out"))) (sCons (sD (M.pur (.str "far"))) (sCons (sD (M.pur (.str "three"))) sNil)))))) (inW true))) (sT (s2 (sD ((sCons (nam 2) sNil).bind (arg1 lenW))) (sD (sIf (sT (s2 (sD (s2 (nam 2) (sD (M.pur (.int 0))) atW)) (sD (M.pur (.str "in"))) eqV')) (M.pur (.int 3)) (M.pur (.int 2)))) neV'))) (uRet (M.pur (.str "shape"))) (M.pur .nx))
  (sq (uIf (sT (s2 (sD (sL (lcF [7] ((sSl (nam 2) (sPt (sD (M.pur (.int 1)))) sNo).bind seqF) (put 7) (sOr (sNot (sT ((nam 7).bind (isiW "int")))) (sT ((nam 7).bind (isiW "bool")))) (lastF (sV 8 (nam 7)))))) (sD (sL (sLst 8 sNil))) neV')) (uRet (M.pur (.str "shape"))) (M.pur .nx))
  (sq (uSet 3 ((sD (s2 (nam 2) (sD (M.pur (.int 0))) atW)).bind (dgetW [("in", 0), ("out", 2), ("far", 2), ("three", 3)])))
  (sq (uIf (sOr (sT (s2 (sD (s2 (nam 2) (sD (M.pur (.int 1))) atW)) (sD (M.pur (.int 0))) ltV)) (sT (s2 (sD (s2 (sD (s2 (nam 2) (sD (M.pur (.int 1))) atW)) (nam 3) addV)) (sD ((sCons (nam 1) sNil).bind (arg1 lenW))) gtV))) (uRet (M.pur (.str "place"))) (M.pur .nx))
  (sq (uIf (sT (s2 (sD (s2 (nam 2) (sD (M.pur (.int 0))) atW)) (sD (M.pur (.str "in"))) eqV')) (uRet (sIf (sAnd (sT (s2 (sD (s2 (nam 2) (sD (M.pur (.int 2))) atW)) (sD (M.pur (.int 0))) neV')) (sT (s2 (sD ((sCons (sD (s2 (nam 2) (sD (M.pur (.int 2))) atW)) sNil).bind (arg1 absW))) (nam 0) ltV))) (M.pur .none) (M.pur (.str "letter")))) (M.pur .nx))
  (sq (uPar 8 4 5 (sCons (sD (s2 (nam 1) (sD (s2 (nam 2) (sD (M.pur (.int 1))) atW)) atW)) (sCons (sD (s2 (nam 1) (sD (s2 (sD (s2 (nam 2) (sD (M.pur (.int 1))) atW)) (sD (M.pur (.int 1))) addV)) atW)) sNil)))
  (sq (uIf (sT (s2 (sD (s2 (nam 2) (sD (M.pur (.int 0))) atW)) (sD (M.pur (.str "out"))) eqV')) (uRet (sIf (sT (s2 (sD (s2 (nam 4) (nam 5) addV)) (sD (M.pur (.int 0))) eqV')) (M.pur .none) (M.pur (.str "letter")))) (M.pur .nx))
  (sq (uIf (sT (s2 (sD (s2 (nam 2) (sD (M.pur (.int 0))) atW)) (sD (M.pur (.str "far"))) eqV')) (uRet (sIf (sT (s2 (sD ((sCons (sD (s2 (sD ((sCons (nam 4) sNil).bind (arg1 absW))) (sD ((sCons (nam 5) sNil).bind (arg1 absW))) subV)) sNil).bind (arg1 absW))) (sD (M.pur (.int 1))) gtV)) (M.pur .none) (M.pur (.str "letter")))) (M.pur .nx))
  (sq (uSet 6 (sAndV (s2 (sD (s2 (nam 1) (sD (s2 (sD (s2 (nam 2) (sD (M.pur (.int 1))) atW)) (sD (M.pur (.int 2))) addV)) atW)) (nam 4) eqV') (sAndV (s2 (sD ((sCons (sD (s2 (sD ((sCons (nam 4) sNil).bind (arg1 absW))) (sD ((sCons (nam 5) sNil).bind (arg1 absW))) subV)) sNil).bind (arg1 absW))) (sD (M.pur (.int 1))) eqV') (s2 (sD (s2 (nam 4) (nam 5) mulV)) (sD (M.pur (.int 0))) gtV))))
  (uRet (sIf ((nam 6).bind truV) (M.pur .none) (M.pur (.str "letter"))))))))))))))
def f__law_row_reason (ds : List D) : R D := semP 8 m__law_row_reason ds
set_option maxHeartbeats 4000000 in
theorem ok__law_row_reason (T : Txt P K mg a) : FnOk P w K mg base (L2.CX P w) 1 a.a__law_row_reason a.a__law_row_reason_d ["n", "word", "row"] (spP K a.xi 3 f__law_row_reason) := by
  refine fnP T.f__law_row_reason sc__law_row_reason (by decide) 8 rfl fun cdv A outer s H E hr => ?_
  have hx := passes_call (E := E) (takes_of (X := cxOf (L2.CX P w) P w K mg base ["n", "word", "row", "wide", "a", "b", "good", "one"] "_law_row_reason" (defScope s__law_row_reason) a.a__law_row_reason cdv A outer s H E) rfl rfl rfl rfl) fun _ _ _ _ z => z
  exact (yCons (yIf (PW.pt (xOr (xNot (xTestB (xIsi rfl (by decide) (by rfl) T.b_isinstance (xNam (pv 2)) (by rfl) T.b_tuple (by decide +kernel)))) (xOr (xCmpT (op_eqD hr.units) (eqV_ok rfl) (dv (xCallB call_lenA (lenW_ok rfl) (by rfl) T.b_len (by decide +kernel) (xCons (xNam (pv 2)) xNil))) (dv xInt) (nomark _)) (xOr1 (xNot (xTestB (xIsi rfl (by decide) (by rfl) T.b_isinstance (dv (xIx rfl (xNam (pv 2)) (dv xInt))) (by rfl) T.b_str (by decide +kernel)))))))) (yOne (yRet xStr)) yNil)
    (yCons (yIf (PW.pt (xOr (xCmpT op_notIn_seq (inW_ok rfl) (dv (xIx rfl (xNam (pv 2)) (dv xInt))) (dv (xTup (xCons (dv xStr) (xCons (dv xStr) (xCons (dv xStr) (xCons (dv xStr) xNil)))))) rfl) (xOr1 (xCmpT (op_neD hr.units) (neV_ok rfl) (dv (xCallB call_lenA (lenW_ok rfl) (by rfl) T.b_len (by decide +kernel) (xCons (xNam (pv 2)) xNil))) (dv (xIf (xCmpT (op_eqD hr.units) (eqV_ok rfl) (dv (xIx rfl (xNam (pv 2)) (dv xInt))) (dv xStr) (nomark _)) xInt xInt)) (nomark _))))) (yOne (yRet xStr)) yNil)
    (yCons (yIf (xCmpT (op_neD hr.units) (neV_ok rfl) (dv (nd (xLc (show (8 : Nat) ∉ [7] from by decide) (by decide) (cmp1 (own := [("one", 7)]) rfl sc__law_row_reason.nd (wSeq rfl (xSl rfl (xNam (pv 2)) (xPart (dv xInt)) xPartN)) (blkOk_by rfl) (fun _ => rfl) fun _ _ _ _ _ => ⟨(gNamV (show (7 : Nat) ≠ 8 from by decide) (by decide) sc__law_row_reason.nd rfl (by first | exact .inl rfl | exact .inr rfl)), (tB_one (PW.pt (xOr (xNot (xTestB (xIsi rfl (by decide) (by rfl) T.b_isinstance (xNam (pv 7)) (by rfl) T.b_int (by decide +kernel)))) (xOr1 (xTestB (xIsi rfl (by decide) (by rfl) T.b_isinstance (xNam (pv 7)) (by rfl) T.b_bool (by decide +kernel))))))), (vd (xNam (pv 7)))⟩)))) (dv (nd (xLst xNil))) (nomark _)) (yOne (yRet xStr)) yNil)
    (yCons (ySet (show (3 : Nat) ≠ 8 from by decide) sc__law_row_reason.nd rfl (by first | exact .inl rfl | exact .inr rfl) (xDget (kvs := [("in", 0), ("out", 2), ("far", 2), ("three", 3)]) (hu_of hr) (pps_cons pe_str pe_int (pps_cons pe_str pe_int (pps_cons pe_str pe_int (pps_cons pe_str pe_int pps_nil)))) rfl rfl (by simp) (by decide) (by decide) (dv (xIx rfl (xNam (pv 2)) (dv xInt))) (fun _ _ => rfl)))
    (yCons (yIf (PW.pt (xOr (xCmpT op_lt ltV_ok (dv (xIx rfl (xNam (pv 2)) (dv xInt))) (dv xInt) (nomark _)) (xOr1 (xCmpT op_gt gtV_ok (dv (xAdd rfl (dv (xIx rfl (xNam (pv 2)) (dv xInt))) (xNam (pv 3)))) (dv (xCallB call_lenA (lenW_ok rfl) (by rfl) T.b_len (by decide +kernel) (xCons (xNam (pv 1)) xNil))) (nomark _))))) (yOne (yRet xStr)) yNil)
    (yCons (yIf (xCmpT (op_eqD hr.units) (eqV_ok rfl) (dv (xIx rfl (xNam (pv 2)) (dv xInt))) (dv xStr) (nomark _)) (yOne (yRet (xIf (PW.pt (xAnd (xCmpT (op_neD hr.units) (neV_ok rfl) (dv (xIx rfl (xNam (pv 2)) (dv xInt))) (dv xInt) (nomark _)) (xAnd1 (xCmpT op_lt ltV_ok (dv (xCallB call_abs absW_ok (by rfl) T.b_abs (by decide +kernel) (xCons (dv (xIx rfl (xNam (pv 2)) (dv xInt))) xNil))) (xNam (pv 0)) (nomark _))))) xNon xStr))) yNil)
    (yCons (yPar (show (4 : Nat) ≠ 8 from by decide) (show (5 : Nat) ≠ 8 from by decide) rfl sc__law_row_reason.nd rfl rfl (by decide) rfl rfl (xCons (dv (xIx rfl (xNam (pv 1)) (dv (xIx rfl (xNam (pv 2)) (dv xInt))))) (xCons (dv (xIx rfl (xNam (pv 1)) (dv (xAdd rfl (dv (xIx rfl (xNam (pv 2)) (dv xInt))) (dv xInt))))) xNil)) rfl)
    (yCons (yIf (xCmpT (op_eqD hr.units) (eqV_ok rfl) (dv (xIx rfl (xNam (pv 2)) (dv xInt))) (dv xStr) (nomark _)) (yOne (yRet (xIf (xCmpT (op_eqD hr.units) (eqV_ok rfl) (dv (xAdd rfl (xNam (pv 4)) (xNam (pv 5)))) (dv xInt) (nomark _)) xNon xStr))) yNil)
    (yCons (yIf (xCmpT (op_eqD hr.units) (eqV_ok rfl) (dv (xIx rfl (xNam (pv 2)) (dv xInt))) (dv xStr) (nomark _)) (yOne (yRet (xIf (xCmpT op_gt gtV_ok (dv (xCallB call_abs absW_ok (by rfl) T.b_abs (by decide +kernel) (xCons (dv (xSub (dv (xCallB call_abs absW_ok (by rfl) T.b_abs (by decide +kernel) (xCons (xNam (pv 4)) xNil))) (dv (xCallB call_abs absW_ok (by rfl) T.b_abs (by decide +kernel) (xCons (xNam (pv 5)) xNil))))) xNil))) (dv xInt) (nomark _)) xNon xStr))) yNil)
    (yCons (ySet (show (6 : Nat) ≠ 8 from by decide) sc__law_row_reason.nd rfl (by first | exact .inl rfl | exact .inr rfl) (xAnds (xCmp (op_eqD hr.units) (eqV_ok rfl) (dv (xIx rfl (xNam (pv 1)) (dv (xAdd rfl (dv (xIx rfl (xNam (pv 2)) (dv xInt))) (dv xInt))))) (xNam (pv 4)) (nomark _)) (xAnds (xCmp (op_eqD hr.units) (eqV_ok rfl) (dv (xCallB call_abs absW_ok (by rfl) T.b_abs (by decide +kernel) (xCons (dv (xSub (dv (xCallB call_abs absW_ok (by rfl) T.b_abs (by decide +kernel) (xCons (xNam (pv 4)) xNil))) (dv (xCallB call_abs absW_ok (by rfl) T.b_abs (by decide +kernel) (xCons (xNam (pv 5)) xNil))))) xNil))) (dv xInt) (nomark _)) (xAnd0 (xCmp op_gt gtV_ok (dv (xMul (xNam (pv 4)) (xNam (pv 5)))) (dv xInt) (nomark _))))))
    (yOne (yRet (xIf (xTru rfl (xNam (pv 6))) xNon xStr)))))))))))))
theorem sc__law_stepped : FnScope ["word", "row", "k"] ["word", "row"] (defScope s__law_stepped) := ⟨rfl, rfl, rfl, by decide +kernel, rfl, by decide +kernel, by decide +kernel⟩
def m__law_stepped : M Out :=
  (sq (uSet 2 (s2 (nam 1) (sD (M.pur (.int 1))) atW))
  (sq (uIf (sT (s2 (sD (s2 (nam 1) (sD (M.pur (.int 0))) atW)) (sD (M.pur (.str "in"))) eqV')) (uRet (s2 (sD (s2 (sD (sSl (nam 0) sNo (sPt (nam 2)))) (sD (sTup 3 (sCons (sD (s2 (nam 1) (sD (M.pur (.int 2))) atW)) (sCons (sD (s2 (sD (M.pur (.int 0))) (sD (s2 (nam 1) (sD (M.pur (.int 2))) atW)) subV)) sNil)))) addV)) (sD (sSl (nam 0) (sPt (nam 2)) sNo)) addV)) (M.pur .nx))
  (sq (uIf (sT (s2 (sD (s2 (nam 1) (sD (M.pur (.int 0))) atW)) (sD (M.pur (.str "out"))) eqV')) (uRet (s2 (sD (sSl (nam 0) sNo (sPt (nam 2)))) (sD (sSl (nam 0) (sPt (sD (s2 (nam 2) (sD (M.pur (.int 2))) addV))) sNo)) addV)) (M.pur .nx))
  (sq (uIf (sT (s2 (sD (s2 (nam 1) (sD (M.pur (.int 0))) atW)) (sD (M.pur (.str "far"))) eqV')) (uRet (s2 (sD (s2 (sD (s2 (sD (sSl (nam 0) sNo (sPt (nam 2)))) (sD (sSl (nam 0) (sPt (sD (s2 (nam 2) (sD (M.pur (.int 1))) addV))) (sPt (sD (s2 (nam 2) (sD (M.pur (.int 2))) addV))))) addV)) (sD (sSl (nam 0) (sPt (nam 2)) (sPt (sD (s2 (nam 2) (sD (M.pur (.int 1))) addV))))) addV)) (sD (sSl (nam 0) (sPt (sD (s2 (nam 2) (sD (M.pur (.int 2))) addV))) sNo)) addV)) (M.pur .nx))
  (uRet (s2 (sD (s2 (sD (s2 (sD (s2 (sD (sSl (nam 0) sNo (sPt (nam 2)))) (sD (sSl (nam 0) (sPt (sD (s2 (nam 2) (sD (M.pur (.int 1))) addV))) (sPt (sD (s2 (nam 2) (sD (M.pur (.int 2))) addV))))) addV)) (sD (sSl (nam 0) (sPt (nam 2)) (sPt (sD (s2 (nam 2) (sD (M.pur (.int 1))) addV))))) addV)) (sD (sSl (nam 0) (sPt (sD (s2 (nam 2) (sD (M.pur (.int 1))) addV))) (sPt (sD (s2 (nam 2) (sD (M.pur (.int 2))) addV))))) addV)) (sD (sSl (nam 0) (sPt (sD (s2 (nam 2) (sD (M.pur (.int 3))) addV))) sNo)) addV))))))
def f__law_stepped (ds : List D) : R D := semP 3 m__law_stepped ds
set_option maxHeartbeats 4000000 in
theorem ok__law_stepped (T : Txt P K mg a) : FnOk P w K mg base (L2.CX P w) 1 a.a__law_stepped a.a__law_stepped_d ["word", "row"] (spP K a.xi 2 f__law_stepped) := by
  refine fnP T.f__law_stepped sc__law_stepped (by decide) 3 rfl fun cdv A outer s H E hr => ?_
  have hx := passes_call (E := E) (takes_of (X := cxOf (L2.CX P w) P w K mg base ["word", "row", "k"] "_law_stepped" (defScope s__law_stepped) a.a__law_stepped cdv A outer s H E) rfl rfl rfl rfl) fun _ _ _ _ z => z
  exact (yCons (ySet (show (2 : Nat) ≠ 3 from by decide) sc__law_stepped.nd rfl (by first | exact .inl rfl | exact .inr rfl) (xIx rfl (xNam (pv 1)) (dv xInt)))
    (yCons (yIf (xCmpT (op_eqD hr.units) (eqV_ok rfl) (dv (xIx rfl (xNam (pv 1)) (dv xInt))) (dv xStr) (nomark _)) (yOne (yRet (xAdd rfl (dv (xAdd rfl (dv (xSl rfl (xNam (pv 0)) xPartN (xPart (xNam (pv 2))))) (dv (xTup (xCons (dv (xIx rfl (xNam (pv 1)) (dv xInt))) (xCons (dv (xSub (dv xInt) (dv (xIx rfl (xNam (pv 1)) (dv xInt))))) xNil)))))) (dv (xSl rfl (xNam (pv 0)) (xPart (xNam (pv 2))) xPartN))))) yNil)
    (yCons (yIf (xCmpT (op_eqD hr.units) (eqV_ok rfl) (dv (xIx rfl (xNam (pv 1)) (dv xInt))) (dv xStr) (nomark _)) (yOne (yRet (xAdd rfl (dv (xSl rfl (xNam (pv 0)) xPartN (xPart (xNam (pv 2))))) (dv (xSl rfl (xNam (pv 0)) (xPart (dv (xAdd rfl (xNam (pv 2)) (dv xInt)))) xPartN))))) yNil)
    (yCons (yIf (xCmpT (op_eqD hr.units) (eqV_ok rfl) (dv (xIx rfl (xNam (pv 1)) (dv xInt))) (dv xStr) (nomark _)) (yOne (yRet (xAdd rfl (dv (xAdd rfl (dv (xAdd rfl (dv (xSl rfl (xNam (pv 0)) xPartN (xPart (xNam (pv 2))))) (dv (xSl rfl (xNam (pv 0)) (xPart (dv (xAdd rfl (xNam (pv 2)) (dv xInt)))) (xPart (dv (xAdd rfl (xNam (pv 2)) (dv xInt)))))))) (dv (xSl rfl (xNam (pv 0)) (xPart (xNam (pv 2))) (xPart (dv (xAdd rfl (xNam (pv 2)) (dv xInt)))))))) (dv (xSl rfl (xNam (pv 0)) (xPart (dv (xAdd rfl (xNam (pv 2)) (dv xInt)))) xPartN))))) yNil)
    (yOne (yRet (xAdd rfl (dv (xAdd rfl (dv (xAdd rfl (dv (xAdd rfl (dv (xSl rfl (xNam (pv 0)) xPartN (xPart (xNam (pv 2))))) (dv (xSl rfl (xNam (pv 0)) (xPart (dv (xAdd rfl (xNam (pv 2)) (dv xInt)))) (xPart (dv (xAdd rfl (xNam (pv 2)) (dv xInt)))))))) (dv (xSl rfl (xNam (pv 0)) (xPart (xNam (pv 2))) (xPart (dv (xAdd rfl (xNam (pv 2)) (dv xInt)))))))) (dv (xSl rfl (xNam (pv 0)) (xPart (dv (xAdd rfl (xNam (pv 2)) (dv xInt)))) (xPart (dv (xAdd rfl (xNam (pv 2)) (dv xInt)))))))) (dv (xSl rfl (xNam (pv 0)) (xPart (dv (xAdd rfl (xNam (pv 2)) (dv xInt)))) xPartN)))))))))
theorem sc__law_steps : FnScope ["n", "word", "long", "found", "k", "letter", "kind"] ["n", "word", "long"] (defScope s__law_steps) := ⟨rfl, rfl, rfl, by decide +kernel, rfl, by decide +kernel, by decide +kernel⟩
def m__law_steps : M Out :=
  (sq (uSetO 3 (sLst 7 sNil))
  (sq (uFor ((sCons (sD (s2 (sD ((sCons (nam 1) sNil).bind (arg1 lenW))) (sD (M.pur (.int 1))) addV)) sNil).bind rg1) (put 4) (sq (uFor ((sCons (sD (M.pur (.int 1))) (sCons (nam 0) sNil)).bind rg2) (put 5) (uIf (sT (s2 (sD ((sCons (nam 1) sNil).bind (arg1 lenW))) (nam 2) ltV)) (uSetO 3 (s2N (nam 3) (sD (sL (sLst 7 (sCons (sD (sTup 7 (sCons (sD (M.pur (.str "in"))) (sCons (sD ((sCons (nam 4) sNil).bind (arg1 intW))) (sCons (sD ((sCons (nam 5) sNil).bind (arg1 intW))) sNil))))) (sCons (sD (sTup 7 (sCons (sD (M.pur (.str "in"))) (sCons (sD ((sCons (nam 4) sNil).bind (arg1 intW))) (sCons (sD (s2 (sD (M.pur (.int 0))) (sD ((sCons (nam 5) sNil).bind (arg1 intW))) subV)) sNil))))) sNil))))) catN)) (M.pur .nx)))
  (uFor ((sL (sLst 7 (sCons (sD (M.pur (.str "out"))) (sCons (sD (M.pur (.str "far"))) (sCons (sD (M.pur (.str "three"))) sNil))))).bind seqF) (put 6) (uIf (sT ((sD (sCall 7 (sCons (nam 0) (sCons (nam 1) (sCons (sD (sTup 7 (sCons (nam 6) (sCons (sD ((sCons (nam 4) sNil).bind (arg1 intW))) sNil)))) sNil))) f__law_row_reason)).bind (isN false))) (uApp 3 (sTup 7 (sCons (nam 6) (sCons (sD ((sCons (nam 4) sNil).bind (arg1 intW))) sNil)))) (M.pur .nx)))))
  (uRet (sV 7 (nam 3)))))
def f__law_steps (ds : List D) : R D := semP 7 m__law_steps ds
set_option maxHeartbeats 4000000 in
theorem ok__law_steps (T : Txt P K mg a) (c__law_row_reason : FnOk P w K mg base (L2.CX P w) 1 a.a__law_row_reason a.a__law_row_reason_d ["n", "word", "row"] (spP K a.xi 3 f__law_row_reason)) : FnOk P w K mg base (L2.CX P w) 2 a.a__law_steps a.a__law_steps_d ["n", "word", "long"] (spP K a.xi 3 f__law_steps) := by
  refine fnP T.f__law_steps sc__law_steps (by decide) 7 rfl fun cdv A outer s H E hr => ?_
  have hx := passes_call (E := E) (takes_of (X := cxOf (L2.CX P w) P w K mg base ["n", "word", "long", "found", "k", "letter", "kind"] "_law_steps" (defScope s__law_steps) a.a__law_steps cdv A outer s H E) rfl rfl rfl rfl) fun _ _ _ _ z => z
  exact (yCons (ySetO (show (3 : Nat) ≠ 7 from by decide) sc__law_steps.nd rfl (by first | exact .inl rfl | exact .inr rfl) (xLst xNil))
    (yCons (yFor (passes_of rfl) rfl (wRange1 (by rfl) T.b_range (xCons (dv (xAdd rfl (dv (xCallB call_lenA (lenW_ok rfl) (by rfl) T.b_len (by decide +kernel) (xCons (xNam (pv 1)) xNil))) (dv xInt))) xNil)) (gNam (show (4 : Nat) ≠ 7 from by decide) sc__law_steps.nd rfl (by first | exact .inl rfl | exact .inr rfl)) (yCons (yFor (passes_of rfl) rfl (wRange2 (by rfl) T.b_range (xCons (dv xInt) (xCons (xNam (pv 0)) xNil))) (gNam (show (5 : Nat) ≠ 7 from by decide) sc__law_steps.nd rfl (by first | exact .inl rfl | exact .inr rfl)) (yOne (yIf (xCmpT op_lt ltV_ok (dv (xCallB call_lenA (lenW_ok rfl) (by rfl) T.b_len (by decide +kernel) (xCons (xNam (pv 1)) xNil))) (xNam (pv 2)) (nomark _)) (yOne (ySetO (show (3 : Nat) ≠ 7 from by decide) sc__law_steps.nd rfl (by first | exact .inl rfl | exact .inr rfl) (xBinN op_cat catN_ok (xNam (pv 3)) (dv (nd (xLst (xCons (dv (xTup (xCons (dv xStr) (xCons (dv (xCallTy call_int1 intW_ok (by rfl) T.b_int (by decide +kernel) (xCons (xNam (pv 4)) xNil))) (xCons (dv (xCallTy call_int1 intW_ok (by rfl) T.b_int (by decide +kernel) (xCons (xNam (pv 5)) xNil))) xNil))))) (xCons (dv (xTup (xCons (dv xStr) (xCons (dv (xCallTy call_int1 intW_ok (by rfl) T.b_int (by decide +kernel) (xCons (xNam (pv 4)) xNil))) (xCons (dv (xSub (dv xInt) (dv (xCallTy call_int1 intW_ok (by rfl) T.b_int (by decide +kernel) (xCons (xNam (pv 5)) xNil))))) xNil))))) xNil)))))))) yNil)))
    (yOne (yFor (passes_of rfl) rfl (wSeq rfl (nd (xLst (xCons (dv xStr) (xCons (dv xStr) (xCons (dv xStr) xNil)))))) (gNam (show (6 : Nat) ≠ 7 from by decide) sc__law_steps.nd rfl (by first | exact .inl rfl | exact .inr rfl)) (yOne (yIf (xIsNT (dv (xCall rfl c__law_row_reason (hr.mono (by decide)) (by rfl) T.g__law_row_reason T.f__law_row_reason.kp T.n__law_row_reason hx (xCons (xNam (pv 0)) (xCons (xNam (pv 1)) (xCons (dv (xTup (xCons (xNam (pv 6)) (xCons (dv (xCallTy call_int1 intW_ok (by rfl) T.b_int (by decide +kernel) (xCons (xNam (pv 4)) xNil))) xNil)))) xNil))) (ln1 (ln1 (ln1 ln0)))))) (yOne (yApp (show (3 : Nat) ≠ 7 from by decide) rfl (ps_expr (pe_bm PySem.F.plainAttrs_list PySem.F.slot_list_append PySem.F.type_list_append mt_append (pv 3) (pa_cons (xTup (xCons (xNam (pv 6)) (xCons (dv (xCallTy call_int1 intW_ok (by rfl) T.b_int (by decide +kernel) (xCons (xNam (pv 4)) xNil))) xNil))) pa_nil))))) yNil))))))
    (yOne (yRet (vd (xNam (pv 3)))))))
theorem sc__law_other_word : FnScope ["box", "n", "word", "turns", "long", "rows", "turn", "steps", "near", "row"] ["box", "n", "word", "turns", "long"] (defScope s__law_other_word) := ⟨rfl, rfl, rfl, by decide +kernel, rfl, by decide +kernel, by decide +kernel⟩
def m__law_other_word : M Out :=
  (sq (uSetO 5 (sLst 0 sNil))
  (sq (uFor ((sCons (nam 3) sNil).bind rg1) (put 6) (sq (uSet 7 (sCall 0 (sCons (nam 1) (sCons (nam 2) (sCons (nam 4) sNil))) f__law_steps))
  (sq (uSet 8 (sL (lcF [9] ((sV 0 (nam 7)).bind seqF) (put 9) (sT (s2 (sD (s2 (nam 9) (sD (M.pur (.int 0))) atW)) (sD (sTup 0 (sCons (sD (M.pur (.str "far"))) (sCons (sD (M.pur (.str "three"))) sNil)))) (inW false))) (lastF (sV 0 (nam 9))))))
  (sq (uIf (sAnd (sT (s2 (nam 8) (sD (sL (sLst 0 sNil))) neV')) (sT (s2 (sD (sCallB 0 (sCons (sD (M.pur (.int 2))) sNil) f__law_draw)) (sD (M.pur (.int 0))) eqV'))) (uSet 7 (sV 0 (nam 8))) (M.pur .nx))
  (uIf (sT (s2 (nam 7) (sD (sL (sLst 0 sNil))) neV')) (sq (uSet 9 (sCallB 0 (sCons (nam 7) sNil) f__law_pick))
  (sq (uApp 5 (sV 0 (nam 9)))
  (uSet 2 (sCall 0 (sCons (nam 2) (sCons (nam 9) sNil)) f__law_stepped)))) (M.pur .nx))))))
  (uRet (sTup 0 (sCons (nam 2) (sCons (nam 5) sNil))))))
def f__law_other_word (bs ds : List D) : R (D × List D) := semB 10 m__law_other_word bs ds
set_option maxHeartbeats 4000000 in
theorem ok__law_other_word (T : Txt P K mg a) (c__law_draw : FnOk P w K mg base (L2.CX P w) 1 a.a__law_draw a.a__law_draw_d ["box", "m"] (spB K a.xi 2 f__law_draw)) (c__law_pick : FnOk P w K mg base (L2.CX P w) 2 a.a__law_pick a.a__law_pick_d ["box", "rows"] (spB K a.xi 2 f__law_pick)) (c__law_stepped : FnOk P w K mg base (L2.CX P w) 1 a.a__law_stepped a.a__law_stepped_d ["word", "row"] (spP K a.xi 2 f__law_stepped)) (c__law_steps : FnOk P w K mg base (L2.CX P w) 2 a.a__law_steps a.a__law_steps_d ["n", "word", "long"] (spP K a.xi 3 f__law_steps)) : FnOk P w K mg base (L2.CX P w) 3 a.a__law_other_word a.a__law_other_word_d ["box", "n", "word", "turns", "long"] (spB K a.xi 5 f__law_other_word) := by
  refine fnB T.f__law_other_word sc__law_other_word (by decide) 10 rfl fun cdv A outer s H E hr => ?_
  have hx := passes_call (E := E) (takes_of (X := cxOf (L2.CX P w) P w K mg base ["box", "n", "word", "turns", "long", "rows", "turn", "steps", "near", "row"] "_law_other_word" (defScope s__law_other_word) a.a__law_other_word cdv A outer s H E) rfl rfl rfl rfl) fun _ _ _ _ z => z
  exact (yCons (ySetO (show (5 : Nat) ≠ 0 from by decide) sc__law_other_word.nd rfl (by first | exact .inl rfl | exact .inr rfl) (xLst xNil))
    (yCons (yFor (passes_of rfl) rfl (wRange1 (by rfl) T.b_range (xCons (xNam (pv 3)) xNil)) (gNam (show (6 : Nat) ≠ 0 from by decide) sc__law_other_word.nd rfl (by first | exact .inl rfl | exact .inr rfl)) (yCons (ySet (show (7 : Nat) ≠ 0 from by decide) sc__law_other_word.nd rfl (by first | exact .inl rfl | exact .inr rfl) (xCall rfl c__law_steps (hr.mono (by decide)) (by rfl) T.g__law_steps T.f__law_steps.kp T.n__law_steps hx (xCons (xNam (pv 1)) (xCons (xNam (pv 2)) (xCons (xNam (pv 4)) xNil))) (ln1 (ln1 (ln1 ln0)))))
    (yCons (yCmp (show (0 : Nat) ∉ [9] from by decide) (show (8 : Nat) ≠ 0 from by decide) (by decide) rfl rfl (sw_true rfl rfl rfl rfl) (cmp1 (own := [("row", 9)]) rfl sc__law_other_word.nd (wSeq rfl (vd (xNam (pv 7)))) (blkOk_by rfl) (fun _ => rfl) fun _ _ _ _ _ => ⟨(gNamV (show (9 : Nat) ≠ 0 from by decide) (by decide) sc__law_other_word.nd rfl (by first | exact .inl rfl | exact .inr rfl)), (tB_one (xCmpT op_in_seq (inW_ok rfl) (dv (xIx rfl (xNam (pv 9)) (dv xInt))) (dv (xTup (xCons (dv xStr) (xCons (dv xStr) xNil)))) rfl)), (vd (xNam (pv 9)))⟩))
    (yCons (yIf (PW.pt (xAnd (xCmpT (op_neD hr.units) (neV_ok rfl) (xNam (pv 8)) (dv (nd (xLst xNil))) (nomark _)) (xAnd1 (xCmpT (op_eqD hr.units) (eqV_ok rfl) (dv (xCallBox rfl c__law_draw (hr.mono (by decide)) (by rfl) T.g__law_draw T.f__law_draw.kp T.n__law_draw hx (pv 0) (xCons (dv xInt) xNil) (ln1 ln0))) (dv xInt) (nomark _))))) (yOne (ySet (show (7 : Nat) ≠ 0 from by decide) sc__law_other_word.nd rfl (by first | exact .inl rfl | exact .inr rfl) (vd (xNam (pv 8))))) yNil)
    (yOne (yIf (xCmpT (op_neD hr.units) (neV_ok rfl) (xNam (pv 7)) (dv (nd (xLst xNil))) (nomark _)) (yCons (ySet (show (9 : Nat) ≠ 0 from by decide) sc__law_other_word.nd rfl (by first | exact .inl rfl | exact .inr rfl) (xCallBox rfl c__law_pick (hr.mono (by decide)) (by rfl) T.g__law_pick T.f__law_pick.kp T.n__law_pick hx (pv 0) (xCons (xNam (pv 7)) xNil) (ln1 ln0)))
    (yCons (yApp (show (5 : Nat) ≠ 0 from by decide) rfl (ps_expr (pe_bm PySem.F.plainAttrs_list PySem.F.slot_list_append PySem.F.type_list_append mt_append (pv 5) (pa_cons (vd (xNam (pv 9))) pa_nil))))
    (yOne (ySet (show (2 : Nat) ≠ 0 from by decide) sc__law_other_word.nd rfl (by first | exact .inl rfl | exact .inr rfl) (xCall rfl c__law_stepped (hr.mono (by decide)) (by rfl) T.g__law_stepped T.f__law_stepped.kp T.n__law_stepped hx (xCons (xNam (pv 2)) (xCons (xNam (pv 9)) xNil)) (ln1 (ln1 ln0))))))) yNil))))))
    (yOne (yRet (xTup (xCons (xNam (pv 2)) (xCons (xNam (pv 5)) xNil)))))))
theorem sc__law_known : FnScope [] [] (defScope s__law_known) := ⟨rfl, rfl, rfl, by decide +kernel, rfl, by decide +kernel, by decide +kernel⟩
def m__law_known : M Out :=
  (uRet (sTup 0 (sCons (sD (sTup 0 (sCons (sD (sTup 0 (sCons (sD (M.pur (.int 0))) (sCons (sD (M.pur (.int 2))) (sCons (sD (M.pur (.int 3))) (sCons (sD (M.pur (.int 1))) sNil)))))) (sCons (sD (sTup 0 (sCons (sD (M.pur (.int 3))) (sCons (sD (M.pur (.int 1))) (sCons (sD (M.pur (.int 0))) (sCons (sD (M.pur (.int 2))) sNil)))))) (sCons (sD (sTup 0 (sCons (sD (M.pur (.int 1))) (sCons (sD (M.pur (.int 3))) (sCons (sD (M.pur (.int 2))) (sCons (sD (M.pur (.int 0))) sNil)))))) (sCons (sD (sTup 0 (sCons (sD (M.pur (.int 2))) (sCons (sD (M.pur (.int 0))) (sCons (sD (M.pur (.int 1))) (sCons (sD (M.pur (.int 3))) sNil)))))) sNil)))))) (sCons (sD (sTup 0 (sCons (sD (sTup 0 (sCons (sD (M.pur (.int 0))) (sCons (sD (M.pur (.int 1))) (sCons (sD (M.pur (.int 1))) (sCons (sD (M.pur (.int 0))) sNil)))))) (sCons (sD (sTup 0 (sCons (sD (M.pur (.int 1))) (sCons (sD (M.pur (.int 0))) (sCons (sD (M.pur (.int 1))) (sCons (sD (M.pur (.int 0))) sNil)))))) (sCons (sD (sTup 0 (sCons (sD (M.pur (.int 1))) (sCons (sD (M.pur (.int 1))) (sCons (sD (M.pur (.int 0))) (sCons (sD (M.pur (.int 0))) sNil)))))) (sCons (sD (sTup 0 (sCons (sD (M.pur (.int 0))) (sCons (sD (M.pur (.int 0))) (sCons (sD (M.pur (.int 0))) (sCons (sD (M.pur (.int 0))) sNil)))))) sNil)))))) sNil))))
def f__law_known (ds : List D) : R D := semP 0 m__law_known ds
set_option maxHeartbeats 4000000 in
theorem ok__law_known (T : Txt P K mg a) : FnOk P w K mg base (L2.CX P w) 1 a.a__law_known a.a__law_known_d [] (spP K a.xi 0 f__law_known) := by
  refine fnP T.f__law_known sc__law_known (by decide) 0 rfl fun cdv A outer s H E hr => ?_
  have hx := passes_call (E := E) (takes_of (X := cxOf (L2.CX P w) P w K mg base [] "_law_known" (defScope s__law_known) a.a__law_known cdv A outer s H E) rfl rfl rfl rfl) fun _ _ _ _ z => z
  exact (yOne (yRet (xTup (xCons (dv (xTup (xCons (dv (xTup (xCons (dv xInt) (xCons (dv xInt) (xCons (dv xInt) (xCons (dv xInt) xNil)))))) (xCons (dv (xTup (xCons (dv xInt) (xCons (dv xInt) (xCons (dv xInt) (xCons (dv xInt) xNil)))))) (xCons (dv (xTup (xCons (dv xInt) (xCons (dv xInt) (xCons (dv xInt) (xCons (dv xInt) xNil)))))) (xCons (dv (xTup (xCons (dv xInt) (xCons (dv xInt) (xCons (dv xInt) (xCons (dv xInt) xNil)))))) xNil)))))) (xCons (dv (xTup (xCons (dv (xTup (xCons (dv xInt) (xCons (dv xInt) (xCons (dv xInt) (xCons (dv xInt) xNil)))))) (xCons (dv (xTup (xCons (dv xInt) (xCons (dv xInt) (xCons (dv xInt) (xCons (dv xInt) xNil)))))) (xCons (dv (xTup (xCons (dv xInt) (xCons (dv xInt) (xCons (dv xInt) (xCons (dv xInt) xNil)))))) (xCons (dv (xTup (xCons (dv xInt) (xCons (dv xInt) (xCons (dv xInt) (xCons (dv xInt) xNil)))))) xNil)))))) xNil)))))
end DL
set_option maxRecDepth 100000
set_option maxHeartbeats 4000000
namespace DL
open PySem PySem.Spec L2 PyProof.Rows
variable {P : Program} {w : World} {K : PySem.W.Frag} {mg : Str → Option Value} {base : Heap} {a : Ad}
theorem sc_table_fault : FnScope ["table", "size", "row", "one", "a", "b", "c"] ["table"] (defScope s_table_fault) := ⟨rfl, rfl, rfl, by decide +kernel, rfl, by decide +kernel, by decide +kernel⟩
def m_table_fault : M Out :=
  (sq (uIf (sOr (sNot (sT ((nam 0).bind (isiW "tuple")))) (sNot (chT leV leV (sD (M.pur (.int 1))) (sD ((sCons (nam 0) sNil).bind (arg1 lenW))) (sD (M.pur (.int 12)))))) (uRet (M.pur (.str "shape"))) (M.pur .nx))
  (sq (uSet 1 ((sCons (sD ((sCons (nam 0) sNil).bind (arg1 lenW))) sNil).bind (arg1 rgW)))
  (sq (uFor ((sV 7 (nam 0)).bind seqF) (put 2) (sq (uIf (sOr (sNot (sT ((nam 2).bind (isiW "tuple")))) (sT (s2 (sD ((sCons (nam 2) sNil).bind (arg1 lenW))) (sD ((sCons (nam 0) sNil).bind (arg1 lenW))) neV'))) (uRet (M.pur (.str "shape"))) (M.pur .nx))
  (uIf (sNot (sT ((sCons (sD (sL (lcF [3] ((sV 7 (nam 2)).bind seqF) (put 3) (M.pur true) (lastF (sAndV (sCall 7 (sCons (nam 3) sNil) f_is_integer) (chF leV ltV (sD (M.pur (.int 0))) (nam 3) (sD ((sCons (nam 0) sNil).bind (arg1 lenW))))))))) sNil).bind (arg1 (anyW true))))) (uRet (M.pur (.str "shape"))) (M.pur .nx))))
  (sq (uIf (sT ((sCons (sD (sL (lcF [4] ((sV 7 (nam 1)).bind rgF) (put 4) (M.pur true) (lastF (s2 (sD (s2 (sD (s2 (nam 0) (nam 4) atW)) (nam 4) atW)) (nam 4) neV'))))) sNil).bind (arg1 (anyW false)))) (uRet (M.pur (.str "one"))) (M.pur .nx))
  (sq (uIf (sT ((sCons (sD (sL (lcF [5] ((sV 7 (nam 1)).bind rgF) (put 5) (M.pur true) (lastF (s2 (sD ((sD (sL (lcF [4] ((sV 7 (nam 1)).bind rgF) (put 4) (M.pur true) (lastF (s2 (sD (s2 (nam 0) (nam 4) atW)) (nam 5) atW))))).bind lenSetW)) (sD ((sCons (nam 0) sNil).bind (arg1 lenW))) neV'))))) sNil).bind (arg1 (anyW false)))) (uRet (M.pur (.str "two"))) (M.pur .nx))
  (sq (uIf (sT ((sCons (sD (sL (lcF [4, 5, 6] ((sV 7 (nam 1)).bind rgF) (put 4) (M.pur true) (midF [5, 6] ((sV 7 (nam 1)).bind rgF) (put 5) (M.pur true) (midF [6] ((sV 7 (nam 1)).bind rgF) (put 6) (M.pur true) (lastF (s2 (sD (s2 (sD (s2 (nam 0) (sD (s2 (sD (s2 (nam 0) (nam 4) atW)) (nam 5) atW)) atW)) (nam 6) atW)) (sD (s2 (sD (s2 (nam 0) (sD (s2 (sD (s2 (nam 0) (nam 4) atW)) (nam 6) atW)) atW)) (sD (s2 (sD (s2 (nam 0) (nam 5) atW)) (nam 6) atW)) atW)) neV'))))))) sNil).bind (arg1 (anyW false)))) (uRet (M.pur (.str "three"))) (M.pur .nx))
  (uRet (M.pur .none))))))))
def f_table_fault (ds : List D) : R D := semP 7 m_table_fault ds
set_option maxHeartbeats 4000000 in
theorem ok_table_fault (T : Txt P K mg a) (c_is_integer : FnOk P w K mg base (L2.CX P w) 1 a.a_is_integer a.a_is_integer_d ["shape"] (spP K a.xi 1 f_is_integer)) : FnOk P w K mg base (L2.CX P w) 2 a.a_table_fault a.a_table_fault_d ["table"] (spP K a.xi 1 f_table_fault) := by
  obtain ⟨_, h_MOST_COLOURS⟩ := T.k_MOST_COLOURS
  refine fnP T.f_table_fault sc_table_fault (by decide) 7 rfl fun cdv A outer s H E hr => ?_
  have hx := passes_call (E := E) (takes_of (X := cxOf (L2.CX P w) P w K mg base ["table", "size", "row", "one", "a", "b", "c"] "table_fault" (defScope s_table_fault) a.a_table_fault cdv A outer s H E) rfl rfl rfl rfl) fun _ _ _ _ z => z
  exact (yCons (yIf (PW.pt (xOr (xNot (xTestB (xIsi rfl (by decide) (by rfl) T.b_isinstance (xNam (pv 0)) (by rfl) T.b_tuple (by decide +kernel)))) (xOr1 (xNot (xChainT op_le op_le leV_ok leV_ok (dv xInt) (dv (xCallB call_lenA (lenW_ok rfl) (by rfl) T.b_len (by decide +kernel) (xCons (xNam (pv 0)) xNil))) (dv (xGlob (v := .int 12) (by rfl) h_MOST_COLOURS ⟨_, rfl⟩ fun _ => .int _))))))) (yOne (yRet xStr)) yNil)
    (yCons (ySet (show (1 : Nat) ≠ 7 from by decide) sc_table_fault.nd rfl (by first | exact .inl rfl | exact .inr rfl) (xCallTy cr_range1 rgW_ok (by rfl) T.b_range PyProof.Rows.boot_range (xCons (dv (xCallB call_lenA (lenW_ok rfl) (by rfl) T.b_len (by decide +kernel) (xCons (xNam (pv 0)) xNil))) xNil)))
    (yCons (yFor (passes_of rfl) rfl (wSeq rfl (vd (xNam (pv 0)))) (gNam (show (2 : Nat) ≠ 7 from by decide) sc_table_fault.nd rfl (by first | exact .inl rfl | exact .inr rfl)) (yCons (yIf (PW.pt (xOr (xNot (xTestB (xIsi rfl (by decide) (by rfl) T.b_isinstance (xNam (pv 2)) (by rfl) T.b_tuple (by decide +kernel)))) (xOr1 (xCmpT (op_neD hr.units) (neV_ok rfl) (dv (xCallB call_lenA (lenW_ok rfl) (by rfl) T.b_len (by decide +kernel) (xCons (xNam (pv 2)) xNil))) (dv (xCallB call_lenA (lenW_ok rfl) (by rfl) T.b_len (by decide +kernel) (xCons (xNam (pv 0)) xNil))) (nomark _))))) (yOne (yRet xStr)) yNil)
    (yOne (yIf (xNot (xTestB (xCallB (call_allA rfl) (anyW_ok rfl) (by rfl) T.b_all (by decide +kernel) (xCons (dv (nd (xLc (show (7 : Nat) ∉ [3] from by decide) (by decide) (cmp1 (own := [("one", 3)]) rfl sc_table_fault.nd (wSeq rfl (vd (xNam (pv 2)))) (blkOk_by rfl) (fun _ => rfl) fun _ _ _ _ _ => ⟨(gNamV (show (3 : Nat) ≠ 7 from by decide) (by decide) sc_table_fault.nd rfl (by first | exact .inl rfl | exact .inr rfl)), tB_yes, (xAnds (xCall rfl c_is_integer (hr.mono (by decide)) (by rfl) T.g_is_integer T.f_is_integer.kp T.n_is_integer passL (xCons (xNam (pv 3)) xNil) (ln1 ln0)) (xAnd0 (xChain op_le op_lt leV_ok ltV_ok (dv xInt) (xNam (pv 3)) (dv (xCallB call_lenA (lenW_ok rfl) (by rfl) T.b_len (by decide +kernel) (xCons (xNam (pv 0)) xNil))))))⟩)))) xNil)))) (yOne (yRet xStr)) yNil))))
    (yCons (yIf (xTestB (xCallB (call_anyA rfl) (anyW_ok rfl) (by rfl) T.b_any (by decide +kernel) (xCons (dv (nd (xLc (show (7 : Nat) ∉ [4] from by decide) (by decide) (cmp1 (own := [("a", 4)]) rfl sc_table_fault.nd (wRgV (vd (xNam (pv 1)))) (blkOk_by rfl) (fun _ => rfl) fun _ _ _ _ _ => ⟨(gNamV (show (4 : Nat) ≠ 7 from by decide) (by decide) sc_table_fault.nd rfl (by first | exact .inl rfl | exact .inr rfl)), tB_yes, (xCmp (op_neD hr.units) (neV_ok rfl) (dv (xIx rfl (dv (xIx rfl (xNam (pv 0)) (xNam (pv 4)))) (xNam (pv 4)))) (xNam (pv 4)) (nomark _))⟩)))) xNil))) (yOne (yRet xStr)) yNil)
    (yCons (yIf (xTestB (xCallB (call_anyA rfl) (anyW_ok rfl) (by rfl) T.b_any (by decide +kernel) (xCons (dv (nd (xLc (show (7 : Nat) ∉ [5] from by decide) (by decide) (cmp1 (own := [("b", 5)]) rfl sc_table_fault.nd (wRgV (vd (xNam (pv 1)))) (blkOk_by rfl) (fun _ => rfl) fun _ _ _ _ _ => ⟨(gNamV (show (5 : Nat) ≠ 7 from by decide) (by decide) sc_table_fault.nd rfl (by first | exact .inl rfl | exact .inr rfl)), tB_yes, (xCmp (op_neD hr.units) (neV_ok rfl) (dv (xLenSet rfl rfl (by rfl) T.b_len (by rfl) T.b_set (dv (nd (xLc (show (7 : Nat) ∉ [4] from by decide) (by decide) (cmp1 (own := [("a", 4)]) rfl sc_table_fault.nd (wRgV (vd (xNam (pv 1)))) (blkOk_by rfl) (fun _ => rfl) fun _ _ _ _ _ => ⟨(gNamV (show (4 : Nat) ≠ 7 from by decide) (by decide) sc_table_fault.nd rfl (by first | exact .inl rfl | exact .inr rfl)), tB_yes, (xIx rfl (dv (xIx rfl (xNam (pv 0)) (xNam (pv 4)))) (xNam (pv 5)))⟩)))))) (dv (xCallB call_lenA (lenW_ok rfl) (by rfl) T.b_len (by decide +kernel) (xCons (xNam (pv 0)) xNil))) (nomark _))⟩)))) xNil))) (yOne (yRet xStr)) yNil)
    (yCons (yIf (xTestB (xCallB (call_anyA rfl) (anyW_ok rfl) (by rfl) T.b_any (by decide +kernel) (xCons (dv (nd (xLc (show (7 : Nat) ∉ [4, 5, 6] from by decide) (by decide) (cmp3 (own := [("a", 4), ("b", 5), ("c", 6)]) rfl sc_table_fault.nd (show (7 : Nat) ∉ [5, 6] from by decide) (show (7 : Nat) ∉ [6] from by decide) (by decide) (by decide) (wRgV (vd (xNam (pv 1)))) (blkOk_by rfl) (fun _ => rfl) (fun _ _ => rfl) (fun _ _ => rfl) fun _ _ _ _ _ => ⟨(gNamV (show (4 : Nat) ≠ 7 from by decide) (by decide) sc_table_fault.nd rfl (by first | exact .inl rfl | exact .inr rfl)), tB_yes, (wRgV (vd (xNam (pv 1)))), (gNamV (show (5 : Nat) ≠ 7 from by decide) (by decide) sc_table_fault.nd rfl (by first | exact .inl rfl | exact .inr rfl)), tB_yes, (wRgV (vd (xNam (pv 1)))), (gNamV (show (6 : Nat) ≠ 7 from by decide) (by decide) sc_table_fault.nd rfl (by first | exact .inl rfl | exact .inr rfl)), tB_yes, (xCmp (op_neD hr.units) (neV_ok rfl) (dv (xIx rfl (dv (xIx rfl (xNam (pv 0)) (dv (xIx rfl (dv (xIx rfl (xNam (pv 0)) (xNam (pv 4)))) (xNam (pv 5)))))) (xNam (pv 6)))) (dv (xIx rfl (dv (xIx rfl (xNam (pv 0)) (dv (xIx rfl (dv (xIx rfl (xNam (pv 0)) (xNam (pv 4)))) (xNam (pv 6)))))) (dv (xIx rfl (dv (xIx rfl (xNam (pv 0)) (xNam (pv 5)))) (xNam (pv 6)))))) (nomark _))⟩)))) xNil))) (yOne (yRet xStr)) yNil)
    (yOne (yRet xNon))))))))
theorem sc_weights_fault : FnScope ["table", "rows", "many", "reason", "size", "row", "a", "b", "c", "left", "right", "cell"] ["table", "rows", "many"] (defScope s_weights_fault) := ⟨rfl, rfl, rfl, by decide +kernel, rfl, by decide +kernel, by decide +kernel⟩
def m_weights_fault : M Out :=
  (sq (uSet 3 (sCall 12 (sCons (nam 0) sNil) f_table_fault))
  (sq (uIf (sT ((nam 3).bind (isN true))) (uRet (sV 12 (nam 3))) (M.pur .nx))
  (sq (uIf (sOr (sNot (sT (sCall 12 (sCons (nam 2) sNil) f_is_integer))) (sOr (sNot (chT leV leV (sD (M.pur (.int 2))) (nam 2) (sD (M.pur (.int 12))))) (sOr (sNot (sT ((nam 1).bind (isiW "tuple")))) (sT (s2 (sD ((sCons (nam 1) sNil).bind (arg1 lenW))) (sD ((sCons (nam 0) sNil).bind (arg1 lenW))) neV'))))) (uRet (M.pur (.str "weights"))) (M.pur .nx))
  (sq (uSet 4 ((sCons (sD ((sCons (nam 0) sNil).bind (arg1 lenW))) sNil).bind (arg1 rgW)))
  (sq (uFor ((sV 12 (nam 1)).bind seqF) (put 5) (sq (uIf (sOr (sNot (sT ((nam 5).bind (isiW "tuple")))) (sT (s2 (sD ((sCons (nam 5) sNil).bind (arg1 lenW))) (sD ((sCons (nam 0) sNil).bind (arg1 lenW))) neV'))) (uRet (M.pur (.str "weights"))) (M.pur .nx))
  (uIf (sNot (sT ((sCons (sD (sL (lcF [11] ((sV 12 (nam 5)).bind seqF) (put 11) (M.pur true) (lastF (sAndV (sCall 12 (sCons (nam 11) sNil) f_is_integer) (chF leV ltV (sD (M.pur (.int 0))) (nam 11) (nam 2))))))) sNil).bind (arg1 (anyW true))))) (uRet (M.pur (.str "weights"))) (M.pur .nx))))
  (sq (uIf (sT ((sCons (sD (sL (lcF [6] ((sV 12 (nam 4)).bind rgF) (put 6) (M.pur true) (lastF (s2 (sD (s2 (nam 1) (nam 6) atW)) (nam 6) atW))))) sNil).bind (arg1 (anyW false)))) (uRet (M.pur (.str "same"))) (M.pur .nx))
  (sq (uFor ((sV 12 (nam 4)).bind rgF) (put 6) (uFor ((sV 12 (nam 4)).bind rgF) (put 7) (uFor ((sV 12 (nam 4)).bind rgF) (put 8) (sq (uSet 9 (s2 (sD (s2 (sD (s2 (nam 1) (nam 6) atW)) (nam 7) atW)) (sD (s2 (sD (s2 (nam 1) (sD (s2 (sD (s2 (nam 0) (nam 6) atW)) (nam 7) atW)) atW)) (nam 8) atW)) addV))
  (sq (uSet 10 (s2 (sD (s2 (sD (s2 (nam 1) (nam 6) atW)) (nam 8) atW)) (sD (s2 (sD (s2 (nam 1) (sD (s2 (sD (s2 (nam 0) (nam 6) atW)) (nam 8) atW)) atW)) (sD (s2 (sD (s2 (nam 0) (nam 7) atW)) (nam 8) atW)) atW)) addV))
  (uIf ((sD (s2 (sD (s2 (nam 9) (nam 10) subV)) (nam 2) modV)).bind truV) (uRet (M.pur (.str "three"))) (M.pur .nx)))))))
  (uRet (M.pur .none)))))))))
def f_weights_fault (ds : List D) : R D := semP 12 m_weights_fault ds
set_option maxHeartbeats 4000000 in
theorem ok_weights_fault (T : Txt P K mg a) (c_is_integer : FnOk P w K mg base (L2.CX P w) 1 a.a_is_integer a.a_is_integer_d ["shape"] (spP K a.xi 1 f_is_integer)) (c_table_fault : FnOk P w K mg base (L2.CX P w) 2 a.a_table_fault a.a_table_fault_d ["table"] (spP K a.xi 1 f_table_fault)) : FnOk P w K mg base (L2.CX P w) 3 a.a_weights_fault a.a_weights_fault_d ["table", "rows", "many"] (spP K a.xi 3 f_weights_fault) := by
  refine fnP T.f_weights_fault sc_weights_fault (by decide) 12 rfl fun cdv A outer s H E hr => ?_
  have hx := passes_call (E := E) (takes_of (X := cxOf (L2.CX P w) P w K mg base ["table", "rows", "many", "reason", "size", "row", "a", "b", "c", "left", "right", "cell"] "weights_fault" (defScope s_weights_fault) a.a_weights_fault cdv A outer s H E) rfl rfl rfl rfl) fun _ _ _ _ z => z
  exact (yCons (ySet (show (3 : Nat) ≠ 12 from by decide) sc_weights_fault.nd rfl (by first | exact .inl rfl | exact .inr rfl) (xCall rfl c_table_fault (hr.mono (by decide)) (by rfl) T.g_table_fault T.f_table_fault.kp T.n_table_fault hx (xCons (xNam (pv 0)) xNil) (ln1 ln0)))
    (yCons (yIf (xNotNT (xNam (pv 3))) (yOne (yRet (vd (xNam (pv 3))))) yNil)
    (yCons (yIf (PW.pt (xOr (xNot (xTestB (xCall rfl c_is_integer (hr.mono (by decide)) (by rfl) T.g_is_integer T.f_is_integer.kp T.n_is_integer hx (xCons (xNam (pv 2)) xNil) (ln1 ln0)))) (xOr (xNot (xChainT op_le op_le leV_ok leV_ok (dv xInt) (xNam (pv 2)) (dv xInt))) (xOr (xNot (xTestB (xIsi rfl (by decide) (by rfl) T.b_isinstance (xNam (pv 1)) (by rfl) T.b_tuple (by decide +kernel)))) (xOr1 (xCmpT (op_neD hr.units) (neV_ok rfl) (dv (xCallB call_lenA (lenW_ok rfl) (by rfl) T.b_len (by decide +kernel) (xCons (xNam (pv 1)) xNil))) (dv (xCallB call_lenA (lenW_ok rfl) (by rfl) T.b_len (by decide +kernel) (xCons (xNam (pv 0)) xNil))) (nomark _))))))) (yOne (yRet xStr)) yNil)
    (yCons (ySet (show (4 : Nat) ≠ 12 from by decide) sc_weights_fault.nd rfl (by first | exact .inl rfl | exact .inr rfl) (xCallTy cr_range1 rgW_ok (by rfl) T.b_range PyProof.Rows.boot_range (xCons (dv (xCallB call_lenA (lenW_ok rfl) (by rfl) T.b_len (by decide +kernel) (xCons (xNam (pv 0)) xNil))) xNil)))
    (yCons (yFor (passes_of rfl) rfl (wSeq rfl (vd (xNam (pv 1)))) (gNam (show (5 : Nat) ≠ 12 from by decide) sc_weights_fault.nd rfl (by first | exact .inl rfl | exact .inr rfl)) (yCons (yIf (PW.pt (xOr (xNot (xTestB (xIsi rfl (by decide) (by rfl) T.b_isinstance (xNam (pv 5)) (by rfl) T.b_tuple (by decide +kernel)))) (xOr1 (xCmpT (op_neD hr.units) (neV_ok rfl) (dv (xCallB call_lenA (lenW_ok rfl) (by rfl) T.b_len (by decide +kernel) (xCons (xNam (pv 5)) xNil))) (dv (xCallB call_lenA (lenW_ok rfl) (by rfl) T.b_len (by decide +kernel) (xCons (xNam (pv 0)) xNil))) (nomark _))))) (yOne (yRet xStr)) yNil)
    (yOne (yIf (xNot (xTestB (xCallB (call_allA rfl) (anyW_ok rfl) (by rfl) T.b_all (by decide +kernel) (xCons (dv (nd (xLc (show (12 : Nat) ∉ [11] from by decide) (by decide) (cmp1 (own := [("cell", 11)]) rfl sc_weights_fault.nd (wSeq rfl (vd (xNam (pv 5)))) (blkOk_by rfl) (fun _ => rfl) fun _ _ _ _ _ => ⟨(gNamV (show (11 : Nat) ≠ 12 from by decide) (by decide) sc_weights_fault.nd rfl (by first | exact .inl rfl | exact .inr rfl)), tB_yes, (xAnds (xCall rfl c_is_integer (hr.mono (by decide)) (by rfl) T.g_is_integer T.f_is_integer.kp T.n_is_integer passL (xCons (xNam (pv 11)) xNil) (ln1 ln0)) (xAnd0 (xChain op_le op_lt leV_ok ltV_ok (dv xInt) (xNam (pv 11)) (xNam (pv 2)))))⟩)))) xNil)))) (yOne (yRet xStr)) yNil))))
    (yCons (yIf (xTestB (xCallB (call_anyA rfl) (anyW_ok rfl) (by rfl) T.b_any (by decide +kernel) (xCons (dv (nd (xLc (show (12 : Nat) ∉ [6] from by decide) (by decide) (cmp1 (own := [("a", 6)]) rfl sc_weights_fault.nd (wRgV (vd (xNam (pv 4)))) (blkOk_by rfl) (fun _ => rfl) fun _ _ _ _ _ => ⟨(gNamV (show (6 : Nat) ≠ 12 from by decide) (by decide) sc_weights_fault.nd rfl (by first | exact .inl rfl | exact .inr rfl)), tB_yes, (xIx rfl (dv (xIx rfl (xNam (pv 1)) (xNam (pv 6)))) (xNam (pv 6)))⟩)))) xNil))) (yOne (yRet xStr)) yNil)
    (yCons (yFor (passes_of rfl) rfl (wRgV (vd (xNam (pv 4)))) (gNam (show (6 : Nat) ≠ 12 from by decide) sc_weights_fault.nd rfl (by first | exact .inl rfl | exact .inr rfl)) (yOne (yFor (passes_of rfl) rfl (wRgV (vd (xNam (pv 4)))) (gNam (show (7 : Nat) ≠ 12 from by decide) sc_weights_fault.nd rfl (by first | exact .inl rfl | exact .inr rfl)) (yOne (yFor (passes_of rfl) rfl (wRgV (vd (xNam (pv 4)))) (gNam (show (8 : Nat) ≠ 12 from by decide) sc_weights_fault.nd rfl (by first | exact .inl rfl | exact .inr rfl)) (yCons (ySet (show (9 : Nat) ≠ 12 from by decide) sc_weights_fault.nd rfl (by first | exact .inl rfl | exact .inr rfl) (xAdd rfl (dv (xIx rfl (dv (xIx rfl (xNam (pv 1)) (xNam (pv 6)))) (xNam (pv 7)))) (dv (xIx rfl (dv (xIx rfl (xNam (pv 1)) (dv (xIx rfl (dv (xIx rfl (xNam (pv 0)) (xNam (pv 6)))) (xNam (pv 7)))))) (xNam (pv 8))))))
    (yCons (ySet (show (10 : Nat) ≠ 12 from by decide) sc_weights_fault.nd rfl (by first | exact .inl rfl | exact .inr rfl) (xAdd rfl (dv (xIx rfl (dv (xIx rfl (xNam (pv 1)) (xNam (pv 6)))) (xNam (pv 8)))) (dv (xIx rfl (dv (xIx rfl (xNam (pv 1)) (dv (xIx rfl (dv (xIx rfl (xNam (pv 0)) (xNam (pv 6)))) (xNam (pv 8)))))) (dv (xIx rfl (dv (xIx rfl (xNam (pv 0)) (xNam (pv 7)))) (xNam (pv 8))))))))
    (yOne (yIf (xTru rfl (dv (xMod (dv (xSub (xNam (pv 9)) (xNam (pv 10)))) (xNam (pv 2))))) (yOne (yRet xStr)) yNil)))))))))
    (yOne (yRet xNon)))))))))
theorem sc_counted_by : FnScope ["n", "word", "table", "reason", "back", "found", "first", "row", "letter", "at", "left", "right", "pair"] ["n", "word", "table"] (defScope s_counted_by) := ⟨rfl, rfl, rfl, by decide +kernel, rfl, by decide +kernel, by decide +kernel⟩
def m_counted_by : M Out :=
  (sq (uEx (sCall 13 (sCons (nam 0) (sCons (nam 1) sNil)) f_check_word))
  (sq (uSet 3 (sCall 13 (sCons (nam 2) sNil) f_table_fault))
  (sq (uIf (sT ((nam 3).bind (isN true))) (uRaise "Refused" (sV 13 (nam 3))) (M.pur .nx))
  (sq (uIf (sT (s2 (sD (sCall 13 (sCons (sD ((sCons (nam 2) sNil).bind (arg1 lenW))) (sCons (nam 0) sNil)) f_to_power)) (sD (M.pur (.int 20000))) gtV)) (uRaise "TooMany" (M.pur (.str "tries"))) (M.pur .nx))
  (sq (uSet 4 (sCall 13 (sCons (nam 2) sNil) f_back_table))
  (sq (uSet 5 (M.pur (.int 0)))
  (sq (uFor ((sCall 13 (sCons (nam 0) (sCons (sD (sL ((sD ((sCons (nam 2) sNil).bind (arg1 lenW))).bind rgL))) sNil)) f_all_rows).bind seqF) (put 6) (sq (uSet 7 (sV 13 (nam 6)))
  (sq (uFor ((sV 13 (nam 1)).bind seqF) (put 8) (sq (uSet 9 (s2 (sD ((sCons (nam 8) sNil).bind (arg1 absW))) (sD (M.pur (.int 1))) subV))
  (sq (uPar 13 10 11 (sCons (sD (s2 (nam 7) (nam 9) atW)) (sCons (sD (s2 (nam 7) (sD (s2 (nam 9) (sD (M.pur (.int 1))) addV)) atW)) sNil)))
  (sq (uSet 12 (sIf (sT (s2 (nam 8) (sD (M.pur (.int 0))) gtV)) (sTup 13 (sCons (nam 11) (sCons (sD (s2 (sD (s2 (nam 2) (nam 10) atW)) (nam 11) atW)) sNil))) (sTup 13 (sCons (sD (s2 (sD (s2 (nam 4) (nam 11) atW)) (nam 10) atW)) (sCons (nam 10) sNil)))))
  (uSet 7 (s2 (sD (s2 (sD (sSl (nam 7) sNo (sPt (nam 9)))) (nam 12) addV)) (sD (sSl (nam 7) (sPt (sD (s2 (nam 9) (sD (M.pur (.int 2))) addV))) sNo)) addV))))))
  (uAug 5 (sD ((sCons (sD (s2 (nam 7) (nam 6) eqV')) sNil).bind (arg1 intW))) addI))))
  (uRet (sV 13 (nam 5))))))))))
def f_counted_by (ds : List D) : R D := semP 13 m_counted_by ds
set_option maxHeartbeats 4000000 in
theorem ok_counted_by (T : Txt P K mg a) (c_all_rows : FnOk P w K mg base (L2.CX P w) 1 a.a_all_rows a.a_all_rows_d ["n", "things"] (spP K a.xi 2 f_all_rows)) (c_back_table : FnOk P w K mg base (L2.CX P w) 1 a.a_back_table a.a_back_table_d ["table"] (spP K a.xi 1 f_back_table)) (c_check_word : FnOk P w K mg base (L2.CX P w) 3 a.a_check_word a.a_check_word_d ["n", "word"] (spP K a.xi 2 f_check_word)) (c_table_fault : FnOk P w K mg base (L2.CX P w) 2 a.a_table_fault a.a_table_fault_d ["table"] (spP K a.xi 1 f_table_fault)) (c_to_power : FnOk P w K mg base (L2.CX P w) 1 a.a_to_power a.a_to_power_d ["base", "many"] (spP K a.xi 2 f_to_power)) : FnOk P w K mg base (L2.CX P w) 4 a.a_counted_by a.a_counted_by_d ["n", "word", "table"] (spP K a.xi 3 f_counted_by) := by
  obtain ⟨_, h_MOST_TRIES⟩ := T.k_MOST_TRIES
  refine fnP T.f_counted_by sc_counted_by (by decide) 13 rfl fun cdv A outer s H E hr => ?_
  have hx := passes_call (E := E) (takes_of (X := cxOf (L2.CX P w) P w K mg base ["n", "word", "table", "reason", "back", "found", "first", "row", "letter", "at", "left", "right", "pair"] "counted_by" (defScope s_counted_by) a.a_counted_by cdv A outer s H E) rfl rfl rfl rfl) fun _ _ _ _ z => z
  exact (yCons (yExpr (xCall rfl c_check_word (hr.mono (by decide)) (by rfl) T.g_check_word T.f_check_word.kp T.n_check_word hx (xCons (xNam (pv 0)) (xCons (xNam (pv 1)) xNil)) (ln1 (ln1 ln0))))
    (yCons (ySet (show (3 : Nat) ≠ 13 from by decide) sc_counted_by.nd rfl (by first | exact .inl rfl | exact .inr rfl) (xCall rfl c_table_fault (hr.mono (by decide)) (by rfl) T.g_table_fault T.f_table_fault.kp T.n_table_fault hx (xCons (xNam (pv 2)) xNil) (ln1 ln0)))
    (yCons (yIf (xNotNT (xNam (pv 3))) (yOne (yRaise rfl rfl T.x_Refused rfl (hr.mono (Nat.zero_le _)) (takes_of rfl rfl rfl rfl) (by rfl) (vd (xNam (pv 3))))) yNil)
    (yCons (yIf (xCmpT op_gt gtV_ok (dv (xCall rfl c_to_power (hr.mono (by decide)) (by rfl) T.g_to_power T.f_to_power.kp T.n_to_power hx (xCons (dv (xCallB call_lenA (lenW_ok rfl) (by rfl) T.b_len (by decide +kernel) (xCons (xNam (pv 2)) xNil))) (xCons (xNam (pv 0)) xNil)) (ln1 (ln1 ln0)))) (dv (xGlob (v := .int 20000) (by rfl) h_MOST_TRIES ⟨_, rfl⟩ fun _ => .int _)) (nomark _)) (yOne (yRaise rfl rfl T.x_TooMany rfl (hr.mono (Nat.zero_le _)) (takes_of rfl rfl rfl rfl) (by rfl) xStr)) yNil)
    (yCons (ySet (show (4 : Nat) ≠ 13 from by decide) sc_counted_by.nd rfl (by first | exact .inl rfl | exact .inr rfl) (xCall rfl c_back_table (hr.mono (by decide)) (by rfl) T.g_back_table T.f_back_table.kp T.n_back_table hx (xCons (xNam (pv 2)) xNil) (ln1 ln0)))
    (yCons (ySet (show (5 : Nat) ≠ 13 from by decide) sc_counted_by.nd rfl (by first | exact .inl rfl | exact .inr rfl) xInt)
    (yCons (yFor (passes_of rfl) rfl (wSeq rfl (xCall rfl c_all_rows (hr.mono (by decide)) (by rfl) T.g_all_rows T.f_all_rows.kp T.n_all_rows hx (xCons (xNam (pv 0)) (xCons (dv (nd (xListRg rfl (by rfl) T.b_list (by rfl) T.b_range (dv (xCallB call_lenA (lenW_ok rfl) (by rfl) T.b_len (by decide +kernel) (xCons (xNam (pv 2)) xNil)))))) xNil)) (ln1 (ln1 ln0)))) (gNam (show (6 : Nat) ≠ 13 from by decide) sc_counted_by.nd rfl (by first | exact .inl rfl | exact .inr rfl)) (yCons (ySet (show (7 : Nat) ≠ 13 from by decide) sc_counted_by.nd rfl (by first | exact .inl rfl | exact .inr rfl) (vd (xNam (pv 6))))
    (yCons (yFor (passes_of rfl) rfl (wSeq rfl (vd (xNam (pv 1)))) (gNam (show (8 : Nat) ≠ 13 from by decide) sc_counted_by.nd rfl (by first | exact .inl rfl | exact .inr rfl)) (yCons (ySet (show (9 : Nat) ≠ 13 from by decide) sc_counted_by.nd rfl (by first | exact .inl rfl | exact .inr rfl) (xSub (dv (xCallB call_abs absW_ok (by rfl) T.b_abs (by decide +kernel) (xCons (xNam (pv 8)) xNil))) (dv xInt)))
    (yCons (yPar (show (10 : Nat) ≠ 13 from by decide) (show (11 : Nat) ≠ 13 from by decide) rfl sc_counted_by.nd rfl rfl (by decide) rfl rfl (xCons (dv (xIx rfl (xNam (pv 7)) (xNam (pv 9)))) (xCons (dv (xIx rfl (xNam (pv 7)) (dv (xAdd rfl (xNam (pv 9)) (dv xInt))))) xNil)) rfl)
    (yCons (ySet (show (12 : Nat) ≠ 13 from by decide) sc_counted_by.nd rfl (by first | exact .inl rfl | exact .inr rfl) (xIf (xCmpT op_gt gtV_ok (xNam (pv 8)) (dv xInt) (nomark _)) (xTup (xCons (xNam (pv 11)) (xCons (dv (xIx rfl (dv (xIx rfl (xNam (pv 2)) (xNam (pv 10)))) (xNam (pv 11)))) xNil))) (xTup (xCons (dv (xIx rfl (dv (xIx rfl (xNam (pv 4)) (xNam (pv 11)))) (xNam (pv 10)))) (xCons (xNam (pv 10)) xNil)))))
    (yOne (ySet (show (7 : Nat) ≠ 13 from by decide) sc_counted_by.nd rfl (by first | exact .inl rfl | exact .inr rfl) (xAdd rfl (dv (xAdd rfl (dv (xSl rfl (xNam (pv 7)) xPartN (xPart (xNam (pv 9))))) (xNam (pv 12)))) (dv (xSl rfl (xNam (pv 7)) (xPart (dv (xAdd rfl (xNam (pv 9)) (dv xInt)))) xPartN)))))))))
    (yOne (yAddI (show (5 : Nat) ≠ 13 from by decide) sc_counted_by.nd rfl (by first | exact .inl rfl | exact .inr rfl) (dv (xCallTy call_int1 intW_ok (by rfl) T.b_int (by decide +kernel) (xCons (dv (xCmp (op_eqD hr.units) (eqV_ok rfl) (xNam (pv 7)) (xNam (pv 6)) (nomark _))) xNil))))))))
    (yOne (yRet (vd (xNam (pv 5))))))))))))
theorem sc_weighed_colourings : FnScope ["n", "word", "table", "rows", "many", "reason", "back", "found", "first", "row", "total", "letter", "at", "left", "right", "pair"] ["n", "word", "table", "rows", "many"] (defScope s_weighed_colourings) := ⟨rfl, rfl, rfl, by decide +kernel, rfl, by decide +kernel, by decide +kernel⟩
def m_weighed_colourings : M Out :=
  (sq (uEx (sCall 16 (sCons (nam 0) (sCons (nam 1) sNil)) f_check_word))
  (sq (uSet 5 (sCall 16 (sCons (nam 2) (sCons (nam 3) (sCons (nam 4) sNil))) f_weights_fault))
  (sq (uIf (sT ((nam 5).bind (isN true))) (uRaise "Refused" (sV 16 (nam 5))) (M.pur .nx))
  (sq (uIf (sT (s2 (sD (sCall 16 (sCons (sD ((sCons (nam 2) sNil).bind (arg1 lenW))) (sCons (nam 0) sNil)) f_to_power)) (sD (M.pur (.int 20000))) gtV)) (uRaise "TooMany" (M.pur (.str "tries"))) (M.pur .nx))
  (sq (uSet 6 (sCall 16 (sCons (nam 2) sNil) f_back_table))
  (sq (uSetO 7 (s2N (sD (sL (sLst 16 (sCons (sD (M.pur (.int 0))) sNil)))) (nam 4) repN))
  (sq (uFor ((sCall 16 (sCons (nam 0) (sCons (sD (sL ((sD ((sCons (nam 2) sNil).bind (arg1 lenW))).bind rgL))) sNil)) f_all_rows).bind seqF) (put 8) (sq (uPar 16 9 10 (sCons (nam 8) (sCons (sD (M.pur (.int 0))) sNil)))
  (sq (uFor ((sV 16 (nam 1)).bind seqF) (put 11) (sq (uSet 12 (s2 (sD ((sCons (nam 11) sNil).bind (arg1 absW))) (sD (M.pur (.int 1))) subV))
  (sq (uPar 16 13 14 (sCons (sD (s2 (nam 9) (nam 12) atW)) (sCons (sD (s2 (nam 9) (sD (s2 (nam 12) (sD (M.pur (.int 1))) addV)) atW)) sNil)))
  (sq (uIf (sT (s2 (nam 11) (sD (M.pur (.int 0))) gtV)) (sq (uAug 10 (sD (s2 (sD (s2 (nam 3) (nam 13) atW)) (nam 14) atW)) addI)
  (uSet 15 (sTup 16 (sCons (nam 14) (sCons (sD (s2 (sD (s2 (nam 2) (nam 13) atW)) (nam 14) atW)) sNil))))) (sq (uAug 10 (sD (s2 (sD (s2 (nam 3) (sD (s2 (sD (s2 (nam 6) (nam 14) atW)) (nam 13) atW)) atW)) (nam 13) atW)) subV)
  (uSet 15 (sTup 16 (sCons (sD (s2 (sD (s2 (nam 6) (nam 14) atW)) (nam 13) atW)) (sCons (nam 13) sNil))))))
  (uSet 9 (s2 (sD (s2 (sD (sSl (nam 9) sNo (sPt (nam 12)))) (nam 15) addV)) (sD (sSl (nam 9) (sPt (sD (s2 (nam 12) (sD (M.pur (.int 2))) addV))) sNo)) addV))))))
  (uIf (sT (s2 (nam 9) (nam 8) eqV')) (uAugIx 7 (sD (s2 (nam 10) (nam 4) modV)) (sD (M.pur (.int 1)))) (M.pur .nx)))))
  (uRet ((sCons (nam 7) sNil).bind (arg1 tupW))))))))))
def f_weighed_colourings (ds : List D) : R D := semP 16 m_weighed_colourings ds
set_option maxHeartbeats 4000000 in
theorem ok_weighed_colourings (T : Txt P K mg a) (c_all_rows : FnOk P w K mg base (L2.CX P w) 1 a.a_all_rows a.a_all_rows_d ["n", "things"] (spP K a.xi 2 f_all_rows)) (c_back_table : FnOk P w K mg base (L2.CX P w) 1 a.a_back_table a.a_back_table_d ["table"] (spP K a.xi 1 f_back_table)) (c_check_word : FnOk P w K mg base (L2.CX P w) 3 a.a_check_word a.a_check_word_d ["n", "word"] (spP K a.xi 2 f_check_word)) (c_to_power : FnOk P w K mg base (L2.CX P w) 1 a.a_to_power a.a_to_power_d ["base", "many"] (spP K a.xi 2 f_to_power)) (c_weights_fault : FnOk P w K mg base (L2.CX P w) 3 a.a_weights_fault a.a_weights_fault_d ["table", "rows", "many"] (spP K a.xi 3 f_weights_fault)) : FnOk P w K mg base (L2.CX P w) 4 a.a_weighed_colourings a.a_weighed_colourings_d ["n", "word", "table", "rows", "many"] (spP K a.xi 5 f_weighed_colourings) := by
  obtain ⟨_, h_MOST_TRIES⟩ := T.k_MOST_TRIES
  refine fnP T.f_weighed_colourings sc_weighed_colourings (by decide) 16 rfl fun cdv A outer s H E hr => ?_
  have hx := passes_call (E := E) (takes_of (X := cxOf (L2.CX P w) P w K mg base ["n", "word", "table", "rows", "many", "reason", "back", "found", "first", "row", "total", "letter", "at", "left", "right", "pair"] "weighed_colourings" (defScope s_weighed_colourings) a.a_weighed_colourings cdv A outer s H E) rfl rfl rfl rfl) fun _ _ _ _ z => z
  exact (yCons (yExpr (xCall rfl c_check_word (hr.mono (by decide)) (by rfl) T.g_check_word T.f_check_word.kp T.n_check_word hx (xCons (xNam (pv 0)) (xCons (xNam (pv 1)) xNil)) (ln1 (ln1 ln0))))
    (yCons (ySet (show (5 : Nat) ≠ 16 from by decide) sc_weighed_colourings.nd rfl (by first | exact .inl rfl | exact .inr rfl) (xCall rfl c_weights_fault (hr.mono (by decide)) (by rfl) T.g_weights_fault T.f_weights_fault.kp T.n_weights_fault hx (xCons (xNam (pv 2)) (xCons (xNam (pv 3)) (xCons (xNam (pv 4)) xNil))) (ln1 (ln1 (ln1 ln0)))))
    (yCons (yIf (xNotNT (xNam (pv 5))) (yOne (yRaise rfl rfl T.x_Refused rfl (hr.mono (Nat.zero_le _)) (takes_of rfl rfl rfl rfl) (by rfl) (vd (xNam (pv 5))))) yNil)
    (yCons (yIf (xCmpT op_gt gtV_ok (dv (xCall rfl c_to_power (hr.mono (by decide)) (by rfl) T.g_to_power T.f_to_power.kp T.n_to_power hx (xCons (dv (xCallB call_lenA (lenW_ok rfl) (by rfl) T.b_len (by decide +kernel) (xCons (xNam (pv 2)) xNil))) (xCons (xNam (pv 0)) xNil)) (ln1 (ln1 ln0)))) (dv (xGlob (v := .int 20000) (by rfl) h_MOST_TRIES ⟨_, rfl⟩ fun _ => .int _)) (nomark _)) (yOne (yRaise rfl rfl T.x_TooMany rfl (hr.mono (Nat.zero_le _)) (takes_of rfl rfl rfl rfl) (by rfl) xStr)) yNil)
    (yCons (ySet (show (6 : Nat) ≠ 16 from by decide) sc_weighed_colourings.nd rfl (by first | exact .inl rfl | exact .inr rfl) (xCall rfl c_back_table (hr.mono (by decide)) (by rfl) T.g_back_table T.f_back_table.kp T.n_back_table hx (xCons (xNam (pv 2)) xNil) (ln1 ln0)))
    (yCons (ySetO (show (7 : Nat) ≠ 16 from by decide) sc_weighed_colourings.nd rfl (by first | exact .inl rfl | exact .inr rfl) (xBinN op_rep repN_ok (dv (nd (xLst (xCons (dv xInt) xNil)))) (xNam (pv 4))))
    (yCons (yFor (passes_of rfl) rfl (wSeq rfl (xCall rfl c_all_rows (hr.mono (by decide)) (by rfl) T.g_all_rows T.f_all_rows.kp T.n_all_rows hx (xCons (xNam (pv 0)) (xCons (dv (nd (xListRg rfl (by rfl) T.b_list (by rfl) T.b_range (dv (xCallB call_lenA (lenW_ok rfl) (by rfl) T.b_len (by decide +kernel) (xCons (xNam (pv 2)) xNil)))))) xNil)) (ln1 (ln1 ln0)))) (gNam (show (8 : Nat) ≠ 16 from by decide) sc_weighed_colourings.nd rfl (by first | exact .inl rfl | exact .inr rfl)) (yCons (yPar (show (9 : Nat) ≠ 16 from by decide) (show (10 : Nat) ≠ 16 from by decide) rfl sc_weighed_colourings.nd rfl rfl (by decide) rfl rfl (xCons (xNam (pv 8)) (xCons (dv xInt) xNil)) rfl)
    (yCons (yFor (passes_of rfl) rfl (wSeq rfl (vd (xNam (pv 1)))) (gNam (show (11 : Nat) ≠ 16 from by decide) sc_weighed_colourings.nd rfl (by first | exact .inl rfl | exact .inr rfl)) (yCons (ySet (show (12 : Nat) ≠ 16 from by decide) sc_weighed_colourings.nd rfl (by first | exact .inl rfl | exact .inr rfl) (xSub (dv (xCallB call_abs absW_ok (by rfl) T.b_abs (by decide +kernel) (xCons (xNam (pv 11)) xNil))) (dv xInt)))
    (yCons (yPar (show (13 : Nat) ≠ 16 from by decide) (show (14 : Nat) ≠ 16 from by decide) rfl sc_weighed_colourings.nd rfl rfl (by decide) rfl rfl (xCons (dv (xIx rfl (xNam (pv 9)) (xNam (pv 12)))) (xCons (dv (xIx rfl (xNam (pv 9)) (dv (xAdd rfl (xNam (pv 12)) (dv xInt))))) xNil)) rfl)
    (yCons (yIf (xCmpT op_gt gtV_ok (xNam (pv 11)) (dv xInt) (nomark _)) (yCons (yAddI (show (10 : Nat) ≠ 16 from by decide) sc_weighed_colourings.nd rfl (by first | exact .inl rfl | exact .inr rfl) (dv (xIx rfl (dv (xIx rfl (xNam (pv 3)) (xNam (pv 13)))) (xNam (pv 14)))))
    (yOne (ySet (show (15 : Nat) ≠ 16 from by decide) sc_weighed_colourings.nd rfl (by first | exact .inl rfl | exact .inr rfl) (xTup (xCons (xNam (pv 14)) (xCons (dv (xIx rfl (dv (xIx rfl (xNam (pv 2)) (xNam (pv 13)))) (xNam (pv 14)))) xNil)))))) (yCons (ySubI (show (10 : Nat) ≠ 16 from by decide) sc_weighed_colourings.nd rfl (by first | exact .inl rfl | exact .inr rfl) (dv (xIx rfl (dv (xIx rfl (xNam (pv 3)) (dv (xIx rfl (dv (xIx rfl (xNam (pv 6)) (xNam (pv 14)))) (xNam (pv 13)))))) (xNam (pv 13)))))
    (yOne (ySet (show (15 : Nat) ≠ 16 from by decide) sc_weighed_colourings.nd rfl (by first | exact .inl rfl | exact .inr rfl) (xTup (xCons (dv (xIx rfl (dv (xIx rfl (xNam (pv 6)) (xNam (pv 14)))) (xNam (pv 13)))) (xCons (xNam (pv 13)) xNil)))))))
    (yOne (ySet (show (9 : Nat) ≠ 16 from by decide) sc_weighed_colourings.nd rfl (by first | exact .inl rfl | exact .inr rfl) (xAdd rfl (dv (xAdd rfl (dv (xSl rfl (xNam (pv 9)) xPartN (xPart (xNam (pv 12))))) (xNam (pv 15)))) (dv (xSl rfl (xNam (pv 9)) (xPart (dv (xAdd rfl (xNam (pv 12)) (dv xInt)))) xPartN)))))))))
    (yOne (yIf (xCmpT (op_eqD hr.units) (eqV_ok rfl) (xNam (pv 9)) (xNam (pv 8)) (nomark _)) (yOne (yAugIx (show (7 : Nat) ≠ 16 from by decide) (pv 7) (dv (xMod (xNam (pv 10)) (xNam (pv 4)))) (dv xInt))) yNil)))))
    (yOne (yRet (xCallTy call_tuple_of (tupW_ok rfl) (by rfl) T.b_tuple (by decide +kernel) (xCons (xNam (pv 7)) xNil)))))))))))
theorem sc__law_fault : FnScope ["table", "rows", "many", "told", "size", "row", "a", "b", "c", "k"] ["table", "rows", "many"] (defScope s__law_fault) := ⟨rfl, rfl, rfl, by decide +kernel, rfl, by decide +kernel, by decide +kernel⟩
def m__law_fault : M Out :=
  (sq (uSet 3 (sCall 10 (sCons (nam 0) sNil) f_table_fault))
  (sq (uIf (sT ((nam 3).bind (isN true))) (uRet (sV 10 (nam 3))) (M.pur .nx))
  (sq (uIf (sOr (sNot (sT ((nam 2).bind (isiW "int")))) (sOr (sT ((nam 2).bind (isiW "bool"))) (sOr (sNot (chT leV leV (sD (M.pur (.int 2))) (nam 2) (sD (M.pur (.int 12))))) (sOr (sNot (sT ((nam 1).bind (isiW "tuple")))) (sT (s2 (sD ((sCons (nam 1) sNil).bind (arg1 lenW))) (sD ((sCons (nam 0) sNil).bind (arg1 lenW))) neV')))))) (uRet (M.pur (.str "weights"))) (M.pur .nx))
  (sq (uSet 4 ((sCons (nam 0) sNil).bind (arg1 lenW)))
  (sq (uFor ((sV 10 (nam 1)).bind seqF) (put 5) (uIf (sOr (sNot (sT ((nam 5).bind (isiW "tuple")))) (sOr (sT (s2 (sD ((sCons (nam 5) sNil).bind (arg1 lenW))) (nam 4) neV')) (sT (s2 (sD (sL (lcF [9] ((sV 10 (nam 5)).bind seqF) (put 9) (sOr (sNot (sT ((nam 9).bind (isiW "int")))) (sOr (sT ((nam 9).bind (isiW "bool"))) (sOr (sT (s2 (nam 9) (sD (M.pur (.int 0))) ltV)) (sT (s2 (nam 9) (nam 2) geV))))) (lastF (sV 10 (nam 9)))))) (sD (sL (sLst 10 sNil))) neV')))) (uRet (M.pur (.str "weights"))) (M.pur .nx)))
  (sq (uIf (sT (s2 (sD (sL (lcF [6] ((sCons (nam 4) sNil).bind rg1) (put 6) (sT (s2 (sD (s2 (sD (s2 (nam 1) (nam 6) atW)) (nam 6) atW)) (sD (M.pur (.int 0))) neV')) (lastF (sV 10 (nam 6)))))) (sD (sL (sLst 10 sNil))) neV')) (uRet (M.pur (.str "same"))) (M.pur .nx))
  (sq (uFor ((sCons (nam 4) sNil).bind rg1) (put 6) (uFor ((sCons (nam 4) sNil).bind rg1) (put 7) (uFor ((sCons (nam 4) sNil).bind rg1) (put 8) (uIf (sT (s2 (sD (s2 (sD (s2 (sD (s2 (sD (s2 (sD (s2 (sD (s2 (nam 1) (nam 6) atW)) (nam 7) atW)) (sD (s2 (sD (s2 (nam 1) (sD (s2 (sD (s2 (nam 0) (nam 6) atW)) (nam 7) atW)) atW)) (nam 8) atW)) addV)) (sD (s2 (sD (s2 (nam 1) (nam 6) atW)) (nam 8) atW)) subV)) (sD (s2 (sD (s2 (nam 1) (sD (s2 (sD (s2 (nam 0) (nam 6) atW)) (nam 8) atW)) atW)) (sD (s2 (sD (s2 (nam 0) (nam 7) atW)) (nam 8) atW)) atW)) subV)) (nam 2) modV)) (sD (M.pur (.int 0))) neV')) (uRet (M.pur (.str "three"))) (M.pur .nx)))))
  (uRet (M.pur .none)))))))))
def f__law_fault (ds : List D) : R D := semP 10 m__law_fault ds
set_option maxHeartbeats 4000000 in
theorem ok__law_fault (T : Txt P K mg a) (c_table_fault : FnOk P w K mg base (L2.CX P w) 2 a.a_table_fault a.a_table_fault_d ["table"] (spP K a.xi 1 f_table_fault)) : FnOk P w K mg base (L2.CX P w) 3 a.a__law_fault a.a__law_fault_d ["table", "rows", "many"] (spP K a.xi 3 f__law_fault) := by
  refine fnP T.f__law_fault sc__law_fault (by decide) 10 rfl fun cdv A outer s H E hr => ?_
  have hx := passes_call (E := E) (takes_of (X := cxOf (L2.CX P w) P w K mg base ["table", "rows", "many", "told", "size", "row", "a", "b", "c", "k"] "_law_fault" (defScope s__law_fault) a.a__law_fault cdv A outer s H E) rfl rfl rfl rfl) fun _ _ _ _ z => z
  exact (yCons (ySet (show (3 : Nat) ≠ 10 from by decide) sc__law_fault.nd rfl (by first | exact .inl rfl | exact .inr rfl) (xCall rfl c_table_fault (hr.mono (by decide)) (by rfl) T.g_table_fault T.f_table_fault.kp T.n_table_fault hx (xCons (xNam (pv 0)) xNil) (ln1 ln0)))
    (yCons (yIf (xNotNT (xNam (pv 3))) (yOne (yRet (vd (xNam (pv 3))))) yNil)
    (yCons (yIf (PW.pt (xOr (xNot (xTestB (xIsi rfl (by decide) (by rfl) T.b_isinstance (xNam (pv 2)) (by rfl) T.b_int (by decide +kernel)))) (xOr (xTestB (xIsi rfl (by decide) (by rfl) T.b_isinstance (xNam (pv 2)) (by rfl) T.b_bool (by decide +kernel))) (xOr (xNot (xChainT op_le op_le leV_ok leV_ok (dv xInt) (xNam (pv 2)) (dv xInt))) (xOr (xNot (xTestB (xIsi rfl (by decide) (by rfl) T.b_isinstance (xNam (pv 1)) (by rfl) T.b_tuple (by decide +kernel)))) (xOr1 (xCmpT (op_neD hr.units) (neV_ok rfl) (dv (xCallB call_lenA (lenW_ok rfl) (by rfl) T.b_len (by decide +kernel) (xCons (xNam (pv 1)) xNil))) (dv (xCallB call_lenA (lenW_ok rfl) (by rfl) T.b_len (by decide +kernel) (xCons (xNam (pv 0)) xNil))) (nomark _)))))))) (yOne (yRet xStr)) yNil)
    (yCons (ySet (show (4 : Nat) ≠ 10 from by decide) sc__law_fault.nd rfl (by first | exact .inl rfl | exact .inr rfl) (xCallB call_lenA (lenW_ok rfl) (by rfl) T.b_len (by decide +kernel) (xCons (xNam (pv 0)) xNil)))
    (yCons (yFor (passes_of rfl) rfl (wSeq rfl (vd (xNam (pv 1)))) (gNam (show (5 : Nat) ≠ 10 from by decide) sc__law_fault.nd rfl (by first | exact .inl rfl | exact .inr rfl)) (yOne (yIf (PW.pt (xOr (xNot (xTestB (xIsi rfl (by decide) (by rfl) T.b_isinstance (xNam (pv 5)) (by rfl) T.b_tuple (by decide +kernel)))) (xOr (xCmpT (op_neD hr.units) (neV_ok rfl) (dv (xCallB call_lenA (lenW_ok rfl) (by rfl) T.b_len (by decide +kernel) (xCons (xNam (pv 5)) xNil))) (xNam (pv 4)) (nomark _)) (xOr1 (xCmpT (op_neD hr.units) (neV_ok rfl) (dv (nd (xLc (show (10 : Nat) ∉ [9] from by decide) (by decide) (cmp1 (own := [("k", 9)]) rfl sc__law_fault.nd (wSeq rfl (vd (xNam (pv 5)))) (blkOk_by rfl) (fun _ => rfl) fun _ _ _ _ _ => ⟨(gNamV (show (9 : Nat) ≠ 10 from by decide) (by decide) sc__law_fault.nd rfl (by first | exact .inl rfl | exact .inr rfl)), (tB_one (PW.pt (xOr (xNot (xTestB (xIsi rfl (by decide) (by rfl) T.b_isinstance (xNam (pv 9)) (by rfl) T.b_int (by decide +kernel)))) (xOr (xTestB (xIsi rfl (by decide) (by rfl) T.b_isinstance (xNam (pv 9)) (by rfl) T.b_bool (by decide +kernel))) (xOr (xCmpT op_lt ltV_ok (xNam (pv 9)) (dv xInt) (nomark _)) (xOr1 (xCmpT op_ge geV_ok (xNam (pv 9)) (xNam (pv 2)) (nomark _)))))))), (vd (xNam (pv 9)))⟩)))) (dv (nd (xLst xNil))) (nomark _)))))) (yOne (yRet xStr)) yNil)))
    (yCons (yIf (xCmpT (op_neD hr.units) (neV_ok rfl) (dv (nd (xLc (show (10 : Nat) ∉ [6] from by decide) (by decide) (cmp1 (own := [("a", 6)]) rfl sc__law_fault.nd (wRange1 (by rfl) T.b_range (xCons (xNam (pv 4)) xNil)) (blkOk_by rfl) (fun _ => rfl) fun _ _ _ _ _ => ⟨(gNamV (show (6 : Nat) ≠ 10 from by decide) (by decide) sc__law_fault.nd rfl (by first | exact .inl rfl | exact .inr rfl)), (tB_one (xCmpT (op_neD hr.units) (neV_ok rfl) (dv (xIx rfl (dv (xIx rfl (xNam (pv 1)) (xNam (pv 6)))) (xNam (pv 6)))) (dv xInt) (nomark _))), (vd (xNam (pv 6)))⟩)))) (dv (nd (xLst xNil))) (nomark _)) (yOne (yRet xStr)) yNil)
    (yCons (yFor (passes_of rfl) rfl (wRange1 (by rfl) T.b_range (xCons (xNam (pv 4)) xNil)) (gNam (show (6 : Nat) ≠ 10 from by decide) sc__law_fault.nd rfl (by first | exact .inl rfl | exact .inr rfl)) (yOne (yFor (passes_of rfl) rfl (wRange1 (by rfl) T.b_range (xCons (xNam (pv 4)) xNil)) (gNam (show (7 : Nat) ≠ 10 from by decide) sc__law_fault.nd rfl (by first | exact .inl rfl | exact .inr rfl)) (yOne (yFor (passes_of rfl) rfl (wRange1 (by rfl) T.b_range (xCons (xNam (pv 4)) xNil)) (gNam (show (8 : Nat) ≠ 10 from by decide) sc__law_fault.nd rfl (by first | exact .inl rfl | exact .inr rfl)) (yOne (yIf (xCmpT (op_neD hr.units) (neV_ok rfl) (dv (xMod (dv (xSub (dv (xSub (dv (xAdd rfl (dv (xIx rfl (dv (xIx rfl (xNam (pv 1)) (xNam (pv 6)))) (xNam (pv 7)))) (dv (xIx rfl (dv (xIx rfl (xNam (pv 1)) (dv (xIx rfl (dv (xIx rfl (xNam (pv 0)) (xNam (pv 6)))) (xNam (pv 7)))))) (xNam (pv 8)))))) (dv (xIx rfl (dv (xIx rfl (xNam (pv 1)) (xNam (pv 6)))) (xNam (pv 8)))))) (dv (xIx rfl (dv (xIx rfl (xNam (pv 1)) (dv (xIx rfl (dv (xIx rfl (xNam (pv 0)) (xNam (pv 6)))) (xNam (pv 8)))))) (dv (xIx rfl (dv (xIx rfl (xNam (pv 0)) (xNam (pv 7)))) (xNam (pv 8)))))))) (xNam (pv 2)))) (dv xInt) (nomark _)) (yOne (yRet xStr)) yNil)))))))
    (yOne (yRet xNon)))))))))
theorem sc__law_tried : FnScope ["n", "word", "table", "rows", "many", "firsts", "turn", "later", "row", "found", "first", "total", "letter", "k", "left", "right", "under", "c"] ["n", "word", "table", "rows", "many"] (defScope s__law_tried) := ⟨rfl, rfl, rfl, by decide +kernel, rfl, by decide +kernel, by decide +kernel⟩
def m__law_tried : M Out :=
  (sq (uSet 5 (sL (sLst 18 (sCons (sD (sTup 18 sNil)) sNil))))
  (sq (uFor ((sCons (nam 0) sNil).bind rg1) (put 6) (sq (uSet 7 (sL (sLst 18 sNil)))
  (sq (uFor ((sV 18 (nam 5)).bind seqF) (put 8) (uSet 7 (sL (s2N (nam 7) (sD (sL (lcF [13] ((sCons (sD ((sCons (nam 2) sNil).bind (arg1 lenW))) sNil).bind rg1) (put 13) (M.pur true) (lastF (s2 (nam 8) (sD (sTup 18 (sCons (sD ((sCons (nam 13) sNil).bind (arg1 intW))) sNil))) addV))))) catN))))
  (uSet 5 (sV 18 (nam 7))))))
  (sq (uSetO 9 (s2N (sD (sL (sLst 18 (sCons (sD (M.pur (.int 0))) sNil)))) (nam 4) repN))
  (sq (uFor ((sV 18 (nam 5)).bind seqF) (put 10) (sq (uSetO 8 ((sCons (nam 10) sNil).bind (arg1N lisW)))
  (sq (uSet 11 (M.pur (.int 0)))
  (sq (uFor ((sV 18 (nam 1)).bind seqF) (put 12) (sq (uSet 13 ((sCons (nam 12) sNil).bind (arg1 absW)))
  (sq (uAsg (sTup 18 (sCons (sD (s2 (nam 8) (sD (s2 (nam 13) (sD (M.pur (.int 1))) subV)) atW)) (sCons (sD (s2 (nam 8) (nam 13) atW)) sNil))) (tupG 2 (gsCons (put 14) (gsCons (put 15) gsNil))))
  (uIf (sT (s2 (nam 12) (sD (M.pur (.int 0))) gtV)) (sq (uSet 11 (s2 (nam 11) (sD (s2 (sD (s2 (nam 3) (nam 14) atW)) (nam 15) atW)) addV))
  (uAsg (sTup 18 (sCons (nam 15) (sCons (sD (s2 (sD (s2 (nam 2) (nam 14) atW)) (nam 15) atW)) sNil))) (tupG 2 (gsCons (subG (nam 8) (sD (s2 (nam 13) (sD (M.pur (.int 1))) subV))) (gsCons (subG (nam 8) (nam 13)) gsNil))))) (sq (uSet 16 (s2 (sD (sL (lcF [17] ((sCons (sD ((sCons (nam 2) sNil).bind (arg1 lenW))) sNil).bind rg1) (put 17) (sT (s2 (sD (s2 (sD (s2 (nam 2) (nam 17) atW)) (nam 14) atW)) (nam 15) eqV')) (lastF (sV 18 (nam 17)))))) (sD (M.pur (.int 0))) atW))
  (sq (uSet 11 (s2 (nam 11) (sD (s2 (sD (s2 (nam 3) (nam 16) atW)) (nam 14) atW)) subV))
  (uAsg (sTup 18 (sCons (sD ((sCons (nam 16) sNil).bind (arg1 intW))) (sCons (nam 14) sNil))) (tupG 2 (gsCons (subG (nam 8) (sD (s2 (nam 13) (sD (M.pur (.int 1))) subV))) (gsCons (subG (nam 8) (nam 13)) gsNil))))))))))
  (uIf (sT (s2 (sD ((sCons (nam 8) sNil).bind (arg1 tupW))) (nam 10) eqV')) (uAsg (s2 (sD (s2 (nam 9) (sD (s2 (nam 11) (nam 4) modV)) atW)) (sD (M.pur (.int 1))) addV) (subG (nam 9) (sD (s2 (nam 11) (nam 4) modV)))) (M.pur .nx))))))
  (uRet ((sCons (nam 9) sNil).bind (arg1 tupW)))))))
def f__law_tried (ds : List D) : R D := semP 18 m__law_tried ds
set_option maxHeartbeats 4000000 in
theorem ok__law_tried (T : Txt P K mg a) : FnOk P w K mg base (L2.CX P w) 1 a.a__law_tried a.a__law_tried_d ["n", "word", "table", "rows", "many"] (spP K a.xi 5 f__law_tried) := by
  refine fnP T.f__law_tried sc__law_tried (by decide) 18 rfl fun cdv A outer s H E hr => ?_
  have hx := passes_call (E := E) (takes_of (X := cxOf (L2.CX P w) P w K mg base ["n", "word", "table", "rows", "many", "firsts", "turn", "later", "row", "found", "first", "total", "letter", "k", "left", "right", "under", "c"] "_law_tried" (defScope s__law_tried) a.a__law_tried cdv A outer s H E) rfl rfl rfl rfl) fun _ _ _ _ z => z
  exact (yCons (ySet (show (5 : Nat) ≠ 18 from by decide) sc__law_tried.nd rfl (by first | exact .inl rfl | exact .inr rfl) (nd (xLst (xCons (dv (xTup xNil)) xNil))))
    (yCons (yFor (passes_of rfl) rfl (wRange1 (by rfl) T.b_range (xCons (xNam (pv 0)) xNil)) (gNam (show (6 : Nat) ≠ 18 from by decide) sc__law_tried.nd rfl (by first | exact .inl rfl | exact .inr rfl)) (yCons (ySet (show (7 : Nat) ≠ 18 from by decide) sc__law_tried.nd rfl (by first | exact .inl rfl | exact .inr rfl) (nd (xLst xNil)))
    (yCons (yFor (passes_of rfl) rfl (wSeq rfl (vd (xNam (pv 5)))) (gNam (show (8 : Nat) ≠ 18 from by decide) sc__law_tried.nd rfl (by first | exact .inl rfl | exact .inr rfl)) (yOne (ySet (show (7 : Nat) ≠ 18 from by decide) sc__law_tried.nd rfl (by first | exact .inl rfl | exact .inr rfl) (nd (xBinN op_cat catN_ok (xNam (pv 7)) (dv (nd (xLc (show (18 : Nat) ∉ [13] from by decide) (by decide) (cmp1 (own := [("k", 13)]) rfl sc__law_tried.nd (wRange1 (by rfl) T.b_range (xCons (dv (xCallB call_lenA (lenW_ok rfl) (by rfl) T.b_len (by decide +kernel) (xCons (xNam (pv 2)) xNil))) xNil)) (blkOk_by rfl) (fun _ => rfl) fun _ _ _ _ _ => ⟨(gNamV (show (13 : Nat) ≠ 18 from by decide) (by decide) sc__law_tried.nd rfl (by first | exact .inl rfl | exact .inr rfl)), tB_yes, (xAdd rfl (xNam (pv 8)) (dv (xTup (xCons (dv (xCallTy call_int1 intW_ok (by rfl) T.b_int (by decide +kernel) (xCons (xNam (pv 13)) xNil))) xNil))))⟩)))))))))
    (yOne (ySet (show (5 : Nat) ≠ 18 from by decide) sc__law_tried.nd rfl (by first | exact .inl rfl | exact .inr rfl) (vd (xNam (pv 7))))))))
    (yCons (ySetO (show (9 : Nat) ≠ 18 from by decide) sc__law_tried.nd rfl (by first | exact .inl rfl | exact .inr rfl) (xBinN op_rep repN_ok (dv (nd (xLst (xCons (dv xInt) xNil)))) (xNam (pv 4))))
    (yCons (yFor (passes_of rfl) rfl (wSeq rfl (vd (xNam (pv 5)))) (gNam (show (10 : Nat) ≠ 18 from by decide) sc__law_tried.nd rfl (by first | exact .inl rfl | exact .inr rfl)) (yCons (ySetO (show (8 : Nat) ≠ 18 from by decide) sc__law_tried.nd rfl (by first | exact .inl rfl | exact .inr rfl) (xCallTyN call_list_of (lisW_ok rfl) (by rfl) T.b_list (by decide +kernel) (xCons (xNam (pv 10)) xNil)))
    (yCons (ySet (show (11 : Nat) ≠ 18 from by decide) sc__law_tried.nd rfl (by first | exact .inl rfl | exact .inr rfl) xInt)
    (yCons (yFor (passes_of rfl) rfl (wSeq rfl (vd (xNam (pv 1)))) (gNam (show (12 : Nat) ≠ 18 from by decide) sc__law_tried.nd rfl (by first | exact .inl rfl | exact .inr rfl)) (yCons (ySet (show (13 : Nat) ≠ 18 from by decide) sc__law_tried.nd rfl (by first | exact .inl rfl | exact .inr rfl) (xCallB call_abs absW_ok (by rfl) T.b_abs (by decide +kernel) (xCons (xNam (pv 12)) xNil)))
    (yCons (yAsg (xTup (xCons (dv (xIx rfl (xNam (pv 8)) (dv (xSub (xNam (pv 13)) (dv xInt))))) (xCons (dv (xIx rfl (xNam (pv 8)) (xNam (pv 13)))) xNil))) (gTup' rfl rfl (gCons' (gNam (show (14 : Nat) ≠ 18 from by decide) sc__law_tried.nd rfl (by first | exact .inl rfl | exact .inr rfl)) (gCons' (gNam (show (15 : Nat) ≠ 18 from by decide) sc__law_tried.nd rfl (by first | exact .inl rfl | exact .inr rfl)) gNil'))))
    (yOne (yIf (xCmpT op_gt gtV_ok (xNam (pv 12)) (dv xInt) (nomark _)) (yCons (ySet (show (11 : Nat) ≠ 18 from by decide) sc__law_tried.nd rfl (by first | exact .inl rfl | exact .inr rfl) (xAdd rfl (xNam (pv 11)) (dv (xIx rfl (dv (xIx rfl (xNam (pv 3)) (xNam (pv 14)))) (xNam (pv 15))))))
    (yOne (yAsg (xTup (xCons (xNam (pv 15)) (xCons (dv (xIx rfl (dv (xIx rfl (xNam (pv 2)) (xNam (pv 14)))) (xNam (pv 15)))) xNil))) (gTup' rfl rfl (gCons' (gSub' (notB (show (8 : Nat) ≠ 18 from by decide)) (xNam (pv 8)) (dv (xSub (xNam (pv 13)) (dv xInt)))) (gCons' (gSub' (notB (show (8 : Nat) ≠ 18 from by decide)) (xNam (pv 8)) (xNam (pv 13))) gNil')))))) (yCons (ySet (show (16 : Nat) ≠ 18 from by decide) sc__law_tried.nd rfl (by first | exact .inl rfl | exact .inr rfl) (xIx rfl (dv (nd (xLc (show (18 : Nat) ∉ [17] from by decide) (by decide) (cmp1 (own := [("c", 17)]) rfl sc__law_tried.nd (wRange1 (by rfl) T.b_range (xCons (dv (xCallB call_lenA (lenW_ok rfl) (by rfl) T.b_len (by decide +kernel) (xCons (xNam (pv 2)) xNil))) xNil)) (blkOk_by rfl) (fun _ => rfl) fun _ _ _ _ _ => ⟨(gNamV (show (17 : Nat) ≠ 18 from by decide) (by decide) sc__law_tried.nd rfl (by first | exact .inl rfl | exact .inr rfl)), (tB_one (xCmpT (op_eqD hr.units) (eqV_ok rfl) (dv (xIx rfl (dv (xIx rfl (xNam (pv 2)) (xNam (pv 17)))) (xNam (pv 14)))) (xNam (pv 15)) (nomark _))), (vd (xNam (pv 17)))⟩)))) (dv xInt)))
    (yCons (ySet (show (11 : Nat) ≠ 18 from by decide) sc__law_tried.nd rfl (by first | exact .inl rfl | exact .inr rfl) (xSub (xNam (pv 11)) (dv (xIx rfl (dv (xIx rfl (xNam (pv 3)) (xNam (pv 16)))) (xNam (pv 14))))))
    (yOne (yAsg (xTup (xCons (dv (xCallTy call_int1 intW_ok (by rfl) T.b_int (by decide +kernel) (xCons (xNam (pv 16)) xNil))) (xCons (xNam (pv 14)) xNil))) (gTup' rfl rfl (gCons' (gSub' (notB (show (8 : Nat) ≠ 18 from by decide)) (xNam (pv 8)) (dv (xSub (xNam (pv 13)) (dv xInt)))) (gCons' (gSub' (notB (show (8 : Nat) ≠ 18 from by decide)) (xNam (pv 8)) (xNam (pv 13))) gNil'))))))))))))
    (yOne (yIf (xCmpT (op_eqD hr.units) (eqV_ok rfl) (dv (xCallTy call_tuple_of (tupW_ok rfl) (by rfl) T.b_tuple (by decide +kernel) (xCons (xNam (pv 8)) xNil))) (xNam (pv 10)) (nomark _)) (yOne (yAsg (xAdd rfl (dv (xIx rfl (xNam (pv 9)) (dv (xMod (xNam (pv 11)) (xNam (pv 4)))))) (dv xInt)) (gSub' (notB (show (9 : Nat) ≠ 18 from by decide)) (xNam (pv 9)) (dv (xMod (xNam (pv 11)) (xNam (pv 4))))))) yNil))))))
    (yOne (yRet (xCallTy call_tuple_of (tupW_ok rfl) (by rfl) T.b_tuple (by decide +kernel) (xCons (xNam (pv 9)) xNil))))))))
end DL
set_option maxRecDepth 100000
set_option maxHeartbeats 4000000
/-! DZ: repr of data; defs that are called while no repr runs (FnG). -/
namespace DL
open PySem PySem.Spec L2 PyProof.Rows
/-- as FnOk, asked only where no repr runs -/
structure FnG (P : Program) (w : World) (K : PySem.W.Frag) (mg : Str → Option Value) (base : Heap) (CX : CXT) (k : Nat) (f : Addr) (fd : FuncData) (ps : List Str) (sp : Sp) : Prop where
  len : ∀ vs H Q E, sp vs H Q E → vs.length = ps.length
  run : ∀ (A : Around) (outer : List Env) (s : Shared) (H : Hp) (args : Args) (us : List Value) (vs : List V) (Q : VK) (E : XK), A.guards = some [] → Room k A → Env0 P w K mg base A outer s H → BindsTo s fd args (ps.zip us) → Vals vs us → sp vs H Q E →
    codeAny (model P w) A (.call (.ref f) args) (CR CX outer P w H s Q E) s
section
variable {P : Program} {w : World} {K : PySem.W.Frag} {mg : Str → Option Value} {base : Heap}
theorem Fun.okG {x qual : Str} {st : Stmt} {f : Addr} {fd : FuncData} {N ps : List Str} {k : Nat} {sp : Sp} (Fu : Fun K x qual st f fd) (S : FnScope N ps (defScope st)) (len : ∀ vs H Q E, sp vs H Q E → vs.length = ps.length)
    (hbody : ∀ (cdv : Value) (A : Around) (outer : List Env) (s : Shared) (H : Hp) (vs : List V) (Q : VK) (E : XK), A.guards = some [] → Room k (A.deeper (envOfC qual (defScope st) s.heap.objs.size f cdv)) → sp vs H Q E →
      ∃ t, PSs (cxOf (L2.CX P w) P w K mg base N qual (defScope st) f cdv A outer s H E) (defBody st) t ∧ t { nx := fun _ H' => Q .non H', rt := Q } (L2.start N vs) H) : FnG P w K mg base (L2.CX P w) (k + 1) f fd ps sp := by
  obtain ⟨oc, od, kV, doc, pm, an, cdv, ct, osl, rfl, lk, hcd⟩ := Fu.ex
  exact ⟨len, fun A outer s H args us vs Q E hg hr e0 hb r hsp => LamX.run_ofS lk hcd S hr e0 hb r (len _ _ _ _ hsp) fun hr' => hbody cdv A outer s H vs Q E hg hr' hsp⟩
theorem fnPG {x qual : Str} {st : Stmt} {f : Addr} {fd : FuncData} {N ps : List Str} {k : Nat} {xi : XI} {m : M Out} (Fu : Fun K x qual st f fd) (S : FnScope N ps (defScope st)) (hl : ps.length ≤ N.length) (n : Nat) (hn0 : n = N.length)
    (hbody : ∀ (cdv : Value) (A : Around) (outer : List Env) (s : Shared) (H : Hp) (E : XK), A.guards = some [] → Room k (A.deeper (envOfC qual (defScope st) s.heap.objs.size f cdv)) → PSs (cxOf (L2.CX P w) P w K mg base N qual (defScope st) f cdv A outer s H E) (defBody st) (tS ⟨K, n, E, xi⟩ m)) :
    FnG P w K mg base (L2.CX P w) (k + 1) f fd ps (spP K xi ps.length (semP n m)) := by
  subst hn0
  refine Fun.okG Fu S (fun vs H Q E h => h.1) fun cdv A outer s H vs Q E hg hr h => ⟨_, hbody cdv A outer s H E hg hr, ?_⟩
  obtain ⟨hn, F, ds, hF, hd, q⟩ := h
  have q : Ans K xi F H (runO (m ⟨none, argsE ds N.length, none⟩)) Q E := q
  refine ⟨F, fun _ => none, ⟨none, argsE ds N.length, none⟩, ok_startP hF hd (by omega), ?_⟩
  have gw : ∀ {F' H' : Hp} {own' : Addr → Option Nat}, Fr F (fun _ => none) H F' own' H' → Le F' H' → Gw F H F' H' := fun f l => ⟨f.fl, l, fun a o e => f.keep a o e rfl, fun a e => (f.frz a e).elim .inl fun z => z.elim .inr fun y => absurd rfl y⟩
  cases e : m ⟨none, argsE ds N.length, none⟩ with
  | ok pr =>
    obtain ⟨o, g'⟩ := pr
    rw [e] at q
    intro σ' F' own' H' k' f' _
    cases o with
    | nx => exact q F' H' .non (gw f' k'.le) .non
    | rt d => exact fun v hv => q F' H' v (gw f' k'.le) hv
    | bk => exact q.elim
    | ct => exact q.elim
  | er c d =>
    rw [e] at q
    exact fun cl fl hx F' own' H' dp v f' l' hdp hv => q cl fl hx F' H' dp v (gw f' l') hdp hv
  | no =>
    rw [e] at q
    exact q.elim
end
section
variable {X : Cx} {C : Cc} {CX : CXT} {k : Nat} {f : Addr} {fd : FuncData} {ps : List Str} {sp : Sp} {x : Str} {p pos : Pos} {e : Expr} {es : List Expr} {fs : M (List View)} {n : Nat} {E : XK} {t : TA}
theorem pe_callG (Fn : FnG X.prog X.w X.K X.mg X.base CX k f fd ps sp) (hgd : X.A.guards = some []) (hr : Room k X.A) (hg : Gl X x) (hm : X.mg x = some (.ref f)) (hk : PySem.W.keepIn X.K (.ref f) = true) (hb : Binds X.K fd ps []) (hx : Passes CX X E)
    (ha : PA X (e :: es) t) (hdb : (x == ("__debug__" : Str)) = false := by decide) (he : starEach (e :: es) X.env = (false, eval e X.env) :: starEach es X.env := by rfl) (hpl : (backTo pos (starEach es X.env)).any (·.1) = false := by rfl) :
    PE X (.Call (.Name x p) (e :: es) [] pos) (tCall sp [] E t) := by
  refine ⟨fun pins s σ H Q I h => wpAny_Call_Name_kw (ld_glob I hg hm ?_ hdb)⟩
  refine PySem.W.callWith_K (h₀ := X.base) I.ok.mod.kin hk (thn (ha.run pos pins s σ H _ I h) fun us s1 hh => ?_) he hpl
  obtain ⟨vs, H1, I1, r, q⟩ := hh
  rw [List.append_nil] at q
  have hl : (us ++ ([] : List Value)).length = ps.length := by
    rw [List.append_nil, ← r.length]
    exact Fn.len _ _ _ _ q
  have hbb := hb s1 us I1.kIn hl
  rw [List.append_nil] at hbb
  refine ⟨I1.kIn, ?_⟩
  show wpAny _ _ (call (.ref f) us) _ _ _
  refine wpAny_call (codeAny_mono (Fn.run X.A X.stack s1 H1 ⟨us, []⟩ us vs Q E hgd hr I1.env0 hbb r q) fun r' s' hq => ?_)
  cases r' with
  | error er => exact hx pins σ H1 s1 er s' I1 hq
  | ok fl =>
    cases fl with
    | ret u => exact I1.after hq
    | next => exact False.elim hq
    | brk => exact False.elim hq
    | cont => exact False.elim hq
theorem xCallG {fn : List D → R D} (hK : C.K = X.K) (Fn : FnG X.prog X.w X.K X.mg X.base CX k f fd ps (spP X.K C.xi n fn)) (hgd : X.A.guards = some []) (hr : Room k X.A) (hg : Gl X x) (hm : X.mg x = some (.ref f)) (hk : PySem.W.keepIn X.K (.ref f) = true) (hb : Binds X.K fd ps []) (hx : Passes CX X C.E)
    (ha : PA X (e :: es) (tAs C fs)) (hn : LenF fs n) (hdb : (x == ("__debug__" : Str)) = false := by decide) (he : starEach (e :: es) X.env = (false, eval e X.env) :: starEach es X.env := by rfl) (hpl : (backTo pos (starEach es X.env)).any (·.1) = false := by rfl) :
    PE X (.Call (.Name x p) (e :: es) [] pos) (tD C (sCall C.b fs fn)) :=
  PE.imp (pe_callG Fn hgd hr hg hm hk hb hx ha hdb he hpl) fun σ H Q ⟨F, own, g, k0, q⟩ => ⟨F, own, g, k0, (After.fst q).imp fun ws F1 own1 g1 H1 e1 k1 f1 q1 vs hvs => by
    obtain ⟨F2, own2, g2, ds, k2, f2, hds, q2⟩ := frzs_ok k1 hvs (After.fst q1)
    rw [List.append_nil]
    refine ⟨by rw [vwAll_len hvs]; exact hn _ _ _ e1, F2, ds, k2.le, hK ▸ hds, ?_⟩
    unfold callD at q2
    cases z : fn ds with
    | ok d =>
      rw [z] at q2
      exact fun F3 H3 v gw hv => q2 F3 own2 H3 (k2.grow gw.fl gw.hh gw.le gw.nw) (Fr.grow gw.fl gw.hh gw.nw) v (hK ▸ hv)
    | er c d =>
      rw [z] at q2
      exact fun cl fl hx F3 H3 dp v gw hdp hv => q2 cl fl hx F3 own2 H3 dp v (Fr.grow gw.fl gw.hh gw.nw) gw.le hdp (hK ▸ hv)
    | no =>
      rw [z] at q2
      exact q2.elim⟩
/-! ### repr -/
def reprOk (d : D) : Bool := d.canLay0 && d.showable && !d.hasDict && decide (d.depth ≤ 60) && lenOk d.shown.length
def rReprD (K : PySem.W.Frag) : List V → Hp → VK → Prop := fun xs H Q => ∃ v d, xs = [v] ∧ Dp K H v d ∧ d.showable = true ∧ d.hasDict = false ∧ d.depth ≤ 60 ∧ d.shown.length ≤ sizeLine ∧ Q (.str d.shown) H
theorem call_reprD (hgd : X.A.guards = some []) (hu : X.A.units + 64 < cLine) : CallR X (.builtin "repr") (rReprD X.K) := by
  intro pins s σ H vs us Q I r h
  obtain ⟨v, d, rfl, hd, h1, h2, h3, h4, q⟩ := h
  cases r with
  | @cons _ u _ _ ru rn =>
  cases rn
  obtain ⟨as, rd⟩ := Dp.reads I d v u hd ru
  have fin : ∀ {tk : Tok} {h' : Heap} {t' : Nat}, (∀ b o, s.heap.get? b = some o → h'.get? b = some o) → EP X pins σ Q (.str d.shown tk) { s with heap := h', toks := t' } := fun {tk h' t'} hk => ⟨.str d.shown, H, I.kept hk, ⟨_, rfl⟩, q⟩
  cases rd with
  | none => exact P.repr_of_none (fin fun _ _ e => e)
  | bool b => exact P.repr_of_bool (fin fun _ _ e => e)
  | int i t => exact P.repr_of_int (by simpa [PyData.showable] using h1) (fin fun _ _ e => e)
  | str z t => exact P.repr_of_str (fin fun _ _ e => e) (by simpa only [PyData.shown] using h4)
  | list e1 e2 e3 e4 => exact repr_of_reads' (.list e1 e2 e3 e4) h1 (fun z => by rw [h2] at z; cases z) hgd (by omega) (fun _ _ e => e) (fun h' u tk hk => fin hk) h4
  | tuple e1 e2 e3 e4 => exact repr_of_reads' (.tuple e1 e2 e3 e4) h1 (fun z => by rw [h2] at z; cases z) hgd (by omega) (fun _ _ e => e) (fun h' u tk hk => fin hk) h4
  | dict _ _ _ _ _ => simp [PyData.hasDict] at h2
def reprW (w : View) : M D := (lookD w).bind fun d => need (reprOk d) (M.pur (.str d.shown))
theorem reprW_ok (hK : C.K = X.K) : CaV C (rReprD X.K) (arg1 reprW) := arg1_ok (r := rReprD X.K) fun {σ F own g H v w Q} k hv q => by
  obtain ⟨d, g2, e2, q2⟩ := After.at_end (m := lookD) (After.fst q) fun _ _ => lookD_ne
  obtain ⟨rfl, hd⟩ := lookD_ok k hv e2
  obtain ⟨n1, n2⟩ := need_ok (q2 F own H k Fr.refl)
  unfold reprOk at n1
  simp only [Bool.and_eq_true, Bool.not_eq_true', decide_eq_true_eq] at n1
  obtain ⟨⟨⟨⟨c1, c2⟩, c3⟩, c4⟩, c5⟩ := n1
  exact ⟨v, d, rfl, hK ▸ hd.dp c1, c2, c3, c4, lenOk_le c5, n2 F own H k Fr.refl _ (.str _)⟩
end
/-! ### _law_same -/
theorem sc__law_same : FnScope ["a", "b"] ["a", "b"] (defScope s__law_same) := ⟨rfl, rfl, rfl, by decide +kernel, rfl, by decide +kernel, by decide +kernel⟩
def m__law_same : M Out := uRet (s2 (sD ((sCons (nam 0) sNil).bind (arg1 reprW))) (sD ((sCons (nam 1) sNil).bind (arg1 reprW))) eqV')
def f__law_same (ds : List D) : R D := semP 2 m__law_same ds
theorem ok__law_same {P : Program} {w : World} {K : PySem.W.Frag} {mg : Str → Option Value} {base : Heap} {a : Ad} (T : Txt P K mg a) : FnG P w K mg base (L2.CX P w) 1 a.a__law_same a.a__law_same_d ["a", "b"] (spP K a.xi 2 f__law_same) := by
  refine fnPG T.f__law_same sc__law_same (by decide) 2 rfl fun cdv A outer s H E hg hr => ?_
  exact (yOne (yRet (xCmp (op_eqD hr.units) (eqV_ok rfl) (dv (xCallB (call_reprD hg hr.units) (reprW_ok rfl) (by rfl) T.b_repr (by decide +kernel) (xCons (xNam (pv 0)) xNil))) (dv (xCallB (call_reprD hg hr.units) (reprW_ok rfl) (by rfl) T.b_repr (by decide +kernel) (xCons (xNam (pv 1)) xNil))) (nomark _))))
end DL
set_option maxRecDepth 100000
set_option maxHeartbeats 4000000
/-! DU: try with several clauses «except X as n», all with one name; nothing else leaves it. -/
namespace DL
open PySem PySem.Spec L2 PyProof.Rows
abbrev Suite := Addr → Value → Option Addr → TS
/-- the ends of a suite: its name is gone behind it -/
def endsAs (i : Nat) (Z : Ends) : Ends := { nx := fun τ G => Z.nx (τ.set i none) G, rt := Z.rt, bk := fun τ G => Z.bk (τ.set i none) G, ct := fun τ G => Z.ct (τ.set i none) G }
def wishAs (K : PySem.W.Frag) (i n : Nat) (Z : Ends) : List (Value × Suite) → WX
  | [] => fun _ _ _ _ => False
  | (c, ts) :: r => fun cls d τ G => ∃ yes, PySem.W.exmOne K cls c = some yes ∧ (yes = true → τ.length = n → ∀ x, G x = none → ts x cls d (endsAs i Z) (τ.set i (some (.ref x))) G) ∧ (yes = false → wishAs K i n Z r cls d τ G)
inductive HdAs (X : Cx) (n : Str) : List ExceptHandler → List (Value × Suite) → Prop
  | nil : HdAs X n [] []
  | cons {y : Str} {c : Value} {ts : Suite} {st : Stmt} {sts : List Stmt} {p1 p2 : Pos} {hs : List ExceptHandler} {l : List (Value × Suite)} (hc : Names X y c)
      (hsu : ∀ (x : Addr) (ob : Obj) (cls : Value) (d : Option Addr) (pn : List (Addr × Obj)), Zc cls d ob → (∃ vs, ob.data = .fields vs) → PSs (X.suite x ((x, ob) :: pn)) (st :: sts) (ts x cls d)) (r : HdAs X n hs l) :
      HdAs X n (.ExceptHandler (some (.Name y p1)) (some n) (st :: sts) p2 :: hs) ((c, ts) :: l)
theorem ps_tryAs {X : Cx} {n : Str} {i : Nat} {body : List Stmt} {h1 : ExceptHandler} {hs : List ExceptHandler} {l : List (Value × Suite)} {pos : Pos} {tb : WX → TS} (hst : X.stack = X.env :: X.outer) (hfr : X.env.frame = some X.env.locals) (hN : X.N.Nodup) (hi : X.N[i]? = some n) (hln : X.env.kindOf n = some .local)
    (hb : ∀ (W : WX) (pn : List (Addr × Obj)) (xe : Value → Shared → Prop), Takes (X.tr pn xe) W → PSs (X.tr pn xe) body (tb W)) (hh : HdAs X n (h1 :: hs) l) : PS X (.Try body (h1 :: hs) [] [] pos) (fun Z τ G => tb (wishAs X.K i X.N.length Z l) Z τ G) := by
  refine ⟨fun pins s τ G Z I h => ?_⟩
  have hA : X.A.frames = some (X.env :: X.outer) := by rw [I.ok.frames, hst]
  refine wpAny_Try_except ?_
  refine wpAny_mono ((hb (wishAs X.K i X.N.length Z l) (X.pn ++ pins) (fun e s₁ => wpAny (model X.prog X.w) X.A (noteFrame e X.env) (fun _ s₂ => wpAny (model X.prog X.w) X.A (setFlight e none) (fun _ s₃ =>
    wpAny (model X.prog X.w) X.A (handleBy e X.env (h1 :: hs)) (SP X pins Z) X.xe s₃) X.xe s₂) X.xe s₁) (fun u s' caught => ?_)).run [] s τ G Z (I.toTry _) h) (fun f s1 q => ?_) (fun e s1 he => he)
  · obtain ⟨x, B, sI, pins', τ', G', cls, d, rfl, J0, nb, up, sky, na, os, ag, w⟩ := caught
    have J : Inv X pins τ' G' sI := J0.ofTry I.ok
    show wpAny (model X.prog X.w) X.A (noteFrame (.ref x) X.env) _ _ _
    refine Sky.land Zc.steady hA hfr (show Sky B (X.env :: X.outer) x (Zc cls d) X.env.locals s'.heap by rw [← hst]; exact sky) fun g3 fl3 up3 => ?_
    have J3 : Inv X pins τ' G' { s' with heap := g3 } := J.landed nb fl3.1 (up.trans up3) os ag
    obtain ⟨o3, v3, there3, z3, d3⟩ := fl3.there
    have off : x ∉ frs (X.env :: X.outer) := fun hm => by
      obtain ⟨_, o', e', hnf⟩ := fl3.2.2.1.mem hm
      rw [there3] at e'
      cases e'
      exact hnf _ d3
    have nL : x ≠ X.env.locals := fun z => off (List.mem_filterMap.mpr ⟨X.env, List.mem_cons_self, by rw [hfr, z]⟩)
    have nF : x ∉ X.fs := fun hm => by
      obtain ⟨e, he, q⟩ := List.mem_filterMap.mp hm
      exact off (List.mem_filterMap.mpr ⟨e, List.mem_cons_of_mem _ he, q⟩)
    have S3 := J3.suite there3 d3 na nL nF
    have go : ∀ {hs' : List ExceptHandler} {l' : List (Value × Suite)}, HdAs X n hs' l' → wishAs X.K i X.N.length Z l' cls d τ' G' → wpAny (model X.prog X.w) X.A (handleBy (.ref x) X.env hs') (SP X pins Z) X.xe { s' with heap := g3 } := by
      intro hs' l' hk
      induction hk with
      | nil => exact fun w => w.elim
      | @cons y c ts st sts p1 p2 hs2 l2 hc hsu r ih =>
        intro w
        obtain ⟨yes, hx1, hyes, hno⟩ := w
        refine wpAny_handleBy_cons (codeAny_handlers_test ?_) (by intro q; cases q)
        have LT : PySem.W.Looks (model X.prog X.w) g3 (typeOf (.ref x)) cls := fun A Q E s k q => wpAny_typeOf_ref (k _ _ there3) (by rw [z3.1]; exact q)
        have LM := PySem.W.exm_one (M := model X.prog X.w) J3.kIn LT hx1
        have named : ∀ {Q : Value → Shared → Prop} {E : Value → Shared → Prop}, Q c { s' with heap := g3 } → wpAny (model X.prog X.w) (X.A.mark (some (.ref x))) (eval (.Name y p1) X.env) Q E { s' with heap := g3 } := fun {Q E} q => by
          obtain ⟨hg, hdb, hm | ⟨hm, hv, hnn⟩⟩ := hc
          · exact ld_glob (X := X.suite x ((x, o3) :: (X.pn ++ pins))) S3 hg hm q hdb
          · exact ld_blt (X := X.suite x ((x, o3) :: (X.pn ++ pins))) S3 hg hm hv q hnn hdb
        refine named (LM.here ?_)
        cases yes with
        | false =>
          show wpAny _ X.A (handleBy (.ref x) X.env hs2) _ _ _
          exact ih (hno rfl)
        | true =>
          refine codeAny_handlers_suite_as ?_
          refine HandSPX.lands_againZ fl3 fun g4 fl4 up4 => ?_
          have J4 : Inv X pins τ' G' { s' with heap := g4 } := J.landed nb fl4.1 ((up.trans up3).trans up4) os ag
          obtain ⟨o4, v4, there4, z4, d4⟩ := fl4.there
          have S4 := J4.suite there4 d4 na nL nF
          refine store_ok (X := X.suite x ((x, o4) :: (X.pn ++ pins))) (v := .ref x) S4 hN hi (Or.inl hln) rfl (fun s5 S5 => ?_) (Or.inr hln)
          refine wpAny_mono ((hsu x o4 cls d (X.pn ++ pins) z4 ⟨_, d4⟩).run [] s5 _ G' _ S5 (hyes rfl J.len x na)) (fun f s6 q6 => ?_) (fun _ _ z => False.elim z)
          have gone : ∀ {τ6 : L2.St} {G6 : Hp} {Q : Shared → Prop}, Inv (X.suite x ((x, o4) :: (X.pn ++ pins))) [] τ6 G6 s6 → (∀ s7, Inv X pins (τ6.set i none) G6 s7 → Q s7) → wpAny (model X.prog X.w) X.A (do bindName X.env n .none; unbindBehindTheSuite X.env n p2) (fun _ s7 => Q s7) X.xe s6 :=
            fun {τ6 G6 Q} S6 hq => gone_ok (S6.unsuite I.ok) hN hi hln hq
          cases f with
          | next =>
            obtain ⟨τ6, G6, S6, q7⟩ := q6
            exact gone S6 fun s7 J7 => ⟨_, _, J7, q7⟩
          | brk =>
            obtain ⟨τ6, G6, S6, q7⟩ := q6
            exact gone S6 fun s7 J7 => ⟨_, _, J7, q7⟩
          | cont =>
            obtain ⟨τ6, G6, S6, q7⟩ := q6
            exact gone S6 fun s7 J7 => ⟨_, _, J7, q7⟩
          | ret u =>
            obtain ⟨v6, τ6, G6, S6, r6, q7⟩ := q6
            exact gone S6 fun s7 J7 => ⟨_, _, _, J7, r6, q7⟩
    exact go hh w
  · cases f with
    | next =>
      obtain ⟨τ', G', J', q⟩ := q
      exact wpAny_execs_nil ⟨τ', G', J'.ofTry I.ok, q⟩
    | brk =>
      obtain ⟨τ', G', J', q⟩ := q
      exact ⟨τ', G', J'.ofTry I.ok, q⟩
    | cont =>
      obtain ⟨τ', G', J', q⟩ := q
      exact ⟨τ', G', J'.ofTry I.ok, q⟩
    | ret u =>
      obtain ⟨v, τ', G', J', r, q⟩ := q
      exact ⟨v, τ', G', J'.ofTry I.ok, r, q⟩
end DL
set_option maxRecDepth 100000
set_option maxHeartbeats 4000000
/-! DV: _law_told. -/
namespace DL
open PySem PySem.Spec L2 PyProof.Rows
/-- e.f, e the exception that the suite holds -/
def tFld (C x : Addr) (f : Str) (cls : Value) (d : Option Addr) (te : TE) : TE := fun σ H Q => te σ H fun y H1 => y = .ref x ∧ cls = .ref C ∧ ∃ (dd : Addr) (v : V), d = some dd ∧ H1 dd = some (.xd [(f, v)]) ∧ Q v H1
section
variable {X : Cx} {C fI : Addr} {cn f : Str}
theorem pe_fld {x : Addr} {ob : Obj} {cls : Value} {d : Option Addr} {pn : List (Addr × Obj)} {e : Expr} {te : TE} {pos : Pos} (T : ExT X.prog X.K X.mg cn C fI f) (hz : Zc cls d ob) (hf : ∃ vs, ob.data = .fields vs) (he : PE (X.suite x ((x, ob) :: pn)) e te)
    (hb : attributeBase e f X.env (eval e X.env) = eval e X.env := by rfl) : PE (X.suite x ((x, ob) :: pn)) (.Attribute e f pos) (tFld C x f cls d te) := by
  refine ⟨fun pins s σ H Q I h => attr_of hb (thn (he.run pins s σ H _ I h) fun u s1 hh => ?_)⟩
  obtain ⟨y, H1, I1, ry, rfl, rfl, dd, v, rfl, hd, q⟩ := hh
  obtain rfl : u = Value.ref x := ry
  obtain ⟨at_, _⟩ := I1.pin (x, ob) (List.mem_append_left _ List.mem_cons_self)
  obtain ⟨vs, hv⟩ := hf
  obtain ⟨mA, hns, hr⟩ := (show ObjOk X.prog X.w H1 s1.heap dd (.xd [(f, v)]) from I1.hok dd _ hd)
  obtain ⟨od, ho, hl⟩ := lookIn_ns hns
  have l : List.lookup f [(f, v)] = some v := by simp [List.lookup]
  obtain ⟨u, hu, ru⟩ := RelO.some_of (v := v) (o := mA f) (by rw [← l]; exact hr f)
  have J : PySem.W.InstAt s1.heap x ob C (some od) := ⟨at_, hz.1, by unfold PySem.W.notCls; rw [hv] <;> rfl, by rw [hz.2]; exact ho⟩
  exact HandSPX.exc_get I1.kIn J T.ga T.gg T.exC (PySem.W.findObj_own T.hdC T.noN rfl (by rw [hl, hu])) (handed_of ru) ⟨v, H1, I1.tok _, ru, q⟩
end
/-- what _law_told makes of an exception -/
def toldW (Ls : List (Addr × Str × Str)) (Q : VK) : XK := fun cls d H' => ∃ (C : Addr) (f tag : Str) (dd : Addr) (v : V), (C, f, tag) ∈ Ls ∧ cls = .ref C ∧ d = some dd ∧ H' dd = some (.xd [(f, v)]) ∧ ∀ p, H' p = none → Q (.ref p) (upd H' p (.lst [.str tag, v]))
def toldT (Ls : List (Addr × Str × Str)) : (XK → Hp → VK → Prop) → Hp → VK → Prop := fun tl H Q => tl (toldW Ls Q) H Q
def Ad.tags (a : Ad) : List (Addr × Str × Str) := [(a.a_BadWord, "reason", "bad word"), (a.a_TooMany, "what", "too many"), (a.a_Refused, "reason", "refused")]
/-- which clause an exception meets -/
structure ExmT (K : PySem.W.Frag) (a : Ad) : Prop where
  bb : PySem.W.exmOne K (.ref a.a_BadWord) (.ref a.a_BadWord) = some true
  tb : PySem.W.exmOne K (.ref a.a_TooMany) (.ref a.a_BadWord) = some false
  tt : PySem.W.exmOne K (.ref a.a_TooMany) (.ref a.a_TooMany) = some true
  rb : PySem.W.exmOne K (.ref a.a_Refused) (.ref a.a_BadWord) = some false
  rt : PySem.W.exmOne K (.ref a.a_Refused) (.ref a.a_TooMany) = some false
  rr : PySem.W.exmOne K (.ref a.a_Refused) (.ref a.a_Refused) = some true
theorem sc__law_told : FnScope ["call", "e"] ["call"] (defScope s__law_told) := ⟨rfl, rfl, rfl, by decide +kernel, rfl, by decide +kernel, by decide +kernel⟩
/-- the suite: return [tag, e.f] -/
def sTold (C : Addr) (f tag : Str) : Suite := fun x cls d => tRet (tLst (tCons (tC (.str tag)) (tCons (tFld C x f cls d (tVar 1)) tNil)))
theorem sTold_ok {C x dd : Addr} {f tag : Str} {v : V} {Q : VK} {Z : Ends} {τ : L2.St} {G : Hp} (hZ : Z.rt = Q) (hx : τ[1]? = some (some (.ref x))) (hd : G dd = some (.xd [(f, v)])) (q : ∀ p, G p = none → Q (.ref p) (upd G p (.lst [.str tag, v]))) : sTold C f tag x (.ref C) (some dd) Z τ G := by
  subst hZ
  exact ⟨_, hx, rfl, rfl, dd, v, rfl, hd, (by show 2 ≤ sizeLine; decide), q⟩
section
variable {X : Cx} {a : Ad}
theorem told_gives {q : Str} {g : Addr} {cdg : Value} (T : Txt X.prog X.K X.mg a) (M : ExmT X.K a) : LamX.GivesTo X ["call", "e"] "_law_told" (defScope s__law_told) g cdg (defBody s__law_told) "call" q (toldT a.tags) := by
  intro f c' s H Q tl act hc h
  refine ⟨_, pss_one (ps_tryAs (X := (cxOf C8.CX0 X.prog X.w X.K X.mg X.base ["call", "e"] "_law_told" (defScope s__law_told) g cdg X.A X.stack s H C8.E0).nox) (i := 1) (l := [(.ref a.a_BadWord, sTold a.a_BadWord "reason" "bad word"), (.ref a.a_TooMany, sTold a.a_TooMany "what" "too many"), (.ref a.a_Refused, sTold a.a_Refused "reason" "refused")])
      (tb := fun W Z τ G => ∃ Ech : XK, (∀ cls d τ' G', Ech cls d G' → W cls d τ' G') ∧ τ[0]? = some (some (.ref f)) ∧ G c' = some (LamX.CodeO c' q) ∧ tl Ech G Z.rt)
      rfl rfl sc__law_told.nd rfl rfl (fun W pn xe tk => ?_) ?_), ?_⟩
  · refine ⟨fun pins s' τ G Z I h' => ?_⟩
    obtain ⟨Ech, hW, h1, h2, h3⟩ := h'
    exact (pss_one (ps_ret (act W pn xe Ech _ _ tk hW))).run pins s' τ G Z I ⟨h1, h2, h3⟩
  · have one : ∀ {C fI : Addr} {cn f tag : Str} {p1 p2 p3 p4 p5 : Pos} {j : Nat} (Te : ExT X.prog X.K X.mg cn C fI f) (x : Addr) (ob : Obj) (cls : Value) (d : Option Addr) (pn : List (Addr × Obj)), Zc cls d ob → (∃ vs, ob.data = .fields vs) →
        PSs (((cxOf C8.CX0 X.prog X.w X.K X.mg X.base ["call", "e"] "_law_told" (defScope s__law_told) g cdg X.A X.stack s H C8.E0).nox).suite x ((x, ob) :: pn)) [.Return (some (.List [.Constant (.str tag) j p1, .Attribute (.Name "e" p2) f p3] p4)) p5] (sTold C f tag x cls d) :=
      fun Te x ob cls d pn hz hf => pss_one (ps_ret (pe_lst (pa_cons pe_str (pa_cons (pe_fld (X := (cxOf C8.CX0 X.prog X.w X.K X.mg X.base ["call", "e"] "_law_told" (defScope s__law_told) g cdg X.A X.stack s H C8.E0).nox) Te hz hf (pv 1)) pa_nil))))
    exact .cons ⟨by rfl, by decide, .inl T.x_BadWord.gC⟩ (one T.x_BadWord) (.cons ⟨by rfl, by decide, .inl T.x_TooMany.gC⟩ (one T.x_TooMany) (.cons ⟨by rfl, by decide, .inl T.x_Refused.gC⟩ (one T.x_Refused) .nil))
  · refine ⟨toldW a.tags Q, fun cls d τ G hw => ?_, rfl, hc, h⟩
    obtain ⟨C, fl, tag, dd, v, hm, rfl, rfl, hd, qq⟩ := hw
    have suite : ∀ {C : Addr} {f tag : Str}, (∀ p, G p = none → Q (.ref p) (upd G p (.lst [.str tag, v]))) → G dd = some (.xd [(f, v)]) → τ.length = 2 → ∀ x, G x = none → sTold C f tag x (.ref C) (some dd) (endsAs 1 { nx := fun _ H' => Q .non H', rt := Q }) (τ.set 1 (some (.ref x))) G := by
      intro C f tag q1 h1 hl x _
      exact sTold_ok rfl (List.getElem?_set_self (by omega)) h1 q1
    unfold Ad.tags at hm
    simp only [List.mem_cons, Prod.mk.injEq, List.not_mem_nil, or_false] at hm
    rcases hm with ⟨rfl, rfl, rfl⟩ | ⟨rfl, rfl, rfl⟩ | ⟨rfl, rfl, rfl⟩
    · exact ⟨true, M.bb, fun _ => suite qq hd, fun z => by cases z⟩
    · exact ⟨false, M.tb, (fun z => by cases z), fun _ => ⟨true, M.tt, fun _ => suite qq hd, fun z => by cases z⟩⟩
    · exact ⟨false, M.rb, (fun z => by cases z), fun _ => ⟨false, M.rt, (fun z => by cases z), fun _ => ⟨true, M.rr, fun _ => suite qq hd, fun z => by cases z⟩⟩⟩
end
end DL
set_option maxRecDepth 100000
set_option maxHeartbeats 4000000
/-! DW: _law_told(lambda: ..) by data. -/
namespace DL
open PySem PySem.Spec L2 PyProof.Rows
open LamX (CodeO TabB lamEnv lamCx LamS)
/-- the heap behind the making of a lambda -/
def lamH (H : Hp) (P : Addr) (ps : Array Value) (q : Str) (lp : Pos) (H1 : Hp) (c1 : Addr) : Prop := (H1 = H ∧ H c1 = some (CodeO c1 q)) ∨ (H c1 = none ∧ H1 = upd (upd H P (.tbl (ps ++ #[rawInt lp.line, rawInt lp.col, .ref c1]))) c1 (CodeO c1 q))
section
variable {X : Cx} {pins : List (Addr × Obj)} {σ : L2.St} {H : Hp} {s : Shared}
theorem lam_makeE {c P : Addr} {ps : Array Value} {params : Arguments} {body : Expr} {scope : Scope} {lp : Pos} {E : Value → Shared → Prop} {Q : Value → Shared → Prop} (I : Inv X pins σ H s) (TB : TabB X.base X.mg c P) (hcode : X.env.code = .ref c) (hP : H P = some (.tbl ps)) (ht : TriplesOk ps.toList)
    (hk : ∀ (p : Pos) (cv : Value), codeAmong p ps.toList = some cv → ∃ c1, cv = .ref c1 ∧ H c1 = some (CodeO c1 (X.env.qual ++ "<lambda>"))) (hdef : defaultsOf params X.env = ([], [])) (hfree : ∀ y ∈ scope.names, y.2 = .free → ∃ c, X.env.cells.lookup y.1 = some c)
    (h : ∀ (f c1 : Addr) (pm ctv : Value) (H1 : Hp) (s1 : Shared), Inv X pins σ H1 s1 → lamH H P ps (X.env.qual ++ "<lambda>") lp H1 c1 → s1.heap.get? f = some (PySem.W.kla_obj "<lambda>" (X.env.qual ++ "<lambda>") params body scope (cloFrom X.env.cells scope.names []) pm c1 ctv) → H1 f = none → f ∉ frs X.stack → Q (.ref f) s1) :
    wpAny (model X.prog X.w) X.A (eval (.Lambda params body scope lp) X.env) Q E s := by
  refine PySem.W.kla_eval hdef ?_
  have tab : s.heap.get? P = some { cls := .none, data := .fields ps } := I.hok P _ hP
  have away : ∀ f, s.heap.objs.size ≤ f → f ∉ frs X.stack := fun f hf z => by
    rcases List.mem_cons.mp (I.stkSub _ z) with e | e
    · have lt := I.lt
      rw [← e] at lt
      exact Nat.lt_irrefl _ (Nat.lt_of_lt_of_le lt hf)
    · exact I.nofs hf e
  cases hc : codeAmong lp ps.toList with
  | some cv =>
    obtain ⟨c1, rfl, hc1⟩ := hk lp cv hc
    refine PySem.W.kla_makeFunctionHit (mg := X.mg) (c := c) (P := P) (ps := ps) (closure_ok hfree) I.ok.glob (I.mod.glob.keeps I.bk) hcode (TB.code.keeps I.bk) tab ht hc (TB.bm.keeps I.bk) fun ctv h' tk hx hsz => ?_
    refine h h'.objs.size c1 ((X.mg "__name__").getD .none) ctv H { s with heap := h'.push (PySem.W.kla_obj "<lambda>" (X.env.qual ++ "<lambda>") params body scope (cloFrom X.env.cells scope.names []) ((X.mg "__name__").getD .none) c1 ctv), toks := tk } (I.kept fun b o e => Heap.get?_push_of_some _ (hx b o e)) (.inl ⟨rfl, hc1⟩) (Heap.get?_push_size _ rfl) (I.hok.fresh hsz) (away _ hsz)
  | none =>
    refine PySem.W.kla_makeFunction (mg := X.mg) (c := c) (P := P) (ps := ps) (closure_ok hfree) I.ok.glob (I.mod.glob.keeps I.bk) hcode (TB.code.keeps I.bk) tab ht hc TB.gP (TB.bm.keeps I.bk) fun c1 ctv h' tk hx hge hlt hrec htb => ?_
    obtain ⟨c2, oc, vs, t, e2, hoc, hd, hv⟩ := hrec
    cases e2
    have le : s.heap.objs.size ≤ h'.objs.size := Nat.le_trans hge (Nat.le_of_lt hlt)
    have I1 := LamX.inv_table (t' := tk) (more := #[rawInt lp.line, rawInt lp.col, .ref c1]) (h' := h'.push (PySem.W.kla_obj "<lambda>" (X.env.qual ++ "<lambda>") params body scope (cloFrom X.env.cells scope.names []) ((X.mg "__name__").getD .none) c1 ctv)) I hP
      (fun b o hb e => Heap.get?_push_of_some _ (hx b o hb e)) (Heap.get?_push_of_some _ htb) hge ⟨oc, vs, t, Heap.get?_push_of_some _ hoc, hd, hv⟩
    refine h h'.objs.size c1 ((X.mg "__name__").getD .none) ctv _ _ I1 (.inr ⟨I.hok.fresh hge, rfl⟩) (Heap.get?_push_size _ rfl) ?_ (away _ le)
    rw [upd_ne (Nat.ne_of_gt hlt), upd_ne (Nat.ne_of_gt (Nat.lt_of_lt_of_le (Heap.lt_size tab) le))]
    exact I.hok.fresh le
/-- x(lambda: body), x the def that calls what it gets -/
def tLamE (P : Addr) (q : Str) (lp : Pos) (TT : (XK → Hp → VK → Prop) → Hp → VK → Prop) (t : XK → TE) : TE := fun σ H Q => ∃ ps : Array Value, H P = some (.tbl ps) ∧ TriplesOk ps.toList ∧ (∀ (p : Pos) (cv : Value), codeAmong p ps.toList = some cv → ∃ c1, cv = .ref c1 ∧ H c1 = some (CodeO c1 q)) ∧
  ∀ H1 c1, lamH H P ps q lp H1 c1 → TT (fun E H' Q' => t E σ H' Q') H1 Q
theorem pe_lamE {TT : (XK → Hp → VK → Prop) → Hp → VK → Prop} {x a : Str} {g c P : Addr} {k : Nat} {pg : Arguments} {bg : List Stmt} {sg : Scope} {dV kV doc pm cdv ct oc : Value} {an od : Option Addr} {osl : Array (Option Value)} {Ng : List Str} {params : Arguments} {body : Expr} {scope : Scope} {t : XK → TE} {p lp pos : Pos}
    (hg : Gl X x) (hm : X.mg x = some (.ref g)) (hk : PySem.W.keepIn X.K (.ref g) = true) (lk : X.K.lookup g = some ⟨oc, od, .func (PySem.W.fnOf x x pg bg sg dV kV doc pm an cdv ct), osl⟩) (hcg : PySem.W.codeIn X.K cdv x = true)
    (hb : Binds X.K (PySem.W.fnOf x x pg bg sg dV kV doc pm an cdv ct) [a] []) (Sg : FnScope Ng [a] sg) (hNg : Ng[0]? = some a) (hva : Vis sg a) (hG : LamX.GivesTo X Ng x sg g cdv bg a (X.env.qual ++ "<lambda>") TT) (TB : TabB X.base X.mg c P) (hcode : X.env.code = .ref c) (hr : Room (k + 2) X.A)
    (L : LamS X.env.scope scope) (hdef : defaultsOf params X.env = ([], [])) (hbind : ∀ (q : Str) (cl : List (Str × Addr)) (pm cv ctv : Value), bindArgs (PySem.W.kla_fn "<lambda>" q params body scope cl pm cv ctv) ⟨[], []⟩ = pure [])
    (hbody : ∀ (A : Around) (outer : List Env) (s : Shared) (H : Hp) (E : XK) (f c1 : Addr), Room k (A.deeper (lamEnv X scope s.heap.objs.size f c1)) → PE (lamCx X A outer s H E scope f c1) body (t E))
    (hdb : (x == ("__debug__" : Str)) = false := by decide) (hd : (a == ("__debug__" : Str)) = false := by decide) (hcd : (a == ("__classdict__" : Str)) = false := by decide) :
    PE X (.Call (.Name x p) [.Lambda params body scope lp] [] pos) (tLamE P (X.env.qual ++ "<lambda>") lp TT t) := by
  refine ⟨fun pins s σ H Q I h => ?_⟩
  obtain ⟨ps, hP, ht, hkn, h⟩ := h
  refine wpAny_Call_Name_kw (ld_glob I hg hm ?_ hdb)
  refine PySem.W.callWith_K (h₀ := X.base) I.ok.mod.kin hk ?_ (by rfl) (by rfl)
  show wpAny _ _ (spliced ((false, eval (.Lambda params body scope lp) X.env) :: backTo pos (starEach [] X.env))) _ _ s
  refine Calls.spliced_cons (lam_makeE I TB hcode hP ht hkn hdef (L.has I.ok) fun f c1 pm' ctv H1 s1 I1 hH hf hfn hfr => Calls.spliced_nil ⟨I1.kIn, ?_⟩)
  have hco : H1 c1 = some (CodeO c1 (X.env.qual ++ "<lambda>")) := by
    rcases hH with ⟨e, h1⟩ | ⟨_, e⟩
    · rw [e]
      exact h1
    · rw [e, upd_same]
  have run : codeAny (model X.prog X.w) X.A (.call (.ref g) ⟨[.ref f], []⟩) (CR C8.CX0 X.stack X.prog X.w H1 s1 Q C8.E0) s1 := by
    refine LamX.run_ofS (N := Ng) (ps := [a]) (us := [.ref f]) (vs := [.ref f]) lk hcg Sg hr I1.env0 (hb s1 [.ref f] I1.kIn rfl) (.cons rfl .nil) rfl fun hr' => ?_
    obtain ⟨t', ht', hq'⟩ := hG f c1 s1 H1 Q (fun E H' Q' => t E σ H' Q') (fun W pn xe E p1 p2 tk hW => LamX.pe_act (i := 0) I1 L hf hfn hfr (hbind _ _ _ _ _) tk hW hr' (fun A outer s H hr2 => hbody A outer s H E f c1 hr2) hNg hva hd hcd) hco (h H1 c1 hH)
    exact ⟨t', ht'.nox, hq'⟩
  refine wpAny_call (codeAny_mono run fun r s2 hq => ?_)
  cases r with
  | error e => exact (show False from hq).elim
  | ok fl =>
    cases fl with
    | ret u => exact I1.after hq
    | next => exact False.elim hq
    | brk => exact False.elim hq
    | cont => exact False.elim hq
end

/-! ### by data -/
def dimE : Ent → Ent
  | .im d => .im d
  | _ => .un
/-- what a lambda may read: data alone -/
def dim (g : Sg) : Sg := ⟨none, g.es.map dimE, none⟩
def tagOf (c : Str) : Option Str := if c = "BadWord" then some "bad word" else if c = "TooMany" then some "too many" else if c = "Refused" then some "refused" else none
def toldS (P : Addr) (fe : M D) : M D := fun g => if g.tab = some P ∧ g.box.isSome = true then (match fe (dim g) with
    | .ok (d, _) => .ok (d, g)
    | .er c d => (match tagOf c with
      | some t => .ok (.list [.str t, d], g)
      | none => .no)
    | .no => .no) else .no
section
variable {K : PySem.W.Frag} {b : Nat} {F H : Hp} {own : Addr → Option Nat} {g : Sg} {σ : L2.St}
theorem Ok.dim (k : Ok K b F own g σ H) : Ok K b F (fun _ => none) (dim g) σ H where
  len := by
    show (g.es.map dimE).length = _
    rw [List.length_map]
    exact k.len
  le := k.le
  apart := fun a i h => by cases h
  there := fun a i h => by cases h
  sl := fun i e v h1 h2 => by
    have h1 : (g.es.map dimE)[i]? = some e := h1
    rw [List.getElem?_map] at h1
    cases h3 : g.es[i]? with
    | none =>
      rw [h3] at h1
      cases h1
    | some e0 =>
      rw [h3] at h1
      cases h1
      have h4 := k.sl i e0 v h3 h2
      cases e0 with
      | un => exact True.intro
      | im d => exact h4
      | ol _ => exact True.intro
      | oo _ => exact True.intro
  bx := fun ds h => by cases h
  tb := fun P h => by cases h
/-- the table has grown by a new code object -/
theorem Ok.table (k : Ok K b F own g σ H) {P c1 : Addr} {ps : Array Value} {lp : Pos} {bs : List D} (hb : g.box = some bs) (hP : g.tab = some P) (hH : H P = some (.tbl ps)) (hc : H c1 = none) :
    Ok K b (upd F c1 (CodeO c1 lamQ)) own g σ (upd (upd H P (.tbl (ps ++ #[rawInt lp.line, rawInt lp.col, .ref c1]))) c1 (CodeO c1 lamQ)) ∧ Fr F own H (upd F c1 (CodeO c1 lamQ)) own (upd (upd H P (.tbl (ps ++ #[rawInt lp.line, rawInt lp.col, .ref c1]))) c1 (CodeO c1 lamQ)) := by
  obtain ⟨oP, ps0, t1, t2, t3⟩ := k.tb P hP
  rw [hH] at t1
  cases t1
  have FP : F P = none := k.apart P b oP
  have Fc : F c1 = none := k.le.free hc
  have nP : P ≠ c1 := fun z => by
    rw [z, hc] at hH
    cases hH
  have st : ∀ a o, a ≠ P → H a = some o → upd (upd H P (.tbl (ps ++ #[rawInt lp.line, rawInt lp.col, .ref c1]))) c1 (CodeO c1 lamQ) a = some o := fun a o n e => by
    rw [upd_ne (ne_of_none e hc), upd_ne n]
    exact e
  have some_ : ∀ a, H a ≠ none → upd (upd H P (.tbl (ps ++ #[rawInt lp.line, rawInt lp.col, .ref c1]))) c1 (CodeO c1 lamQ) a ≠ none := fun a h => by
    cases e : H a with
    | none => exact absurd e h
    | some o =>
      by_cases z : a = P
      · rw [z, upd_ne nP, upd_same]
        simp
      · rw [st a o z e]
        simp
  have lf : Le F (upd F c1 (CodeO c1 lamQ)) := Le.new Fc
  obtain ⟨hun, a0, w0, b1, b2, b3, b4⟩ := k.bx bs hb
  refine ⟨⟨k.len, fun a o e => ?_, fun a i h => ?_, fun a i h => some_ a (k.there a i h), fun i e v h1 h2 => ?_, fun ds h => ?_, fun P' h => ?_⟩, lf, fun a o e n => ?_, fun a h => ?_, fun a h => ?_, fun a h => .inl h⟩
  · by_cases z : a = c1
    · subst z
      rw [upd_same] at e ⊢
      exact e
    · rw [upd_ne z] at e
      exact st a o (fun y => by rw [y, FP] at e; cases e) (k.le a o e)
  · rw [upd_ne fun z => k.there a i h (by rw [z]; exact hc)]
    exact k.apart a i h
  · by_cases z : i = b
    · subst z
      rw [hun] at h1
      cases h1
      exact True.intro
    · exact (k.sl i e v h1 h2).mono lf fun a ha => ⟨ha, fun u hu => st a u (fun y => by rw [y, oP] at ha; cases ha; exact z rfl) hu⟩
  · obtain ⟨h0, a, ws, h1, h2, h3, h4⟩ := k.bx ds h
    exact ⟨h0, a, ws, h1, h2, st a _ (fun y => by rw [y, hH] at h3; cases h3) h3, dpAll_mono lf h4⟩
  · rw [hP] at h
    cases h
    have eL : (ps ++ #[rawInt lp.line, rawInt lp.col, .ref c1]).toList = ps.toList ++ [rawInt lp.line, rawInt lp.col, .ref c1] := by simp
    refine ⟨oP, _, by rw [upd_ne nP, upd_same], by rw [eL]; exact PySem.TriplesOk_snoc _ _ _ _ t2, fun p cv h => ?_⟩
    rw [eL] at h
    rcases LamX.among_app _ t2 h with z | z
    · obtain ⟨c0, e1, e2⟩ := t3 p cv z
      exact ⟨c0, e1, lf _ _ e2⟩
    · exact ⟨c1, z, upd_same⟩
  · exact st a o (fun y => by rw [y, oP] at n; cases n) e
  · cases e : H a with
    | none => rfl
    | some o => exact absurd h (some_ a (by rw [e]; simp))
  · by_cases z : a = c1
    · subst z
      exact .inr (.inl hc)
    · rw [upd_ne z] at h
      exact .inl h
end
section
variable {X : Cx} {C : Cc} {a : Ad}
theorem tag_at {c : Str} {C : Addr} {f t : Str} (h1 : a.xi c = some (C, f)) (h2 : tagOf c = some t) : (C, f, t) ∈ a.tags := by
  unfold Ad.xi at h1
  unfold tagOf at h2
  unfold Ad.tags
  by_cases z1 : c = "BadWord"
  · rw [if_pos z1] at h1 h2
    cases h1
    cases h2
    simp
  · rw [if_neg z1] at h1 h2
    by_cases z2 : c = "TooMany"
    · rw [if_pos z2] at h1 h2
      cases h1
      cases h2
      simp
    · rw [if_neg z2] at h1 h2
      by_cases z3 : c = "Refused"
      · rw [if_pos z3] at h1 h2
        cases h1
        cases h2
        simp
      · rw [if_neg z3] at h1
        cases h1
theorem told_D {P : Addr} {fe : M D} {lp : Pos} (hxi : C.xi = a.xi) (σ : L2.St) (H : Hp) (Q : VK) : tD C (toldS P fe) σ H Q → tLamE P lamQ lp (toldT a.tags) (fun E => tD { C with E := E } fe) σ H Q := fun ⟨F, own, g, k, q⟩ => by
  unfold toldS at q
  by_cases hg : g.tab = some P ∧ g.box.isSome = true
  · rw [if_pos hg] at q
    obtain ⟨hP, hb⟩ := hg
    obtain ⟨bs, hb⟩ := Option.isSome_iff_exists.mp hb
    obtain ⟨oP, ps, t1, t2, t3⟩ := k.tb P hP
    refine ⟨ps, t1, t2, fun p cv h => ?_, fun H1 c1 hH => ?_⟩
    · obtain ⟨c1, e1, e2⟩ := t3 p cv h
      exact ⟨c1, e1, k.le _ _ e2⟩
    · have start : ∃ F1, Ok C.K C.b F1 own g σ H1 ∧ Fr F own H F1 own H1 := by
        rcases hH with ⟨e, _⟩ | ⟨h1, e⟩
        · subst e
          exact ⟨F, k, Fr.refl⟩
        · subst e
          exact ⟨_, k.table hb hP t1 h1⟩
      obtain ⟨F1, k1, f1⟩ := start
      have le1 : ∀ {F' H' : Hp} {own' : Addr → Option Nat}, Fr F1 (fun _ => none) H1 F' own' H' → Le H1 H' := fun f a o e => f.keep a o e rfl
      have nw1 : ∀ {F' H' : Hp} {own' : Addr → Option Nat}, Fr F1 (fun _ => none) H1 F' own' H' → ∀ a, F' a ≠ none → F1 a ≠ none ∨ H1 a = none := fun f a e => (f.frz a e).elim .inl fun z => z.elim .inr fun y => absurd rfl y
      refine ⟨F1, fun _ => none, DL.dim g, k1.dim, ?_⟩
      cases e : fe (DL.dim g) with
      | ok pr =>
        rw [e] at q
        intro F' own' H' k' f' v hv
        exact q F' own H' (k1.grow f'.fl (le1 f') k'.le (nw1 f')) (f1.trans (Fr.grow f'.fl (le1 f') (nw1 f'))) v hv
      | er c d =>
        rw [e] at q
        simp only at q
        cases ht : tagOf c with
        | none =>
          rw [ht] at q
          exact q.elim
        | some t =>
          rw [ht] at q
          intro cl f hx F' own' H' dp v f' l' hdp hv
          have hx : a.xi c = some (cl, f) := by
            rw [← hxi]
            exact hx
          refine ⟨cl, f, t, dp, v, tag_at hx ht, rfl, rfl, hdp, fun p hp => ?_⟩
          have k2 := k1.grow f'.fl (le1 f') l' (nw1 f')
          obtain ⟨k3, f3⟩ := k2.new (o := .lst [.str t, v]) hp
          exact q _ own _ k3 (f1.trans ((Fr.grow f'.fl (le1 f') (nw1 f')).trans f3)) _ (.lst upd_same (.cons (.str t) (.cons (dp_mono f3.fl hv) .nil)))
      | no =>
        rw [e] at q
        exact q.elim
  · rw [if_neg hg] at q
    exact q.elim
end
end DL
set_option maxRecDepth 100000
set_option maxHeartbeats 4000000
/-! DLlaw: a law's def that makes its box first; _law_told(lambda: ..) as one rule. -/
namespace DL
open PySem PySem.Spec L2 PyProof.Rows
open LamX (CodeO TabB lamEnv lamCx LamS)
section
variable {X : Cx} {C : Cc} {a : Ad} {k : Nat} {c P : Addr} {fe : M D} {params : Arguments} {body : Expr} {scope : Scope} {p lp pos : Pos}
theorem xTold (T : Txt X.prog X.K X.mg a) (E : ExmT X.K a) (hK : C.K = X.K) (hxi : C.xi = a.xi) (hq : X.env.qual ++ "<lambda>" = lamQ) (hg : Gl X "_law_told") (TB : TabB X.base X.mg c P) (hcode : X.env.code = .ref c) (hr : Room (k + 2) X.A) (L : LamS X.env.scope scope) (hdef : defaultsOf params X.env = ([], []))
    (hbind : ∀ (q : Str) (cl : List (Str × Addr)) (pm cv ctv : Value), bindArgs (PySem.W.kla_fn "<lambda>" q params body scope cl pm cv ctv) ⟨[], []⟩ = pure [])
    (hbody : ∀ (A : Around) (outer : List Env) (s : Shared) (H : Hp) (E : XK) (f c1 : Addr), Room k (A.deeper (lamEnv X scope s.heap.objs.size f c1)) → PE (lamCx X A outer s H E scope f c1) body (tD { C with E := E } fe)) :
    PE X (.Call (.Name "_law_told" p) [.Lambda params body scope lp] [] pos) (tD C (toldS P fe)) := by
  obtain ⟨oc, od, kV, doc, pm, an, cdv, ct, osl, e, lk, hcd⟩ := T.f__law_told.ex
  have lk2 := lk
  rw [e] at lk2
  have hb := T.n__law_told
  rw [e] at hb
  refine PE.imp (pe_lamE (P := P) hg T.g__law_told T.f__law_told.kp lk2 hcd hb sc__law_told rfl (.inl rfl) (told_gives T E) TB hcode hr L hdef hbind hbody) fun σ H Q q => ?_
  rw [hq]
  exact told_D hxi σ H Q q
end
/-- a list that is at slot j becomes the box; the table at P is known -/
theorem Ok.mkbox {K : PySem.W.Frag} {b0 j : Nat} {F H : Hp} {g : Sg} {σ : L2.St} {own : Addr → Option Nat} {p P : Addr} {vs : List V} {ds : List D} (k : Ok K b0 F own g σ H) (op : own p = none) (oP : own P = none) (hj : g.es[j]? = some .un) (hp : H p = some (.lst vs)) (hF : F p = none) (hd : DqAll K F vs ds) (hP : H P = some (.tbl #[])) (hFP : F P = none) :
    Ok K j F (fun a => if a = p ∨ a = P then some j else own a) ⟨some ds, g.es, some P⟩ (σ.set j (some (.ref p))) H where
  len := by
    rw [List.length_set]
    exact k.len
  le := k.le
  apart := fun a i h => by
    by_cases z : a = p ∨ a = P
    · rcases z with z | z <;> rw [z] <;> assumption
    · exact k.apart a i ((if_neg z).symm.trans h)
  there := fun a i h => by
    by_cases z : a = p ∨ a = P
    · rcases z with z | z
      · rw [z, hp]
        simp
      · rw [z, hP]
        simp
    · exact k.there a i ((if_neg z).symm.trans h)
  sl := fun i e v h1 h2 => by
    have h1 : g.es[i]? = some e := h1
    by_cases z : i = j
    · subst z
      rw [hj] at h1
      cases h1
      exact True.intro
    · rw [List.getElem?_set_ne (Ne.symm z)] at h2
      exact (k.sl i e v h1 h2).mono (Le.refl F) fun a ha => ⟨by
        have na : ¬ (a = p ∨ a = P) := fun y => by
          rcases y with y | y
          · rw [y, op] at ha
            cases ha
          · rw [y, oP] at ha
            cases ha
        exact (if_neg na).trans ha, fun u hu => hu⟩
  bx := fun ds' h => by
    cases h
    have hl : j < σ.length := by
      rw [← k.len]
      exact (List.getElem?_eq_some_iff.mp hj).1
    exact ⟨hj, p, vs, List.getElem?_set_self hl, if_pos (.inl rfl), hp, hd⟩
  tb := fun P' h => by
    cases h
    exact ⟨if_pos (.inr rfl), #[], hP, True.intro, fun pos cv h => by simp [codeAmong] at h⟩
/-- what law computes: n slots, the box at j, fn makes it, m is the rest -/
def semL (n j : Nat) (P : Addr) (fn : M (List D)) (m : M Out) (ds : List D) : R D := match fn ⟨none, argsE ds n, none⟩ with
  | .ok (bs, g) => (match g.es[j]? with
    | some .un => runO (m ⟨some bs, g.es, some P⟩)
    | _ => .no)
  | _ => .no
/-- law is handed a list of ints; True comes out -/
def spL (K : PySem.W.Frag) (P : Addr) (f : List D → R D) : Sp := fun vs H Q E => ∃ (a : Addr) (ns : List Int), vs = [.ref a] ∧ SqL K H a (ns.map V.int) ∧ H P = some (.tbl #[]) ∧ f [locked (ns.map .int)] = .ok (.bool true) ∧ ∀ H', Q (.bl true) H'
section
variable {P : Program} {w : World} {K : PySem.W.Frag} {mg : Str → Option Value} {base : Heap}
/-- of H the list at a alone -/
def onlyF (H : Hp) (a PT : Addr) : Hp := fun x => if x = a ∧ x ≠ PT then H a else none
theorem onlyF_at {H : Hp} {a PT : Addr} (h : a ≠ PT) : onlyF H a PT a = H a := if_pos ⟨rfl, h⟩
theorem onlyF_le {H : Hp} {a PT : Addr} : Le (onlyF H a PT) H := fun x o e => by
  by_cases z : x = a ∧ x ≠ PT
  · rw [z.1]
    exact (if_pos z).symm.trans e
  · have := (if_neg z).symm.trans e
    cases this
theorem onlyF_tab {H : Hp} {a PT : Addr} : onlyF H a PT PT = none := if_neg fun z => z.2 rfl
theorem sqL_only {H : Hp} {a PT : Addr} {xs : List V} (h : SqL K H a xs) (hP : H PT = some (.tbl #[])) : SqL K (onlyF H a PT) a xs := by
  rcases h with h | h
  · have na : a ≠ PT := fun z => by
      rcases h with h | ⟨o, h⟩ <;> (rw [z, hP] at h; cases h)
    rcases h with h | ⟨o, h⟩
    · exact .inl (.inl (by rw [onlyF_at na]; exact h))
    · exact .inl (.inr ⟨o, by rw [onlyF_at na]; exact h⟩)
  · exact .inr h
theorem fnL {x qual : Str} {st : Stmt} {f PT : Addr} {fd : FuncData} {N : List Str} {ps : List Str} {k : Nat} {xi : XI} {fn : M (List D)} {m : M Out} {s0 : Stmt} {rest : List Stmt} (Fu : Fun K x qual st f fd) (S : FnScope N ps (defScope st)) (hps : ps.length = 1) (n j : Nat) (hn0 : n = N.length) (hl : 1 ≤ n) (hj : j < n) (hbod : defBody st = s0 :: rest)
    (h0 : ∀ (cdv : Value) (A : Around) (outer : List Env) (s : Shared) (H : Hp) (E : XK), A.guards = some [] → fd.code = cdv → Room k (A.deeper (envOfC qual (defScope st) s.heap.objs.size f cdv)) → PS (cxOf (L2.CX P w) P w K mg base N qual (defScope st) f cdv A outer s H E) s0 (tAsg (tN ⟨K, n, E, xi⟩ fn) (gName j)))
    (h1 : ∀ (cdv : Value) (A : Around) (outer : List Env) (s : Shared) (H : Hp) (E : XK), A.guards = some [] → fd.code = cdv → Room k (A.deeper (envOfC qual (defScope st) s.heap.objs.size f cdv)) → PSs (cxOf (L2.CX P w) P w K mg base N qual (defScope st) f cdv A outer s H E) rest (tS ⟨K, j, E, xi⟩ m)) :
    FnG P w K mg base (L2.CX P w) (k + 1) f fd ps (spL K PT (semL n j PT fn m)) := by
  subst hn0
  obtain ⟨oc, od, kV, doc, pm, an, cdv, ct, osl, rfl, lk, hcd⟩ := Fu.ex
  refine ⟨fun vs H Q E h => ?_, fun A outer s H args us vs Q E hg hr e0 hb r hsp => ?_⟩
  · obtain ⟨a, ns, rfl, _⟩ := h
    rw [hps]
    rfl
  have hlen : vs.length = ps.length := by
    obtain ⟨a, ns, rfl, _⟩ := hsp
    rw [hps]
    rfl
  refine LamX.run_ofS lk hcd S hr e0 hb r hlen fun hr' => ?_
  have c0 := h0 cdv A outer s H E hg rfl hr'
  have c1 := h1 cdv A outer s H E hg rfl hr'
  refine ⟨_, by rw [hbod]; exact pss_cons c0 c1, ?_⟩
  obtain ⟨a, ns, rfl, hS, hP, hv, hQ⟩ := hsp
  unfold semL at hv
  have hd : DqAll K (onlyF H a PT) [.ref a] [locked (ns.map .int)] := .cons (.scr (sqL_only hS hP) (dpAll_of_ints ns)) .nil
  refine ⟨onlyF H a PT, fun _ => none, ⟨none, argsE [locked (ns.map .int)] N.length, none⟩, ok_startP onlyF_le hd (by simpa using hl), ?_⟩
  cases e : fn ⟨none, argsE [locked (ns.map .int)] N.length, none⟩ with
  | er c d =>
    rw [e] at hv
    cases hv
  | no =>
    rw [e] at hv
    cases hv
  | ok pr =>
    obtain ⟨bs, g1⟩ := pr
    rw [e] at hv
    have hv : (match g1.es[j]? with
      | some .un => runO (m ⟨some bs, g1.es, some PT⟩)
      | _ => .no) = R.ok (PyData.bool true) := hv
    cases hu : g1.es[j]? with
    | none =>
      rw [hu] at hv
      cases hv
    | some en =>
      rw [hu] at hv
      cases en with
      | im _ => cases hv
      | ol _ => cases hv
      | oo _ => cases hv
      | un =>
        have hv : runO (m ⟨some bs, g1.es, some PT⟩) = .ok (.bool true) := hv
        intro F1 own1 H1 k1 f1 p ws hn hp hpF hpo hds
        have hP1 : H1 PT = some (.tbl #[]) := f1.keep PT _ hP rfl
        have hFP : F1 PT = none := by
          cases z : F1 PT with
          | none => rfl
          | some o =>
            rcases f1.frz PT (by rw [z]; simp) with y | y | y
            · exact absurd onlyF_tab y
            · rw [hP] at y
              cases y
            · exact absurd rfl y
        have oP : own1 PT = none := by
          cases z : own1 PT with
          | none => rfl
          | some i =>
            rcases f1.hold PT (by rw [z]; simp) with y | y
            · exact absurd rfl y
            · rw [hP] at y
              cases y
        have k2 := k1.mkbox hpo oP hu hp hpF hds hP1 hFP
        refine ⟨F1, _, _, k2, ?_⟩
        show Cont _ _ _ _ _ (m ⟨some bs, g1.es, some PT⟩) _
        cases e2 : m ⟨some bs, g1.es, some PT⟩ with
        | er c d =>
          rw [e2] at hv
          cases hv
        | no =>
          rw [e2] at hv
          cases hv
        | ok pr2 =>
          obtain ⟨o, g2⟩ := pr2
          rw [e2] at hv
          cases o with
          | nx => cases hv
          | bk => cases hv
          | ct => cases hv
          | rt d =>
            cases hv
            intro σ' F' own' H' k' f' _ v hv2
            rw [dp_bool hv2]
            exact hQ H'
end
end DL
set_option maxRecDepth 100000
set_option maxHeartbeats 4000000
namespace DL
open PySem PySem.Spec L2 PyProof.Rows
variable {P : Program} {w : World} {K : PySem.W.Frag} {mg : Str → Option Value} {base : Heap} {a : Ad}
theorem sc_law : FnScope ["script", "box", "kind", "many", "table", "rows", "numbers", "turn", "lines", "a", "b", "spoilt", "other", "due", "n", "word", "told", "changed", "four", "known", "row"] ["script"] (defScope s_law) := ⟨rfl, rfl, rfl, by decide +kernel, rfl, by decide +kernel, by decide +kernel⟩
def fn_law : M (List D) := (sLst 21 (sCons (sD (sCall 21 (sCons (nam 0) (sCons (sD (M.pur (.int 0))) (sCons (sD (M.pur (.int 63))) sNil))) f__law_digits)) (sCons (sD (M.pur (.int 0))) sNil)))
def m_law (PT : Addr) : M Out :=
  (sq (uSet 2 (sCallB 1 (sCons (sD (M.pur (.int 3))) sNil) f__law_draw))
  (sq (uSet 3 (s2 (sD (M.pur (.int 2))) (sD (sCallB 1 (sCons (sD (M.pur (.int 4))) sNil) f__law_draw)) addV))
  (sq (uIf (sT (s2 (nam 2) (sD (M.pur (.int 0))) eqV')) (sq (uAsg (callD f__law_known []) (tupG 2 (gsCons (put 4) (gsCons (put 5) gsNil))))
  (uSet 3 (M.pur (.int 2)))) (sq (uSet 4 (sCallB 1 (sCons (sD (sL (sLst 1 (sCons (sD (sCall 1 (sCons (sD (M.pur (.int 3))) sNil) f_turned_table)) (sCons (sD (sCall 1 (sCons (sD (M.pur (.int 4))) sNil) f_turned_table)) (sCons (sD (sCall 1 (sCons (sD (M.pur (.int 5))) (sCons (sD (M.pur (.int 2))) sNil)) f_shifted_table)) (sCons (sD (sCall 1 (sCons (sD (M.pur (.int 2))) sNil) f_turned_table)) sNil))))))) sNil) f__law_pick))
  (sq (uSet 6 (sL (lcF [9] ((sCons (sD ((sCons (nam 4) sNil).bind (arg1 lenW))) sNil).bind rg1) (put 9) (M.pur true) (lastF (sCallB 1 (sCons (nam 3) sNil) f__law_draw)))))
  (sq (uSet 5 ((sCons (sD (sL (lcF [9] ((sCons (sD ((sCons (nam 4) sNil).bind (arg1 lenW))) sNil).bind rg1) (put 9) (M.pur true) (lastF ((sCons (sD (sL (lcF [10] ((sCons (sD ((sCons (nam 4) sNil).bind (arg1 lenW))) sNil).bind rg1) (put 10) (M.pur true) (lastF (s2 (sD (s2 (sD (s2 (nam 6) (nam 9) atW)) (sD (s2 (nam 6) (sD (s2 (sD (s2 (nam 4) (nam 9) atW)) (nam 10) atW)) atW)) subV)) (nam 3) modV))))) sNil).bind (arg1 tupW)))))) sNil).bind (arg1 tupW)))
  (uIf (sNot (sT (sCall 1 (sCons (sD (sCall 1 (sCons (nam 4) (sCons (nam 6) (sCons (nam 3) sNil))) f_edge_weights)) (sCons (nam 5) sNil)) f__law_same))) (uRet (M.pur (.bool false))) (M.pur .nx))))))
  (sq (uIf (sOr (sT ((sD (sCall 1 (sCons (nam 4) (sCons (nam 5) (sCons (nam 3) sNil))) f__law_fault)).bind (isN true))) (sT ((sD (sCall 1 (sCons (nam 4) (sCons (nam 5) (sCons (nam 3) sNil))) f_weights_fault)).bind (isN true)))) (uRet (M.pur (.bool false))) (M.pur .nx))
  (sq (uFor ((sCons (sD (M.pur (.int 4))) sNil).bind rg1) (put 7) (sq (uSetOO 8 (lcF [20] ((sV 1 (nam 5)).bind seqF) (put 20) (M.pur true) (lastF ((sCons (nam 20) sNil).bind (arg1N lisW)))))
  (sq (uPar 1 9 10 (sCons (sD (sCallB 1 (sCons (sD ((sCons (nam 4) sNil).bind (arg1 lenW))) sNil) f__law_draw)) (sCons (sD (sCallB 1 (sCons (sD ((sCons (nam 4) sNil).bind (arg1 lenW))) sNil) f__law_draw)) sNil)))
  (sq (uAsg (sCallB 1 (sCons (sD (s2 (nam 3) (sD (M.pur (.int 1))) addV)) sNil) f__law_draw) (stOO 8 9 10))
  (sq (uSet 11 (sCallB 1 (sCons (sD (sL (sLst 1 (sCons (sD ((sCons (sD (sL (lcF [20] ((sV 1 (nam 8)).bind seqF) (put 20) (M.pur true) (lastF ((sCons (nam 20) sNil).bind (arg1 tupW)))))) sNil).bind (arg1 tupW))) (sCons (sD ((sCons (sD (sL (lcF [20] ((sV 1 (nam 8)).bind seqF) (put 20) (M.pur true) (lastF ((sCons (nam 20) sNil).bind (arg1 tupW)))))) sNil).bind (arg1 tupW))) (sCons (sD (sSl (nam 5) sNo (sPt (sD ((M.pur (.int 1)).bind negD))))) (sCons (nam 8) (sCons (sD (M.pur .none)) (sCons (sD (s2 (sD (sTup 1 (sCons (sD (s2 (sD (sTup 1 (sCons (sD (M.pur (.bool true))) sNil))) (sD ((sCons (nam 4) sNil).bind (arg1 lenW))) repTW)) sNil))) (sD (sSl (nam 5) (sPt (sD (M.pur (.int 1)))) sNo)) addV)) sNil))))))))) sNil) f__law_pick))
  (sq (uSet 12 (sCallB 1 (sCons (sD (sL (sLst 1 (sCons (nam 3) (sCons (nam 3) (sCons (nam 3) (sCons (sD (M.pur (.int 1))) (sCons (sD (M.pur (.int 13))) (sCons (sD (M.pur (.bool true))) (sCons (sD (M.pur .none)) sNil)))))))))) sNil) f__law_pick))
  (sq (uSet 13 (sCall 1 (sCons (nam 4) (sCons (nam 11) (sCons (nam 12) sNil))) f__law_fault))
  (sq (uIf (sNot (sT (sCall 1 (sCons (sD (sCall 1 (sCons (nam 4) (sCons (nam 11) (sCons (nam 12) sNil))) f_weights_fault)) (sCons (nam 13) sNil)) f__law_same))) (uRet (M.pur (.bool false))) (M.pur .nx))
  (uIf (sAnd (sT ((nam 13).bind (isN true))) (sT (s2 (sD (toldS PT (sCall 1 (sCons (sD (M.pur (.int 2))) (sCons (sD (sTup 1 (sCons (sD (M.pur (.int 1))) sNil))) (sCons (nam 4) (sCons (nam 11) (sCons (nam 12) sNil))))) f_weighed_colourings))) (sD (sL (sLst 1 (sCons (sD (M.pur (.str "refused"))) (sCons (nam 13) sNil))))) neV'))) (uRet (M.pur (.bool false))) (M.pur .nx))))))))))
  (sq (uSet 14 (s2 (sD (M.pur (.int 1))) (sD (sCallB 1 (sCons (sD (M.pur (.int 3))) sNil) f__law_draw)) addV))
  (sq (uSet 15 (sCallB 1 (sCons (nam 14) (sCons (sD (M.pur (.int 5))) sNil)) f__law_word))
  (sq (uSet 16 (sCall 1 (sCons (nam 14) (sCons (nam 15) (sCons (nam 4) (sCons (nam 5) (sCons (nam 3) sNil))))) f_weighed_colourings))
  (sq (uIf (sOr (sNot (sT (sCall 1 (sCons (nam 16) (sCons (sD (sCall 1 (sCons (nam 14) (sCons (nam 15) (sCons (nam 4) (sCons (nam 5) (sCons (nam 3) sNil))))) f__law_tried)) sNil)) f__law_same))) (sT (s2 (sD ((sCons (nam 16) sNil).bind (arg1 sumW))) (sD (sCall 1 (sCons (nam 14) (sCons (nam 15) (sCons (nam 4) sNil))) f_counted_by)) neV'))) (uRet (M.pur (.bool false))) (M.pur .nx))
  (sq (uIf (sAnd (sT (s2 (nam 2) (sD (M.pur (.int 0))) gtV)) (sT (s2 (nam 16) (sD (s2 (sD (sTup 1 (sCons (sD (sCall 1 (sCons (nam 14) (sCons (nam 15) (sCons (nam 4) sNil))) f_counted_by)) sNil))) (sD (s2 (sD (sTup 1 (sCons (sD (M.pur (.int 0))) sNil))) (sD (s2 (nam 3) (sD (M.pur (.int 1))) subV)) repTW)) addV)) neV'))) (uRet (M.pur (.bool false))) (M.pur .nx))
  (sq (uSet 17 (s2 (sD (sCallB 1 (sCons (nam 14) (sCons (nam 15) (sCons (sD (M.pur (.int 4))) (sCons (sD (M.pur (.int 9))) sNil)))) f__law_other_word)) (sD (M.pur (.int 0))) atW))
  (sq (uIf (sNot (sT (sCall 1 (sCons (sD (sCall 1 (sCons (nam 14) (sCons (sD (s2 (sD (sSl (nam 17) (sPt (sD (M.pur (.int 1)))) sNo)) (sD (sSl (nam 17) sNo (sPt (sD (M.pur (.int 1)))))) addV)) (sCons (nam 4) (sCons (nam 5) (sCons (nam 3) sNil))))) f_weighed_colourings)) (sCons (nam 16) sNil)) f__law_same))) (uRet (M.pur (.bool false))) (M.pur .nx))
  (sq (uIf (sAnd (sT (s2 (nam 14) (sD (M.pur (.int 3))) ltV)) (sNot (sT (sCall 1 (sCons (sD (sCall 1 (sCons (sD (s2 (nam 14) (sD (M.pur (.int 1))) addV)) (sCons (sD (s2 (nam 15) (sD (sTup 1 (sCons (sD (sCallB 1 (sCons (sD (sL (sLst 1 (sCons (nam 14) (sCons (sD (s2 (sD (M.pur (.int 0))) (nam 14) subV)) sNil))))) sNil) f__law_pick)) sNil))) addV)) (sCons (nam 4) (sCons (nam 5) (sCons (nam 3) sNil))))) f_weighed_colourings)) (sCons (nam 16) sNil)) f__law_same)))) (uRet (M.pur (.bool false))) (M.pur .nx))
  (sq (uAsg (callD f__law_known []) (tupG 2 (gsCons (put 18) (gsCons (put 19) gsNil))))
  (sq (uIf (sOr (sNot (sT (sCall 1 (sCons (sD (sCall 1 (sCons (sD (M.pur (.int 2))) (sCons (sD (sTup 1 (sCons (sD (M.pur (.int 1))) (sCons (sD (M.pur (.int 1))) (sCons (sD (M.pur (.int 1))) sNil))))) (sCons (nam 18) (sCons (nam 19) (sCons (sD (M.pur (.int 2))) sNil))))) f_weighed_colourings)) (sCons (sD (sTup 1 (sCons (sD (M.pur (.int 4))) (sCons (sD (M.pur (.int 12))) sNil)))) sNil)) f__law_same))) (sT (s2 (sD (sCall 1 (sCons (sD (sTup 1 (sCons (sD (sTup 1 (sCons (sD (M.pur (.int 1))) sNil))) sNil))) (sCons (nam 5) (sCons (nam 3) sNil))) f_weights_fault)) (sD (M.pur (.str "shape"))) neV'))) (uRet (M.pur (.bool false))) (M.pur .nx))
  (uRet (s2 (sD (toldS PT (sCall 1 (sCons (sD (M.pur (.int 6))) (sCons (sD (sTup 1 sNil)) (sCons (sD (sCall 1 (sCons (sD (M.pur (.int 7))) (sCons (sD (M.pur (.int 3))) sNil)) f_shifted_table)) (sCons (sD (sCall 1 (sCons (sD (sCall 1 (sCons (sD (M.pur (.int 7))) (sCons (sD (M.pur (.int 3))) sNil)) f_shifted_table)) (sCons (sD (sL (s2N (sD (sL (sLst 1 (sCons (sD (M.pur (.int 0))) sNil)))) (sD (M.pur (.int 7))) repN))) (sCons (sD (M.pur (.int 2))) sNil))) f_edge_weights)) (sCons (sD (M.pur (.int 2))) sNil))))) f_weighed_colourings))) (sD (sL (sLst 1 (sCons (sD (M.pur (.str "too many"))) (sCons (sD (M.pur (.str "tries"))) sNil))))) eqV')))))))))))))))))
def f_law (PT : Addr) (ds : List D) : R D := semL 21 1 PT fn_law (m_law PT) ds
set_option maxHeartbeats 8000000 in
theorem ok_law {PT cT : Addr} (T : Txt P K mg a) (M : ExmT K a) (TB : LamX.TabB base mg cT PT) (hct : a.a_law_d.code = .ref cT) (c__law_digits : FnOk P w K mg base (L2.CX P w) 2 a.a__law_digits a.a__law_digits_d ["script", "first", "last"] (spP K a.xi 3 f__law_digits)) (c__law_draw : FnOk P w K mg base (L2.CX P w) 1 a.a__law_draw a.a__law_draw_d ["box", "m"] (spB K a.xi 2 f__law_draw)) (c__law_fault : FnOk P w K mg base (L2.CX P w) 3 a.a__law_fault a.a__law_fault_d ["table", "rows", "many"] (spP K a.xi 3 f__law_fault)) (c__law_known : FnOk P w K mg base (L2.CX P w) 1 a.a__law_known a.a__law_known_d [] (spP K a.xi 0 f__law_known)) (c__law_other_word : FnOk P w K mg base (L2.CX P w) 3 a.a__law_other_word a.a__law_other_word_d ["box", "n", "word", "turns", "long"] (spB K a.xi 5 f__law_other_word)) (c__law_pick : FnOk P w K mg base (L2.CX P w) 2 a.a__law_pick a.a__law_pick_d ["box", "rows"] (spB K a.xi 2 f__law_pick)) (c__law_same : FnG P w K mg base (L2.CX P w) 1 a.a__law_same a.a__law_same_d ["a", "b"] (spP K a.xi 2 f__law_same)) (c__law_tried : FnOk P w K mg base (L2.CX P w) 1 a.a__law_tried a.a__law_tried_d ["n", "word", "table", "rows", "many"] (spP K a.xi 5 f__law_tried)) (c__law_word : FnOk P w K mg base (L2.CX P w) 2 a.a__law_word a.a__law_word_d ["box", "n", "most"] (spB K a.xi 3 f__law_word)) (c_counted_by : FnOk P w K mg base (L2.CX P w) 4 a.a_counted_by a.a_counted_by_d ["n", "word", "table"] (spP K a.xi 3 f_counted_by)) (c_edge_weights : FnOk P w K mg base (L2.CX P w) 1 a.a_edge_weights a.a_edge_weights_d ["table", "numbers", "many"] (spP K a.xi 3 f_edge_weights)) (c_shifted_table : FnOk P w K mg base (L2.CX P w) 1 a.a_shifted_table a.a_shifted_table_d ["many", "by"] (spP K a.xi 2 f_shifted_table)) (c_turned_table : FnOk P w K mg base (L2.CX P w) 1 a.a_turned_table a.a_turned_table_d ["many"] (spP K a.xi 1 f_turned_table)) (c_weighed_colourings : FnOk P w K mg base (L2.CX P w) 4 a.a_weighed_colourings a.a_weighed_colourings_d ["n", "word", "table", "rows", "many"] (spP K a.xi 5 f_weighed_colourings)) (c_weights_fault : FnOk P w K mg base (L2.CX P w) 3 a.a_weights_fault a.a_weights_fault_d ["table", "rows", "many"] (spP K a.xi 3 f_weights_fault)) : FnG P w K mg base (L2.CX P w) 7 a.a_law a.a_law_d ["script"] (spL K PT (f_law PT)) := by
  refine fnL (xi := a.xi) T.f_law sc_law rfl 21 1 rfl (by decide) (by decide) rfl (fun cdv A outer s H E hg hcc hr => ?_) fun cdv A outer s H E hg hcc hr => ?_
  · have hx := passes_call (E := E) (takes_of (X := cxOf (L2.CX P w) P w K mg base ["script", "box", "kind", "many", "table", "rows", "numbers", "turn", "lines", "a", "b", "spoilt", "other", "due", "n", "word", "told", "changed", "four", "known", "row"] "law" (defScope s_law) a.a_law cdv A outer s H E) rfl rfl rfl rfl) fun _ _ _ _ z => z
    exact ps_set sc_law.nd rfl (by first | exact .inl rfl | exact .inr rfl) (xLst (xCons (dv (xCall rfl c__law_digits (hr.mono (by decide)) (by rfl) T.g__law_digits T.f__law_digits.kp T.n__law_digits hx (xCons (xNam (pv 0)) (xCons (dv xInt) (xCons (dv xInt) xNil))) (ln1 (ln1 (ln1 ln0))))) (xCons (dv xInt) xNil)))
  · have hx := passes_call (E := E) (takes_of (X := cxOf (L2.CX P w) P w K mg base ["script", "box", "kind", "many", "table", "rows", "numbers", "turn", "lines", "a", "b", "spoilt", "other", "due", "n", "word", "told", "changed", "four", "known", "row"] "law" (defScope s_law) a.a_law cdv A outer s H E) rfl rfl rfl rfl) fun _ _ _ _ z => z
    have hco : cdv = .ref cT := by rw [← hcc, hct]
    exact (yCons (ySet (show (2 : Nat) ≠ 1 from by decide) sc_law.nd rfl (by first | exact .inl rfl | exact .inr rfl) (xCallBox rfl c__law_draw (hr.mono (by decide)) (by rfl) T.g__law_draw T.f__law_draw.kp T.n__law_draw hx (pv 1) (xCons (dv xInt) xNil) (ln1 ln0)))
    (yCons (ySet (show (3 : Nat) ≠ 1 from by decide) sc_law.nd rfl (by first | exact .inl rfl | exact .inr rfl) (xAdd rfl (dv xInt) (dv (xCallBox rfl c__law_draw (hr.mono (by decide)) (by rfl) T.g__law_draw T.f__law_draw.kp T.n__law_draw hx (pv 1) (xCons (dv xInt) xNil) (ln1 ln0)))))
    (yCons (yIf (xCmpT (op_eqD hr.units) (eqV_ok rfl) (xNam (pv 2)) (dv xInt) (nomark _)) (yCons (yAsg (xCall0 rfl c__law_known (hr.mono (by decide)) (by rfl) T.g__law_known T.f__law_known.kp T.n__law_known hx) (gTup' rfl rfl (gCons' (gNam (show (4 : Nat) ≠ 1 from by decide) sc_law.nd rfl (by first | exact .inl rfl | exact .inr rfl)) (gCons' (gNam (show (5 : Nat) ≠ 1 from by decide) sc_law.nd rfl (by first | exact .inl rfl | exact .inr rfl)) gNil'))))
    (yOne (ySet (show (3 : Nat) ≠ 1 from by decide) sc_law.nd rfl (by first | exact .inl rfl | exact .inr rfl) xInt))) (yCons (ySet (show (4 : Nat) ≠ 1 from by decide) sc_law.nd rfl (by first | exact .inl rfl | exact .inr rfl) (xCallBox rfl c__law_pick (hr.mono (by decide)) (by rfl) T.g__law_pick T.f__law_pick.kp T.n__law_pick hx (pv 1) (xCons (dv (nd (xLst (xCons (dv (xCall rfl c_turned_table (hr.mono (by decide)) (by rfl) T.g_turned_table T.f_turned_table.kp T.n_turned_table hx (xCons (dv xInt) xNil) (ln1 ln0))) (xCons (dv (xCall rfl c_turned_table (hr.mono (by decide)) (by rfl) T.g_turned_table T.f_turned_table.kp T.n_turned_table hx (xCons (dv xInt) xNil) (ln1 ln0))) (xCons (dv (xCall rfl c_shifted_table (hr.mono (by decide)) (by rfl) T.g_shifted_table T.f_shifted_table.kp T.n_shifted_table hx (xCons (dv xInt) (xCons (dv xInt) xNil)) (ln1 (ln1 ln0)))) (xCons (dv (xCall rfl c_turned_table (hr.mono (by decide)) (by rfl) T.g_turned_table T.f_turned_table.kp T.n_turned_table hx (xCons (dv xInt) xNil) (ln1 ln0))) xNil))))))) xNil) (ln1 ln0)))
    (yCons (ySet (show (6 : Nat) ≠ 1 from by decide) sc_law.nd rfl (by first | exact .inl rfl | exact .inr rfl) (nd (xLc (show (1 : Nat) ∉ [9] from by decide) (by decide) (cmp1 (own := [("a", 9)]) rfl sc_law.nd (wRange1 (by rfl) T.b_range (xCons (dv (xCallB call_lenA (lenW_ok rfl) (by rfl) T.b_len (by decide +kernel) (xCons (xNam (pv 4)) xNil))) xNil)) (blkOk_by rfl) (fun _ => rfl) fun _ _ _ _ _ => ⟨(gNamV (show (9 : Nat) ≠ 1 from by decide) (by decide) sc_law.nd rfl (by first | exact .inl rfl | exact .inr rfl)), tB_yes, (xCallBox rfl c__law_draw (hr.mono (by decide)) (by rfl) T.g__law_draw T.f__law_draw.kp T.n__law_draw passL (pv 1) (xCons (xNam (pv 3)) xNil) (ln1 ln0))⟩))))
    (yCons (ySet (show (5 : Nat) ≠ 1 from by decide) sc_law.nd rfl (by first | exact .inl rfl | exact .inr rfl) (xCallTy call_tuple_of (tupW_ok rfl) (by rfl) T.b_tuple (by decide +kernel) (xCons (dv (nd (xLc (show (1 : Nat) ∉ [9] from by decide) (by decide) (cmp1 (own := [("a", 9)]) rfl sc_law.nd (wRange1 (by rfl) T.b_range (xCons (dv (xCallB call_lenA (lenW_ok rfl) (by rfl) T.b_len (by decide +kernel) (xCons (xNam (pv 4)) xNil))) xNil)) (blkOk_by rfl) (fun _ => rfl) fun _ _ _ _ _ => ⟨(gNamV (show (9 : Nat) ≠ 1 from by decide) (by decide) sc_law.nd rfl (by first | exact .inl rfl | exact .inr rfl)), tB_yes, (xCallTy call_tuple_of (tupW_ok rfl) (by rfl) T.b_tuple (by decide +kernel) (xCons (dv (nd (xLc (show (1 : Nat) ∉ [10] from by decide) (by decide) (cmp1 (own := [("b", 10)]) rfl sc_law.nd (wRange1 (by rfl) T.b_range (xCons (dv (xCallB call_lenA (lenW_ok rfl) (by rfl) T.b_len (by decide +kernel) (xCons (xNam (pv 4)) xNil))) xNil)) (blkOk_by rfl) (fun _ => rfl) fun _ _ _ _ _ => ⟨(gNamV (show (10 : Nat) ≠ 1 from by decide) (by decide) sc_law.nd rfl (by first | exact .inl rfl | exact .inr rfl)), tB_yes, (xMod (dv (xSub (dv (xIx rfl (xNam (pv 6)) (xNam (pv 9)))) (dv (xIx rfl (xNam (pv 6)) (dv (xIx rfl (dv (xIx rfl (xNam (pv 4)) (xNam (pv 9)))) (xNam (pv 10)))))))) (xNam (pv 3)))⟩)))) xNil))⟩)))) xNil)))
    (yOne (yIf (xNot (xTestB (xCallG rfl c__law_same hg (hr.mono (by decide)) (by rfl) T.g__law_same T.f__law_same.kp T.n__law_same hx (xCons (dv (xCall rfl c_edge_weights (hr.mono (by decide)) (by rfl) T.g_edge_weights T.f_edge_weights.kp T.n_edge_weights hx (xCons (xNam (pv 4)) (xCons (xNam (pv 6)) (xCons (xNam (pv 3)) xNil))) (ln1 (ln1 (ln1 ln0))))) (xCons (xNam (pv 5)) xNil)) (ln1 (ln1 ln0))))) (yOne (yRet xBl)) yNil))))))
    (yCons (yIf (PW.pt (xOr (xNotNT (dv (xCall rfl c__law_fault (hr.mono (by decide)) (by rfl) T.g__law_fault T.f__law_fault.kp T.n__law_fault hx (xCons (xNam (pv 4)) (xCons (xNam (pv 5)) (xCons (xNam (pv 3)) xNil))) (ln1 (ln1 (ln1 ln0)))))) (xOr1 (xNotNT (dv (xCall rfl c_weights_fault (hr.mono (by decide)) (by rfl) T.g_weights_fault T.f_weights_fault.kp T.n_weights_fault hx (xCons (xNam (pv 4)) (xCons (xNam (pv 5)) (xCons (xNam (pv 3)) xNil))) (ln1 (ln1 (ln1 ln0))))))))) (yOne (yRet xBl)) yNil)
    (yCons (yFor (passes_of rfl) rfl (wRange1 (by rfl) T.b_range (xCons (dv xInt) xNil)) (gNam (show (7 : Nat) ≠ 1 from by decide) sc_law.nd rfl (by first | exact .inl rfl | exact .inr rfl)) (yCons (yCmpN (show (1 : Nat) ∉ [20] from by decide) (show (8 : Nat) ≠ 1 from by decide) (by decide) rfl rfl (sw_true rfl rfl rfl rfl) (cmp1N (own := [("row", 20)]) rfl sc_law.nd (wSeq rfl (vd (xNam (pv 5)))) (blkOk_by rfl) (fun _ => rfl) fun _ _ _ _ _ => ⟨(gNamV (show (20 : Nat) ≠ 1 from by decide) (by decide) sc_law.nd rfl (by first | exact .inl rfl | exact .inr rfl)), tB_yes, (xCallTyN call_list_of (lisW_ok rfl) (by rfl) T.b_list (by decide +kernel) (xCons (xNam (pv 20)) xNil))⟩))
    (yCons (yPar (show (9 : Nat) ≠ 1 from by decide) (show (10 : Nat) ≠ 1 from by decide) rfl sc_law.nd rfl rfl (by decide) rfl rfl (xCons (dv (xCallBox rfl c__law_draw (hr.mono (by decide)) (by rfl) T.g__law_draw T.f__law_draw.kp T.n__law_draw hx (pv 1) (xCons (dv (xCallB call_lenA (lenW_ok rfl) (by rfl) T.b_len (by decide +kernel) (xCons (xNam (pv 4)) xNil))) xNil) (ln1 ln0))) (xCons (dv (xCallBox rfl c__law_draw (hr.mono (by decide)) (by rfl) T.g__law_draw T.f__law_draw.kp T.n__law_draw hx (pv 1) (xCons (dv (xCallB call_lenA (lenW_ok rfl) (by rfl) T.b_len (by decide +kernel) (xCons (xNam (pv 4)) xNil))) xNil) (ln1 ln0))) xNil)) rfl)
    (yCons (yAsg (xCallBox rfl c__law_draw (hr.mono (by decide)) (by rfl) T.g__law_draw T.f__law_draw.kp T.n__law_draw hx (pv 1) (xCons (dv (xAdd rfl (xNam (pv 3)) (dv xInt))) xNil) (ln1 ln0)) (gSubSub (show (8 : Nat) ≠ 1 from by decide) rfl (pv 8) (pv 9) (pv 10)))
    (yCons (ySet (show (11 : Nat) ≠ 1 from by decide) sc_law.nd rfl (by first | exact .inl rfl | exact .inr rfl) (xCallBox rfl c__law_pick (hr.mono (by decide)) (by rfl) T.g__law_pick T.f__law_pick.kp T.n__law_pick hx (pv 1) (xCons (dv (nd (xLst (xCons (dv (xCallTy call_tuple_of (tupW_ok rfl) (by rfl) T.b_tuple (by decide +kernel) (xCons (dv (nd (xLc (show (1 : Nat) ∉ [20] from by decide) (by decide) (cmp1 (own := [("row", 20)]) rfl sc_law.nd (wSeq rfl (vd (xNam (pv 8)))) (blkOk_by rfl) (fun _ => rfl) fun _ _ _ _ _ => ⟨(gNamV (show (20 : Nat) ≠ 1 from by decide) (by decide) sc_law.nd rfl (by first | exact .inl rfl | exact .inr rfl)), tB_yes, (xCallTy call_tuple_of (tupW_ok rfl) (by rfl) T.b_tuple (by decide +kernel) (xCons (xNam (pv 20)) xNil))⟩)))) xNil))) (xCons (dv (xCallTy call_tuple_of (tupW_ok rfl) (by rfl) T.b_tuple (by decide +kernel) (xCons (dv (nd (xLc (show (1 : Nat) ∉ [20] from by decide) (by decide) (cmp1 (own := [("row", 20)]) rfl sc_law.nd (wSeq rfl (vd (xNam (pv 8)))) (blkOk_by rfl) (fun _ => rfl) fun _ _ _ _ _ => ⟨(gNamV (show (20 : Nat) ≠ 1 from by decide) (by decide) sc_law.nd rfl (by first | exact .inl rfl | exact .inr rfl)), tB_yes, (xCallTy call_tuple_of (tupW_ok rfl) (by rfl) T.b_tuple (by decide +kernel) (xCons (xNam (pv 20)) xNil))⟩)))) xNil))) (xCons (dv (xSl rfl (xNam (pv 5)) xPartN (xPart (dv (xNeg xInt))))) (xCons (xNam (pv 8)) (xCons (dv xNon) (xCons (dv (xAdd rfl (dv (xTup (xCons (dv (xRepT rfl (dv (xTup (xCons (dv xBl) xNil))) (dv (xCallB call_lenA (lenW_ok rfl) (by rfl) T.b_len (by decide +kernel) (xCons (xNam (pv 4)) xNil))))) xNil))) (dv (xSl rfl (xNam (pv 5)) (xPart (dv xInt)) xPartN)))) xNil))))))))) xNil) (ln1 ln0)))
    (yCons (ySet (show (12 : Nat) ≠ 1 from by decide) sc_law.nd rfl (by first | exact .inl rfl | exact .inr rfl) (xCallBox rfl c__law_pick (hr.mono (by decide)) (by rfl) T.g__law_pick T.f__law_pick.kp T.n__law_pick hx (pv 1) (xCons (dv (nd (xLst (xCons (xNam (pv 3)) (xCons (xNam (pv 3)) (xCons (xNam (pv 3)) (xCons (dv xInt) (xCons (dv xInt) (xCons (dv xBl) (xCons (dv xNon) xNil)))))))))) xNil) (ln1 ln0)))
    (yCons (ySet (show (13 : Nat) ≠ 1 from by decide) sc_law.nd rfl (by first | exact .inl rfl | exact .inr rfl) (xCall rfl c__law_fault (hr.mono (by decide)) (by rfl) T.g__law_fault T.f__law_fault.kp T.n__law_fault hx (xCons (xNam (pv 4)) (xCons (xNam (pv 11)) (xCons (xNam (pv 12)) xNil))) (ln1 (ln1 (ln1 ln0)))))
    (yCons (yIf (xNot (xTestB (xCallG rfl c__law_same hg (hr.mono (by decide)) (by rfl) T.g__law_same T.f__law_same.kp T.n__law_same hx (xCons (dv (xCall rfl c_weights_fault (hr.mono (by decide)) (by rfl) T.g_weights_fault T.f_weights_fault.kp T.n_weights_fault hx (xCons (xNam (pv 4)) (xCons (xNam (pv 11)) (xCons (xNam (pv 12)) xNil))) (ln1 (ln1 (ln1 ln0))))) (xCons (xNam (pv 13)) xNil)) (ln1 (ln1 ln0))))) (yOne (yRet xBl)) yNil)
    (yOne (yIf (PW.pt (xAnd (xNotNT (xNam (pv 13))) (xAnd1 (xCmpT (op_neD hr.units) (neV_ok rfl) (dv (xTold (k := 4) T M rfl rfl rfl (by rfl) TB hco (hr.mono (by decide)) (LamX.lamS_by rfl) rfl (fun _ _ _ _ _ => rfl) fun A2 outer2 s2 H2 E2 f2 c2 hr => (xCall rfl c_weighed_colourings (hr.mono (by decide)) (by rfl) T.g_weighed_colourings T.f_weighed_colourings.kp T.n_weighed_colourings (passes_call (takes_of rfl rfl rfl rfl) fun _ _ _ _ z => z) (xCons (dv xInt) (xCons (dv (xTup (xCons (dv xInt) xNil))) (xCons (xNam (pv 4)) (xCons (xNam (pv 11)) (xCons (xNam (pv 12)) xNil))))) (ln1 (ln1 (ln1 (ln1 (ln1 ln0)))))))) (dv (nd (xLst (xCons (dv xStr) (xCons (xNam (pv 13)) xNil))))) (nomark _))))) (yOne (yRet xBl)) yNil))))))))))
    (yCons (ySet (show (14 : Nat) ≠ 1 from by decide) sc_law.nd rfl (by first | exact .inl rfl | exact .inr rfl) (xAdd rfl (dv xInt) (dv (xCallBox rfl c__law_draw (hr.mono (by decide)) (by rfl) T.g__law_draw T.f__law_draw.kp T.n__law_draw hx (pv 1) (xCons (dv xInt) xNil) (ln1 ln0)))))
    (yCons (ySet (show (15 : Nat) ≠ 1 from by decide) sc_law.nd rfl (by first | exact .inl rfl | exact .inr rfl) (xCallBox rfl c__law_word (hr.mono (by decide)) (by rfl) T.g__law_word T.f__law_word.kp T.n__law_word hx (pv 1) (xCons (xNam (pv 14)) (xCons (dv xInt) xNil)) (ln1 (ln1 ln0))))
    (yCons (ySet (show (16 : Nat) ≠ 1 from by decide) sc_law.nd rfl (by first | exact .inl rfl | exact .inr rfl) (xCall rfl c_weighed_colourings (hr.mono (by decide)) (by rfl) T.g_weighed_colourings T.f_weighed_colourings.kp T.n_weighed_colourings hx (xCons (xNam (pv 14)) (xCons (xNam (pv 15)) (xCons (xNam (pv 4)) (xCons (xNam (pv 5)) (xCons (xNam (pv 3)) xNil))))) (ln1 (ln1 (ln1 (ln1 (ln1 ln0)))))))
    (yCons (yIf (PW.pt (xOr (xNot (xTestB (xCallG rfl c__law_same hg (hr.mono (by decide)) (by rfl) T.g__law_same T.f__law_same.kp T.n__law_same hx (xCons (xNam (pv 16)) (xCons (dv (xCall rfl c__law_tried (hr.mono (by decide)) (by rfl) T.g__law_tried T.f__law_tried.kp T.n__law_tried hx (xCons (xNam (pv 14)) (xCons (xNam (pv 15)) (xCons (xNam (pv 4)) (xCons (xNam (pv 5)) (xCons (xNam (pv 3)) xNil))))) (ln1 (ln1 (ln1 (ln1 (ln1 ln0))))))) xNil)) (ln1 (ln1 ln0))))) (xOr1 (xCmpT (op_neD hr.units) (neV_ok rfl) (dv (xCallB (call_sumA rfl) (sumW_ok rfl) (by rfl) T.b_sum (by decide +kernel) (xCons (xNam (pv 16)) xNil))) (dv (xCall rfl c_counted_by (hr.mono (by decide)) (by rfl) T.g_counted_by T.f_counted_by.kp T.n_counted_by hx (xCons (xNam (pv 14)) (xCons (xNam (pv 15)) (xCons (xNam (pv 4)) xNil))) (ln1 (ln1 (ln1 ln0))))) (nomark _))))) (yOne (yRet xBl)) yNil)
    (yCons (yIf (PW.pt (xAnd (xCmpT op_gt gtV_ok (xNam (pv 2)) (dv xInt) (nomark _)) (xAnd1 (xCmpT (op_neD hr.units) (neV_ok rfl) (xNam (pv 16)) (dv (xAdd rfl (dv (xTup (xCons (dv (xCall rfl c_counted_by (hr.mono (by decide)) (by rfl) T.g_counted_by T.f_counted_by.kp T.n_counted_by hx (xCons (xNam (pv 14)) (xCons (xNam (pv 15)) (xCons (xNam (pv 4)) xNil))) (ln1 (ln1 (ln1 ln0))))) xNil))) (dv (xRepT rfl (dv (xTup (xCons (dv xInt) xNil))) (dv (xSub (xNam (pv 3)) (dv xInt))))))) (nomark _))))) (yOne (yRet xBl)) yNil)
    (yCons (ySet (show (17 : Nat) ≠ 1 from by decide) sc_law.nd rfl (by first | exact .inl rfl | exact .inr rfl) (xIx rfl (dv (xCallBox rfl c__law_other_word (hr.mono (by decide)) (by rfl) T.g__law_other_word T.f__law_other_word.kp T.n__law_other_word hx (pv 1) (xCons (xNam (pv 14)) (xCons (xNam (pv 15)) (xCons (dv xInt) (xCons (dv xInt) xNil)))) (ln1 (ln1 (ln1 (ln1 ln0)))))) (dv xInt)))
    (yCons (yIf (xNot (xTestB (xCallG rfl c__law_same hg (hr.mono (by decide)) (by rfl) T.g__law_same T.f__law_same.kp T.n__law_same hx (xCons (dv (xCall rfl c_weighed_colourings (hr.mono (by decide)) (by rfl) T.g_weighed_colourings T.f_weighed_colourings.kp T.n_weighed_colourings hx (xCons (xNam (pv 14)) (xCons (dv (xAdd rfl (dv (xSl rfl (xNam (pv 17)) (xPart (dv xInt)) xPartN)) (dv (xSl rfl (xNam (pv 17)) xPartN (xPart (dv xInt)))))) (xCons (xNam (pv 4)) (xCons (xNam (pv 5)) (xCons (xNam (pv 3)) xNil))))) (ln1 (ln1 (ln1 (ln1 (ln1 ln0))))))) (xCons (xNam (pv 16)) xNil)) (ln1 (ln1 ln0))))) (yOne (yRet xBl)) yNil)
    (yCons (yIf (PW.pt (xAnd (xCmpT op_lt ltV_ok (xNam (pv 14)) (dv xInt) (nomark _)) (xAnd1 (xNot (xTestB (xCallG rfl c__law_same hg (hr.mono (by decide)) (by rfl) T.g__law_same T.f__law_same.kp T.n__law_same hx (xCons (dv (xCall rfl c_weighed_colourings (hr.mono (by decide)) (by rfl) T.g_weighed_colourings T.f_weighed_colourings.kp T.n_weighed_colourings hx (xCons (dv (xAdd rfl (xNam (pv 14)) (dv xInt))) (xCons (dv (xAdd rfl (xNam (pv 15)) (dv (xTup (xCons (dv (xCallBox rfl c__law_pick (hr.mono (by decide)) (by rfl) T.g__law_pick T.f__law_pick.kp T.n__law_pick hx (pv 1) (xCons (dv (nd (xLst (xCons (xNam (pv 14)) (xCons (dv (xSub (dv xInt) (xNam (pv 14)))) xNil))))) xNil) (ln1 ln0))) xNil))))) (xCons (xNam (pv 4)) (xCons (xNam (pv 5)) (xCons (xNam (pv 3)) xNil))))) (ln1 (ln1 (ln1 (ln1 (ln1 ln0))))))) (xCons (xNam (pv 16)) xNil)) (ln1 (ln1 ln0)))))))) (yOne (yRet xBl)) yNil)
    (yCons (yAsg (xCall0 rfl c__law_known (hr.mono (by decide)) (by rfl) T.g__law_known T.f__law_known.kp T.n__law_known hx) (gTup' rfl rfl (gCons' (gNam (show (18 : Nat) ≠ 1 from by decide) sc_law.nd rfl (by first | exact .inl rfl | exact .inr rfl)) (gCons' (gNam (show (19 : Nat) ≠ 1 from by decide) sc_law.nd rfl (by first | exact .inl rfl | exact .inr rfl)) gNil'))))
    (yCons (yIf (PW.pt (xOr (xNot (xTestB (xCallG rfl c__law_same hg (hr.mono (by decide)) (by rfl) T.g__law_same T.f__law_same.kp T.n__law_same hx (xCons (dv (xCall rfl c_weighed_colourings (hr.mono (by decide)) (by rfl) T.g_weighed_colourings T.f_weighed_colourings.kp T.n_weighed_colourings hx (xCons (dv xInt) (xCons (dv (xTup (xCons (dv xInt) (xCons (dv xInt) (xCons (dv xInt) xNil))))) (xCons (xNam (pv 18)) (xCons (xNam (pv 19)) (xCons (dv xInt) xNil))))) (ln1 (ln1 (ln1 (ln1 (ln1 ln0))))))) (xCons (dv (xTup (xCons (dv xInt) (xCons (dv xInt) xNil)))) xNil)) (ln1 (ln1 ln0))))) (xOr1 (xCmpT (op_neD hr.units) (neV_ok rfl) (dv (xCall rfl c_weights_fault (hr.mono (by decide)) (by rfl) T.g_weights_fault T.f_weights_fault.kp T.n_weights_fault hx (xCons (dv (xTup (xCons (dv (xTup (xCons (dv xInt) xNil))) xNil))) (xCons (xNam (pv 5)) (xCons (xNam (pv 3)) xNil))) (ln1 (ln1 (ln1 ln0))))) (dv xStr) (nomark _))))) (yOne (yRet xBl)) yNil)
    (yOne (yRet (xCmp (op_eqD hr.units) (eqV_ok rfl) (dv (xTold (k := 4) T M rfl rfl rfl (by rfl) TB hco (hr.mono (by decide)) (LamX.lamS_by rfl) rfl (fun _ _ _ _ _ => rfl) fun A2 outer2 s2 H2 E2 f2 c2 hr => (xCall rfl c_weighed_colourings (hr.mono (by decide)) (by rfl) T.g_weighed_colourings T.f_weighed_colourings.kp T.n_weighed_colourings (passes_call (takes_of rfl rfl rfl rfl) fun _ _ _ _ z => z) (xCons (dv xInt) (xCons (dv (xTup xNil)) (xCons (dv (xCall rfl c_shifted_table (hr.mono (by decide)) (by rfl) T.g_shifted_table T.f_shifted_table.kp T.n_shifted_table (passes_call (takes_of rfl rfl rfl rfl) fun _ _ _ _ z => z) (xCons (dv xInt) (xCons (dv xInt) xNil)) (ln1 (ln1 ln0)))) (xCons (dv (xCall rfl c_edge_weights (hr.mono (by decide)) (by rfl) T.g_edge_weights T.f_edge_weights.kp T.n_edge_weights (passes_call (takes_of rfl rfl rfl rfl) fun _ _ _ _ z => z) (xCons (dv (xCall rfl c_shifted_table (hr.mono (by decide)) (by rfl) T.g_shifted_table T.f_shifted_table.kp T.n_shifted_table (passes_call (takes_of rfl rfl rfl rfl) fun _ _ _ _ z => z) (xCons (dv xInt) (xCons (dv xInt) xNil)) (ln1 (ln1 ln0)))) (xCons (dv (nd (xBinN op_rep repN_ok (dv (nd (xLst (xCons (dv xInt) xNil)))) (dv xInt)))) (xCons (dv xInt) xNil))) (ln1 (ln1 (ln1 ln0))))) (xCons (dv xInt) xNil))))) (ln1 (ln1 (ln1 (ln1 (ln1 ln0)))))))) (dv (nd (xLst (xCons (dv xStr) (xCons (dv xStr) xNil))))) (nomark _)))))))))))))))))))
end DL
set_option maxRecDepth 100000
set_option maxHeartbeats 4000000
/-! DEnd: law called from the top, where no repr runs. -/
namespace DL
open PySem PySem.Spec L2 PyProof.Rows
/-- what is tracked at the call -/
def atTop (K : PySem.W.Frag) (PT sc : Addr) (raw : List Value) (xs : List V) : Hp := fun b => if b = PT then some (.tbl #[]) else if b = sc ∧ K.lookup sc = none then some (.frz { cls := .type "list", data := .seq raw.toArray } (.lst xs)) else none
section
variable {P : Program} {w : World} {K : PySem.W.Frag} {mg mb : Str → Option Value} {k : Nat} {fa sc cT PT : Addr} {fd : FuncData} {nm : Str} {f : List D → R D} {st : Shared} {raw : List Value} {ns : List Int}
theorem atTop_PT {xs : List V} : atTop K PT sc raw xs PT = some (.tbl #[]) := if_pos rfl
theorem atTop_cases {xs : List V} {b : Addr} {u : HO} (z : atTop K PT sc raw xs b = some u) : (b = PT ∧ u = .tbl #[]) ∨ (b = sc ∧ K.lookup sc = none ∧ u = .frz { cls := .type "list", data := .seq raw.toArray } (.lst xs)) := by
  unfold atTop at z
  by_cases h1 : b = PT
  · rw [if_pos h1] at z
    exact .inl ⟨h1, (Option.some.inj z).symm⟩
  · rw [if_neg h1] at z
    by_cases h2 : b = sc ∧ K.lookup sc = none
    · rw [if_pos h2] at z
      exact .inr ⟨h2.1, h2.2, (Option.some.inj z).symm⟩
    · rw [if_neg h2] at z
      cases z
theorem end_call (kin : K.In st.heap) (glob : st.heap.Ns mainGlobals mg) (blt : st.heap.Ns builtinsNs mb) (bltIs : ∀ y : Str, y ≠ "__name__" → mb y = bootBuiltins y) (free : st.heap.NoLimit) (noGen : st.gens = #[])
    (tabAt : st.heap.get? PT = some { cls := .none, data := .fields #[] }) (tabNo : K.lookup PT = none) (code : PySem.W.CodeHd st.heap cT PT)
    (bmain : ∃ (bm : Addr) (ob : Obj), mg "__builtins__" = some (.ref bm) ∧ bm ≠ builtinsNs ∧ st.heap.get? bm = some ob ∧ ob.cls = .type "module" ∧ ob.dict = some builtinsNs ∧ ob.data = .plain)
    (scAt : st.heap.get? sc = some { cls := .type "list", data := .seq raw.toArray }) (areInts : IntsAre raw ns) (short : ns.length ≤ sizeLine) (room : Room k callerA)
    (go : ∀ base : Heap, K.In base → base.Ns mainGlobals mg → LamX.TabB base mg cT PT → FnG P w K mg base (L2.CX P w) k fa fd [nm] (spL K PT f)) (takes : ∀ (s : Shared) (u : Value), BindsTo s fd ⟨[u], []⟩ [(nm, u)])
    (says : f [locked (ns.map .int)] = .ok (.bool true)) :
    codeAny (model P w) callerA (.call (.ref fa) ⟨[.ref sc], []⟩) (fun r s' => r = .ok (.ret (.bool true)) ∧ OldK st.heap s'.heap ∧ s'.os = st.os ∧ AllBare s'.gens) st := by
  have isInts := vals_ints areInts
  have diff : sc ≠ PT := fun z => by
    rw [z, tabAt] at scAt
    cases (show Data.fields #[] = Data.seq raw.toArray _ from congrArg Obj.data (Option.some.inj scAt))
  generalize hH : atTop K PT sc raw (ns.map V.int) = H
  have cs : ∀ {b : Addr} {u : HO}, H b = some u → (b = PT ∧ u = .tbl #[]) ∨ (b = sc ∧ K.lookup sc = none ∧ u = .frz { cls := .type "list", data := .seq raw.toArray } (.lst (ns.map V.int))) := fun z => atTop_cases (by rw [hH]; exact z)
  have hPT : H PT = some (.tbl #[]) := by rw [← hH]; exact atTop_PT
  have okH : HOk P w H st.heap := fun b u z => by
    rcases cs z with ⟨rfl, rfl⟩ | ⟨rfl, _, rfl⟩
    · exact tabAt
    · exact ⟨scAt, by rw [List.length_map]; exact short, raw, _, isInts, scAt⟩
  have none_of : ∀ {b : Addr} {o : Obj}, st.heap.get? b = some o → b ≠ PT → (b = sc → K.lookup sc ≠ none) → H b = none := fun {b o} e n1 n2 => by
    cases q : H b with
    | none => rfl
    | some u =>
      rcases cs q with ⟨z, _⟩ | ⟨z, z2, _⟩
      · exact (n1 z).elim
      · exact (n2 z z2).elim
  have hid : ∀ {b : Addr} {o : Obj}, st.heap.get? b = some o → (∀ vs n, o.data ≠ .seq vs n) → o.data ≠ .fields #[] → (hidT st.heap H).get? b = some o := fun {b o} e d1 d2 => hidT_get e (none_of e (fun z => by
      rw [z, tabAt] at e
      cases e
      exact d2 rfl) fun z => by
      rw [z, scAt] at e
      cases e
      exact (d1 _ _ rfl).elim)
  have hidNs : ∀ {b : Addr} {m : Str → Option Value}, st.heap.Ns b m → (hidT st.heap H).Ns b m := fun ⟨o, es, ep, e, d, r⟩ => ⟨o, es, ep, hid e (fun vs n z => by rw [d] at z; cases z) (fun z => by rw [d] at z; cases z), d, r⟩
  have kinB : K.In (hidT st.heap H) := fun b o e => hidT_get (kin b o e) (none_of (kin b o e) (fun z => by rw [z, tabNo] at e; cases e) fun z z2 => by rw [z, z2] at e; cases e)
  have TB : LamX.TabB (hidT st.heap H) mg cT PT := by
    refine ⟨?_, ?_, fun z => ?_⟩
    · obtain ⟨o, us, file, tf, flags, tg, inF, text, tt, at1, kd, dat, sz, more⟩ := code
      refine ⟨o, us, file, tf, flags, tg, inF, text, tt, hid at1 (fun vs n z => ?_) (fun z => ?_), kd, dat, sz, more⟩
      · rw [dat] at z
        cases z
      · rw [dat] at z
        cases z
        simp at sz
    · obtain ⟨bm, ob, b1, b2, b3, b4, b5, b6⟩ := bmain
      refine ⟨bm, ob, b1, b2, fun q => ?_, fun q => ?_, hid b3 (fun vs n z => ?_) (fun z => ?_), b4, b5, b6⟩
      · obtain ⟨o, es, ep, at1, dat, _⟩ := glob
        rw [q, at1] at b3
        cases b3
        cases (dat.symm.trans b6)
      · rw [q, tabAt] at b3
        cases b3
        cases b6
      · cases (b6.symm.trans z)
      · cases (b6.symm.trans z)
    · obtain ⟨o, es, ep, at1, dat, _⟩ := glob
      rw [z, tabAt] at at1
      cases at1
      cases dat
  have e0 : Env0 P w K mg (hidT st.heap H) callerA [] st H := ⟨rfl, ⟨kinB, hidNs glob, ⟨mb, hidNs blt, bltIs⟩, let ⟨mc, l1, l2⟩ := free; ⟨mc, hidNs l1, l2⟩⟩, fun b o e => of_hidT e, Nat.le_of_eq (hidT_size _ _), trivial, fun b hb => absurd (show b ∈ ([] : List Addr) from hb) (by simp), okH, .of_eq noGen⟩
  have pre : SqL K H sc (ns.map V.int) := by
    cases hk : K.lookup sc with
    | none => exact .inl (.inr ⟨_, by rw [← hH]; exact (if_neg diff).trans (if_pos ⟨rfl, hk⟩)⟩)
    | some o =>
      have e := kin sc o hk
      rw [scAt] at e
      cases e
      exact .inr ⟨_, raw.toArray, _, hk, rfl, rfl, rfl, by rw [List.size_toArray, areInts.length]; exact short, by simpa using isInts⟩
  refine codeAny_mono ((go _ kinB (hidNs glob) TB).run callerA [] st H ⟨[.ref sc], []⟩ [.ref sc] [.ref sc] (fun v _ => v = .bl true) (fun _ _ _ => False) rfl room e0 (takes st (.ref sc)) (.cons rfl .nil) ⟨sc, ns, rfl, pre, hPT, says, fun _ => rfl⟩) fun r s' h => ?_
  cases r with
  | error e =>
    obtain ⟨_, _, _, _, _, _, _, _, _, _, _, _, z⟩ := h
    exact z.elim
  | ok fl =>
    cases fl with
    | ret u =>
      obtain ⟨v, G, osEq, bare, un, okG, ru, qv⟩ := h
      obtain rfl : v = .bl true := qv
      obtain rfl : u = Value.bool true := ru
      obtain ⟨more, gr⟩ := un.tbls PT #[] hPT
      have atG : s'.heap.get? PT = some { cls := .none, data := .fields (#[] ++ more) } := okG PT _ gr
      have kept : ∀ b o, b ≠ PT → st.heap.get? b = some o → s'.heap.get? b = some o := fun b o nb e => by
        cases q : H b with
        | none => exact un.keep b o e q (fun z => absurd (show b ∈ ([] : List Addr) from z) (by simp)) (by simp)
        | some u =>
          rcases cs q with ⟨z, _⟩ | ⟨_, _, rfl⟩
          · exact (nb z).elim
          · obtain ⟨x1, _⟩ := okH b _ q
            obtain ⟨x2, _⟩ := okG b _ (un.frzs b _ _ q)
            rw [e] at x1
            cases x1
            exact x2
      refine ⟨rfl, ⟨fun b o e => ?_, fun b o e => ?_⟩, osEq, bare⟩
      · by_cases hb : b = PT
        · subst hb
          rw [tabAt] at e
          cases e
          exact .inr (.inl ⟨(code.tab tabAt).isCodeTable, rfl, #[], more, rfl, atG⟩)
        · exact .inl (kept b o hb e)
      · by_cases hb : b = PT
        · exact ⟨_, by rw [hb]; exact atG⟩
        · exact ⟨o, kept b o hb e⟩
    | next => exact h.elim
    | brk => exact h.elim
    | cont => exact h.elim
end
end DL
set_option maxRecDepth 100000
set_option maxHeartbeats 8000000
/-! W5: what the top has written, and what follows of it. -/
namespace DL
open PySem PySem.Spec L2 PyProof.Rows
def mainP : Program := PySem.Challenge.pw_plaitworld_k50_weights_summed
def firstIn (s : Stmt) : Stmt := match s with
  | .ClassDef _ _ _ (b :: _) _ _ _ _ _ _ _ => b
  | _ => .Pass ⟨0, 0, 0, 0⟩
abbrev i_BadWord : Stmt := firstIn (topS 2)
abbrev i_TooMany : Stmt := firstIn (topS 3)
abbrev i_Refused : Stmt := firstIn (topS 4)
def veRest : List Value := [.type "ValueError", .type "Exception", .type "BaseException", .type "object"]
abbrev DefAt (K : PySem.W.Frag) (x : Str) (s : Stmt) (f : Addr) (fd : FuncData) : Prop := PySem.W.nsIn K mainGlobals x = some (some (.ref f)) ∧ Fun K x x s f fd
abbrev ClsAt (K : PySem.W.Frag) (x f : Str) (s : Stmt) (C fI PE : Addr) : Prop :=
  PySem.W.nsIn K mainGlobals x = some (some (.ref C)) ∧ (∃ nm q N bs sn sub ab col dd k0 k1 k2 k3 k5, K.lookup C = some (excClassObj nm q C N bs (.ref PE :: veRest) true sn sub ab col dd k0 k1 k2 k3 k5 "ValueError.__new__")) ∧
  PySem.W.findIn K (.ref C) "__setattr__" = some (some (.builtin "object.__setattr__")) ∧ PySem.W.findIn K (.ref C) "__getattribute__" = some (some (.builtin "BaseException.__getattribute__")) ∧ PySem.W.findIn K (.ref C) "__getattr__" = some none ∧ PySem.W.findIn K (.ref C) f = some none ∧
  PySem.W.findIn K (.ref C) "__init__" = some (some (.ref fI)) ∧ PySem.W.typeIn K (.ref fI) = some (.type "function") ∧ PySem.W.keepIn K (.ref C) = true ∧ PySem.W.subIn K (.ref C) (.type "BaseException") = some true ∧ PySem.W.subIn K (.ref C) (.type "ValueError") = some true ∧
  PySem.W.mroIn K C (.ref C) = some true ∧ PySem.W.typeIn K (.ref C) = some (.type "type") ∧ PySem.W.hasDictIn K C = true ∧
  ∃ (oc : Value) (od : Option Addr) (doc pm : Value) (an : Option Addr) (cda : Addr) (ct : Value) (cc : Addr) (osl : Array (Option Value)) (ccl : Value) (cdd : Option Addr) (vs : Array Value) (ccs : Array (Option Value)) (file : Str) (tf : Tok) (cl : Value) (cld : Option Addr) (csl : Array (Option Value)),
    K.lookup fI = some ⟨oc, od, .func (PySem.W.ksFn "__init__" (x ++ ".__init__") (defArgs s) (defBody s) (defScope s) .none .none doc pm an (.ref cda) ct cc), osl⟩ ∧ PySem.W.codeIn K (.ref cda) (x ++ ".__init__") = true ∧
    K.lookup cda = some ⟨ccl, cdd, .fields vs, ccs⟩ ∧ vs[2]? = some (.str file tf) ∧ ((mainP.main.file : Str) == file) = true ∧ K.lookup cc = some ⟨cl, cld, .cell (some (.ref C)), csl⟩
section
variable {K : PySem.W.Frag} {h : Heap} {mg : Str → Option Value} {PE : Addr}
theorem tabIn_of {x : Str} {f c PT : Addr} {fd : FuncData} {oc t1 : Value} {od t2 : Option Addr} {osl t3 : Array (Option Value)} {vs : Array Value} (d : PySem.W.nsIn K mainGlobals x = some (some (.ref f))) (l : K.lookup f = some ⟨oc, od, .func fd, osl⟩) (hc : fd.code = .ref c) (lt : K.lookup c = some ⟨t1, t2, .fields vs, t3⟩) (vt : vs[11]? = some (.ref PT)) : PySem.W.tabIn K x = some (c, PT) := by
  unfold PySem.W.tabIn
  rw [d]
  dsimp only
  rw [l]
  dsimp only
  rw [hc]
  dsimp only
  rw [lt]
  dsimp only
  rw [vt]
theorem ext_of {x f : Str} {s : Stmt} {C fI : Addr} (X : K.In h) (G : h.Ns mainGlobals mg) (L : ClsAt K x f s C fI PE) (zs : PySem.W.nsIn K mainGlobals "super" = some none) (op : PySem.W.nsIn K cStatics "thirdparty.any" = some none)
    (base : PySem.W.alongIn K "__init__" (.ref PE :: veRest) = some (some (.builtin "ValueError.__init__")))
    (ne : f ≠ "self") (nd : (f == ("__debug__" : Str)) = false)
    (body : ∃ (l : List (Str × NameKind)) (q1 q2 q3 q4 q5 q6 q7 q8 q9 q10 : Pos), defBody s = eiB f f q1 q2 q3 q4 q5 q6 q7 q8 q9 q10 ∧ defScope s = eiSc l ∧ eiS f l ∧ (∀ env : Env, ∃ pl : Sem Bool, eval (.Call (.Attribute (.Call (.Name "super" q1) [] [] q2) "__init__" q3) [.Name f q4] [] q5) env = (do
      let ov ← attributeBase (.Call (.Name "super" q1) [] [] q2) "__init__" env (eval (.Call (.Name "super" q1) [] [] q2) env)
      standAt q3.atName
      let (g, first) ← holding [ov] (getMethod ov "__init__" pl)
      callWith q5 g first (backTo q5 (starEach [.Name f q4] env)) [])))
    (args : (∃ ar, ((defArgs s).posonlyargs ++ (defArgs s).args).head? = some ar ∧ ar.arg = "self") ∧ ∀ (b : List Stmt) (sc : Scope) (doc pm : Value) (an : Option Addr) (cda : Addr) (ct : Value) (cc : Addr) (u v : Value), bindArgs (PySem.W.ksFn "__init__" (x ++ ".__init__") (defArgs s) b sc .none .none doc pm an (.ref cda) ct cc) ⟨[u, v], []⟩ = pure [(("self" : Str), u), (f, v)]) :
    ExT mainP K mg x C fI f := by
  obtain ⟨gC, ⟨nm, q, N, bs, sn, sub, ab, col, dd, k0, k1, k2, k3, k5, lC⟩, sa, ga, gg, noN, iC, tI, kC, exC, veC, self, tyC, hdC, oc, od, doc, pm, an, cda, ct, cc, osl, ccl, cdd, vs, ccs, file, tf, cl, cld, csl, lI, cI, lc, v2, fl, lcc⟩ := L
  obtain ⟨l, q1, q2, q3, q4, q5, q6, q7, q8, q9, q10, hb, hs, hS, hE⟩ := body
  rw [hb, hs] at lI
  exact { gC := PySem.W.mg_of X G gC, sup := PySem.W.mg_none_of X G zs, cls := ⟨nm, q, N, bs, _, sn, sub, ab, col, dd, k0, k1, k2, k3, k5, lC, by rfl, base⟩, sa := sa, ga := ga, gg := gg, noN := noN, iC := iC, tI := tI, kC := kC, exC := exC, veC := veC, self := self, tyC := tyC, hdC := hdC, opq := op, top := (by decide +kernel), ne := ne, nd := nd, fn := ⟨oc, od, _, _, l, doc, pm, an, cda, ct, cc, osl, q1, q2, q3, q4, q5, q6, q7, q8, q9, q10, ccl, cdd, vs, ccs, file, tf, cl, cld, csl, lI, cI, lc, v2, fl, lcc, hS, hE, args.1, fun u v => args.2 _ _ _ _ _ _ _ _ u v⟩ }
theorem ext_BadWord {C fI : Addr} (X : K.In h) (G : h.Ns mainGlobals mg) (L : ClsAt K "BadWord" "reason" i_BadWord C fI PE) (zs : PySem.W.nsIn K mainGlobals "super" = some none) (op : PySem.W.nsIn K cStatics "thirdparty.any" = some none)
    (base : PySem.W.alongIn K "__init__" (.ref PE :: veRest) = some (some (.builtin "ValueError.__init__"))) : ExT mainP K mg "BadWord" C fI "reason" :=
  ext_of X G L zs op base (by decide) (by decide) ⟨_, _, _, _, _, _, _, _, _, _, _, rfl, rfl, ⟨by decide +kernel, by decide +kernel, by decide +kernel, by decide +kernel, by decide +kernel⟩, fun env => ⟨_, rfl⟩⟩ ⟨⟨_, rfl, by decide +kernel⟩, fun _ _ _ _ _ _ _ _ _ _ => rfl⟩
theorem ext_TooMany {C fI : Addr} (X : K.In h) (G : h.Ns mainGlobals mg) (L : ClsAt K "TooMany" "what" i_TooMany C fI PE) (zs : PySem.W.nsIn K mainGlobals "super" = some none) (op : PySem.W.nsIn K cStatics "thirdparty.any" = some none)
    (base : PySem.W.alongIn K "__init__" (.ref PE :: veRest) = some (some (.builtin "ValueError.__init__"))) : ExT mainP K mg "TooMany" C fI "what" :=
  ext_of X G L zs op base (by decide) (by decide) ⟨_, _, _, _, _, _, _, _, _, _, _, rfl, rfl, ⟨by decide +kernel, by decide +kernel, by decide +kernel, by decide +kernel, by decide +kernel⟩, fun env => ⟨_, rfl⟩⟩ ⟨⟨_, rfl, by decide +kernel⟩, fun _ _ _ _ _ _ _ _ _ _ => rfl⟩
theorem ext_Refused {C fI : Addr} (X : K.In h) (G : h.Ns mainGlobals mg) (L : ClsAt K "Refused" "reason" i_Refused C fI PE) (zs : PySem.W.nsIn K mainGlobals "super" = some none) (op : PySem.W.nsIn K cStatics "thirdparty.any" = some none)
    (base : PySem.W.alongIn K "__init__" (.ref PE :: veRest) = some (some (.builtin "ValueError.__init__"))) : ExT mainP K mg "Refused" C fI "reason" :=
  ext_of X G L zs op base (by decide) (by decide) ⟨_, _, _, _, _, _, _, _, _, _, _, rfl, rfl, ⟨by decide +kernel, by decide +kernel, by decide +kernel, by decide +kernel, by decide +kernel⟩, fun env => ⟨_, rfl⟩⟩ ⟨⟨_, rfl, by decide +kernel⟩, fun _ _ _ _ _ _ _ _ _ _ => rfl⟩
theorem all_mk (X : K.In h) (G : h.Ns mainGlobals mg) {A_is_integer A_to_power A_check_word A_all_rows A_table_fault A_back_table A_counted_by A_turned_table A_shifted_table A_weights_fault A_edge_weights A_weighed_colourings A__law_cell A__law_digits A__law_draw A__law_pick A__law_same A__law_word A__law_row_reason A__law_stepped A__law_steps A__law_other_word A__law_told A__law_known A__law_fault A__law_tried A_law C_BadWord I_BadWord C_TooMany I_TooMany C_Refused I_Refused cT PT : Addr} {F_is_integer F_to_power F_check_word F_all_rows F_table_fault F_back_table F_counted_by F_turned_table F_shifted_table F_weights_fault F_edge_weights F_weighed_colourings F__law_cell F__law_digits F__law_draw F__law_pick F__law_same F__law_word F__law_row_reason F__law_stepped F__law_steps F__law_other_word F__law_told F__law_known F__law_fault F__law_tried F_law : FuncData}
    (d_is_integer : DefAt K "is_integer" s_is_integer A_is_integer F_is_integer)
    (d_to_power : DefAt K "to_power" s_to_power A_to_power F_to_power)
    (d_check_word : DefAt K "check_word" s_check_word A_check_word F_check_word)
    (d_all_rows : DefAt K "all_rows" s_all_rows A_all_rows F_all_rows)
    (d_table_fault : DefAt K "table_fault" s_table_fault A_table_fault F_table_fault)
    (d_back_table : DefAt K "back_table" s_back_table A_back_table F_back_table)
    (d_counted_by : DefAt K "counted_by" s_counted_by A_counted_by F_counted_by)
    (d_turned_table : DefAt K "turned_table" s_turned_table A_turned_table F_turned_table)
    (d_shifted_table : DefAt K "shifted_table" s_shifted_table A_shifted_table F_shifted_table)
    (d_weights_fault : DefAt K "weights_fault" s_weights_fault A_weights_fault F_weights_fault)
    (d_edge_weights : DefAt K "edge_weights" s_edge_weights A_edge_weights F_edge_weights)
    (d_weighed_colourings : DefAt K "weighed_colourings" s_weighed_colourings A_weighed_colourings F_weighed_colourings)
    (d__law_cell : DefAt K "_law_cell" s__law_cell A__law_cell F__law_cell)
    (d__law_digits : DefAt K "_law_digits" s__law_digits A__law_digits F__law_digits)
    (d__law_draw : DefAt K "_law_draw" s__law_draw A__law_draw F__law_draw)
    (d__law_pick : DefAt K "_law_pick" s__law_pick A__law_pick F__law_pick)
    (d__law_same : DefAt K "_law_same" s__law_same A__law_same F__law_same)
    (d__law_word : DefAt K "_law_word" s__law_word A__law_word F__law_word)
    (d__law_row_reason : DefAt K "_law_row_reason" s__law_row_reason A__law_row_reason F__law_row_reason)
    (d__law_stepped : DefAt K "_law_stepped" s__law_stepped A__law_stepped F__law_stepped)
    (d__law_steps : DefAt K "_law_steps" s__law_steps A__law_steps F__law_steps)
    (d__law_other_word : DefAt K "_law_other_word" s__law_other_word A__law_other_word F__law_other_word)
    (d__law_told : DefAt K "_law_told" s__law_told A__law_told F__law_told)
    (d__law_known : DefAt K "_law_known" s__law_known A__law_known F__law_known)
    (d__law_fault : DefAt K "_law_fault" s__law_fault A__law_fault F__law_fault)
    (d__law_tried : DefAt K "_law_tried" s__law_tried A__law_tried F__law_tried)
    (d_law : DefAt K "law" s_law A_law F_law)
    (e_BadWord : ClsAt K "BadWord" "reason" i_BadWord C_BadWord I_BadWord PE)
    (e_TooMany : ClsAt K "TooMany" "what" i_TooMany C_TooMany I_TooMany PE)
    (e_Refused : ClsAt K "Refused" "reason" i_Refused C_Refused I_Refused PE)
    (zs : PySem.W.nsIn K mainGlobals "super" = some none) (op : PySem.W.nsIn K cStatics "thirdparty.any" = some none) (lD : ∃ nm q N bs sn sub ab col dd k0 k1 k2 k3 k5 nw, K.lookup PE = some (excClassObj nm q PE N bs veRest true sn sub ab col dd k0 k1 k2 k3 k5 nw)) (fD : PySem.W.findIn K (.ref PE) "__init__" = some (some (.builtin "ValueError.__init__")))
    (tb : PySem.W.subIn K (.ref C_TooMany) (.ref C_BadWord) = some false) (rb : PySem.W.subIn K (.ref C_Refused) (.ref C_BadWord) = some false) (rt : PySem.W.subIn K (.ref C_Refused) (.ref C_TooMany) = some false) (bb : PySem.W.subIn K (.ref C_BadWord) (.ref C_BadWord) = some true) (tt : PySem.W.subIn K (.ref C_TooMany) (.ref C_TooMany) = some true) (rr : PySem.W.subIn K (.ref C_Refused) (.ref C_Refused) = some true)
    (z_range : PySem.W.nsIn K mainGlobals "range" = some none)
    (z_isinstance : PySem.W.nsIn K mainGlobals "isinstance" = some none)
    (z_int : PySem.W.nsIn K mainGlobals "int" = some none)
    (z_bool : PySem.W.nsIn K mainGlobals "bool" = some none)
    (z_str : PySem.W.nsIn K mainGlobals "str" = some none)
    (z_list : PySem.W.nsIn K mainGlobals "list" = some none)
    (z_tuple : PySem.W.nsIn K mainGlobals "tuple" = some none)
    (z_len : PySem.W.nsIn K mainGlobals "len" = some none)
    (z_set : PySem.W.nsIn K mainGlobals "set" = some none)
    (z_abs : PySem.W.nsIn K mainGlobals "abs" = some none)
    (z_any : PySem.W.nsIn K mainGlobals "any" = some none)
    (z_all : PySem.W.nsIn K mainGlobals "all" = some none)
    (z_sum : PySem.W.nsIn K mainGlobals "sum" = some none)
    (z_enumerate : PySem.W.nsIn K mainGlobals "enumerate" = some none)
    (z_repr : PySem.W.nsIn K mainGlobals "repr" = some none)
    (k_MOST_STRANDS : ∃ t, PySem.W.nsIn K mainGlobals "MOST_STRANDS" = some (some (.int 6 t)))
    (k_MOST_LETTERS : ∃ t, PySem.W.nsIn K mainGlobals "MOST_LETTERS" = some (some (.int 2000 t)))
    (k_MOST_TRIES : ∃ t, PySem.W.nsIn K mainGlobals "MOST_TRIES" = some (some (.int 20000 t)))
    (k_MOST_COLOURS : ∃ t, PySem.W.nsIn K mainGlobals "MOST_COLOURS" = some (some (.int 12 t)))
    (hct : F_law.code = .ref cT) :
    ∀ (w : World) (base : Heap), K.In base → base.Ns mainGlobals mg → LamX.TabB base mg cT PT → FnG mainP w K mg base (L2.CX mainP w) 7 A_law F_law ["script"] (spL K PT (f_law PT)) := by
  have base : PySem.W.alongIn K "__init__" (.ref PE :: veRest) = some (some (.builtin "ValueError.__init__")) := by
    obtain ⟨nm, q, N, bs, sn, sub, ab, col, dd, k0, k1, k2, k3, k5, nw, lD⟩ := lD
    obtain ⟨cd, h1, h2⟩ := PySem.W.kw_along fD
    unfold PySem.W.clsIn at h1
    rw [lD] at h1
    cases h1
    exact h2
  let a : Ad := ⟨A_is_integer, F_is_integer, A_to_power, F_to_power, A_check_word, F_check_word, A_all_rows, F_all_rows, A_table_fault, F_table_fault, A_back_table, F_back_table, A_counted_by, F_counted_by, A_turned_table, F_turned_table, A_shifted_table, F_shifted_table, A_weights_fault, F_weights_fault, A_edge_weights, F_edge_weights, A_weighed_colourings, F_weighed_colourings, A__law_cell, F__law_cell, A__law_digits, F__law_digits, A__law_draw, F__law_draw, A__law_pick, F__law_pick, A__law_same, F__law_same, A__law_word, F__law_word, A__law_row_reason, F__law_row_reason, A__law_stepped, F__law_stepped, A__law_steps, F__law_steps, A__law_other_word, F__law_other_word, A__law_told, F__law_told, A__law_known, F__law_known, A__law_fault, F__law_fault, A__law_tried, F__law_tried, A_law, F_law, PE, PE, C_BadWord, I_BadWord, C_TooMany, I_TooMany, C_Refused, I_Refused⟩
  have T : Txt mainP K mg a := {
    b_range := PySem.W.mg_none_of X G z_range
    b_isinstance := PySem.W.mg_none_of X G z_isinstance
    b_int := PySem.W.mg_none_of X G z_int
    b_bool := PySem.W.mg_none_of X G z_bool
    b_str := PySem.W.mg_none_of X G z_str
    b_list := PySem.W.mg_none_of X G z_list
    b_tuple := PySem.W.mg_none_of X G z_tuple
    b_len := PySem.W.mg_none_of X G z_len
    b_set := PySem.W.mg_none_of X G z_set
    b_abs := PySem.W.mg_none_of X G z_abs
    b_any := PySem.W.mg_none_of X G z_any
    b_all := PySem.W.mg_none_of X G z_all
    b_sum := PySem.W.mg_none_of X G z_sum
    b_enumerate := PySem.W.mg_none_of X G z_enumerate
    b_repr := PySem.W.mg_none_of X G z_repr
    k_MOST_STRANDS := let ⟨t, e⟩ := k_MOST_STRANDS; ⟨t, PySem.W.mg_of X G e⟩
    k_MOST_LETTERS := let ⟨t, e⟩ := k_MOST_LETTERS; ⟨t, PySem.W.mg_of X G e⟩
    k_MOST_TRIES := let ⟨t, e⟩ := k_MOST_TRIES; ⟨t, PySem.W.mg_of X G e⟩
    k_MOST_COLOURS := let ⟨t, e⟩ := k_MOST_COLOURS; ⟨t, PySem.W.mg_of X G e⟩
    g_is_integer := PySem.W.mg_of X G d_is_integer.1
    f_is_integer := d_is_integer.2
    n_is_integer := d_is_integer.2.binds fun _ _ _ _ _ _ us hl => match us, hl with | [_], _ => rfl
    g_to_power := PySem.W.mg_of X G d_to_power.1
    f_to_power := d_to_power.2
    n_to_power := d_to_power.2.binds fun _ _ _ _ _ _ us hl => match us, hl with | [_, _], _ => rfl
    g_check_word := PySem.W.mg_of X G d_check_word.1
    f_check_word := d_check_word.2
    n_check_word := d_check_word.2.binds fun _ _ _ _ _ _ us hl => match us, hl with | [_, _], _ => rfl
    g_all_rows := PySem.W.mg_of X G d_all_rows.1
    f_all_rows := d_all_rows.2
    n_all_rows := d_all_rows.2.binds fun _ _ _ _ _ _ us hl => match us, hl with | [_, _], _ => rfl
    g_table_fault := PySem.W.mg_of X G d_table_fault.1
    f_table_fault := d_table_fault.2
    n_table_fault := d_table_fault.2.binds fun _ _ _ _ _ _ us hl => match us, hl with | [_], _ => rfl
    g_back_table := PySem.W.mg_of X G d_back_table.1
    f_back_table := d_back_table.2
    n_back_table := d_back_table.2.binds fun _ _ _ _ _ _ us hl => match us, hl with | [_], _ => rfl
    g_counted_by := PySem.W.mg_of X G d_counted_by.1
    f_counted_by := d_counted_by.2
    n_counted_by := d_counted_by.2.binds fun _ _ _ _ _ _ us hl => match us, hl with | [_, _, _], _ => rfl
    g_turned_table := PySem.W.mg_of X G d_turned_table.1
    f_turned_table := d_turned_table.2
    n_turned_table := d_turned_table.2.binds fun _ _ _ _ _ _ us hl => match us, hl with | [_], _ => rfl
    g_shifted_table := PySem.W.mg_of X G d_shifted_table.1
    f_shifted_table := d_shifted_table.2
    n_shifted_table := d_shifted_table.2.binds fun _ _ _ _ _ _ us hl => match us, hl with | [_, _], _ => rfl
    g_weights_fault := PySem.W.mg_of X G d_weights_fault.1
    f_weights_fault := d_weights_fault.2
    n_weights_fault := d_weights_fault.2.binds fun _ _ _ _ _ _ us hl => match us, hl with | [_, _, _], _ => rfl
    g_edge_weights := PySem.W.mg_of X G d_edge_weights.1
    f_edge_weights := d_edge_weights.2
    n_edge_weights := d_edge_weights.2.binds fun _ _ _ _ _ _ us hl => match us, hl with | [_, _, _], _ => rfl
    g_weighed_colourings := PySem.W.mg_of X G d_weighed_colourings.1
    f_weighed_colourings := d_weighed_colourings.2
    n_weighed_colourings := d_weighed_colourings.2.binds fun _ _ _ _ _ _ us hl => match us, hl with | [_, _, _, _, _], _ => rfl
    g__law_cell := PySem.W.mg_of X G d__law_cell.1
    f__law_cell := d__law_cell.2
    n__law_cell := d__law_cell.2.binds fun _ _ _ _ _ _ us hl => match us, hl with | [_, _], _ => rfl
    g__law_digits := PySem.W.mg_of X G d__law_digits.1
    f__law_digits := d__law_digits.2
    n__law_digits := d__law_digits.2.binds fun _ _ _ _ _ _ us hl => match us, hl with | [_, _, _], _ => rfl
    g__law_draw := PySem.W.mg_of X G d__law_draw.1
    f__law_draw := d__law_draw.2
    n__law_draw := d__law_draw.2.binds fun _ _ _ _ _ _ us hl => match us, hl with | [_, _], _ => rfl
    g__law_pick := PySem.W.mg_of X G d__law_pick.1
    f__law_pick := d__law_pick.2
    n__law_pick := d__law_pick.2.binds fun _ _ _ _ _ _ us hl => match us, hl with | [_, _], _ => rfl
    g__law_same := PySem.W.mg_of X G d__law_same.1
    f__law_same := d__law_same.2
    n__law_same := d__law_same.2.binds fun _ _ _ _ _ _ us hl => match us, hl with | [_, _], _ => rfl
    g__law_word := PySem.W.mg_of X G d__law_word.1
    f__law_word := d__law_word.2
    n__law_word := d__law_word.2.binds fun _ _ _ _ _ _ us hl => match us, hl with | [_, _, _], _ => rfl
    g__law_row_reason := PySem.W.mg_of X G d__law_row_reason.1
    f__law_row_reason := d__law_row_reason.2
    n__law_row_reason := d__law_row_reason.2.binds fun _ _ _ _ _ _ us hl => match us, hl with | [_, _, _], _ => rfl
    g__law_stepped := PySem.W.mg_of X G d__law_stepped.1
    f__law_stepped := d__law_stepped.2
    n__law_stepped := d__law_stepped.2.binds fun _ _ _ _ _ _ us hl => match us, hl with | [_, _], _ => rfl
    g__law_steps := PySem.W.mg_of X G d__law_steps.1
    f__law_steps := d__law_steps.2
    n__law_steps := d__law_steps.2.binds fun _ _ _ _ _ _ us hl => match us, hl with | [_, _, _], _ => rfl
    g__law_other_word := PySem.W.mg_of X G d__law_other_word.1
    f__law_other_word := d__law_other_word.2
    n__law_other_word := d__law_other_word.2.binds fun _ _ _ _ _ _ us hl => match us, hl with | [_, _, _, _, _], _ => rfl
    g__law_told := PySem.W.mg_of X G d__law_told.1
    f__law_told := d__law_told.2
    n__law_told := d__law_told.2.binds fun _ _ _ _ _ _ us hl => match us, hl with | [_], _ => rfl
    g__law_known := PySem.W.mg_of X G d__law_known.1
    f__law_known := d__law_known.2
    n__law_known := d__law_known.2.binds fun _ _ _ _ _ _ us hl => match us, hl with | [], _ => rfl
    g__law_fault := PySem.W.mg_of X G d__law_fault.1
    f__law_fault := d__law_fault.2
    n__law_fault := d__law_fault.2.binds fun _ _ _ _ _ _ us hl => match us, hl with | [_, _, _], _ => rfl
    g__law_tried := PySem.W.mg_of X G d__law_tried.1
    f__law_tried := d__law_tried.2
    n__law_tried := d__law_tried.2.binds fun _ _ _ _ _ _ us hl => match us, hl with | [_, _, _, _, _], _ => rfl
    g_law := PySem.W.mg_of X G d_law.1
    f_law := d_law.2
    n_law := d_law.2.binds fun _ _ _ _ _ _ us hl => match us, hl with | [_], _ => rfl
    x_BadWord := ext_BadWord X G e_BadWord zs op base
    x_TooMany := ext_TooMany X G e_TooMany zs op base
    x_Refused := ext_Refused X G e_Refused zs op base
  }
  have M : ExmT K a := ⟨PySem.W.exm_ref e_BadWord.2.2.2.2.2.2.2.2.2.1 e_BadWord.2.2.2.2.2.2.2.2.2.2.2.2.2.1 e_BadWord.2.2.2.2.2.2.2.2.2.2.2.2.1 bb, PySem.W.exm_ref e_BadWord.2.2.2.2.2.2.2.2.2.1 e_BadWord.2.2.2.2.2.2.2.2.2.2.2.2.2.1 e_BadWord.2.2.2.2.2.2.2.2.2.2.2.2.1 tb, PySem.W.exm_ref e_TooMany.2.2.2.2.2.2.2.2.2.1 e_TooMany.2.2.2.2.2.2.2.2.2.2.2.2.2.1 e_TooMany.2.2.2.2.2.2.2.2.2.2.2.2.1 tt, PySem.W.exm_ref e_BadWord.2.2.2.2.2.2.2.2.2.1 e_BadWord.2.2.2.2.2.2.2.2.2.2.2.2.2.1 e_BadWord.2.2.2.2.2.2.2.2.2.2.2.2.1 rb, PySem.W.exm_ref e_TooMany.2.2.2.2.2.2.2.2.2.1 e_TooMany.2.2.2.2.2.2.2.2.2.2.2.2.2.1 e_TooMany.2.2.2.2.2.2.2.2.2.2.2.2.1 rt, PySem.W.exm_ref e_Refused.2.2.2.2.2.2.2.2.2.1 e_Refused.2.2.2.2.2.2.2.2.2.2.2.2.2.1 e_Refused.2.2.2.2.2.2.2.2.2.2.2.2.1 rr⟩
  intro w base _ _ TB
  have c__law_cell := ok__law_cell (w := w) (base := base) T 
  have c__law_digits := ok__law_digits (w := w) (base := base) T c__law_cell
  have c__law_draw := ok__law_draw (w := w) (base := base) T 
  have c_is_integer := ok_is_integer (w := w) (base := base) T 
  have c_table_fault := ok_table_fault (w := w) (base := base) T c_is_integer
  have c__law_fault := ok__law_fault (w := w) (base := base) T c_table_fault
  have c__law_known := ok__law_known (w := w) (base := base) T 
  have c__law_pick := ok__law_pick (w := w) (base := base) T c__law_draw
  have c__law_stepped := ok__law_stepped (w := w) (base := base) T 
  have c__law_row_reason := ok__law_row_reason (w := w) (base := base) T 
  have c__law_steps := ok__law_steps (w := w) (base := base) T c__law_row_reason
  have c__law_other_word := ok__law_other_word (w := w) (base := base) T c__law_draw c__law_pick c__law_stepped c__law_steps
  have c__law_same := ok__law_same (w := w) (base := base) T 
  have c__law_tried := ok__law_tried (w := w) (base := base) T 
  have c__law_word := ok__law_word (w := w) (base := base) T c__law_draw
  have c_all_rows := ok_all_rows (w := w) (base := base) T 
  have c_back_table := ok_back_table (w := w) (base := base) T 
  have c_check_word := ok_check_word (w := w) (base := base) T c_is_integer
  have c_to_power := ok_to_power (w := w) (base := base) T 
  have c_counted_by := ok_counted_by (w := w) (base := base) T c_all_rows c_back_table c_check_word c_table_fault c_to_power
  have c_edge_weights := ok_edge_weights (w := w) (base := base) T 
  have c_shifted_table := ok_shifted_table (w := w) (base := base) T 
  have c_turned_table := ok_turned_table (w := w) (base := base) T 
  have c_weights_fault := ok_weights_fault (w := w) (base := base) T c_is_integer c_table_fault
  have c_weighed_colourings := ok_weighed_colourings (w := w) (base := base) T c_all_rows c_back_table c_check_word c_to_power c_weights_fault
  exact ok_law T M TB hct c__law_digits c__law_draw c__law_fault c__law_known c__law_other_word c__law_pick c__law_same c__law_tried c__law_word c_counted_by c_edge_weights c_shifted_table c_turned_table c_weighed_colourings c_weights_fault
theorem end_facts {fa : Addr} (X : K.In h) (G : h.Ns mainGlobals mg) (hmg : mg "law" = some (.ref fa)) {A_is_integer A_to_power A_check_word A_all_rows A_table_fault A_back_table A_counted_by A_turned_table A_shifted_table A_weights_fault A_edge_weights A_weighed_colourings A__law_cell A__law_digits A__law_draw A__law_pick A__law_same A__law_word A__law_row_reason A__law_stepped A__law_steps A__law_other_word A__law_told A__law_known A__law_fault A__law_tried A_law C_BadWord I_BadWord C_TooMany I_TooMany C_Refused I_Refused cT PT : Addr} {F_is_integer F_to_power F_check_word F_all_rows F_table_fault F_back_table F_counted_by F_turned_table F_shifted_table F_weights_fault F_edge_weights F_weighed_colourings F__law_cell F__law_digits F__law_draw F__law_pick F__law_same F__law_word F__law_row_reason F__law_stepped F__law_steps F__law_other_word F__law_told F__law_known F__law_fault F__law_tried F_law : FuncData}
    (d_is_integer : DefAt K "is_integer" s_is_integer A_is_integer F_is_integer)
    (d_to_power : DefAt K "to_power" s_to_power A_to_power F_to_power)
    (d_check_word : DefAt K "check_word" s_check_word A_check_word F_check_word)
    (d_all_rows : DefAt K "all_rows" s_all_rows A_all_rows F_all_rows)
    (d_table_fault : DefAt K "table_fault" s_table_fault A_table_fault F_table_fault)
    (d_back_table : DefAt K "back_table" s_back_table A_back_table F_back_table)
    (d_counted_by : DefAt K "counted_by" s_counted_by A_counted_by F_counted_by)
    (d_turned_table : DefAt K "turned_table" s_turned_table A_turned_table F_turned_table)
    (d_shifted_table : DefAt K "shifted_table" s_shifted_table A_shifted_table F_shifted_table)
    (d_weights_fault : DefAt K "weights_fault" s_weights_fault A_weights_fault F_weights_fault)
    (d_edge_weights : DefAt K "edge_weights" s_edge_weights A_edge_weights F_edge_weights)
    (d_weighed_colourings : DefAt K "weighed_colourings" s_weighed_colourings A_weighed_colourings F_weighed_colourings)
    (d__law_cell : DefAt K "_law_cell" s__law_cell A__law_cell F__law_cell)
    (d__law_digits : DefAt K "_law_digits" s__law_digits A__law_digits F__law_digits)
    (d__law_draw : DefAt K "_law_draw" s__law_draw A__law_draw F__law_draw)
    (d__law_pick : DefAt K "_law_pick" s__law_pick A__law_pick F__law_pick)
    (d__law_same : DefAt K "_law_same" s__law_same A__law_same F__law_same)
    (d__law_word : DefAt K "_law_word" s__law_word A__law_word F__law_word)
    (d__law_row_reason : DefAt K "_law_row_reason" s__law_row_reason A__law_row_reason F__law_row_reason)
    (d__law_stepped : DefAt K "_law_stepped" s__law_stepped A__law_stepped F__law_stepped)
    (d__law_steps : DefAt K "_law_steps" s__law_steps A__law_steps F__law_steps)
    (d__law_other_word : DefAt K "_law_other_word" s__law_other_word A__law_other_word F__law_other_word)
    (d__law_told : DefAt K "_law_told" s__law_told A__law_told F__law_told)
    (d__law_known : DefAt K "_law_known" s__law_known A__law_known F__law_known)
    (d__law_fault : DefAt K "_law_fault" s__law_fault A__law_fault F__law_fault)
    (d__law_tried : DefAt K "_law_tried" s__law_tried A__law_tried F__law_tried)
    (d_law : DefAt K "law" s_law A_law F_law)
    (e_BadWord : ClsAt K "BadWord" "reason" i_BadWord C_BadWord I_BadWord PE)
    (e_TooMany : ClsAt K "TooMany" "what" i_TooMany C_TooMany I_TooMany PE)
    (e_Refused : ClsAt K "Refused" "reason" i_Refused C_Refused I_Refused PE)
    (zs : PySem.W.nsIn K mainGlobals "super" = some none) (op : PySem.W.nsIn K cStatics "thirdparty.any" = some none) (lD : ∃ nm q N bs sn sub ab col dd k0 k1 k2 k3 k5 nw, K.lookup PE = some (excClassObj nm q PE N bs veRest true sn sub ab col dd k0 k1 k2 k3 k5 nw)) (fD : PySem.W.findIn K (.ref PE) "__init__" = some (some (.builtin "ValueError.__init__")))
    (tb : PySem.W.subIn K (.ref C_TooMany) (.ref C_BadWord) = some false) (rb : PySem.W.subIn K (.ref C_Refused) (.ref C_BadWord) = some false) (rt : PySem.W.subIn K (.ref C_Refused) (.ref C_TooMany) = some false) (bb : PySem.W.subIn K (.ref C_BadWord) (.ref C_BadWord) = some true) (tt : PySem.W.subIn K (.ref C_TooMany) (.ref C_TooMany) = some true) (rr : PySem.W.subIn K (.ref C_Refused) (.ref C_Refused) = some true)
    (z_range : PySem.W.nsIn K mainGlobals "range" = some none)
    (z_isinstance : PySem.W.nsIn K mainGlobals "isinstance" = some none)
    (z_int : PySem.W.nsIn K mainGlobals "int" = some none)
    (z_bool : PySem.W.nsIn K mainGlobals "bool" = some none)
    (z_str : PySem.W.nsIn K mainGlobals "str" = some none)
    (z_list : PySem.W.nsIn K mainGlobals "list" = some none)
    (z_tuple : PySem.W.nsIn K mainGlobals "tuple" = some none)
    (z_len : PySem.W.nsIn K mainGlobals "len" = some none)
    (z_set : PySem.W.nsIn K mainGlobals "set" = some none)
    (z_abs : PySem.W.nsIn K mainGlobals "abs" = some none)
    (z_any : PySem.W.nsIn K mainGlobals "any" = some none)
    (z_all : PySem.W.nsIn K mainGlobals "all" = some none)
    (z_sum : PySem.W.nsIn K mainGlobals "sum" = some none)
    (z_enumerate : PySem.W.nsIn K mainGlobals "enumerate" = some none)
    (z_repr : PySem.W.nsIn K mainGlobals "repr" = some none)
    (k_MOST_STRANDS : ∃ t, PySem.W.nsIn K mainGlobals "MOST_STRANDS" = some (some (.int 6 t)))
    (k_MOST_LETTERS : ∃ t, PySem.W.nsIn K mainGlobals "MOST_LETTERS" = some (some (.int 2000 t)))
    (k_MOST_TRIES : ∃ t, PySem.W.nsIn K mainGlobals "MOST_TRIES" = some (some (.int 20000 t)))
    (k_MOST_COLOURS : ∃ t, PySem.W.nsIn K mainGlobals "MOST_COLOURS" = some (some (.int 12 t)))
    (hct : F_law.code = .ref cT) {t1 : Value} {t2 : Option Addr} {vs : Array Value} {t3 : Array (Option Value)} (lt : K.lookup cT = some ⟨t1, t2, .fields vs, t3⟩) (vt : vs[11]? = some (.ref PT)) (np : K.lookup PT = none) (w : World) (says : ∀ ns : List Int, ns.length ≤ 63 → f_law PT [locked (ns.map .int)] = .ok (.bool true)) :
    ∃ (fd : FuncData) (cT PT : Addr) (f : List D → R D), PySem.W.tabIn K "law" = some (cT, PT) ∧ K.lookup PT = none ∧ (∀ (s : Shared) (u : Value), BindsTo s fd ⟨[u], []⟩ [("script", u)]) ∧ (∀ ns : List Int, ns.length ≤ 63 → f [locked (ns.map .int)] = .ok (.bool true)) ∧
        ∀ base : Heap, K.In base → base.Ns mainGlobals mg → LamX.TabB base mg cT PT → FnG mainP w K mg base (L2.CX mainP w) 7 fa fd ["script"] (spL K PT f) := by
  have e := hmg.symm.trans (PySem.W.mg_of X G d_law.1)
  cases e
  refine ⟨F_law, cT, PT, f_law PT, ?_, np, ?_, says, all_mk X G d_is_integer d_to_power d_check_word d_all_rows d_table_fault d_back_table d_counted_by d_turned_table d_shifted_table d_weights_fault d_edge_weights d_weighed_colourings d__law_cell d__law_digits d__law_draw d__law_pick d__law_same d__law_word d__law_row_reason d__law_stepped d__law_steps d__law_other_word d__law_told d__law_known d__law_fault d__law_tried d_law e_BadWord e_TooMany e_Refused zs op lD fD tb rb rt bb tt rr z_range z_isinstance z_int z_bool z_str z_list z_tuple z_len z_set z_abs z_any z_all z_sum z_enumerate z_repr k_MOST_STRANDS k_MOST_LETTERS k_MOST_TRIES k_MOST_COLOURS hct w⟩
  · obtain ⟨oc, od, kV, doc, pm, an, cdv, ct, osl, _, lk, hcd⟩ := d_law.2.ex
    exact tabIn_of d_law.1 lk hct lt vt
  · obtain ⟨oc, od, kV, doc, pm, an, cdv, ct, osl, rfl, lk, hcd⟩ := d_law.2.ex
    exact fun s u => .of_eq rfl
end
end DL
set_option maxRecDepth 100000
set_option maxHeartbeats 8000000
namespace DL
open PySem PySem.Spec L2 PyProof.Rows
theorem walk_end {l : PySem.W.OpenLaw} {n k : Nat} {q : Program} {loose : List Str} {XP : (Str → Option Value) → Heap → Prop} {YP : World → Heap → Prop} {d : DefRec} {K : Params → PySem.W.Frag} {nm : Str}
    (most : l.most = some n) (mostLine : n ≤ sizeLine) (noDef : d.params.defaults = []) (room : Room k callerA) (recd : (recsOf q).find? (fun e => e.name == d.name) = some d) (kin : ∀ (w : World) (h : Heap), YP w h → (K w.params).In h)
    (facts : ∀ (w : World) (mg : Str → Option Value) (fa : Addr) (h : Heap), (K w.params).In h → h.Ns mainGlobals mg → mg d.name = some (.ref fa) →
      ∃ (fd : FuncData) (cT PT : Addr) (f : List D → R D), PySem.W.tabIn (K w.params) d.name = some (cT, PT) ∧ (K w.params).lookup PT = none ∧ (∀ (s : Shared) (u : Value), BindsTo s fd ⟨[u], []⟩ [(nm, u)]) ∧ (∀ ns : List Int, ns.length ≤ n → f [locked (ns.map .int)] = .ok (.bool true)) ∧
        ∀ base : Heap, (K w.params).In base → base.Ns mainGlobals mg → LamX.TabB base mg cT PT → FnG l.prog w (K w.params) mg base (L2.CX l.prog w) k fa fd [nm] (spL (K w.params) PT f)) :
    PySem.W.WalkO q loose XP YP l.row.toRowW d [] (fun f vs => PySem.call f vs) := by
  refine Att.attach_callB most noDef fun w s₀ st mg mb fa o pm cd doc sc raw ns G Y _ _ _ named scAt areInts short _ noGen => ?_
  have X := kin w _ Y
  obtain ⟨fd, cT, PT, f, tab, noP, takes, says, go⟩ := facts w mg fa _ X G.T.g named
  obtain ⟨code, empty⟩ := PySem.W.tab_of G.T X recd tab
  exact end_call X G.T.g G.T.b G.T.builtins G.T.nolimit noGen empty noP code G.T.bmain scAt areInts (Nat.le_trans short mostLine) room go takes (says ns short)
end DL
set_option maxRecDepth 100000
set_option maxHeartbeats 1000000
/-! M1: the meanings computed: basics. -/
namespace DL
open PySem PySem.Spec L2
section
variable {α β : Type}
@[simp] theorem bind_at (m : M α) (f : α → M β) (g : Sg) : M.bind m f g = R.bind (m g) fun p => f p.1 p.2 := Eq.trans rfl rfl
@[simp] theorem rbind_ok (a : α) (f : α → R β) : R.bind (.ok a) f = f a := Eq.trans rfl rfl
@[simp] theorem rbind_er (c : Str) (d : D) (f : α → R β) : R.bind (.er c d) f = .er c d := Eq.trans rfl rfl
@[simp] theorem rbind_no (f : α → R β) : R.bind .no f = .no := Eq.trans rfl rfl
@[simp] theorem pur_at (a : α) (g : Sg) : M.pur a g = .ok (a, g) := Eq.trans rfl rfl
@[simp] theorem no_at (g : Sg) : (M.no : M α) g = .no := Eq.trans rfl rfl
@[simp] theorem need_true (m : M α) : need true m = m := Eq.trans rfl rfl
@[simp] theorem nam_at (i : Nat) (b : Option (List D)) (es : List Ent) (t : Option Addr) : nam i ⟨b, es, t⟩ = match es[i]? with
  | some (.im d) => .ok (.dat d, ⟨b, es, t⟩)
  | some (.ol _) => .ok (.own i, ⟨b, es, t⟩)
  | some (.oo _) => .ok (.own i, ⟨b, es, t⟩)
  | _ => .no := Eq.trans rfl rfl
@[simp] theorem put_at (i : Nat) (d : D) (b : Option (List D)) (es : List Ent) (t : Option Addr) : put i d ⟨b, es, t⟩ = .ok ((), ⟨b, es.set i (.im d), t⟩) := Eq.trans rfl rfl
@[simp] theorem putO_at (i : Nat) (d : List D) (b : Option (List D)) (es : List Ent) (t : Option Addr) : putO i d ⟨b, es, t⟩ = .ok ((), ⟨b, es.set i (.ol d), t⟩) := Eq.trans rfl rfl
@[simp] theorem putOO_at (i : Nat) (d : List (List D)) (b : Option (List D)) (es : List Ent) (t : Option Addr) : putOO i d ⟨b, es, t⟩ = .ok ((), ⟨b, es.set i (.oo d), t⟩) := Eq.trans rfl rfl
@[simp] theorem frz_dat (b : Nat) (d : D) : frz b (.dat d) = M.pur d := Eq.trans rfl rfl
@[simp] theorem frzs_nil (b : Nat) : frzs b [] = M.pur [] := Eq.trans rfl rfl
@[simp] theorem frzs_dat (b : Nat) (d : D) (ws : List View) (g : Sg) : frzs b (.dat d :: ws) g = R.bind (frzs b ws g) fun p => .ok (d :: p.1, p.2) := Eq.trans rfl rfl
@[simp] theorem toB_at (c : Bool) : toB (.bool c) = M.pur c := Eq.trans rfl rfl
@[simp] theorem intD_at (i : Int) : intD (.dat (.int i)) = M.pur i := Eq.trans rfl rfl
@[simp] theorem lookD_at (d : D) : lookD (.dat d) = M.pur d := Eq.trans rfl rfl
@[simp] theorem seqF_list (ds : List D) : seqF (.list ds) = M.pur ds := Eq.trans rfl rfl
@[simp] theorem seqF_tup (ds : List D) : seqF (.tuple ds) = M.pur ds := Eq.trans rfl rfl
@[simp] theorem lstD_at (ds : List D) : lstD (.dat (.list ds)) = M.pur ds := Eq.trans rfl rfl
@[simp] theorem arg1_at (h : View → M D) (w : View) : arg1 h [w] = h w := Eq.trans rfl rfl
@[simp] theorem arg1N_at (h : View → M (List D)) (w : View) : arg1N h [w] = h w := Eq.trans rfl rfl
@[simp] theorem addV_int (i j : Int) : addV (.dat (.int i)) (.dat (.int j)) = M.pur (.int (i + j)) := Eq.trans rfl rfl
@[simp] theorem subV_at (i j : Int) : subV (.dat (.int i)) (.dat (.int j)) = M.pur (.int (i - j)) := Eq.trans rfl rfl
@[simp] theorem addI_at (i j : Int) : addI (.dat (.int i)) (.dat (.int j)) = M.pur (.int (i + j)) := Eq.trans rfl rfl
@[simp] theorem ltV_at (i j : Int) : ltV (.dat (.int i)) (.dat (.int j)) = M.pur (.bool (decide (i < j))) := Eq.trans rfl rfl
@[simp] theorem leV_at (i j : Int) : leV (.dat (.int i)) (.dat (.int j)) = M.pur (.bool (decide (i ≤ j))) := Eq.trans rfl rfl
@[simp] theorem gtV_at (i j : Int) : gtV (.dat (.int i)) (.dat (.int j)) = M.pur (.bool (decide (j < i))) := Eq.trans rfl rfl
@[simp] theorem geV_at (i j : Int) : geV (.dat (.int i)) (.dat (.int j)) = M.pur (.bool (decide (j ≤ i))) := Eq.trans rfl rfl
theorem need_of {α : Type} {c : Bool} (h : c = true) (m : M α) : need c m = m := by rw [h]; rfl
theorem mulV_l {i j : Int} (h : smallI i = true) : mulV (.dat (.int i)) (.dat (.int j)) = M.pur (.int (i * j)) := need_of (by show (smallI i || smallI j) = true; rw [h]; rfl) _
theorem mulV_r {i j : Int} (h : smallI j = true) : mulV (.dat (.int i)) (.dat (.int j)) = M.pur (.int (i * j)) := need_of (by show (smallI i || smallI j) = true; rw [h, Bool.or_true]) _
theorem modV_at {i j : Int} (h : 0 < j) : modV (.dat (.int i)) (.dat (.int j)) = M.pur (.int (i % j)) := need_of (decide_eq_true h) _
theorem fdivV_at {i j : Int} (h : 0 < j) (h2 : j < 1073741824) : fdivV (.dat (.int i)) (.dat (.int j)) = M.pur (.int (i / j)) := need_of (by rw [Bool.and_eq_true]; exact ⟨decide_eq_true h, decide_eq_true h2⟩) _
theorem small_of {i : Int} (h1 : -1000000000000 < i) (h2 : i < 1000000000000) : smallI i = true := by
  unfold smallI
  rw [Bool.and_eq_true, decide_eq_true_eq, decide_eq_true_eq]
  have e : (2 : Int) ^ 64 = 18446744073709551616 := by decide +kernel
  omega
@[simp] theorem noEr_ok' (m : M α) (g : Sg) : noEr m g = match m g with
  | .er _ _ => .no
  | r => r := Eq.trans rfl rfl
@[simp] theorem callD_at (f : List D → R D) (ds : List D) (g : Sg) : callD f ds g = match f ds with
  | .ok d => .ok (d, g)
  | .er c d => .er c d
  | .no => .no := Eq.trans rfl rfl
@[simp] theorem callB_at (f : List D → List D → R (D × List D)) (ds : List D) (bs : List D) (es : List Ent) (t : Option Addr) : callB f ds ⟨some bs, es, t⟩ = match f bs ds with
  | .ok (d, bs') => .ok (d, ⟨some bs', es, t⟩)
  | _ => .no := Eq.trans rfl rfl
@[simp] theorem boxOk_at (bs : List D) (es : List Ent) (t : Option Addr) : boxOk ⟨some bs, es, t⟩ = .ok ((), ⟨some bs, es, t⟩) := Eq.trans rfl rfl
@[simp] theorem lenW_tup (ds : List D) : lenW (.dat (.tuple ds)) = M.pur (.int ds.length) := Eq.trans rfl rfl
@[simp] theorem lenW_list (ds : List D) : lenW (.dat (.list ds)) = M.pur (.int ds.length) := Eq.trans rfl rfl
@[simp] theorem lastF_at {β : Type} (fe : M β) (g : Sg) : lastF fe g = R.bind (noEr fe g) fun p => .ok ([p.1], p.2) := Eq.trans rfl rfl
theorem ixN_nat {n k : Nat} (h : k < n) : ixN n (k : Int) = some k := by
  unfold ixN
  rw [if_pos (by omega), if_pos (by omega), Int.toNat_natCast]
theorem atI_nat {γ : Type} {xs : List γ} {k : Nat} (h : k < xs.length) : atI xs (k : Int) = some xs[k] := by
  unfold atI
  rw [ixN_nat h]
  simp [h]
theorem atW_nat {ds : List D} {k : Nat} (h : k < ds.length) : atW (.dat (.tuple ds)) (.dat (.int k)) = M.pur ds[k] := by
  funext g
  show (match atI ds (k : Int) with
    | some d => M.pur d
    | none => M.no) g = _
  rw [atI_nat h]
theorem atW_natL {ds : List D} {k : Nat} (h : k < ds.length) : atW (.dat (.list ds)) (.dat (.int k)) = M.pur ds[k] := by
  funext g
  show (match atI ds (k : Int) with
    | some d => M.pur d
    | none => M.no) g = _
  rw [atI_nat h]
end
/-! ### loops -/
section
variable {ga : D → M Unit} {fb : M Out}
theorem for_bad {Inv : Sg → Prop} {bad : D → Bool} {v : D} : ∀ {ds : List D}, (∀ d ∈ ds, ∀ g, Inv g → ∃ g1 g2, noEr (ga d) g = .ok ((), g1) ∧ fb g1 = .ok (if bad d = true then .rt v else .nx, g2) ∧ Inv g2) →
    ∀ g, Inv g → ∃ g', forD ga fb ds g = .ok (if ds.any bad = true then .rt v else .nx, g') ∧ Inv g'
  | [], _, g, h => ⟨g, rfl, h⟩
  | d :: ds, st, g, h => by
    obtain ⟨g1, g2, e1, e2, h2⟩ := st d (List.mem_cons_self ..) g h
    unfold forD
    rw [bind_at, e1, rbind_ok, bind_at, e2, rbind_ok, List.any_cons]
    cases hb : bad d with
    | true => exact ⟨g2, rfl, h2⟩
    | false => exact for_bad (fun d' hd' => st d' (List.mem_cons_of_mem _ hd')) g2 h2
theorem for_fold {S X : Type} {I : S → Sg → Prop} {f : X → D} {step : S → X → S} : ∀ {xs : List X}, (∀ x ∈ xs, ∀ s g, I s g → ∃ g1 g2, noEr (ga (f x)) g = .ok ((), g1) ∧ fb g1 = .ok (.nx, g2) ∧ I (step s x) g2) →
    ∀ s g, I s g → ∃ g', forD ga fb (xs.map f) g = .ok (.nx, g') ∧ I (xs.foldl step s) g'
  | [], _, s, g, h => ⟨g, rfl, h⟩
  | x :: xs, st, s, g, h => by
    obtain ⟨g1, g2, e1, e2, h2⟩ := st x (List.mem_cons_self ..) s g h
    obtain ⟨g', e3, h3⟩ := for_fold (fun x' hx' => st x' (List.mem_cons_of_mem _ hx')) (step s x) g2 h2
    refine ⟨g', ?_, h3⟩
    show forD ga fb (f x :: xs.map f) g = _
    unfold forD
    rw [bind_at, e1, rbind_ok, bind_at, e2, rbind_ok]
    exact e3
/-- a step that may be chosen: the state after one turn is one of those that `next` allows -/
theorem for_rel {I : Nat → Sg → Prop} : ∀ {ds : List D}, (∀ d ∈ ds, ∀ k g, I k g → ∃ g1 g2, noEr (ga d) g = .ok ((), g1) ∧ fb g1 = .ok (.nx, g2) ∧ I (k + 1) g2) →
    ∀ k g, I k g → ∃ g', forD ga fb ds g = .ok (.nx, g') ∧ I (k + ds.length) g'
  | [], _, k, g, h => ⟨g, rfl, h⟩
  | d :: ds, st, k, g, h => by
    obtain ⟨g1, g2, e1, e2, h2⟩ := st d (List.mem_cons_self ..) k g h
    obtain ⟨g', e3, h3⟩ := for_rel (fun d' hd' => st d' (List.mem_cons_of_mem _ hd')) (k + 1) g2 h2
    refine ⟨g', ?_, by rw [List.length_cons, show k + (ds.length + 1) = k + 1 + ds.length by omega]; exact h3⟩
    unfold forD
    rw [bind_at, e1, rbind_ok, bind_at, e2, rbind_ok]
    exact e3
end
/-! ### comprehensions of one clause -/
theorem paired_len {α β : Type} {P : α → β → Prop} : ∀ {xs : List α} {ys : List β}, Paired P xs ys → xs.length = ys.length
  | _, _, .nil => rfl
  | _, _, .cons _ t => congrArg (· + 1) (paired_len t)
theorem paired_map {α β : Type} {F : α → β} : ∀ {xs : List α} {ys : List β}, Paired (fun x y => y = F x) xs ys → ys = xs.map F
  | _, _, .nil => rfl
  | _, _, .cons h t => by rw [h, paired_map t]; rfl
section
variable {β : Type} {i : Nat} {gt : M Bool} {fe : M β}
/-- one clause, a name at i: p tells what is taken, F what is made of it; the box may change by I -/
theorem lc_at {I : Nat → Option (List D) → Prop} {t : Option Addr} {es : List Ent} {F : D → β → Prop} {p : D → Bool} : ∀ {ds : List D}, i < es.length → (∀ d ∈ ds, ∀ k b, I k b → ∃ b' r, gt ⟨b, es.set i (.im d), t⟩ = .ok (p d, ⟨b, es.set i (.im d), t⟩) ∧ (p d = true → fe ⟨b, es.set i (.im d), t⟩ = .ok (r, ⟨b', es.set i (.im d), t⟩) ∧ F d r ∧ I (k + 1) b')) →
    ∀ k b, I k b → ∃ b' rs, lcL [i] (put i) gt (lastF fe) ds ⟨b, es.set i .un, t⟩ = .ok (rs, ⟨b', es.set i .un, t⟩) ∧ Paired F (ds.filter p) rs ∧ I (k + (ds.filter p).length) b'
  | [], _, _, k, b, h => ⟨b, [], rfl, .nil, h⟩
  | d :: ds, hi, st, k, b, h => by
    obtain ⟨b1, r, e1, e2⟩ := st d (List.mem_cons_self ..) k b h
    have st' := fun d' hd' => st d' (List.mem_cons_of_mem _ hd')
    unfold lcL
    cases hp : p d with
    | false =>
      obtain ⟨b2, rs, e3, e4, e5⟩ := lc_at hi st' k b h
      refine ⟨b2, rs, ?_, by rw [List.filter_cons_of_neg (by rw [hp]; exact Bool.false_ne_true)]; exact e4, by rw [List.filter_cons_of_neg (by rw [hp]; exact Bool.false_ne_true)]; exact e5⟩
      rw [hp] at e1
      simp [e1, clr, clrE, e3]
    | true =>
      rw [hp] at e1 e2
      obtain ⟨e2, hF, hI⟩ := e2 rfl
      obtain ⟨b2, rs, e3, e4, e5⟩ := lc_at hi st' (k + 1) b1 hI
      refine ⟨b2, r :: rs, ?_, by rw [List.filter_cons_of_pos hp]; exact .cons hF e4, by rw [List.filter_cons_of_pos hp, List.length_cons, show k + ((ds.filter p).length + 1) = k + 1 + (ds.filter p).length by omega]; exact e5⟩
      simp [e1, clr, clrE, e2, e3]
theorem resE_one {es : List Ent} (hi : i < es.length) : resE es (es.set i .un) [i] = es := by
  show (es.set i .un).set i (es[i]?.getD .un) = es
  simp [hi]
theorem lcF_at {I : Nat → Option (List D) → Prop} {t : Option Addr} {es : List Ent} {F : D → β → Prop} {p : D → Bool} {fi : M (List D)} {g : Sg} {ds : List D} {b : Option (List D)} {k : Nat} (hfi : fi g = .ok (ds, ⟨b, es, t⟩)) (hk : keepable ⟨b, es, t⟩ [i] = true) (hn : ds.length ≤ 16777216) (hi : i < es.length) (hb : I k b)
    (st : ∀ d ∈ ds, ∀ k b, I k b → ∃ b' r, gt ⟨b, es.set i (.im d), t⟩ = .ok (p d, ⟨b, es.set i (.im d), t⟩) ∧ (p d = true → fe ⟨b, es.set i (.im d), t⟩ = .ok (r, ⟨b', es.set i (.im d), t⟩) ∧ F d r ∧ I (k + 1) b')) :
    ∃ b' rs, lcF [i] fi (put i) gt (lastF fe) g = .ok (rs, ⟨b', es, t⟩) ∧ Paired F (ds.filter p) rs ∧ I (k + (ds.filter p).length) b' := by
  obtain ⟨b', rs, e, h1, h2⟩ := lc_at (F := F) hi st k b hb
  refine ⟨b', rs, ?_, h1, h2⟩
  have hl : rs.length ≤ 16777216 := by
    have z := paired_len h1
    have z2 := List.length_filter_le p ds
    omega
  unfold lcF
  rw [bind_at, hfi, rbind_ok]
  simp only [hk, if_true, clrE, e]
  rw [if_pos (by unfold lenOk; exact decide_eq_true hl), resE_one hi]
/-- what is taken by p, made by F; nothing else is touched -/
theorem lcF_fil {t : Option Addr} {es : List Ent} {F : D → β} {p : D → Bool} {fi : M (List D)} {g : Sg} {ds : List D} {b : Option (List D)} (hfi : fi g = .ok (ds, ⟨b, es, t⟩)) (hk : keepable ⟨b, es, t⟩ [i] = true) (hn : ds.length ≤ 16777216) (hi : i < es.length)
    (st : ∀ d ∈ ds, gt ⟨b, es.set i (.im d), t⟩ = .ok (p d, ⟨b, es.set i (.im d), t⟩) ∧ (p d = true → fe ⟨b, es.set i (.im d), t⟩ = .ok (F d, ⟨b, es.set i (.im d), t⟩))) :
    lcF [i] fi (put i) gt (lastF fe) g = .ok ((ds.filter p).map F, ⟨b, es, t⟩) := by
  obtain ⟨b', rs, e, h1, h2⟩ := lcF_at (I := fun _ b' => b' = b) (F := fun d r => r = F d) (p := p) (k := 0) hfi hk hn hi rfl fun d hd _ b' hb' => by
    subst hb'
    obtain ⟨s1, s2⟩ := st d hd
    exact ⟨b', F d, s1, fun z => ⟨s2 z, rfl, rfl⟩⟩
  subst h2
  rw [e, paired_map h1]
theorem lcF_map {t : Option Addr} {es : List Ent} {F : D → β} {fi : M (List D)} {g : Sg} {ds : List D} {b : Option (List D)} (hfi : fi g = .ok (ds, ⟨b, es, t⟩)) (hk : keepable ⟨b, es, t⟩ [i] = true) (hn : ds.length ≤ 16777216) (hi : i < es.length)
    (st : ∀ d ∈ ds, fe ⟨b, es.set i (.im d), t⟩ = .ok (F d, ⟨b, es.set i (.im d), t⟩)) :
    lcF [i] fi (put i) (M.pur true) (lastF fe) g = .ok (ds.map F, ⟨b, es, t⟩) := by
  rw [lcF_fil (p := fun _ => true) hfi hk hn hi fun d hd => ⟨rfl, fun _ => st d hd⟩, List.filter_eq_self.mpr fun _ _ => rfl]
end
end DL
set_option maxRecDepth 100000
set_option maxHeartbeats 1000000
/-! M2: the box. -/
namespace DL
open PySem PySem.Spec L2
/-- the box: digits, and where one stands (at n at most) -/
def Bx (n : Nat) (bs : List D) : Prop := ∃ (digs : List Int) (k : Nat), bs = [.list (digs.map .int), .int (k : Int)] ∧ k ≤ n
theorem Bx.le {n m : Nat} {bs : List D} (h : Bx n bs) (l : n ≤ m) : Bx m bs := let ⟨d, k, e, q⟩ := h; ⟨d, k, e, Nat.le_trans q l⟩
theorem draw_ok {n : Nat} {bs : List D} {m : Nat} (h : Bx n bs) (hn : n ≤ 1000000) (hm : 0 < m) : ∃ (r : Nat) (bs' : List D), r < m ∧ f__law_draw bs [.int (m : Int)] = .ok (.int (r : Int), bs') ∧ Bx (n + 1) bs' := by
  obtain ⟨digs, k, rfl, hk⟩ := h
  have hm' : (0 : Int) < (m : Int) := by omega
  have fin : ∀ x : Int, ∃ r : Nat, r < m ∧ x % (m : Int) = (r : Int) := fun x => ⟨(x % (m : Int)).toNat, by have := Int.emod_nonneg x (show (m : Int) ≠ 0 by omega); have := Int.emod_lt_of_pos x hm'; omega, by have := Int.emod_nonneg x (show (m : Int) ≠ 0 by omega); omega⟩
  have bx : Bx (n + 1) [.list (digs.map .int), .int ((k : Int) + 1)] := ⟨digs, k + 1, by simp, by omega⟩
  have s1 : smallI (k : Int) = true := small_of (by omega) (by omega)
  by_cases hl : k < digs.length
  · obtain ⟨r, h1, h2⟩ := fin (digs[k])
    refine ⟨r, _, h1, ?_, bx⟩
    unfold f__law_draw semB m__law_draw
    have e : atW (.dat (.list (digs.map .int))) (.dat (.int (k : Int))) = M.pur (.int digs[k]) := by rw [atW_natL (by rw [List.length_map]; exact hl)]; simp
    simp [sq, unbox, boxSet, argsE, e, hl, modV_at hm', runB, h2]
  · obtain ⟨r, h1, h2⟩ := fin ((k : Int) * k * 3 + k * 4 + k / 3 + 1)
    refine ⟨r, _, h1, ?_, bx⟩
    unfold f__law_draw semB m__law_draw
    simp [sq, unbox, boxSet, argsE, hl, modV_at hm', runB, h2, mulV_l s1, mulV_r (j := 3) (small_of (by omega) (by omega)), mulV_r (j := 4) (small_of (by omega) (by omega)), fdivV_at (j := 3) (by omega) (by omega)]
theorem pick_ok {n : Nat} {bs : List D} {ds : List D} (h : Bx n bs) (hn : n ≤ 1000000) (hd : 0 < ds.length) : ∃ (d : D) (bs' : List D), d ∈ ds ∧ f__law_pick bs [.list ds] = .ok (d, bs') ∧ Bx (n + 1) bs' := by
  obtain ⟨r, bs', hr, e, hb⟩ := draw_ok h hn hd
  refine ⟨ds[r], bs', List.getElem_mem hr, ?_, hb⟩
  unfold f__law_pick semB m__law_pick
  simp [argsE, e, atW_natL hr, runB]
end DL
set_option maxRecDepth 100000
set_option maxHeartbeats 1000000
/-! M3: the tables. -/
namespace DL
open PySem PySem.Spec L2
def nTu (xs : List Nat) : D := .tuple (xs.map fun (k : Nat) => PyData.int (k : Int))
def tTa (t : List (List Nat)) : D := .tuple (t.map nTu)
def ent (t : List (List Nat)) (a b : Nat) : Nat := (t.getD a []).getD b 0
structure Good (t : List (List Nat)) (s : Nat) : Prop where
  s1 : 1 ≤ s
  s5 : s ≤ 5
  len : t.length = s
  row : ∀ a, a < s → (t.getD a []).length = s
  lt : ∀ a, a < s → ∀ b, b < s → ent t a b < s
  idem : ∀ a, a < s → ent t a a = a
  dist : ∀ a, a < s → ∀ b, b < s → ∀ c, c < s → ent t (ent t a b) c = ent t (ent t a c) (ent t b c)
  fault : f_table_fault [tTa t] = .ok .none
structure Back (t u : List (List Nat)) (s : Nat) : Prop where
  len : u.length = s
  row : ∀ a, a < s → (u.getD a []).length = s
  lt : ∀ a, a < s → ∀ b, b < s → ent u a b < s
  l1 : ∀ a, a < s → ∀ b, b < s → ent u (ent t a b) b = a
  l2 : ∀ a, a < s → ∀ b, b < s → ent t (ent u a b) b = a
  back : f_back_table [tTa t] = .ok (tTa u)
def t2 : List (List Nat) := [[0, 0], [1, 1]]
def t3 : List (List Nat) := [[0, 2, 1], [2, 1, 0], [1, 0, 2]]
def t4 : List (List Nat) := [[0, 2, 0, 2], [3, 1, 3, 1], [2, 0, 2, 0], [1, 3, 1, 3]]
def t5 : List (List Nat) := [[0, 4, 3, 2, 1], [2, 1, 0, 4, 3], [4, 3, 2, 1, 0], [1, 0, 4, 3, 2], [3, 2, 1, 0, 4]]
def tk : List (List Nat) := [[0, 2, 3, 1], [3, 1, 0, 2], [1, 3, 2, 0], [2, 0, 1, 3]]
def u5 : List (List Nat) := [[0, 3, 1, 4, 2], [3, 1, 4, 2, 0], [1, 4, 2, 0, 3], [4, 2, 0, 3, 1], [2, 0, 3, 1, 4]]
def uk : List (List Nat) := [[0, 3, 1, 2], [2, 1, 3, 0], [3, 0, 2, 1], [1, 2, 0, 3]]
def rk : List (List Nat) := [[0, 1, 1, 0], [1, 0, 1, 0], [1, 1, 0, 0], [0, 0, 0, 0]]
theorem good2 : Good t2 2 := ⟨by decide, by decide, rfl, by decide +kernel, by decide +kernel, by decide +kernel, by decide +kernel, by kernel_rfl⟩
theorem good3 : Good t3 3 := ⟨by decide, by decide, rfl, by decide +kernel, by decide +kernel, by decide +kernel, by decide +kernel, by kernel_rfl⟩
theorem good4 : Good t4 4 := ⟨by decide, by decide, rfl, by decide +kernel, by decide +kernel, by decide +kernel, by decide +kernel, by kernel_rfl⟩
theorem good5 : Good t5 5 := ⟨by decide, by decide, rfl, by decide +kernel, by decide +kernel, by decide +kernel, by decide +kernel, by kernel_rfl⟩
theorem goodk : Good tk 4 := ⟨by decide, by decide, rfl, by decide +kernel, by decide +kernel, by decide +kernel, by decide +kernel, by kernel_rfl⟩
theorem back2 : Back t2 t2 2 := ⟨rfl, by decide +kernel, by decide +kernel, by decide +kernel, by decide +kernel, by kernel_rfl⟩
theorem back3 : Back t3 t3 3 := ⟨rfl, by decide +kernel, by decide +kernel, by decide +kernel, by decide +kernel, by kernel_rfl⟩
theorem back4 : Back t4 t4 4 := ⟨rfl, by decide +kernel, by decide +kernel, by decide +kernel, by decide +kernel, by kernel_rfl⟩
theorem back5 : Back t5 u5 5 := ⟨rfl, by decide +kernel, by decide +kernel, by decide +kernel, by decide +kernel, by kernel_rfl⟩
theorem backk : Back tk uk 4 := ⟨rfl, by decide +kernel, by decide +kernel, by decide +kernel, by decide +kernel, by kernel_rfl⟩
theorem turned2 : f_turned_table [.int 2] = .ok (tTa t2) := by kernel_rfl
theorem turned3 : f_turned_table [.int 3] = .ok (tTa t3) := by kernel_rfl
theorem turned4 : f_turned_table [.int 4] = .ok (tTa t4) := by kernel_rfl
theorem shifted5 : f_shifted_table [.int 5, .int 2] = .ok (tTa t5) := by kernel_rfl
theorem known_at : f__law_known [] = .ok (.tuple [tTa tk, tTa rk]) := by kernel_rfl
end DL
set_option maxRecDepth 100000
set_option maxHeartbeats 1000000
/-! M4: small defs. -/
namespace DL
open PySem PySem.Spec L2
@[simp] theorem chF_at (h h2 : View → View → M D) (f f2 f3 : M View) (g : Sg) : chF h h2 f f2 f3 g = R.bind (f g) fun p => R.bind (f2 p.2) fun q => R.bind (R.bind (h p.1 q.1 q.2) fun r => toB r.1 r.2) fun c => (if c.1 = true then f3.bind fun z => h2 q.1 z else M.pur (.bool false)) c.2 := Eq.trans rfl rfl
theorem isint_int (i : Int) : f_is_integer [.int i] = .ok (.bool true) := by kernel_rfl
theorem isint_bool (c : Bool) : f_is_integer [.bool c] = .ok (.bool false) := by cases c <;> kernel_rfl
theorem isint_none : f_is_integer [.none] = .ok (.bool false) := by kernel_rfl
theorem rg_nat (n : Nat) : rgD 0 (n : Int) = (List.range n).map fun (i : Nat) => PyData.int (i : Int) := by
  unfold rgD
  simp
@[simp] theorem rg1_at {n : Nat} (h : n ≤ 1000000) : rg1 [.dat (.int (n : Int))] = M.pur (rgD 0 (n : Int)) := by
  funext g
  show need (okR (n : Int)) (M.pur (rgD 0 (n : Int))) g = _
  rw [need_of (by unfold okR; rw [Bool.and_eq_true, decide_eq_true_eq, decide_eq_true_eq]; omega)]
theorem power_ok {b n : Nat} (hb : b ≤ 100) (hn : n ≤ 100) : f_to_power [.int (b : Int), .int (n : Int)] = .ok (.int ((b ^ n : Nat) : Int)) := by
  have st := for_fold (S := Nat) (X := Nat) (ga := put 3) (fb := uAug 2 (nam 0) mulV) (f := fun (i : Nat) => PyData.int (i : Int)) (xs := List.range n) (step := fun (s : Nat) _ => s * b)
    (I := fun (s : Nat) g => ∃ e, g = ⟨none, [.im (.int (b : Int)), .im (.int (n : Int)), .im (.int (s : Int)), e], none⟩) (fun x _ s g h => by
      obtain ⟨e, rfl⟩ := h
      refine ⟨_, _, rfl, ?_, .im (.int (x : Int)), rfl⟩
      simp [mulV_r (i := (s : Int)) (small_of (i := (b : Int)) (by omega) (by omega))]) 1 ⟨none, [.im (.int (b : Int)), .im (.int (n : Int)), .im (.int ((1 : Nat) : Int)), .un], none⟩ ⟨_, rfl⟩
  obtain ⟨g', e, ⟨e3, rfl⟩⟩ := st
  have pw : ∀ (m s : Nat), (List.range m).foldl (fun (s : Nat) _ => s * b) s = s * b ^ m := fun m => by
    induction m with
    | zero => intro s; simp
    | succ m ih => intro s; rw [List.range_succ, List.foldl_append, ih]; simp [Nat.pow_succ, Nat.mul_assoc]
  rw [pw, Nat.one_mul] at e
  unfold f_to_power semP m_to_power
  have h2 : n ≤ 1000000 := by omega
  rw [← rg_nat] at e
  simp [sq, argsE, h2, e, runO] at e ⊢
/-- the word's letters are data of ints -/
def wT (w : List Int) : D := .tuple (w.map PyData.int)
def Letters (n : Nat) (w : List Int) : Prop := ∀ l ∈ w, 1 ≤ l.natAbs ∧ l.natAbs < n
@[simp] theorem absW_at (i : Int) : absW (.dat (.int i)) = M.pur (.int (i.natAbs : Int)) := by
  funext g
  show R.ok (PyData.int (if i < 0 then -i else i), g) = .ok (.int (i.natAbs : Int), g)
  congr 3
  split <;> omega
theorem asTru_true {α : Type} (xs : List α) : asTru (xs.map fun _ => PyData.bool true) = some (xs.map fun _ => true) := by
  induction xs with
  | nil => rfl
  | cons x xs ih => simp [asTru, ih]
@[simp] theorem isiW_at (T : String) (d : D) : isiW T (.dat d) = match isT T d with
  | some c => M.pur (.bool c)
  | none => M.no := Eq.trans rfl rfl
@[simp] theorem anyW_at (all : Bool) (ds : List D) : anyW all (.dat (.list ds)) = match asTru ds with
  | some cs => M.pur (.bool (if all = true then cs.all id else cs.any id))
  | none => M.no := Eq.trans rfl rfl
theorem check_ok {n : Nat} {w : List Int} (h1 : 1 ≤ n) (h6 : n ≤ 6) (hl : w.length ≤ 2000) (hw : Letters n w) : f_check_word [.int (n : Int), wT w] = .ok .none := by
  have lc := lcF_map (i := 2) (fi := (sV 3 (nam 1)).bind seqF) (fe := sAndV (sCall 3 (sCons (nam 2) sNil) f_is_integer) (chF leV ltV (sD (M.pur (.int 1))) (sD ((sCons (nam 2) sNil).bind (arg1 absW))) (nam 0))) (F := fun _ => PyData.bool true) (t := none) (b := none) (es := [.im (.int (n : Int)), .im (wT w), .un]) (g := ⟨none, [.im (.int (n : Int)), .im (wT w), .un], none⟩) (ds := w.map PyData.int)
    (by simp [wT]) (by rfl) (by rw [List.length_map]; omega) (by simp) (fun d hd => by
      obtain ⟨l, hl', rfl⟩ := List.mem_map.mp hd
      obtain ⟨q1, q2⟩ := hw l hl'
      simp [isint_int, q2, show (1 : Int) ≤ (l.natAbs : Int) by omega])
  rw [List.map_map] at lc
  have e : ((fun _ => PyData.bool true) ∘ PyData.int : Int → D) = fun _ => PyData.bool true := rfl
  rw [e] at lc
  have h1' : (1 : Int) ≤ (n : Int) := by omega
  have h6' : (n : Int) ≤ 6 := by omega
  have hl' : ¬ (2000 : Int) < (w.length : Int) := by omega
  unfold f_check_word semP m_check_word
  simp only [wT] at lc
  simp [sq, argsE, isint_int, h1', h6', isT, tyN, wT, runO, hl', lc, asTru_true]
end DL
set_option maxRecDepth 100000
set_option maxHeartbeats 1000000
/-! M5: _law_word. -/
namespace DL
open PySem PySem.Spec L2
theorem for_idx {ga : D → M Unit} {fb : M Out} {I : Nat → Sg → Prop} : ∀ {ds : List D} {k n : Nat}, k + ds.length = n → (∀ d ∈ ds, ∀ k g, k < n → I k g → ∃ g1 g2, noEr (ga d) g = .ok ((), g1) ∧ fb g1 = .ok (.nx, g2) ∧ I (k + 1) g2) →
    ∀ g, I k g → ∃ g', forD ga fb ds g = .ok (.nx, g') ∧ I n g'
  | [], k, n, hn, _, g, h => ⟨g, rfl, by rw [← hn]; exact h⟩
  | d :: ds, k, n, hn, st, g, h => by
    rw [List.length_cons] at hn
    obtain ⟨g1, g2, e1, e2, h2⟩ := st d (List.mem_cons_self ..) k g (by omega) h
    obtain ⟨g', e3, h3⟩ := for_idx (k := k + 1) (n := n) (by omega) (fun d' hd' => st d' (List.mem_cons_of_mem _ hd')) g2 h2
    refine ⟨g', ?_, h3⟩
    unfold forD
    rw [bind_at, e1, rbind_ok, bind_at, e2, rbind_ok]
    exact e3
@[simp] theorem sq_at (f h : M Out) (g : Sg) : sq f h g = R.bind (f g) fun p => (match p.1 with
  | .nx => h
  | o => M.pur o) p.2 := Eq.trans rfl rfl
@[simp] theorem ownL_at (i : Nat) (b : Option (List D)) (es : List Ent) (t : Option Addr) : ownL i ⟨b, es, t⟩ = match es[i]? with
  | some (.ol _) => .ok ((), ⟨b, es, t⟩)
  | _ => .no := Eq.trans rfl rfl
@[simp] theorem appO_at (i : Nat) (d : D) (b : Option (List D)) (es : List Ent) (t : Option Addr) : appO i d ⟨b, es, t⟩ = match es[i]? with
  | some (.ol ds) => if lenOk (ds.length + 1) = true then .ok (.nx, ⟨b, es.set i (.ol (ds ++ [d])), t⟩) else .no
  | _ => .no := Eq.trans rfl rfl
theorem lenOk_of {n : Nat} (h : n ≤ 16777216) : lenOk n = true := decide_eq_true h
theorem eqV_ints (i j : Int) : eqV' (.dat (.int i)) (.dat (.int j)) = M.pur (.bool (decide (i = j))) := by
  have e : PyData.eqv (.int i) (.int j) = decide (i = j) := by
    simp only [PyData.eqv]
    by_cases h : i = j <;> simp [h]
  show need (SeqAt.shaped (PyData.int i) && SeqAt.shaped (PyData.int j)) (M.pur (PyData.bool (PyData.eqv (.int i) (.int j)))) = _
  rw [e]
  exact need_of (by rfl) _
theorem neV_ints (i j : Int) : neV' (.dat (.int i)) (.dat (.int j)) = M.pur (.bool (decide (i ≠ j))) := by
  have e : PyData.eqv (.int i) (.int j) = decide (i = j) := by
    simp only [PyData.eqv]
    by_cases h : i = j <;> simp [h]
  show need (SeqAt.shaped (PyData.int i) && SeqAt.shaped (PyData.int j)) (M.pur (PyData.bool (!PyData.eqv (.int i) (.int j)))) = _
  rw [e, need_of (by rfl)]
  by_cases h : i = j <;> simp [h]
@[simp] theorem tupW_list (ds : List D) : tupW (.dat (.list ds)) = M.pur (.tuple ds) := Eq.trans rfl rfl
@[simp] theorem seqOf_own (i : Nat) (b : Option (List D)) (es : List Ent) (t : Option Addr) : seqOf (.own i) ⟨b, es, t⟩ = match es[i]? with
  | some (.ol ds) => .ok ((false, ds), ⟨b, es, t⟩)
  | _ => .no := Eq.trans rfl rfl
@[simp] theorem tupW_own (i : Nat) (g : Sg) : tupW (.own i) g = R.bind (seqOf (.own i) g) fun q => .ok (.tuple q.1.2, q.2) := Eq.trans rfl rfl
theorem word_ok {N n most : Nat} {bs : List D} (h : Bx N bs) (hN : N ≤ 900000) (hn : 1 ≤ n) (hm : most ≤ 100) : ∃ (w : List Int) (bs' : List D), Letters n w ∧ w.length ≤ most ∧ f__law_word bs [.int (n : Int), .int (most : Int)] = .ok (wT w, bs') ∧ Bx (N + 1 + 2 * most) bs' := by
  by_cases h1 : n = 1
  · subst h1
    refine ⟨[], bs, (fun l hl => by cases hl), Nat.zero_le _, ?_, h.le (by omega)⟩
    unfold f__law_word semB m__law_word
    simp [argsE, eqV_ints, runB, wT, tupF, lenOk_of, need_of]
  · obtain ⟨r, bs1, hr, e1, hb1⟩ := draw_ok h (by omega) (show 0 < most + 1 by omega)
    have st := for_idx (ga := put 4) (fb := (sq (uSet 5 (s2 (sD (M.pur (.int 1))) (sD (sCallB 0 (sCons (sD (s2 (nam 1) (sD (M.pur (.int 1))) subV)) sNil) f__law_draw)) addV))
      (uApp 3 (sIf (sT (s2 (sD (sCallB 0 (sCons (sD (M.pur (.int 2))) sNil) f__law_draw)) (sD (M.pur (.int 0))) eqV')) (sV 0 (nam 5)) (s2 (sD (M.pur (.int 0))) (nam 5) subV)))))
      (I := fun k g => ∃ (b : List D) (w : List Int) (e4 e5 : Ent), g = ⟨some b, [.un, .im (.int (n : Int)), .im (.int (most : Int)), .ol (w.map PyData.int), e4, e5], none⟩ ∧ Bx (N + 1 + 2 * k) b ∧ Letters n w ∧ w.length = k)
      (ds := rgD 0 (r : Int)) (k := 0) (n := r) (by rw [rg_nat]; simp) (fun d _ k g hk hg => by
        obtain ⟨b, w, e4, e5, rfl, hb, hw, hl⟩ := hg
        obtain ⟨r1, b1, hr1, q1, hb'⟩ := draw_ok hb (by omega) (show 0 < n - 1 by omega)
        obtain ⟨r2, b2, hr2, q2, hb''⟩ := draw_ok hb' (by omega) (show 0 < 2 by omega)
        have c1 : ((n - 1 : Nat) : Int) = (n : Int) - 1 := by omega
        rw [c1] at q1
        have lk : lenOk (w.length + 1) = true := lenOk_of (by omega)
        refine ⟨_, _, rfl, ?_, b2, w ++ [if r2 = 0 then 1 + (r1 : Int) else 0 - (1 + (r1 : Int))], .im d, .im (.int (1 + (r1 : Int))), rfl, hb''.le (by omega), ?_, by rw [List.length_append]; simp [hl]⟩
        · by_cases hz : r2 = 0
          · subst hz
            have q2 : f__law_draw b1 [.int 2] = .ok (.int 0, b2) := q2
            simp [q1, q2, eqV_ints, lk]
          · have q2 : f__law_draw b1 [.int 2] = .ok (.int (r2 : Int), b2) := q2
            have hz' : ¬ ((r2 : Int) = 0) := by omega
            simp [q1, q2, eqV_ints, lk, hz, hz']
        · intro l hl
          rcases List.mem_append.mp hl with z | z
          · exact hw l z
          · have z := List.mem_singleton.mp z
            subst z
            split <;> omega)
      ⟨some bs1, [.un, .im (.int (n : Int)), .im (.int (most : Int)), .ol [], .un, .un], none⟩ ⟨bs1, [], _, _, rfl, hb1.le (by omega), (fun l hl => by cases hl), rfl⟩
    obtain ⟨g', e, b, w, e4, e5, rfl, hb, hw, hl⟩ := st
    refine ⟨w, b, hw, by omega, ?_, hb.le (by omega)⟩
    have hn1 : ¬ ((n : Int) = 1) := by omega
    unfold f__law_word semB m__law_word
    have c2 : ((most + 1 : Nat) : Int) = (most : Int) + 1 := by omega
    rw [c2] at e1
    have hr2 : r ≤ 1000000 := by omega
    simp [argsE, eqV_ints, hn1, lstF, lenOk_of, need_of, e1, hr2, e, runB, wT]
end DL
set_option maxRecDepth 100000
set_option maxHeartbeats 1000000
/-! M6: all_rows. -/
namespace DL
open PySem PySem.Spec L2
def rowsOf (s : Nat) : Nat → List (List Nat)
  | 0 => [[]]
  | n + 1 => (rowsOf s n).flatMap fun row => (List.range s).map fun k => row ++ [k]
theorem rowsOf_len (s : Nat) : ∀ n, (rowsOf s n).length = s ^ n
  | 0 => rfl
  | n + 1 => by
    have ih := rowsOf_len s n
    unfold rowsOf
    rw [List.length_flatMap]
    simp only [List.length_map, List.length_range]
    rw [List.map_const', ih, List.sum_replicate_nat, Nat.pow_succ]
theorem rowsOf_mem {s : Nat} : ∀ {n : Nat} {row : List Nat}, row ∈ rowsOf s n ↔ row.length = n ∧ ∀ k ∈ row, k < s
  | 0, row => by
    constructor
    · intro h
      obtain rfl := List.mem_singleton.mp h
      exact ⟨rfl, fun k hk => by cases hk⟩
    · rintro ⟨h, _⟩
      rw [List.length_eq_zero_iff.mp h]
      exact List.mem_singleton.mpr rfl
  | n + 1, row => by
    have ih := @rowsOf_mem s n
    unfold rowsOf
    rw [List.mem_flatMap]
    constructor
    · rintro ⟨r, hr, h⟩
      obtain ⟨k, hk, rfl⟩ := List.mem_map.mp h
      obtain ⟨h1, h2⟩ := ih.mp hr
      refine ⟨by rw [List.length_append, h1]; rfl, fun x hx => ?_⟩
      rcases List.mem_append.mp hx with z | z
      · exact h2 x z
      · rw [List.mem_singleton.mp z]
        exact List.mem_range.mp hk
    · rintro ⟨h1, h2⟩
      have hne : row ≠ [] := fun z => by rw [z] at h1; cases h1
      refine ⟨row.dropLast, ih.mpr ⟨by rw [List.length_dropLast, h1]; rfl, fun x hx => h2 x (List.dropLast_subset _ hx)⟩, List.mem_map.mpr ⟨row.getLast hne, List.mem_range.mpr (h2 _ (List.getLast_mem hne)), List.dropLast_concat_getLast hne⟩⟩
/-- many items for each -/
theorem lcL_cat {β : Type} {vs : List Nat} {i : Nat} {f : M (List β)} {G : D → List β} {b : Option (List D)} {t : Option Addr} {es0 : List Ent} : ∀ {ds : List D}, (∀ d ∈ ds, ∃ es1, f ⟨b, es0.set i (.im d), t⟩ = .ok (G d, ⟨b, es1, t⟩) ∧ clrE es1 vs = es0) →
    lcL vs (put i) (M.pur true) f ds ⟨b, es0, t⟩ = .ok (ds.flatMap G, ⟨b, es0, t⟩)
  | [], _ => rfl
  | d :: ds, st => by
    obtain ⟨es1, e1, e2⟩ := st d (List.mem_cons_self ..)
    have ih := lcL_cat (ds := ds) fun d' hd' => st d' (List.mem_cons_of_mem _ hd')
    unfold lcL
    simp [e1, clr, e2, ih]
theorem rows_step {s n : Nat} (row : List Nat) (hl : row.length ≤ 100) (hs : s ≤ 100) {e0 e1 e2 e3 : Ent} (h1 : e1 = .im (.list ((List.range s).map fun (k : Nat) => PyData.int (k : Int)))) :
    (midF [5] ((sV 6 (nam 1)).bind seqF) (put 5) (M.pur true) (lastF (s2 (nam 4) (sD (sTup 6 (sCons (nam 5) sNil))) addV))) ⟨none, [e0, e1, e2, e3, .im (nTu row), .un], none⟩ = .ok ((List.range s).map fun k => nTu (row ++ [k]), ⟨none, [e0, e1, e2, e3, .im (nTu row), .un], none⟩) := by
  subst h1
  have e := lc_at (i := 5) (gt := M.pur true) (fe := s2 (nam 4) (sD (sTup 6 (sCons (nam 5) sNil))) addV) (I := fun _ b => b = none) (t := none) (es := [e0, .im (.list ((List.range s).map fun (k : Nat) => PyData.int (k : Int))), e2, e3, .im (nTu row), .un]) (F := fun d r => ∃ k : Nat, d = .int (k : Int) ∧ r = nTu (row ++ [k])) (p := fun _ => true)
    (ds := (List.range s).map fun (k : Nat) => PyData.int (k : Int)) (by simp) (fun d hd k b hb => by
      obtain ⟨x, hx, rfl⟩ := List.mem_map.mp hd
      subst hb
      refine ⟨none, nTu (row ++ [x]), rfl, fun _ => ⟨?_, ⟨x, rfl, rfl⟩, rfl⟩⟩
      have lk : lenOk (row.length + 1) = true := lenOk_of (by omega)
      simp [tupF, lenOk_of, need_of, nTu, addV, lk]) 0 none rfl
  obtain ⟨b', rs, e1, e2, rfl⟩ := e
  rw [List.filter_eq_self.mpr fun _ _ => rfl] at e2
  have key : ∀ {xs : List Nat} {rs : List D}, Paired (fun d r => ∃ k : Nat, d = PyData.int (k : Int) ∧ r = nTu (row ++ [k])) (xs.map fun (k : Nat) => PyData.int (k : Int)) rs → rs = xs.map fun k => nTu (row ++ [k]) := by
    intro xs
    induction xs with
    | nil => intro rs h; cases h; rfl
    | cons x xs ih =>
      intro rs h
      cases h with
      | cons h1 h2 =>
        obtain ⟨k, q1, rfl⟩ := h1
        have : x = k := by injection q1 with q; omega
        subst this
        rw [ih h2]
        rfl
  have e2 := key e2
  subst e2
  unfold midF
  simp [clr, clrE] at e1 ⊢
  exact e1
theorem all_rows_ok {n s : Nat} (hn : n ≤ 6) (hs : s ≤ 7) (hp : s ^ n ≤ 1000000) (hp1 : 1 ≤ s) : f_all_rows [.int (n : Int), .list ((List.range s).map fun (k : Nat) => PyData.int (k : Int))] = .ok (.list ((rowsOf s n).map nTu)) := by
  have st := for_idx (ga := put 3) (fb := (uSet 2 (sL (lcF [4, 5] ((sV 6 (nam 2)).bind seqF) (put 4) (M.pur true) (midF [5] ((sV 6 (nam 1)).bind seqF) (put 5) (M.pur true) (lastF (s2 (nam 4) (sD (sTup 6 (sCons (nam 5) sNil))) addV)))))))
    (I := fun k g => ∃ e3 : Ent, g = ⟨none, [.im (.int (n : Int)), .im (.list ((List.range s).map fun (k : Nat) => PyData.int (k : Int))), .im (.list ((rowsOf s k).map nTu)), e3, .un, .un], none⟩) (ds := rgD 0 (n : Int)) (k := 0) (n := n) (by rw [rg_nat]; simp) (fun d _ k g hk hg => by
      obtain ⟨e3, rfl⟩ := hg
      refine ⟨_, _, rfl, ?_, .im d, rfl⟩
      have e := lcL_cat (vs := [4, 5]) (i := 4) (b := none) (t := none) (es0 := [.im (.int (n : Int)), .im (.list ((List.range s).map fun (k : Nat) => PyData.int (k : Int))), .im (.list ((rowsOf s k).map nTu)), .im d, .un, .un])
        (f := midF [5] ((sV 6 (nam 1)).bind seqF) (put 5) (M.pur true) (lastF (s2 (nam 4) (sD (sTup 6 (sCons (nam 5) sNil))) addV))) (G := fun d => match d with
          | .tuple ds => (List.range s).map fun (k : Nat) => .tuple (ds ++ [.int (k : Int)])
          | _ => []) (ds := (rowsOf s k).map nTu) (fun d hd => by
            obtain ⟨row, hr, rfl⟩ := List.mem_map.mp hd
            obtain ⟨l1, l2⟩ := rowsOf_mem.mp hr
            refine ⟨[.im (.int (n : Int)), .im (.list ((List.range s).map fun (k : Nat) => PyData.int (k : Int))), .im (.list ((rowsOf s k).map nTu)), .im d, .im (nTu row), .un], ?_, rfl⟩
            have z := rows_step (s := s) (n := n) row (by omega) (by omega) (e0 := .im (.int (n : Int))) (e2 := .im (.list ((rowsOf s k).map nTu))) (e3 := .im d) rfl
            simp [nTu] at z ⊢
            exact z)
      have fm : ((rowsOf s k).map nTu).flatMap (fun d => match d with
          | .tuple ds => (List.range s).map fun (k : Nat) => PyData.tuple (ds ++ [.int (k : Int)])
          | _ => []) = (rowsOf s (k + 1)).map nTu := by
        show _ = ((rowsOf s k).flatMap fun row => (List.range s).map fun k => row ++ [k]).map nTu
        rw [List.flatMap_map, List.map_flatMap]
        congr 1
        funext row
        simp [nTu, List.map_map, Function.comp_def]
      rw [fm] at e
      have lk : lenOk ((rowsOf s (k + 1)).map nTu).length = true := lenOk_of (by
        rw [List.length_map, rowsOf_len]
        have : s ^ (k + 1) ≤ s ^ n := Nat.pow_le_pow_right hp1 (by omega)
        omega)
      rw [List.length_map] at lk
      simp [lcF, keepable, clrE, resE, e, lk])
    ⟨none, [.im (.int (n : Int)), .im (.list ((List.range s).map fun (k : Nat) => PyData.int (k : Int))), .im (.list ((rowsOf s 0).map nTu)), .un, .un, .un], none⟩ ⟨.un, rfl⟩
  obtain ⟨g', e, e3, rfl⟩ := st
  have hn' : n ≤ 1000000 := by omega
  have z : PyData.list ((rowsOf s 0).map nTu) = .list [.tuple []] := rfl
  rw [z] at e
  unfold f_all_rows semP m_all_rows
  simp [argsE, tupF, lstF, lenOk_of, need_of, hn', e, runO]
end DL
set_option maxRecDepth 100000
set_option maxHeartbeats 1000000
/-! M7: reading and cutting rows; one letter's step. -/
namespace DL
open PySem PySem.Spec L2
theorem atR {row : List Nat} {k : Nat} (h : k < row.length) : atW (.dat (nTu row)) (.dat (.int (k : Int))) = M.pur (.int ((row.getD k 0 : Nat) : Int)) := by
  unfold nTu
  rw [atW_nat (by rw [List.length_map]; exact h)]
  simp [h]
theorem atR1 {row : List Nat} {k : Nat} (h : k + 1 < row.length) : atW (.dat (nTu row)) (.dat (.int ((k : Int) + 1))) = M.pur (.int ((row.getD (k + 1) 0 : Nat) : Int)) := atR (k := k + 1) h
def rowAt (t : List (List Nat)) (a : Nat) : List Nat := t.getD a []
theorem atT {t : List (List Nat)} {k : Nat} (h : k < t.length) : atW (.dat (tTa t)) (.dat (.int (k : Int))) = M.pur (nTu (rowAt t k)) := by
  unfold tTa rowAt
  rw [atW_nat (by rw [List.length_map]; exact h)]
  simp [h]
theorem atE {t : List (List Nat)} {a b : Nat} (h : b < (rowAt t a).length) : atW (.dat (nTu (rowAt t a))) (.dat (.int (b : Int))) = M.pur (.int ((ent t a b : Nat) : Int)) := atR h
theorem cut_lo {row : List Nat} {k : Nat} (h : k ≤ row.length) : cutW (.dat (nTu row)) none (some (k : Int)) = M.pur (nTu (row.take k)) := by
  show M.pur (PyData.tuple (cutD (row.map fun (k : Nat) => PyData.int (k : Int)) none (some (k : Int)))) = _
  unfold cutD
  rw [HT.sIx_none, HT.sIx_nat, List.length_map, Nat.min_eq_left h]
  simp [nTu, List.map_take]
theorem cut_hi {row : List Nat} {k : Nat} (h : k ≤ row.length) : cutW (.dat (nTu row)) (some (k : Int)) none = M.pur (nTu (row.drop k)) := by
  show M.pur (PyData.tuple (cutD (row.map fun (k : Nat) => PyData.int (k : Int)) (some (k : Int)) none)) = _
  unfold cutD
  rw [HT.sIx_none, HT.sIx_nat, List.length_map, Nat.min_eq_left h]
  simp [nTu, List.map_drop]
  rw [List.take_of_length_le (by simp)]
theorem cut_hi2 {row : List Nat} {k : Nat} (h : k + 2 ≤ row.length) : cutW (.dat (nTu row)) (some ((k : Int) + 2)) none = M.pur (nTu (row.drop (k + 2))) := cut_hi (k := k + 2) h
theorem add_nTu {xs ys : List Nat} (h : xs.length + ys.length ≤ 1000000) : addV (.dat (nTu xs)) (.dat (nTu ys)) = M.pur (nTu (xs ++ ys)) := by
  show need (lenOk ((xs.map fun (k : Nat) => PyData.int (k : Int)).length + (ys.map fun (k : Nat) => PyData.int (k : Int)).length)) (M.pur (PyData.tuple ((xs.map fun (k : Nat) => PyData.int (k : Int)) ++ ys.map fun (k : Nat) => PyData.int (k : Int)))) = _
  rw [need_of (lenOk_of (by simp; omega)), ← List.map_append]
  rfl
theorem len_nTu (xs : List Nat) : lenW (.dat (nTu xs)) = M.pur (.int (xs.length : Int)) := by
  unfold nTu
  rw [lenW_tup, List.length_map]
theorem len_tTa (t : List (List Nat)) : lenW (.dat (tTa t)) = M.pur (.int (t.length : Int)) := by
  unfold tTa
  rw [lenW_tup, List.length_map]
/-- a letter's place -/
def plc (l : Int) : Nat := l.natAbs - 1
def xOf (row : List Nat) (l : Int) : Nat := row.getD (plc l) 0
def yOf (row : List Nat) (l : Int) : Nat := row.getD (plc l + 1) 0
def put2 (row : List Nat) (p a b : Nat) : List Nat := row.take p ++ [a, b] ++ row.drop (p + 2)
def stepR (t u : List (List Nat)) (row : List Nat) (l : Int) : List Nat := if 0 < l then put2 row (plc l) (yOf row l) (ent t (xOf row l) (yOf row l)) else put2 row (plc l) (ent u (yOf row l) (xOf row l)) (xOf row l)
def stepW (u w : List (List Nat)) (row : List Nat) (l : Int) : Int := if 0 < l then (ent w (xOf row l) (yOf row l) : Nat) else - ((ent w (ent u (yOf row l) (xOf row l)) (xOf row l) : Nat) : Int)
end DL
set_option maxRecDepth 100000
set_option maxHeartbeats 1000000
/-! M8: one letter in weighed_colourings. -/
namespace DL
open PySem PySem.Spec L2
theorem getD_mem {row : List Nat} {k : Nat} (h : k < row.length) : row.getD k 0 ∈ row := by
  have e : row.getD k 0 = row[k] := by simp [h]
  rw [e]
  exact List.getElem_mem h
theorem put2_len {row : List Nat} {p a b : Nat} (h : p + 1 < row.length) : (put2 row p a b).length = row.length := by
  unfold put2
  simp
  omega
theorem put2_mem {s : Nat} {row : List Nat} {p a b : Nat} (hr : ∀ k ∈ row, k < s) (ha : a < s) (hb : b < s) : ∀ k ∈ put2 row p a b, k < s := by
  intro k hk
  unfold put2 at hk
  simp only [List.mem_append, List.mem_cons, List.not_mem_nil, or_false] at hk
  rcases hk with (h | h | h) | h
  · exact hr k (List.mem_of_mem_take h)
  · omega
  · omega
  · exact hr k (List.mem_of_mem_drop h)
def wcBody : M Out := (sq (uSet 12 (s2 (sD ((sCons (nam 11) sNil).bind (arg1 absW))) (sD (M.pur (.int 1))) subV))
  (sq (uPar 16 13 14 (sCons (sD (s2 (nam 9) (nam 12) atW)) (sCons (sD (s2 (nam 9) (sD (s2 (nam 12) (sD (M.pur (.int 1))) addV)) atW)) sNil)))
  (sq (uIf (sT (s2 (nam 11) (sD (M.pur (.int 0))) gtV)) (sq (uAug 10 (sD (s2 (sD (s2 (nam 3) (nam 13) atW)) (nam 14) atW)) addI)
  (uSet 15 (sTup 16 (sCons (nam 14) (sCons (sD (s2 (sD (s2 (nam 2) (nam 13) atW)) (nam 14) atW)) sNil))))) (sq (uAug 10 (sD (s2 (sD (s2 (nam 3) (sD (s2 (sD (s2 (nam 6) (nam 14) atW)) (nam 13) atW)) atW)) (nam 13) atW)) subV)
  (uSet 15 (sTup 16 (sCons (sD (s2 (sD (s2 (nam 6) (nam 14) atW)) (nam 13) atW)) (sCons (nam 13) sNil))))))
  (uSet 9 (s2 (sD (s2 (sD (sSl (nam 9) sNo (sPt (nam 12)))) (nam 15) addV)) (sD (sSl (nam 9) (sPt (sD (s2 (nam 12) (sD (M.pur (.int 2))) addV))) sNo)) addV)))))
/-- tables of weights or of products: square, entries anything -/
structure Sqr (w : List (List Nat)) (s : Nat) : Prop where
  len : w.length = s
  row : ∀ a, a < s → (rowAt w a).length = s
theorem wc_letter {t u w : List (List Nat)} {s : Nat} (Ht : Sqr t s) (Hu : Sqr u s) (Hw : Sqr w s) (hu : ∀ a, a < s → ∀ b, b < s → ent u a b < s) {row : List Nat} {l : Int} {tot : Int} (hr : ∀ k ∈ row, k < s) (hl : 1 ≤ l.natAbs) (hl2 : l.natAbs < row.length) (hn : row.length ≤ 100)
    {e0 e1 e4 e5 e7 e8 e12 e13 e14 e15 : Ent} : ∃ f12 f13 f14 f15 : Ent, wcBody ⟨none, [e0, e1, .im (tTa t), .im (tTa w), e4, e5, .im (tTa u), e7, e8, .im (nTu row), .im (.int tot), .im (.int l), e12, e13, e14, e15], none⟩ =
      .ok (.nx, ⟨none, [e0, e1, .im (tTa t), .im (tTa w), e4, e5, .im (tTa u), e7, e8, .im (nTu (stepR t u row l)), .im (.int (tot + stepW u w row l)), .im (.int l), f12, f13, f14, f15], none⟩) := by
  have hp : (l.natAbs : Int) - 1 = ((plc l : Nat) : Int) := by unfold plc; omega
  have hp1 : plc l + 1 < row.length := by unfold plc; omega
  have hp0 : plc l < row.length := by omega
  have hx : xOf row l < s := hr _ (getD_mem hp0)
  have hy : yOf row l < s := hr _ (getD_mem hp1)
  have g1 : row.getD (plc l) 0 = xOf row l := rfl
  have g2 : row.getD (plc l + 1) 0 = yOf row l := rfl
  have a1 := atR hp0
  have a2 := atR1 hp1
  rw [g1] at a1
  rw [g2] at a2
  have bt := atT (t := t) (k := xOf row l) (by rw [Ht.len]; exact hx)
  have bw := atT (t := w) (k := xOf row l) (by rw [Hw.len]; exact hx)
  have bu := atT (t := u) (k := yOf row l) (by rw [Hu.len]; exact hy)
  have ct := atE (t := t) (a := xOf row l) (b := yOf row l) (by rw [Ht.row _ hx]; exact hy)
  have cw := atE (t := w) (a := xOf row l) (b := yOf row l) (by rw [Hw.row _ hx]; exact hy)
  have cu := atE (t := u) (a := yOf row l) (b := xOf row l) (by rw [Hu.row _ hy]; exact hx)
  have hz := hu _ hy _ hx
  have dw := atT (t := w) (k := ent u (yOf row l) (xOf row l)) (by rw [Hw.len]; exact hz)
  have ew := atE (t := w) (a := ent u (yOf row l) (xOf row l)) (b := xOf row l) (by rw [Hw.row _ hz]; exact hx)
  have c1 := cut_lo (row := row) (k := plc l) (by omega)
  have c2 := cut_hi2 (row := row) (k := plc l) (by omega)
  have ad1 : ∀ a b : Nat, addV (.dat (nTu (row.take (plc l)))) (.dat (.tuple [.int (a : Int), .int (b : Int)])) = M.pur (nTu (row.take (plc l) ++ [a, b])) := fun a b => add_nTu (ys := [a, b]) (by simp; omega)
  have ad2 : ∀ a b : Nat, addV (.dat (nTu (row.take (plc l) ++ [a, b]))) (.dat (nTu (row.drop (plc l + 2)))) = M.pur (nTu (put2 row (plc l) a b)) := fun a b => add_nTu (by simp; omega)
  by_cases h : 0 < l
  · have r1 : stepR t u row l = put2 row (plc l) (yOf row l) (ent t (xOf row l) (yOf row l)) := if_pos h
    have r2 : stepW u w row l = ((ent w (xOf row l) (yOf row l) : Nat) : Int) := if_pos h
    rw [r1, r2]
    refine ⟨.im (.int (plc l : Int)), .im (.int (xOf row l : Int)), .im (.int (yOf row l : Int)), .im (.tuple [.int (yOf row l : Int), .int (ent t (xOf row l) (yOf row l) : Int)]), ?_⟩
    unfold wcBody
    simp [hp, a1, a2, bt, bw, ct, cw, h, tupF, lenOk_of, need_of, c1, c2, ad1, ad2]
  · have r1 : stepR t u row l = put2 row (plc l) (ent u (yOf row l) (xOf row l)) (xOf row l) := if_neg h
    have r2 : stepW u w row l = -((ent w (ent u (yOf row l) (xOf row l)) (xOf row l) : Nat) : Int) := if_neg h
    rw [r1, r2]
    refine ⟨.im (.int (plc l : Int)), .im (.int (xOf row l : Int)), .im (.int (yOf row l : Int)), .im (.tuple [.int (ent u (yOf row l) (xOf row l) : Int), .int (xOf row l : Int)]), ?_⟩
    unfold wcBody
    simp [hp, a1, a2, bu, cu, dw, ew, h, tupF, lenOk_of, need_of, c1, c2, ad1, ad2]
    omega
end DL
set_option maxRecDepth 100000
set_option maxHeartbeats 1000000
/-! M9: all letters, all rows, in weighed_colourings. -/
namespace DL
open PySem PySem.Spec L2
theorem eqvAll_nat : ∀ xs ys : List Nat, PyData.eqvAll (xs.map fun (k : Nat) => PyData.int (k : Int)) (ys.map fun (k : Nat) => PyData.int (k : Int)) = decide (xs = ys)
  | [], [] => by simp [PyData.eqvAll]
  | [], _ :: _ => by simp [PyData.eqvAll]
  | _ :: _, [] => by simp [PyData.eqvAll]
  | a :: r, b :: q => by
    simp only [List.map_cons, PyData.eqvAll, PyData.eqv, eqvAll_nat r q]
    by_cases h : a = b <;> by_cases h' : r = q <;> simp [h, h'] <;> omega
theorem layAll_nat : ∀ xs : List Nat, PyData.canLayAll0 (xs.map fun (k : Nat) => PyData.int (k : Int)) = true
  | [] => rfl
  | _ :: r => by simp [PyData.canLayAll0, PyData.canLay0, layAll_nat r]
theorem depthAll_nat : ∀ xs : List Nat, PyData.depthAll (xs.map fun (k : Nat) => PyData.int (k : Int)) = 0
  | [] => rfl
  | _ :: r => by simp [PyData.depthAll, PyData.depth, depthAll_nat r]
theorem shaped_nTu (xs : List Nat) : SeqAt.shaped (nTu xs) = true := by
  simp [SeqAt.shaped, nTu, PyData.canLay0, PyData.depth, layAll_nat, depthAll_nat]
theorem eqV_nTu (xs ys : List Nat) : eqV' (.dat (nTu xs)) (.dat (nTu ys)) = M.pur (.bool (decide (xs = ys))) := by
  have e : PyData.eqv (nTu xs) (nTu ys) = decide (xs = ys) := by
    unfold nTu
    simp only [PyData.eqv]
    exact eqvAll_nat xs ys
  show need (SeqAt.shaped (nTu xs) && SeqAt.shaped (nTu ys)) (M.pur (PyData.bool (PyData.eqv (nTu xs) (nTu ys)))) = _
  rw [e, need_of (by rw [shaped_nTu, shaped_nTu]; rfl)]
theorem neV_nTu (xs ys : List Nat) : neV' (.dat (nTu xs)) (.dat (nTu ys)) = M.pur (.bool (decide (xs ≠ ys))) := by
  have e : PyData.eqv (nTu xs) (nTu ys) = decide (xs = ys) := by
    unfold nTu
    simp only [PyData.eqv]
    exact eqvAll_nat xs ys
  show need (SeqAt.shaped (nTu xs) && SeqAt.shaped (nTu ys)) (M.pur (PyData.bool (!PyData.eqv (nTu xs) (nTu ys)))) = _
  rw [e, need_of (by rw [shaped_nTu, shaped_nTu]; rfl)]
  by_cases h : xs = ys <;> simp [h]
@[simp] theorem seqF_wT (w : List Int) : seqF (wT w) = M.pur (w.map PyData.int) := Eq.trans rfl rfl
theorem ixV_at {i m : Nat} {v : Int} {ds : List D} {b : Option (List D)} {es : List Ent} {q : Option Addr} (h : es[i]? = some (.ol ds)) (hv : ds[m]? = some (.int v)) : ixV (.dat (.int (m : Int))) i ⟨b, es, q⟩ = .ok (v, ⟨b, es, q⟩) := by
  unfold ixV
  rw [bind_at, intD_at, pur_at, rbind_ok]
  simp [h, hv]
theorem stI_at {i m : Nat} {x : Int} {ds : List D} {b : Option (List D)} {es : List Ent} {q : Option Addr} (h : es[i]? = some (.ol ds)) (hv : m < ds.length) : stI (.dat (.int (m : Int))) i x ⟨b, es, q⟩ = .ok (.nx, ⟨b, es.set i (.ol (ds.set m (.int x))), q⟩) := by
  unfold stI
  rw [bind_at, intD_at, pur_at, rbind_ok]
  simp [h, hv]
def runW (t u w : List (List Nat)) (word : List Int) (p : List Nat × Int) : List Nat × Int := word.foldl (fun p l => (stepR t u p.1 l, p.2 + stepW u w p.1 l)) p
def bump (c : List Nat) (i : Nat) : List Nat := c.set i (c.getD i 0 + 1)
def tally1 (t u w : List (List Nat)) (word : List Int) (many : Nat) (c : List Nat) (r : List Nat) : List Nat := if (runW t u w word (r, 0)).1 = r then bump c ((runW t u w word (r, 0)).2 % (many : Int)).toNat else c
def tally (t u w : List (List Nat)) (word : List Int) (many : Nat) (rows : List (List Nat)) : List Nat := rows.foldl (tally1 t u w word many) (List.replicate many 0)
theorem stepR_ok {t u : List (List Nat)} {s n : Nat} (ht : ∀ a, a < s → ∀ b, b < s → ent t a b < s) (hu : ∀ a, a < s → ∀ b, b < s → ent u a b < s) {row : List Nat} {l : Int} (hl : 1 ≤ l.natAbs) (hl2 : l.natAbs < n) (h : row.length = n ∧ ∀ k ∈ row, k < s) : (stepR t u row l).length = n ∧ ∀ k ∈ stepR t u row l, k < s := by
  obtain ⟨h1, h2⟩ := h
  have hp1 : plc l + 1 < row.length := by unfold plc; omega
  have hx : xOf row l < s := h2 _ (getD_mem (show plc l < row.length by omega))
  have hy : yOf row l < s := h2 _ (getD_mem hp1)
  unfold stepR
  split
  · exact ⟨by rw [put2_len hp1, h1], put2_mem h2 hy (ht _ hx _ hy)⟩
  · exact ⟨by rw [put2_len hp1, h1], put2_mem h2 (hu _ hy _ hx) hx⟩
def wcRow : M Out := (sq (uPar 16 9 10 (sCons (nam 8) (sCons (sD (M.pur (.int 0))) sNil)))
  (sq (uFor ((sV 16 (nam 1)).bind seqF) (put 11) wcBody)
  (uIf (sT (s2 (nam 9) (nam 8) eqV')) (uAugIx 7 (sD (s2 (nam 10) (nam 4) modV)) (sD (M.pur (.int 1)))) (M.pur .nx))))
theorem wc_row {t u w : List (List Nat)} {s n many : Nat} (Ht : Sqr t s) (Hu : Sqr u s) (Hw : Sqr w s) (ht : ∀ a, a < s → ∀ b, b < s → ent t a b < s) (hu : ∀ a, a < s → ∀ b, b < s → ent u a b < s) {row : List Nat} {word : List Int} {c : List Nat} (hr : row.length = n ∧ ∀ k ∈ row, k < s) (hw : Letters n word) (hn : n ≤ 100) (hm : 0 < many) (hc : c.length = many)
    {e0 e5 e9 e10 e11 e12 e13 e14 e15 : Ent} : ∃ f9 f10 f11 f12 f13 f14 f15 : Ent, wcRow ⟨none, [e0, .im (wT word), .im (tTa t), .im (tTa w), .im (.int (many : Int)), e5, .im (tTa u), .ol (c.map fun (k : Nat) => PyData.int (k : Int)), .im (nTu row), e9, e10, e11, e12, e13, e14, e15], none⟩ =
      .ok (.nx, ⟨none, [e0, .im (wT word), .im (tTa t), .im (tTa w), .im (.int (many : Int)), e5, .im (tTa u), .ol ((tally1 t u w word many c row).map fun (k : Nat) => PyData.int (k : Int)), .im (nTu row), f9, f10, f11, f12, f13, f14, f15], none⟩) := by
  have st := for_fold (S := List Nat × Int) (X := Int) (ga := put 11) (fb := wcBody) (f := PyData.int) (xs := word) (step := fun p l => (stepR t u p.1 l, p.2 + stepW u w p.1 l))
    (I := fun p g => (∃ e11 e12 e13 e14 e15 : Ent, g = ⟨none, [e0, .im (wT word), .im (tTa t), .im (tTa w), .im (.int (many : Int)), e5, .im (tTa u), .ol (c.map fun (k : Nat) => PyData.int (k : Int)), .im (nTu row), .im (nTu p.1), .im (.int p.2), e11, e12, e13, e14, e15], none⟩) ∧ p.1.length = n ∧ ∀ k ∈ p.1, k < s) (fun l hl p g hg => by
      obtain ⟨⟨e11, e12, e13, e14, e15, rfl⟩, h1, h2⟩ := hg
      obtain ⟨q1, q2⟩ := hw l hl
      obtain ⟨f12, f13, f14, f15, e⟩ := wc_letter (t := t) (u := u) (w := w) Ht Hu Hw hu (row := p.1) (l := l) (tot := p.2) h2 q1 (by omega) (by omega) (e0 := e0) (e1 := .im (wT word)) (e4 := .im (.int (many : Int))) (e5 := e5) (e7 := .ol (c.map fun (k : Nat) => PyData.int (k : Int))) (e8 := .im (nTu row)) (e12 := e12) (e13 := e13) (e14 := e14) (e15 := e15)
      exact ⟨_, _, rfl, e, ⟨_, _, _, _, _, rfl⟩, stepR_ok ht hu q1 q2 ⟨h1, h2⟩⟩) (row, 0) _ ⟨⟨e11, e12, e13, e14, e15, rfl⟩, hr.1, hr.2⟩
  obtain ⟨g', e, ⟨f11, f12, f13, f14, f15, rfl⟩, h1, h2⟩ := st
  replace e : forD (put 11) wcBody (word.map PyData.int) ⟨none, [e0, .im (wT word), .im (tTa t), .im (tTa w), .im (.int (many : Int)), e5, .im (tTa u), .ol (c.map fun (k : Nat) => PyData.int (k : Int)), .im (nTu row), .im (nTu row), .im (.int 0), e11, e12, e13, e14, e15], none⟩ = R.ok (Out.nx, (⟨none, [e0, .im (wT word), .im (tTa t), .im (tTa w), .im (.int (many : Int)), e5, .im (tTa u), .ol (c.map fun (k : Nat) => PyData.int (k : Int)), .im (nTu row), .im (nTu (runW t u w word (row, 0)).1), .im (.int (runW t u w word (row, 0)).2), f11, f12, f13, f14, f15], none⟩ : Sg)) := e
  have hmi : (0 : Int) < (many : Int) := by omega
  unfold tally1
  generalize runW t u w word (row, 0) = p at e ⊢
  obtain ⟨m, hm1, hm2⟩ : ∃ m : Nat, m < many ∧ p.2 % (many : Int) = (m : Int) := ⟨(p.2 % (many : Int)).toNat, by have := Int.emod_nonneg p.2 (show (many : Int) ≠ 0 by omega); have := Int.emod_lt_of_pos p.2 hmi; omega, by have := Int.emod_nonneg p.2 (show (many : Int) ≠ 0 by omega); omega⟩
  by_cases h : p.1 = row
  · refine ⟨.im (nTu p.1), .im (.int p.2), f11, f12, f13, f14, f15, ?_⟩
    have cm : (c.map fun (k : Nat) => PyData.int (k : Int))[m]? = some (.int ((c.getD m 0 : Nat) : Int)) := by simp [show m < c.length by omega]
    have i1 : ∀ (b : Option (List D)) (es : List Ent) (q : Option Addr), es[7]? = some (.ol (c.map fun (k : Nat) => PyData.int (k : Int))) → ixV (.dat (.int (m : Int))) 7 ⟨b, es, q⟩ = .ok (((c.getD m 0 : Nat) : Int), ⟨b, es, q⟩) := fun b es q z => ixV_at z cm
    have i2 : ∀ (x : Int) (b : Option (List D)) (es : List Ent) (q : Option Addr), es[7]? = some (.ol (c.map fun (k : Nat) => PyData.int (k : Int))) → stI (.dat (.int (m : Int))) 7 x ⟨b, es, q⟩ = .ok (.nx, ⟨b, es.set 7 (.ol ((c.map fun (k : Nat) => PyData.int (k : Int)).set m (.int x))), q⟩) := fun x b es q z => stI_at z (by rw [List.length_map]; omega)
    have bm : (bump c m).map (fun (k : Nat) => PyData.int (k : Int)) = (c.map fun (k : Nat) => PyData.int (k : Int)).set m (.int (((c.getD m 0 : Nat) : Int) + 1)) := by
      unfold bump
      rw [List.map_set]
      rfl
    rw [if_pos h, hm2, Int.toNat_natCast, bm]
    generalize ((c.getD m 0 : Nat) : Int) = cv at i1 i2 cm ⊢
    unfold wcRow
    simp [e, eqV_nTu, h, modV_at hmi, hm2, i1, i2]
  · rw [if_neg h]
    refine ⟨.im (nTu p.1), .im (.int p.2), f11, f12, f13, f14, f15, ?_⟩
    unfold wcRow
    simp [e, eqV_nTu, h]
end DL
set_option maxRecDepth 100000
set_option maxHeartbeats 1000000
/-! M10: weighed_colourings. -/
namespace DL
open PySem PySem.Spec L2
theorem Good.sqr {t : List (List Nat)} {s : Nat} (h : Good t s) : Sqr t s := ⟨h.len, h.row⟩
theorem Back.sqr {t u : List (List Nat)} {s : Nat} (h : Back t u s) : Sqr u s := ⟨h.len, h.row⟩
theorem bump_len (c : List Nat) (i : Nat) : (bump c i).length = c.length := by
  unfold bump
  rw [List.length_set]
theorem tally1_len {t u w : List (List Nat)} {word : List Int} {many : Nat} {c r : List Nat} : (tally1 t u w word many c r).length = c.length := by
  unfold tally1
  split
  · exact bump_len _ _
  · rfl
theorem rgL_nat {n : Nat} (h : n ≤ 1000000) : rgL (.dat (.int (n : Int))) = M.pur (rgD 0 (n : Int)) := by
  funext g
  show need (okR (n : Int) && decide ((n : Int) ≤ 16777216)) (M.pur (rgD 0 (n : Int))) g = _
  rw [need_of (by unfold okR; simp only [Bool.and_eq_true, decide_eq_true_eq]; omega)]
theorem repN_zero {m : Nat} (h : m ≤ 1000000) : repN (.dat (.list [.int 0])) (.dat (.int (m : Int))) = M.pur ((List.replicate m 0).map fun (k : Nat) => PyData.int (k : Int)) := by
  funext g
  show need (decide ((m : Int) ≤ 16777216) && decide (-1 ≤ (m : Int)) && lenOk (1 * (m : Int).toNat)) (M.pur (List.replicate (m : Int).toNat [PyData.int 0]).flatten) g = _
  rw [need_of (by unfold lenOk; simp only [Bool.and_eq_true, decide_eq_true_eq]; omega), Int.toNat_natCast]
  congr 1
  induction m with
  | zero => rfl
  | succ m ih =>
    rw [List.replicate_succ, List.flatten_cons, List.replicate_succ, List.map_cons]
    rw [ih (by omega)]
    rfl
@[simp] theorem isN_none (n : Bool) : isN n (.dat .none) = M.pur (.bool (!n)) := by cases n <;> exact Eq.trans rfl rfl
theorem weighed_ok {t u w : List (List Nat)} {s n many : Nat} {word : List Int} (Ht : Good t s) (Hu : Back t u s) (Hw : Sqr w s) (hf : f_weights_fault [tTa t, tTa w, .int (many : Int)] = .ok .none) (h1 : 1 ≤ n) (h6 : n ≤ 6) (hp : s ^ n ≤ 20000) (hl : word.length ≤ 2000) (hw : Letters n word) (hm : 0 < many) (hm2 : many ≤ 100) :
    f_weighed_colourings [.int (n : Int), wT word, tTa t, tTa w, .int (many : Int)] = .ok (nTu (tally t u w word many (rowsOf s n))) := by
  have st := for_fold (S := List Nat) (X := List Nat) (ga := put 8) (fb := wcRow) (f := nTu) (xs := rowsOf s n) (step := tally1 t u w word many)
    (I := fun c g => (∃ e8 e9 e10 e11 e12 e13 e14 e15 : Ent, g = ⟨none, [.im (.int (n : Int)), .im (wT word), .im (tTa t), .im (tTa w), .im (.int (many : Int)), .im .none, .im (tTa u), .ol (c.map fun (k : Nat) => PyData.int (k : Int)), e8, e9, e10, e11, e12, e13, e14, e15], none⟩) ∧ c.length = many) (fun r hr c g hg => by
      obtain ⟨⟨e8, e9, e10, e11, e12, e13, e14, e15, rfl⟩, hc⟩ := hg
      obtain ⟨f9, f10, f11, f12, f13, f14, f15, e⟩ := wc_row (t := t) (u := u) (w := w) Ht.sqr Hu.sqr Hw Ht.lt Hu.lt (row := r) (word := word) (c := c) (many := many) (n := n) (rowsOf_mem.mp hr) hw (by omega) hm hc (e0 := .im (.int (n : Int))) (e5 := .im .none) (e9 := e9) (e10 := e10) (e11 := e11) (e12 := e12) (e13 := e13) (e14 := e14) (e15 := e15)
      exact ⟨_, _, rfl, e, ⟨_, _, _, _, _, _, _, _, rfl⟩, by rw [tally1_len, hc]⟩) (List.replicate many 0) ⟨none, [.im (.int (n : Int)), .im (wT word), .im (tTa t), .im (tTa w), .im (.int (many : Int)), .im .none, .im (tTa u), .ol ((List.replicate many 0).map fun (k : Nat) => PyData.int (k : Int)), .un, .un, .un, .un, .un, .un, .un, .un], none⟩ ⟨⟨_, _, _, _, _, _, _, _, rfl⟩, List.length_replicate⟩
  obtain ⟨g', e, ⟨f8, f9, f10, f11, f12, f13, f14, f15, rfl⟩, hc⟩ := st
  have ck := check_ok h1 h6 hl hw
  have pw := power_ok (b := s) (n := n) (by have := Ht.s5; omega) (by omega)
  have ar := all_rows_ok (n := n) (s := s) h6 (by have := Ht.s5; omega) (by omega) Ht.s1
  have rl := rgL_nat (n := s) (by have := Ht.s5; omega)
  rw [rg_nat] at rl
  have tl : t.length = s := Ht.len
  have hp' : ¬ ((20000 : Int) < (s : Int) ^ n) := by
    rw [← Int.natCast_pow]
    omega
  have z : (List.replicate many 0).map (fun (k : Nat) => PyData.int (k : Int)) = List.replicate many (.int 0) := by simp
  rw [z] at e
  unfold wcRow wcBody at e
  unfold f_weighed_colourings semP m_weighed_colourings tally
  simp [argsE, ck, hf, len_tTa, tl, pw, hp', Hu.back, lstF, lenOk_of, need_of, repN_zero (show many ≤ 1000000 by omega), rl, ar, e, runO]
  rfl
end DL
set_option maxRecDepth 100000
set_option maxHeartbeats 1000000
/-! M11: counted_by. -/
namespace DL
open PySem PySem.Spec L2
def cbBody : M Out := (sq (uSet 9 (s2 (sD ((sCons (nam 8) sNil).bind (arg1 absW))) (sD (M.pur (.int 1))) subV))
  (sq (uPar 13 10 11 (sCons (sD (s2 (nam 7) (nam 9) atW)) (sCons (sD (s2 (nam 7) (sD (s2 (nam 9) (sD (M.pur (.int 1))) addV)) atW)) sNil)))
  (sq (uSet 12 (sIf (sT (s2 (nam 8) (sD (M.pur (.int 0))) gtV)) (sTup 13 (sCons (nam 11) (sCons (sD (s2 (sD (s2 (nam 2) (nam 10) atW)) (nam 11) atW)) sNil))) (sTup 13 (sCons (sD (s2 (sD (s2 (nam 4) (nam 11) atW)) (nam 10) atW)) (sCons (nam 10) sNil)))))
  (uSet 7 (s2 (sD (s2 (sD (sSl (nam 7) sNo (sPt (nam 9)))) (nam 12) addV)) (sD (sSl (nam 7) (sPt (sD (s2 (nam 9) (sD (M.pur (.int 2))) addV))) sNo)) addV)))))
theorem cb_letter {t u : List (List Nat)} {s : Nat} (Ht : Sqr t s) (Hu : Sqr u s) {row : List Nat} {l : Int} (hr : ∀ k ∈ row, k < s) (hl : 1 ≤ l.natAbs) (hl2 : l.natAbs < row.length) (hn : row.length ≤ 100)
    {e0 e1 e3 e5 e6 e9 e10 e11 e12 : Ent} : ∃ f9 f10 f11 f12 : Ent, cbBody ⟨none, [e0, e1, .im (tTa t), e3, .im (tTa u), e5, e6, .im (nTu row), .im (.int l), e9, e10, e11, e12], none⟩ =
      .ok (.nx, ⟨none, [e0, e1, .im (tTa t), e3, .im (tTa u), e5, e6, .im (nTu (stepR t u row l)), .im (.int l), f9, f10, f11, f12], none⟩) := by
  have hp : (l.natAbs : Int) - 1 = ((plc l : Nat) : Int) := by unfold plc; omega
  have hp1 : plc l + 1 < row.length := by unfold plc; omega
  have hp0 : plc l < row.length := by omega
  have hx : xOf row l < s := hr _ (getD_mem hp0)
  have hy : yOf row l < s := hr _ (getD_mem hp1)
  have g1 : row.getD (plc l) 0 = xOf row l := rfl
  have g2 : row.getD (plc l + 1) 0 = yOf row l := rfl
  have a1 := atR hp0
  have a2 := atR1 hp1
  rw [g1] at a1
  rw [g2] at a2
  have bt := atT (t := t) (k := xOf row l) (by rw [Ht.len]; exact hx)
  have bu := atT (t := u) (k := yOf row l) (by rw [Hu.len]; exact hy)
  have ct := atE (t := t) (a := xOf row l) (b := yOf row l) (by rw [Ht.row _ hx]; exact hy)
  have cu := atE (t := u) (a := yOf row l) (b := xOf row l) (by rw [Hu.row _ hy]; exact hx)
  have c1 := cut_lo (row := row) (k := plc l) (by omega)
  have c2 := cut_hi2 (row := row) (k := plc l) (by omega)
  have ad1 : ∀ a b : Nat, addV (.dat (nTu (row.take (plc l)))) (.dat (.tuple [.int (a : Int), .int (b : Int)])) = M.pur (nTu (row.take (plc l) ++ [a, b])) := fun a b => add_nTu (ys := [a, b]) (by simp; omega)
  have ad2 : ∀ a b : Nat, addV (.dat (nTu (row.take (plc l) ++ [a, b]))) (.dat (nTu (row.drop (plc l + 2)))) = M.pur (nTu (put2 row (plc l) a b)) := fun a b => add_nTu (by simp; omega)
  by_cases h : 0 < l
  · have r1 : stepR t u row l = put2 row (plc l) (yOf row l) (ent t (xOf row l) (yOf row l)) := if_pos h
    rw [r1]
    refine ⟨.im (.int (plc l : Int)), .im (.int (xOf row l : Int)), .im (.int (yOf row l : Int)), .im (.tuple [.int (yOf row l : Int), .int (ent t (xOf row l) (yOf row l) : Int)]), ?_⟩
    unfold cbBody
    simp [hp, a1, a2, bt, ct, h, tupF, lenOk_of, need_of, c1, c2, ad1, ad2]
  · have r1 : stepR t u row l = put2 row (plc l) (ent u (yOf row l) (xOf row l)) (xOf row l) := if_neg h
    rw [r1]
    refine ⟨.im (.int (plc l : Int)), .im (.int (xOf row l : Int)), .im (.int (yOf row l : Int)), .im (.tuple [.int (ent u (yOf row l) (xOf row l) : Int), .int (xOf row l : Int)]), ?_⟩
    unfold cbBody
    simp [hp, a1, a2, bu, cu, h, tupF, lenOk_of, need_of, c1, c2, ad1, ad2]
def endR (t u : List (List Nat)) (word : List Int) (row : List Nat) : List Nat := word.foldl (stepR t u) row
theorem runW_fst (t u w : List (List Nat)) : ∀ (word : List Int) (p : List Nat × Int), (runW t u w word p).1 = endR t u word p.1
  | [], p => rfl
  | l :: r, p => runW_fst t u w r _
def cbRow : M Out := (sq (uSet 7 (sV 13 (nam 6)))
  (sq (uFor ((sV 13 (nam 1)).bind seqF) (put 8) cbBody)
  (uAug 5 (sD ((sCons (sD (s2 (nam 7) (nam 6) eqV')) sNil).bind (arg1 intW))) addI)))
theorem cb_row {t u : List (List Nat)} {s n : Nat} (Ht : Sqr t s) (Hu : Sqr u s) (ht : ∀ a, a < s → ∀ b, b < s → ent t a b < s) (hu : ∀ a, a < s → ∀ b, b < s → ent u a b < s) {row : List Nat} {word : List Int} {c : Nat} (hr : row.length = n ∧ ∀ k ∈ row, k < s) (hw : Letters n word) (hn : n ≤ 100)
    {e0 e3 e7 e8 e9 e10 e11 e12 : Ent} : ∃ f7 f8 f9 f10 f11 f12 : Ent, cbRow ⟨none, [e0, .im (wT word), .im (tTa t), e3, .im (tTa u), .im (.int (c : Int)), .im (nTu row), e7, e8, e9, e10, e11, e12], none⟩ =
      .ok (.nx, ⟨none, [e0, .im (wT word), .im (tTa t), e3, .im (tTa u), .im (.int ((if endR t u word row = row then c + 1 else c : Nat) : Int)), .im (nTu row), f7, f8, f9, f10, f11, f12], none⟩) := by
  have st := for_fold (S := List Nat) (X := Int) (ga := put 8) (fb := cbBody) (f := PyData.int) (xs := word) (step := stepR t u)
    (I := fun p g => (∃ e8 e9 e10 e11 e12 : Ent, g = ⟨none, [e0, .im (wT word), .im (tTa t), e3, .im (tTa u), .im (.int (c : Int)), .im (nTu row), .im (nTu p), e8, e9, e10, e11, e12], none⟩) ∧ p.length = n ∧ ∀ k ∈ p, k < s) (fun l hl p g hg => by
      obtain ⟨⟨e8, e9, e10, e11, e12, rfl⟩, h1, h2⟩ := hg
      obtain ⟨q1, q2⟩ := hw l hl
      obtain ⟨f9, f10, f11, f12, e⟩ := cb_letter (t := t) (u := u) Ht Hu (row := p) (l := l) h2 q1 (by omega) (by omega) (e0 := e0) (e1 := .im (wT word)) (e3 := e3) (e5 := .im (.int (c : Int))) (e6 := .im (nTu row)) (e9 := e9) (e10 := e10) (e11 := e11) (e12 := e12)
      exact ⟨_, _, rfl, e, ⟨_, _, _, _, _, rfl⟩, stepR_ok ht hu q1 q2 ⟨h1, h2⟩⟩) row _ ⟨⟨e8, e9, e10, e11, e12, rfl⟩, hr.1, hr.2⟩
  obtain ⟨g', e, ⟨f8, f9, f10, f11, f12, rfl⟩, h1, h2⟩ := st
  replace e : forD (put 8) cbBody (word.map PyData.int) ⟨none, [e0, .im (wT word), .im (tTa t), e3, .im (tTa u), .im (.int (c : Int)), .im (nTu row), .im (nTu row), e8, e9, e10, e11, e12], none⟩ = R.ok (Out.nx, (⟨none, [e0, .im (wT word), .im (tTa t), e3, .im (tTa u), .im (.int (c : Int)), .im (nTu row), .im (nTu (endR t u word row)), f8, f9, f10, f11, f12], none⟩ : Sg)) := e
  refine ⟨.im (nTu (endR t u word row)), f8, f9, f10, f11, f12, ?_⟩
  have iw : ∀ c : Bool, intW (.dat (.bool c)) = M.pur (.int (if c = true then 1 else 0)) := fun c => by cases c <;> rfl
  unfold cbRow
  by_cases h : endR t u word row = row
  · simp [e, eqV_nTu, h, iw]
  · simp [e, eqV_nTu, h, iw]
theorem counted_ok {t u : List (List Nat)} {s n : Nat} {word : List Int} (Ht : Good t s) (Hu : Back t u s) (h1 : 1 ≤ n) (h6 : n ≤ 6) (hp : s ^ n ≤ 20000) (hl : word.length ≤ 2000) (hw : Letters n word) :
    f_counted_by [.int (n : Int), wT word, tTa t] = .ok (.int ((((rowsOf s n).filter fun r => decide (endR t u word r = r)).length : Nat) : Int)) := by
  have st := for_fold (S := Nat) (X := List Nat) (ga := put 6) (fb := cbRow) (f := nTu) (xs := rowsOf s n) (step := fun c r => if endR t u word r = r then c + 1 else c)
    (I := fun c g => (∃ e6 e7 e8 e9 e10 e11 e12 : Ent, g = ⟨none, [.im (.int (n : Int)), .im (wT word), .im (tTa t), .im .none, .im (tTa u), .im (.int (c : Int)), e6, e7, e8, e9, e10, e11, e12], none⟩)) (fun r hr c g hg => by
      obtain ⟨e6, e7, e8, e9, e10, e11, e12, rfl⟩ := hg
      obtain ⟨f7, f8, f9, f10, f11, f12, e⟩ := cb_row (t := t) (u := u) Ht.sqr Hu.sqr Ht.lt Hu.lt (row := r) (word := word) (c := c) (n := n) (rowsOf_mem.mp hr) hw (by omega) (e0 := .im (.int (n : Int))) (e3 := .im .none) (e7 := e7) (e8 := e8) (e9 := e9) (e10 := e10) (e11 := e11) (e12 := e12)
      exact ⟨_, _, rfl, e, _, _, _, _, _, _, _, rfl⟩) 0 ⟨none, [.im (.int (n : Int)), .im (wT word), .im (tTa t), .im .none, .im (tTa u), .im (.int ((0 : Nat) : Int)), .un, .un, .un, .un, .un, .un, .un], none⟩ ⟨_, _, _, _, _, _, _, rfl⟩
  obtain ⟨g', e, f6, f7, f8, f9, f10, f11, f12, rfl⟩ := st
  have cnt : ∀ (xs : List (List Nat)) (c : Nat), xs.foldl (fun c r => if endR t u word r = r then c + 1 else c) c = c + (xs.filter fun r => decide (endR t u word r = r)).length := fun xs => by
    induction xs with
    | nil => intro c; rfl
    | cons x xs ih =>
      intro c
      rw [List.foldl_cons, ih]
      by_cases h : endR t u word x = x
      · rw [if_pos h, List.filter_cons_of_pos (by simp [h]), List.length_cons]
        omega
      · rw [if_neg h, List.filter_cons_of_neg (by simp [h])]
  rw [cnt, Nat.zero_add] at e
  have ck := check_ok h1 h6 hl hw
  have pw := power_ok (b := s) (n := n) (by have := Ht.s5; omega) (by omega)
  have ar := all_rows_ok (n := n) (s := s) h6 (by have := Ht.s5; omega) (by omega) Ht.s1
  have rl := rgL_nat (n := s) (by have := Ht.s5; omega)
  rw [rg_nat] at rl
  have tl : t.length = s := Ht.len
  have hp' : ¬ ((20000 : Int) < (s : Int) ^ n) := by
    rw [← Int.natCast_pow]
    omega
  generalize ((rowsOf s n).filter fun r => decide (endR t u word r = r)).length = tot at e ⊢
  have z : ((0 : Nat) : Int) = 0 := rfl
  rw [z] at e
  unfold cbRow cbBody at e
  unfold f_counted_by semP m_counted_by
  simp [argsE, ck, Ht.fault, len_tTa, tl, pw, hp', Hu.back, lstF, lenOk_of, need_of, rl, ar, e, runO]
end DL
set_option maxRecDepth 100000
set_option maxHeartbeats 1000000
/-! M12: _law_same, _law_digits. -/
namespace DL
open PySem PySem.Spec L2
@[simp] theorem reprW_at {d : D} (h : reprOk d = true) : reprW (.dat d) = M.pur (.str d.shown) := by
  funext g
  show need (reprOk d) (M.pur (PyData.str d.shown)) g = _
  rw [need_of h]
theorem eqV_str (x : Str) (hx : PyData.strOk x = true) : eqV' (.dat (.str x)) (.dat (.str x)) = M.pur (.bool true) := by
  have e : PyData.eqv (.str x) (.str x) = true := by
    simp [PyData.eqv]
  show need (SeqAt.shaped (PyData.str x) && SeqAt.shaped (PyData.str x)) (M.pur (PyData.bool (PyData.eqv (.str x) (.str x)))) = _
  rw [e]
  exact need_of (by simp [SeqAt.shaped, PyData.canLay0, PyData.depth, hx]) _
theorem same_ok {d : D} (h : reprOk d = true) (h2 : PyData.strOk d.shown = true) : f__law_same [d, d] = .ok (.bool true) := by
  unfold f__law_same semP m__law_same
  simp [argsE, reprW_at h, eqV_str _ h2, runO]
theorem strOk_app {x y : Str} (hx : PyData.strOk x = true) (hy : PyData.strOk y = true) : PyData.strOk (x ++ y) = true := by
  unfold PyData.strOk at *
  rw [Str.cps_append, Array.all_append, hx, hy]
  rfl
theorem join_good {B : Nat} : ∀ ts : List Str, (∀ t ∈ ts, PyData.strOk t = true ∧ t.length ≤ B) → PyData.strOk (Str.join ", " ts) = true ∧ (Str.join ", " ts).length ≤ (B + 2) * ts.length
  | [], _ => ⟨by decide +kernel, by
    have e : (Str.join ", " []).length = 0 := by decide +kernel
    rw [e]
    exact Nat.zero_le _⟩
  | [x], h => by
    obtain ⟨h1, h2⟩ := h x (List.mem_cons_self ..)
    simp only [Str.join]
    exact ⟨h1, by simp; omega⟩
  | x :: y :: r, h => by
    obtain ⟨h1, h2⟩ := h x (List.mem_cons_self ..)
    obtain ⟨h3, h4⟩ := join_good (y :: r) fun t ht => h t (List.mem_cons_of_mem _ ht)
    have e : Str.join ", " (x :: y :: r) = x ++ ", " ++ Str.join ", " (y :: r) := by simp only [Str.join]
    have l2 : Str.length (", " : Str) = 2 := by decide +kernel
    rw [e]
    refine ⟨strOk_app (strOk_app h1 (by decide +kernel)) h3, ?_⟩
    rw [Str.length_append, Str.length_append, l2]
    rw [List.length_cons (a := x), Nat.mul_succ]
    omega
theorem tuple_good {B N : Nat} {xs : List D} (h : ∀ d ∈ xs, PyData.strOk d.shown = true ∧ d.shown.length ≤ B) (hl : xs.length ≤ N) : PyData.strOk (PyData.tuple xs).shown = true ∧ (PyData.tuple xs).shown.length ≤ (B + 2) * N + 3 := by
  have e : ∀ xs : List D, PyData.shownAll xs = xs.map PyData.shown := fun xs => by
    induction xs with
    | nil => rw [PyData.shownAll_nil]; rfl
    | cons x xs ih => rw [PyData.shownAll_cons, ih]; rfl
  obtain ⟨h1, h2⟩ := join_good (B := B) (xs.map PyData.shown) fun t ht => by
    obtain ⟨d, hd, rfl⟩ := List.mem_map.mp ht
    exact h d hd
  rw [List.length_map] at h2
  have l1 : Str.length ("(" : Str) = 1 := by decide +kernel
  have l2 : ∀ c : Bool, PyData.strOk (Str.ofString (if c = true then ",)" else ")")) = true ∧ Str.length (Str.ofString (if c = true then ",)" else ")")) ≤ 2 := by decide +kernel
  rw [PyData.shown_tuple, e]
  refine ⟨strOk_app (strOk_app (by decide +kernel) h1) (l2 _).1, ?_⟩
  rw [Str.length_append, Str.length_append, l1]
  have := (l2 (xs.length == 1)).2
  have : (B + 2) * xs.length ≤ (B + 2) * N := Nat.mul_le_mul_left _ hl
  omega
theorem small_good : ∀ k : Nat, k < 200 → PyData.strOk (PyData.int (k : Int)).shown = true ∧ (PyData.int (k : Int)).shown.length ≤ 3 ∧ (PyData.int (k : Int)).showable = true := by decide +kernel
theorem nTu_good {xs : List Nat} (h : ∀ k ∈ xs, k < 200) (hl : xs.length ≤ 12) : PyData.strOk (nTu xs).shown = true ∧ (nTu xs).shown.length ≤ 63 ∧ (nTu xs).showable = true ∧ (nTu xs).hasDict = false ∧ (nTu xs).canLay0 = true ∧ (nTu xs).depth ≤ 1 := by
  obtain ⟨h1, h2⟩ := tuple_good (B := 3) (N := 12) (xs := xs.map fun (k : Nat) => PyData.int (k : Int)) (fun d hd => by
    obtain ⟨k, hk, rfl⟩ := List.mem_map.mp hd
    exact ⟨(small_good k (h k hk)).1, (small_good k (h k hk)).2.1⟩) (by rw [List.length_map]; exact hl)
  have a1 : ∀ xs : List Nat, (∀ k ∈ xs, k < 200) → PyData.showableAll (xs.map fun (k : Nat) => PyData.int (k : Int)) = true := fun xs => by
    induction xs with
    | nil => intro _; rfl
    | cons x xs ih =>
      intro h
      simp only [List.map_cons, PyData.showableAll]
      rw [(small_good x (h x (List.mem_cons_self ..))).2.2, ih fun k hk => h k (List.mem_cons_of_mem _ hk)]
      rfl
  have cl : (nTu xs).canLay0 = true := by simp [nTu, PyData.canLay0, layAll_nat]
  exact ⟨h1, h2, by simp only [nTu, PyData.showable]; exact a1 xs h, PyData.hasDict_of_canLay _ cl, cl, by simp [nTu, PyData.depth, depthAll_nat]⟩
theorem nTu_same {xs : List Nat} (h : ∀ k ∈ xs, k < 200) (hl : xs.length ≤ 12) : f__law_same [nTu xs, nTu xs] = .ok (.bool true) := by
  obtain ⟨h1, h2, h3, h4, h5, h6⟩ := nTu_good h hl
  refine same_ok ?_ h1
  unfold reprOk
  rw [h5, h3, h4, decide_eq_true (show (nTu xs).depth ≤ 60 by omega), lenOk_of (by omega)]
  rfl
theorem tTa_same {w : List (List Nat)} (h : ∀ r ∈ w, (∀ k ∈ r, k < 200) ∧ r.length ≤ 12) (hl : w.length ≤ 12) : f__law_same [tTa w, tTa w] = .ok (.bool true) := by
  obtain ⟨h1, h2⟩ := tuple_good (B := 63) (N := 12) (xs := w.map nTu) (fun d hd => by
    obtain ⟨r, hr, rfl⟩ := List.mem_map.mp hd
    obtain ⟨q1, q2, _⟩ := nTu_good (h r hr).1 (h r hr).2
    exact ⟨q1, q2⟩) (by rw [List.length_map]; exact hl)
  have a1 : ∀ w : List (List Nat), (∀ r ∈ w, (∀ k ∈ r, k < 200) ∧ r.length ≤ 12) → PyData.showableAll (w.map nTu) = true ∧ PyData.canLayAll0 (w.map nTu) = true ∧ PyData.depthAll (w.map nTu) ≤ 1 := fun w => by
    induction w with
    | nil => intro _; exact ⟨rfl, rfl, by simp [PyData.depthAll]⟩
    | cons x xs ih =>
      intro h
      obtain ⟨q1, q2, q3, q4, q5, q6⟩ := nTu_good (h x (List.mem_cons_self ..)).1 (h x (List.mem_cons_self ..)).2
      obtain ⟨i1, i2, i3⟩ := ih fun r hr => h r (List.mem_cons_of_mem _ hr)
      simp only [List.map_cons, PyData.showableAll, PyData.canLayAll0, PyData.depthAll]
      rw [q3, q5, i1, i2]
      exact ⟨rfl, rfl, by omega⟩
  obtain ⟨b1, b2, b3⟩ := a1 w h
  have cl : (tTa w).canLay0 = true := by simp only [tTa, PyData.canLay0]; exact b2
  refine same_ok ?_ h1
  have dp : (tTa w).depth ≤ 60 := by simp only [tTa, PyData.depth]; omega
  have sh : (tTa w).showable = true := by simp only [tTa, PyData.showable]; exact b1
  unfold reprOk
  rw [cl, sh, PyData.hasDict_of_canLay _ cl, decide_eq_true dp, lenOk_of (show (tTa w).shown.length ≤ 16777216 by unfold tTa; omega)]
  rfl
/-! the digits -/
theorem lenW_locked (ds : List D) : lenW (.dat (locked ds)) = M.pur (.int ds.length) := Eq.trans rfl rfl
theorem atW_locked {ds : List D} {k : Nat} (h : k < ds.length) : atW (.dat (locked ds)) (.dat (.int k)) = M.pur ds[k] := by
  funext g
  show (match atI ds (k : Int) with
    | some d => M.pur d
    | none => M.no) g = _
  rw [atI_nat h]
theorem cell_ok (ns : List Int) (k : Nat) : f__law_cell [locked (ns.map .int), .int (k : Int)] = .ok (.int (ns.getD k 0)) := by
  unfold f__law_cell semP m__law_cell
  by_cases h : k < ns.length
  · have e := atW_locked (ds := ns.map PyData.int) (k := k) (by rw [List.length_map]; exact h)
    simp [argsE, lenW_locked, e, h, runO]
  · simp [argsE, lenW_locked, h, runO]
def dgIn1 : M Out := (uIf (sT (s2 (nam 6) (sD (M.pur (.int 0))) gtV)) (sq (uApp 3 (s2 (nam 6) (sD (M.pur (.int 1009))) modV))
  (uSet 6 (s2 (nam 6) (sD (M.pur (.int 1009))) fdivV))) (M.pur .nx))
def dgIn2 : M Out := (sq (uSet 8 (s2 (sD (s2 (sD (s2 (sD (s2 (nam 8) (sD (M.pur (.int 16807))) mulV)) (sD (s2 (nam 7) (sD (M.pur (.int 7))) mulV)) addV)) (sD (M.pur (.int 1))) addV)) (sD (M.pur (.int 2147483647))) modV))
  (uApp 3 (s2 (sD (s2 (nam 8) (sD (M.pur (.int 997))) fdivV)) (sD (M.pur (.int 1009))) modV)))
def DgSt (ns : List Int) (L : Nat) (k c : D) (g : Sg) : Prop := ∃ (digs : List Int) (e6 e7 e8 : Ent), g = ⟨none, [.im (locked (ns.map .int)), .im (.int 0), .im (.int 63), .ol (digs.map .int), .im k, .im c, e6, e7, e8], none⟩ ∧ digs.length ≤ L
theorem dg_in1 {ns : List Int} {L : Nat} {k c : D} (hL : L ≤ 100000) {ds : List D} (hd : ds.length ≤ 60) {digs : List Int} (hl : digs.length ≤ L) {n : Int} {e7 e8 : Ent} :
    ∃ g', forD (put 7) dgIn1 ds ⟨none, [.im (locked (ns.map .int)), .im (.int 0), .im (.int 63), .ol (digs.map .int), .im k, .im c, .im (.int n), e7, e8], none⟩ = .ok (.nx, g') ∧ DgSt ns (L + 60) k c g' := by
  have st := for_idx (ga := put 7) (fb := dgIn1) (I := fun j g => ∃ (digs : List Int) (n : Int) (e7 e8 : Ent), g = ⟨none, [.im (locked (ns.map .int)), .im (.int 0), .im (.int 63), .ol (digs.map .int), .im k, .im c, .im (.int n), e7, e8], none⟩ ∧ digs.length ≤ L + j) (ds := ds) (k := 0) (n := ds.length) (by omega) (fun d _ j g hj hg => by
    obtain ⟨digs, n, e7, e8, rfl, hl⟩ := hg
    refine ⟨_, _, rfl, ?_, if 0 < n then digs ++ [n % 1009] else digs, if 0 < n then n / 1009 else n, .im d, e8, rfl, by by_cases h : 0 < n <;> simp [h] <;> omega⟩
    have lk : lenOk (digs.length + 1) = true := lenOk_of (by omega)
    unfold dgIn1
    by_cases h : 0 < n
    · simp [h, lk, modV_at (j := 1009) (by omega), fdivV_at (j := 1009) (by omega) (by omega)]
    · simp [h]) _ ⟨digs, n, e7, e8, rfl, by omega⟩
  obtain ⟨g', e, digs', n', e7', e8', rfl, hl'⟩ := st
  exact ⟨_, e, digs', _, _, _, rfl, by omega⟩
theorem dg_in2 {ns : List Int} {L : Nat} {k c : D} (hL : L ≤ 100000) {digs : List Int} (hl : digs.length ≤ L) {n : Int} {e6 e7 : Ent} :
    ∃ g', forD (put 7) dgIn2 (rgD 0 12) ⟨none, [.im (locked (ns.map .int)), .im (.int 0), .im (.int 63), .ol (digs.map .int), .im k, .im c, e6, e7, .im (.int n)], none⟩ = .ok (.nx, g') ∧ DgSt ns (L + 60) k c g' := by
  have st := for_idx (ga := put 7) (fb := dgIn2) (I := fun j g => ∃ (digs : List Int) (n : Int) (e7 : Ent), g = ⟨none, [.im (locked (ns.map .int)), .im (.int 0), .im (.int 63), .ol (digs.map .int), .im k, .im c, e6, e7, .im (.int n)], none⟩ ∧ digs.length ≤ L + j) (ds := rgD 0 12) (k := 0) (n := 12) (by rfl) (fun d hd j g hj hg => by
    obtain ⟨digs, n, e7, rfl, hl⟩ := hg
    have hd' : d ∈ (List.range 12).map fun (i : Nat) => PyData.int (i : Int) := hd
    obtain ⟨i, -, rfl⟩ := List.mem_map.mp hd'
    have lk : lenOk (digs.length + 1) = true := lenOk_of (by omega)
    refine ⟨_, _, rfl, ?_, digs ++ [(n * 16807 + (i : Int) * 7 + 1) % 2147483647 / 997 % 1009], (n * 16807 + (i : Int) * 7 + 1) % 2147483647, .im (.int (i : Int)), rfl, by simp; omega⟩
    unfold dgIn2
    simp [lk, modV_at (j := 1009) (by omega), modV_at (j := 2147483647) (by omega), fdivV_at (j := 997) (by omega) (by omega), mulV_r (j := 16807) (small_of (by omega) (by omega)), mulV_r (j := 7) (small_of (by omega) (by omega))]) _ ⟨digs, n, e7, rfl, by omega⟩
  obtain ⟨g', e, digs', n', e7', rfl, hl'⟩ := st
  exact ⟨_, e, digs', _, _, _, rfl, by omega⟩
def dgBody : M Out := (sq (uSet 5 (sCall 9 (sCons (nam 0) (sCons (nam 4) sNil)) f__law_cell))
  (sq (uIf (sT (s2 (nam 5) (sD (M.pur (.int 0))) ltV)) (uSet 5 (s2 (sD (M.pur (.int 1))) (sD (s2 (nam 5) (sD (M.pur (.int 2))) mulV)) subV)) (M.pur .nx))
  (uIf (sT (s2 (nam 5) (sD (s2 (sD (M.pur (.int 10))) (sD (M.pur (.int 18))) powV)) geV)) (sq (uSet 6 (sV 9 (nam 5)))
  (uFor ((sCons (sD (M.pur (.int 60))) sNil).bind rg1) (put 7) dgIn1)) (sq (uSet 8 (s2 (sD (s2 (sD (s2 (sD (s2 (nam 5) (sD (M.pur (.int 48271))) mulV)) (sD (s2 (sD ((sCons (sD (s2 (nam 4) (sD (M.pur (.int 1))) addV)) sNil).bind (arg1 intW))) (sD (M.pur (.int 69621))) mulV)) addV)) (sD (M.pur (.int 11))) addV)) (sD (M.pur (.int 2147483647))) modV))
  (uFor ((sCons (sD (M.pur (.int 12))) sNil).bind rg1) (put 7) dgIn2)))))
@[simp] theorem intW_int (i : Int) : intW (.dat (.int i)) = M.pur (.int i) := Eq.trans rfl rfl
theorem powV_1018 : powV (.dat (.int 10)) (.dat (.int 18)) = M.pur (.int 1000000000000000000) := need_of (by decide +kernel) _
theorem rg1_60 : rg1 [.dat (.int 60)] = M.pur (rgD 0 60) := rg1_at (n := 60) (by omega)
theorem rg1_12 : rg1 [.dat (.int 12)] = M.pur (rgD 0 12) := rg1_at (n := 12) (by omega)
theorem dg_body {ns : List Int} {L k : Nat} (hL : L ≤ 100000) {digs : List Int} (hl : digs.length ≤ L) {e5 e6 e7 e8 : Ent} :
    ∃ c g', dgBody ⟨none, [.im (locked (ns.map .int)), .im (.int 0), .im (.int 63), .ol (digs.map .int), .im (.int (k : Int)), e5, e6, e7, e8], none⟩ = .ok (.nx, g') ∧ DgSt ns (L + 60) (.int (k : Int)) c g' := by
  have e2 := cell_ok ns k
  generalize ns.getD k 0 = c0 at e2
  obtain ⟨c, hc⟩ : ∃ c : Int, c = if c0 < 0 then 1 - c0 * 2 else c0 := ⟨_, rfl⟩
  refine ⟨.int c, ?_⟩
  have m2 := mulV_r (i := c0) (j := 2) (small_of (by omega) (by omega))
  have m3 := mulV_r (i := c) (j := 48271) (small_of (by omega) (by omega))
  have m4 := mulV_r (i := (k : Int) + 1) (j := 69621) (small_of (by omega) (by omega))
  have m5 := modV_at (i := c * 48271 + ((k : Int) + 1) * 69621 + 11) (j := 2147483647) (by omega)
  by_cases h : (1000000000000000000 : Int) ≤ c
  · obtain ⟨g', e, hg⟩ := dg_in1 (ns := ns) (L := L) (k := .int (k : Int)) (c := .int c) hL (ds := rgD 0 60) (Nat.le_of_eq rfl) hl (n := c) (e7 := e7) (e8 := e8)
    refine ⟨g', ?_, hg⟩
    unfold dgBody
    by_cases h0 : c0 < 0
    · rw [if_pos h0] at hc
      subst hc
      simp [e2, h0, m2, h, powV_1018, rg1_60, e]
    · rw [if_neg h0] at hc
      subst hc
      simp [e2, h0, m2, h, powV_1018, rg1_60, e]
  · obtain ⟨g', e, hg⟩ := dg_in2 (ns := ns) (L := L) (k := .int (k : Int)) (c := .int c) hL hl (n := (c * 48271 + ((k : Int) + 1) * 69621 + 11) % 2147483647) (e6 := e6) (e7 := e7)
    refine ⟨g', ?_, hg⟩
    unfold dgBody
    by_cases h0 : c0 < 0
    · rw [if_pos h0] at hc
      subst hc
      simp [e2, h0, m2, m3, m4, m5, h, powV_1018, rg1_12, e]
    · rw [if_neg h0] at hc
      subst hc
      simp [e2, h0, m2, m3, m4, m5, h, powV_1018, rg1_12, e]
@[simp] theorem frz_own (b i : Nat) (bx : Option (List D)) (es : List Ent) (t : Option Addr) : frz b (.own i) ⟨bx, es, t⟩ = if i = b then .no else match es[i]? with
  | some (.ol ds) => .ok (.list ds, ⟨bx, es.set i (.im (.list ds)), t⟩)
  | some (.oo dss) => .ok (.list (dss.map .list), ⟨bx, es.set i (.im (.list (dss.map .list))), t⟩)
  | _ => .no := Eq.trans rfl rfl
theorem rg2_63 : rg2 [.dat (.int 0), .dat (.int 63)] = M.pur (rgD 0 63) := Eq.trans rfl rfl
theorem digits_ok (ns : List Int) : ∃ digs : List Int, f__law_digits [locked (ns.map .int), .int 0, .int 63] = .ok (.list (digs.map .int)) := by
  have st := for_idx (ga := put 4) (fb := dgBody) (I := fun j g => ∃ k c, DgSt ns (60 * j) k c g ∨ g = ⟨none, [.im (locked (ns.map .int)), .im (.int 0), .im (.int 63), .ol [], .un, .un, .un, .un, .un], none⟩) (ds := rgD 0 63) (k := 0) (n := 63) (by rfl) (fun d hd j g hj hg => by
    have hd' : d ∈ (List.range 63).map fun (i : Nat) => PyData.int (i : Int) := hd
    obtain ⟨i, -, rfl⟩ := List.mem_map.mp hd'
    obtain ⟨k, c, hg⟩ := hg
    rcases hg with ⟨digs, e6, e7, e8, rfl, hl⟩ | rfl
    · obtain ⟨c', g', e, hg'⟩ := dg_body (ns := ns) (L := 60 * j) (k := i) (by omega) hl (e5 := .im c) (e6 := e6) (e7 := e7) (e8 := e8)
      exact ⟨_, _, rfl, e, _, c', .inl hg'⟩
    · obtain ⟨c', g', e, hg'⟩ := dg_body (ns := ns) (L := 60 * j) (k := i) (digs := []) (by omega) (by simp) (e5 := .un) (e6 := .un) (e7 := .un) (e8 := .un)
      exact ⟨_, _, rfl, e, _, c', .inl hg'⟩) ⟨none, [.im (locked (ns.map .int)), .im (.int 0), .im (.int 63), .ol [], .un, .un, .un, .un, .un], none⟩ ⟨.none, .none, .inr rfl⟩
  obtain ⟨g', e, k, c, hg⟩ := st
  have fin : ∃ digs : List Int, ∃ k c e6 e7 e8, g' = ⟨none, [.im (locked (ns.map .int)), .im (.int 0), .im (.int 63), .ol (digs.map .int), k, c, e6, e7, e8], none⟩ := by
    rcases hg with ⟨digs, e6, e7, e8, rfl, hl⟩ | rfl
    · exact ⟨digs, _, _, _, _, _, rfl⟩
    · exact ⟨[], _, _, _, _, _, rfl⟩
  obtain ⟨digs, k, c, e6, e7, e8, rfl⟩ := fin
  refine ⟨digs, ?_⟩
  unfold dgBody dgIn1 dgIn2 at e
  unfold f__law_digits semP m__law_digits
  simp [argsE, lstF, lenOk_of, need_of, rg2_63, e, runO]
end DL
/-! P1: the mathematics of coloured rows: letters undone, letters far apart, three letters. -/
namespace DL
/-- t is a table of colours, u undoes it -/
structure Qd (t u : List (List Nat)) (s : Nat) : Prop where
  tl : ∀ a, a < s → ∀ b, b < s → ent t a b < s
  ul : ∀ a, a < s → ∀ b, b < s → ent u a b < s
  idem : ∀ a, a < s → ent t a a = a
  l1 : ∀ a, a < s → ∀ b, b < s → ent u (ent t a b) b = a
  l2 : ∀ a, a < s → ∀ b, b < s → ent t (ent u a b) b = a
  dist : ∀ a, a < s → ∀ b, b < s → ∀ c, c < s → ent t (ent t a b) c = ent t (ent t a c) (ent t b c)
structure Coc (t w : List (List Nat)) (s many : Nat) : Prop where
  same : ∀ a, a < s → ent w a a = 0
  three : ∀ a, a < s → ∀ b, b < s → ∀ c, c < s → ((ent w a b : Int) + (ent w (ent t a b) c : Int) - (ent w a c : Int) - (ent w (ent t a c) (ent t b c) : Int)) % (many : Int) = 0
def RowOk (n s : Nat) (r : List Nat) : Prop := r.length = n ∧ ∀ k ∈ r, k < s
theorem put2_set {row : List Nat} {p a b : Nat} (h : p + 1 < row.length) : put2 row p a b = (row.set p a).set (p + 1) b := by
  apply List.ext_getElem?
  intro i
  unfold put2
  simp only [List.getElem?_append, List.length_append, List.length_take, List.getElem?_take, List.getElem?_drop, List.getElem?_set, List.length_set, List.length_cons, List.length_nil]
  have e : min p row.length = p := by omega
  rw [e]
  by_cases h1 : i < p
  · have h2 : i < p + (0 + 1 + 1) := by omega
    rw [if_pos h2, if_pos h1, if_pos h1, if_neg (by omega), if_neg (by omega)]
  · by_cases h2 : i < p + (0 + 1 + 1)
    · rw [if_pos h2, if_neg h1]
      have : i = p ∨ i = p + 1 := by omega
      rcases this with rfl | rfl
      · simp
        omega
      · simp [h]
    · rw [if_neg h2, if_neg (by omega), if_neg (by omega)]
      congr 1
      omega
/-- what a letter puts -/
def aOf (u : List (List Nat)) (row : List Nat) (l : Int) : Nat := if 0 < l then yOf row l else ent u (yOf row l) (xOf row l)
def bOf (t : List (List Nat)) (row : List Nat) (l : Int) : Nat := if 0 < l then ent t (xOf row l) (yOf row l) else xOf row l
theorem stepR_set {t u : List (List Nat)} {row : List Nat} {l : Int} (h : plc l + 1 < row.length) : stepR t u row l = (row.set (plc l) (aOf u row l)).set (plc l + 1) (bOf t row l) := by
  unfold stepR aOf bOf
  split <;> rw [put2_set h]
theorem getD_set {row : List Nat} {i j x : Nat} (h : j < row.length) : (row.set i x).getD j 0 = if i = j then x else row.getD j 0 := by
  simp only [List.getD_eq_getElem?_getD, List.getElem?_set]
  by_cases e : i = j
  · subst e
    simp [h]
  · simp [e]
theorem getD_step {t u : List (List Nat)} {row : List Nat} {l : Int} {j : Nat} (h : plc l + 1 < row.length) (hj : j < row.length) : (stepR t u row l).getD j 0 = if plc l + 1 = j then bOf t row l else if plc l = j then aOf u row l else row.getD j 0 := by
  rw [stepR_set h, getD_set (by rw [List.length_set]; exact hj), getD_set hj]
theorem ext_getD {r q : List Nat} (h : r.length = q.length) (e : ∀ j, j < r.length → r.getD j 0 = q.getD j 0) : r = q := by
  apply List.ext_getElem h
  intro j h1 h2
  have := e j h1
  simpa [h1, h2] using this
section
variable {t u w : List (List Nat)} {s n many : Nat}
theorem plc_lt {l : Int} (h1 : 1 ≤ l.natAbs) (h2 : l.natAbs < n) : plc l + 1 < n := by unfold plc; omega
theorem Qd.step (q : Qd t u s) {row : List Nat} {l : Int} (h1 : 1 ≤ l.natAbs) (h2 : l.natAbs < n) (h : RowOk n s row) : RowOk n s (stepR t u row l) := stepR_ok q.tl q.ul h1 h2 h
theorem RowOk.at (h : RowOk n s row) {j : Nat} (hj : j < n) : row.getD j 0 < s := h.2 _ (getD_mem (by rw [h.1]; exact hj))
theorem RowOk.xs {row : List Nat} (h : RowOk n s row) {l : Int} (h1 : 1 ≤ l.natAbs) (h2 : l.natAbs < n) : xOf row l < s := h.at (by have := plc_lt h1 h2; omega)
theorem RowOk.ys {row : List Nat} (h : RowOk n s row) {l : Int} (h1 : 1 ≤ l.natAbs) (h2 : l.natAbs < n) : yOf row l < s := h.at (plc_lt h1 h2)
theorem plc_neg (l : Int) : plc (-l) = plc l := by unfold plc; rw [Int.natAbs_neg]
theorem x_after {row : List Nat} {l m : Int} (h : plc l + 1 < row.length) (e : plc m = plc l) : xOf (stepR t u row l) m = aOf u row l := by
  unfold xOf
  rw [e, getD_step h (by omega), if_neg (by omega), if_pos rfl]
theorem y_after {row : List Nat} {l m : Int} (h : plc l + 1 < row.length) (e : plc m = plc l) : yOf (stepR t u row l) m = bOf t row l := by
  unfold yOf
  rw [e, getD_step h (by omega), if_pos rfl]
/-- a letter and its counterpart -/
theorem step_back (q : Qd t u s) {row : List Nat} {l : Int} (h1 : 1 ≤ l.natAbs) (h2 : l.natAbs < n) (h : RowOk n s row) : stepR t u (stepR t u row l) (-l) = row ∧ stepW u w row l + stepW u w (stepR t u row l) (-l) = 0 := by
  have hp : plc l + 1 < row.length := by rw [h.1]; exact plc_lt h1 h2
  have hx := h.xs h1 h2
  have hy := h.ys h1 h2
  have hl := (q.step h1 h2 h).1
  have hp' : plc (-l) + 1 < (stepR t u row l).length := by rw [plc_neg, hl, ← h.1]; exact hp
  have ex : xOf (stepR t u row l) (-l) = aOf u row l := x_after hp (plc_neg l)
  have ey : yOf (stepR t u row l) (-l) = bOf t row l := y_after hp (plc_neg l)
  constructor
  · apply ext_getD (by rw [stepR_set hp', List.length_set, List.length_set, hl, h.1])
    intro j hj
    rw [stepR_set hp', List.length_set, List.length_set, hl, ← h.1] at hj
    rw [getD_step hp' (by rw [hl, ← h.1]; exact hj), getD_step hp hj, plc_neg]
    have A : aOf u (stepR t u row l) (-l) = xOf row l := by
      unfold aOf
      rw [ex, ey]
      unfold aOf bOf
      by_cases z : 0 < l
      · simp only [z, if_true]
        rw [if_neg (by omega), q.l1 _ hx _ hy]
      · simp only [z, if_false]
        rw [if_pos (by omega)]
    have B : bOf t (stepR t u row l) (-l) = yOf row l := by
      unfold bOf
      rw [ex, ey]
      unfold aOf bOf
      by_cases z : 0 < l
      · simp only [z, if_true]
        rw [if_neg (by omega)]
      · simp only [z, if_false]
        rw [if_pos (by omega), q.l2 _ hy _ hx]
    rw [A, B]
    by_cases c1 : plc l + 1 = j
    · rw [if_pos c1, ← c1]
      rfl
    · rw [if_neg c1, if_neg c1]
      by_cases c2 : plc l = j
      · rw [if_pos c2, ← c2]
        rfl
      · rw [if_neg c2, if_neg c2]
  · unfold stepW
    rw [ex, ey]
    unfold aOf bOf
    by_cases z : 0 < l
    · simp only [z, if_true]
      rw [if_neg (by omega), q.l1 _ hx _ hy]
      omega
    · simp only [z, if_false]
      rw [if_pos (by omega)]
      omega
/-- letters far apart -/
theorem step_far {row : List Nat} {l m : Int} (hl : plc l + 1 < row.length) (hm : plc m + 1 < row.length) (d : plc l + 1 < plc m ∨ plc m + 1 < plc l) : stepR t u (stepR t u row l) m = stepR t u (stepR t u row m) l ∧ stepW u w row l + stepW u w (stepR t u row l) m = stepW u w row m + stepW u w (stepR t u row m) l := by
  have len : ∀ k : Int, plc k + 1 < row.length → (stepR t u row k).length = row.length := fun k hk => by rw [stepR_set hk, List.length_set, List.length_set]
  have x1 : xOf (stepR t u row l) m = xOf row m := by
    unfold xOf
    rw [getD_step hl (by omega), if_neg (by omega), if_neg (by omega)]
  have y1 : yOf (stepR t u row l) m = yOf row m := by
    unfold yOf
    rw [getD_step hl (by omega), if_neg (by omega), if_neg (by omega)]
  have x2 : xOf (stepR t u row m) l = xOf row l := by
    unfold xOf
    rw [getD_step hm (by omega), if_neg (by omega), if_neg (by omega)]
  have y2 : yOf (stepR t u row m) l = yOf row l := by
    unfold yOf
    rw [getD_step hm (by omega), if_neg (by omega), if_neg (by omega)]
  have a1 : aOf u (stepR t u row l) m = aOf u row m := by unfold aOf; rw [x1, y1]
  have b1 : bOf t (stepR t u row l) m = bOf t row m := by unfold bOf; rw [x1, y1]
  have a2 : aOf u (stepR t u row m) l = aOf u row l := by unfold aOf; rw [x2, y2]
  have b2 : bOf t (stepR t u row m) l = bOf t row l := by unfold bOf; rw [x2, y2]
  have hm' : plc m + 1 < (stepR t u row l).length := by rw [len l hl]; exact hm
  have hl' : plc l + 1 < (stepR t u row m).length := by rw [len m hm]; exact hl
  constructor
  · apply ext_getD
    · rw [stepR_set hm', stepR_set hl', List.length_set, List.length_set, List.length_set, List.length_set, len l hl, len m hm]
    · intro j hj
      rw [stepR_set hm', List.length_set, List.length_set, len l hl] at hj
      have hj1 : j < (stepR t u row l).length := by rw [len l hl]; exact hj
      have hj2 : j < (stepR t u row m).length := by rw [len m hm]; exact hj
      rw [getD_step hm' hj1, getD_step hl' hj2, getD_step hl hj, getD_step hm hj, a1, b1, a2, b2]
      by_cases c1 : plc m + 1 = j
      · rw [if_pos c1, if_neg (by omega), if_neg (by omega), if_pos c1]
      · by_cases c2 : plc m = j
        · rw [if_neg c1, if_pos c2, if_neg (by omega), if_neg (by omega), if_neg c1, if_pos c2]
        · rw [if_neg c1, if_neg c2, if_neg c1, if_neg c2]
  · unfold stepW
    rw [x1, y1, x2, y2]
    omega
end
end DL
/-! P2: three letters; words alike. -/
namespace DL
/-- the weights of a word, from a row on -/
def totW (t u w : List (List Nat)) : List Int → List Nat → Int
  | [], _ => 0
  | l :: r, row => stepW u w row l + totW t u w r (stepR t u row l)
section
variable {t u w : List (List Nat)} {s n many : Nat}
theorem endR_cons (l : Int) (r : List Int) (row : List Nat) : endR t u (l :: r) row = endR t u r (stepR t u row l) := rfl
theorem endR_app (a b : List Int) (row : List Nat) : endR t u (a ++ b) row = endR t u b (endR t u a row) := List.foldl_append
theorem totW_app : ∀ (a b : List Int) (row : List Nat), totW t u w (a ++ b) row = totW t u w a row + totW t u w b (endR t u a row)
  | [], b, row => by simp [totW, endR]
  | l :: a, b, row => by
    show stepW u w row l + totW t u w (a ++ b) (stepR t u row l) = stepW u w row l + totW t u w a (stepR t u row l) + totW t u w b (endR t u a (stepR t u row l))
    rw [totW_app a b]
    omega
theorem runW_eq : ∀ (word : List Int) (p : List Nat × Int), runW t u w word p = (endR t u word p.1, p.2 + totW t u w word p.1)
  | [], p => by simp [runW, endR, totW]
  | l :: r, p => by
    show runW t u w r (stepR t u p.1 l, p.2 + stepW u w p.1 l) = (endR t u r (stepR t u p.1 l), p.2 + (stepW u w p.1 l + totW t u w r (stepR t u p.1 l)))
    rw [runW_eq r, Int.add_assoc]
theorem Qd.run (q : Qd t u s) : ∀ {word : List Int} {row : List Nat}, Letters n word → RowOk n s row → RowOk n s (endR t u word row)
  | [], row, _, h => h
  | l :: r, row, hl, h => q.run (word := r) (fun m hm => hl m (List.mem_cons_of_mem _ hm)) (q.step (hl l (List.mem_cons_self ..)).1 (hl l (List.mem_cons_self ..)).2 h)
/-- two words do the same to all rows -/
def Alike (t u w : List (List Nat)) (s n many : Nat) (a b : List Int) : Prop := ∀ row, RowOk n s row → endR t u a row = endR t u b row ∧ (totW t u w a row - totW t u w b row) % (many : Int) = 0
theorem Alike.refl (a : List Int) : Alike t u w s n many a a := fun row _ => ⟨rfl, by rw [Int.sub_self]; exact Int.zero_emod _⟩
theorem mod0_add {x y m : Int} (h1 : x % m = 0) (h2 : y % m = 0) : (x + y) % m = 0 := Int.emod_eq_zero_of_dvd (Int.dvd_add (Int.dvd_of_emod_eq_zero h1) (Int.dvd_of_emod_eq_zero h2))
theorem mod0_neg {x m : Int} (h1 : x % m = 0) : (-x) % m = 0 := Int.emod_eq_zero_of_dvd (Int.dvd_neg.mpr (Int.dvd_of_emod_eq_zero h1))
theorem mod0_eq {x y m : Int} (h1 : x % m = 0) (e : x = y) : y % m = 0 := e ▸ h1
theorem Alike.symm {a b : List Int} (h : Alike t u w s n many a b) : Alike t u w s n many b a := fun row hr => ⟨(h row hr).1.symm, mod0_eq (mod0_neg (h row hr).2) (by omega)⟩
theorem Alike.trans {a b c : List Int} (h : Alike t u w s n many a b) (h2 : Alike t u w s n many b c) : Alike t u w s n many a c := fun row hr => ⟨(h row hr).1.trans (h2 row hr).1, mod0_eq (mod0_add (h row hr).2 (h2 row hr).2) (by omega)⟩
theorem Alike.ctx {a b : List Int} (q : Qd t u s) (x y : List Int) (hx : Letters n x) (h : Alike t u w s n many a b) : Alike t u w s n many (x ++ a ++ y) (x ++ b ++ y) := fun row hr => by
  have hr' := q.run hx hr
  obtain ⟨h1, h2⟩ := h _ hr'
  refine ⟨by rw [endR_app, endR_app, endR_app, endR_app, h1], ?_⟩
  rw [totW_app, totW_app, totW_app, totW_app, endR_app, endR_app, h1]
  exact mod0_eq h2 (by omega)
theorem alike_back (q : Qd t u s) {l : Int} (h1 : 1 ≤ l.natAbs) (h2 : l.natAbs < n) : Alike t u w s n many [l, -l] [] := fun row hr => by
  obtain ⟨e1, e2⟩ := step_back (w := w) q h1 h2 hr
  refine ⟨e1, ?_⟩
  simp only [totW]
  rw [mod0_eq (x := 0) (Int.zero_emod _)]
  omega
theorem alike_far {l m : Int} (h1 : 1 ≤ l.natAbs) (h2 : l.natAbs < n) (h3 : 1 ≤ m.natAbs) (h4 : m.natAbs < n) (d : 1 < l.natAbs - m.natAbs ∨ 1 < m.natAbs - l.natAbs) : Alike t u w s n many [l, m] [m, l] := fun row hr => by
  obtain ⟨e1, e2⟩ := step_far (t := t) (u := u) (w := w) (row := row) (l := l) (m := m) (by rw [hr.1]; exact plc_lt h1 h2) (by rw [hr.1]; exact plc_lt h3 h4) (by unfold plc; omega)
  refine ⟨e1, ?_⟩
  simp only [totW]
  rw [mod0_eq (x := 0) (Int.zero_emod _)]
  omega
/-- a, then its neighbour above, then a: all above 0 -/
theorem three_up (q : Qd t u s) (c : Coc t w s many) {i : Nat} (h1 : 1 ≤ i) (h2 : i + 1 < n) : Alike t u w s n many [(i : Int), ((i + 1 : Nat) : Int), (i : Int)] [((i + 1 : Nat) : Int), (i : Int), ((i + 1 : Nat) : Int)] := fun row hr => by
  have p1 : plc (i : Int) = i - 1 := by unfold plc; omega
  have p2 : plc ((i + 1 : Nat) : Int) = i := by unfold plc; omega
  have z1 : (0 : Int) < (i : Int) := by omega
  have z2 : (0 : Int) < ((i + 1 : Nat) : Int) := by omega
  have hx : row.getD (i - 1) 0 < s := hr.at (by omega)
  have hy : row.getD i 0 < s := hr.at (by omega)
  have hz : row.getD (i + 1) 0 < s := hr.at (by omega)
  have ei : i - 1 + 1 = i := by omega
  have len : ∀ (r : List Nat) (k : Int), r.length = n → plc k + 1 < n → (stepR t u r k).length = n := fun r k hl hk => by rw [stepR_set (by rw [hl]; exact hk), List.length_set, List.length_set, hl]
  have g1 : ∀ (r : List Nat) (j : Nat), r.length = n → j < n → (stepR t u r (i : Int)).getD j 0 = if i = j then ent t (r.getD (i - 1) 0) (r.getD i 0) else if i - 1 = j then r.getD i 0 else r.getD j 0 := fun r j hl hj => by
    rw [getD_step (by rw [hl, p1]; omega) (by rw [hl]; exact hj), p1, ei]
    unfold aOf bOf xOf yOf
    rw [if_pos z1, if_pos z1, p1, ei]
  have g2 : ∀ (r : List Nat) (j : Nat), r.length = n → j < n → (stepR t u r ((i + 1 : Nat) : Int)).getD j 0 = if i + 1 = j then ent t (r.getD i 0) (r.getD (i + 1) 0) else if i = j then r.getD (i + 1) 0 else r.getD j 0 := fun r j hl hj => by
    rw [getD_step (by rw [hl, p2]; omega) (by rw [hl]; exact hj), p2]
    unfold aOf bOf xOf yOf
    rw [if_pos z2, if_pos z2, p2]
  have w1 : ∀ r : List Nat, stepW u w r (i : Int) = (ent w (r.getD (i - 1) 0) (r.getD i 0) : Nat) := fun r => by
    unfold stepW xOf yOf
    rw [if_pos z1, p1, ei]
  have w2 : ∀ r : List Nat, stepW u w r ((i + 1 : Nat) : Int) = (ent w (r.getD i 0) (r.getD (i + 1) 0) : Nat) := fun r => by
    unfold stepW xOf yOf
    rw [if_pos z2, p2]
  have k1 : plc (i : Int) + 1 < n := by omega
  have k2 : plc ((i + 1 : Nat) : Int) + 1 < n := by omega
  have L := hr.1
  have A1 := len row _ L k1
  have A2 := len _ _ A1 k2
  have B1 := len row _ L k2
  have B2 := len _ _ B1 k1
  constructor
  · show stepR t u (stepR t u (stepR t u row i) ((i + 1 : Nat) : Int)) i = stepR t u (stepR t u (stepR t u row ((i + 1 : Nat) : Int)) i) ((i + 1 : Nat) : Int)
    apply ext_getD
    · rw [len _ _ A2 k1, len _ _ B2 k2]
    · intro j hj
      rw [len _ _ A2 k1] at hj
      rw [g1 _ _ A2 hj, g2 _ _ B2 hj, g2 _ _ A1 (show i - 1 < n by omega), g2 _ _ A1 (show i < n by omega), g2 _ _ A1 hj, g1 _ _ L (show i - 1 < n by omega), g1 _ _ L (show i < n by omega), g1 _ _ L (show i + 1 < n by omega), g1 _ _ L hj, g1 _ _ B1 (show i < n by omega), g1 _ _ B1 (show i + 1 < n by omega), g1 _ _ B1 hj, g2 _ _ L (show i - 1 < n by omega), g2 _ _ L (show i < n by omega), g2 _ _ L (show i + 1 < n by omega), g2 _ _ L hj]
      have n1 : ¬ (i + 1 = i - 1) := by omega
      have n2 : ¬ (i = i - 1) := by omega
      have n3 : ¬ (i + 1 = i) := by omega
      have n4 : ¬ (i = i + 1) := by omega
      have n5 : ¬ (i - 1 = i) := by omega
      have n6 : ¬ (i - 1 = i + 1) := by omega
      simp only [n1, n2, n3, n4, n5, n6, if_true, if_false]
      rw [q.dist _ hx _ hy _ hz]
      by_cases c1 : i + 1 = j
      · have c2 : ¬ (i = j) := by omega
        have c3 : ¬ (i - 1 = j) := by omega
        simp only [c1, c2, c3, if_true, if_false]
      · by_cases c2 : i = j
        · subst c2
          simp [n3]
        · by_cases c3 : i - 1 = j
          · simp only [c1, c2, c3, if_true, if_false]
          · simp only [c1, c2, c3, if_true, if_false]
  · show (stepW u w row i + (stepW u w (stepR t u row i) ((i + 1 : Nat) : Int) + (stepW u w (stepR t u (stepR t u row i) ((i + 1 : Nat) : Int)) i + 0)) - (stepW u w row ((i + 1 : Nat) : Int) + (stepW u w (stepR t u row ((i + 1 : Nat) : Int)) i + (stepW u w (stepR t u (stepR t u row ((i + 1 : Nat) : Int)) i) ((i + 1 : Nat) : Int) + 0)))) % (many : Int) = 0
    rw [w1, w1, w1, w2, w2, w2, g2 _ _ A1 (show i - 1 < n by omega), g2 _ _ A1 (show i < n by omega), g1 _ _ L (show i - 1 < n by omega), g1 _ _ L (show i < n by omega), g1 _ _ L (show i + 1 < n by omega), g1 _ _ B1 (show i < n by omega), g1 _ _ B1 (show i + 1 < n by omega), g2 _ _ L (show i - 1 < n by omega), g2 _ _ L (show i < n by omega), g2 _ _ L (show i + 1 < n by omega)]
    have n1 : ¬ (i + 1 = i - 1) := by omega
    have n2 : ¬ (i = i - 1) := by omega
    have n3 : ¬ (i + 1 = i) := by omega
    have n4 : ¬ (i = i + 1) := by omega
    have n5 : ¬ (i - 1 = i) := by omega
    have n6 : ¬ (i - 1 = i + 1) := by omega
    simp only [n1, n2, n3, n4, n5, n6, if_true, if_false]
    exact mod0_eq (c.three _ hx _ hy _ hz) (by omega)
theorem letters_of {xs : List Int} (h : ∀ l ∈ xs, 1 ≤ l.natAbs ∧ l.natAbs < n) : Letters n xs := h
/-- three letters turned round to their counterparts -/
theorem three_inv (q : Qd t u s) {a b : Int} (ha : 1 ≤ a.natAbs ∧ a.natAbs < n) (hb : 1 ≤ b.natAbs ∧ b.natAbs < n) (h : Alike t u w s n many [a, b, a] [b, a, b]) : Alike t u w s n many [-a, -b, -a] [-b, -a, -b] := by
  have na : 1 ≤ (-a).natAbs ∧ (-a).natAbs < n := by rw [Int.natAbs_neg]; exact ha
  have nb : 1 ≤ (-b).natAbs ∧ (-b).natAbs < n := by rw [Int.natAbs_neg]; exact hb
  have La : Letters n [-a] := fun l hl => by rw [List.mem_singleton.mp hl]; exact na
  have L1 : ∀ {x y : Int}, (1 ≤ x.natAbs ∧ x.natAbs < n) → (1 ≤ y.natAbs ∧ y.natAbs < n) → Letters n [x, y] := fun hx hy l hl => by
    rcases List.mem_cons.mp hl with z | z
    · rw [z]; exact hx
    · rw [List.mem_singleton.mp z]; exact hy
  have L2 : ∀ {x y z : Int}, (1 ≤ x.natAbs ∧ x.natAbs < n) → (1 ≤ y.natAbs ∧ y.natAbs < n) → (1 ≤ z.natAbs ∧ z.natAbs < n) → Letters n [x, y, z] := fun hx hy hz l hl => by
    rcases List.mem_cons.mp hl with z | z
    · rw [z]; exact hx
    · exact L1 hy hz l z
  have Lnil : Letters n [] := fun l hl => by cases hl
  have A := alike_back (w := w) (many := many) q na.1 na.2
  have B := alike_back (w := w) (many := many) q nb.1 nb.2
  rw [Int.neg_neg] at A B
  -- [-a,-b,-a] ~ [-a,-b,-a, b,a,b, -b,-a,-b]
  have c1 : Alike t u w s n many [-a, -b, -a] ([-a, -b, -a] ++ [b, a, b] ++ [-b, -a, -b]) := by
    have d1 := (alike_back (w := w) (many := many) q hb.1 hb.2).ctx q ([-a, -b, -a, b, a]) [-a, -b] (fun l hl => by
      simp only [List.mem_cons, List.not_mem_nil, or_false] at hl
      rcases hl with rfl | rfl | rfl | rfl | rfl <;> assumption)
    have d2 := (alike_back (w := w) (many := many) q ha.1 ha.2).ctx q ([-a, -b, -a, b]) [-b] (fun l hl => by
      simp only [List.mem_cons, List.not_mem_nil, or_false] at hl
      rcases hl with rfl | rfl | rfl | rfl <;> assumption)
    have d3 := (alike_back (w := w) (many := many) q hb.1 hb.2).ctx q ([-a, -b, -a]) [] (L2 na nb na)
    exact ((d1.trans d2).trans d3).symm
  have c2 := h.symm.ctx q [-a, -b, -a] [-b, -a, -b] (L2 na nb na)
  have c3 : Alike t u w s n many ([-a, -b, -a] ++ [a, b, a] ++ [-b, -a, -b]) [-b, -a, -b] := by
    have d1 := A.ctx q [-a, -b] [b, a, -b, -a, -b] (L1 na nb)
    have d2 := B.ctx q [-a] [a, -b, -a, -b] La
    have d3 := A.ctx q [] [-b, -a, -b] Lnil
    exact (d1.trans d2).trans d3
  exact (c1.trans c2).trans c3
/-- three letters, as the law has them -/
theorem alike_three (q : Qd t u s) (c : Coc t w s many) {a b : Int} (ha : 1 ≤ a.natAbs ∧ a.natAbs < n) (hb : 1 ≤ b.natAbs ∧ b.natAbs < n) (d : a.natAbs = b.natAbs + 1 ∨ b.natAbs = a.natAbs + 1) (g : (0 < a ∧ 0 < b) ∨ (a < 0 ∧ b < 0)) : Alike t u w s n many [a, b, a] [b, a, b] := by
  have up : ∀ {x y : Int}, 1 ≤ x.natAbs → y.natAbs < n → y.natAbs = x.natAbs + 1 → 0 < x → 0 < y → Alike t u w s n many [x, y, x] [y, x, y] := fun {x y} h1 h2 e p1 p2 => by
    have e1 : x = (x.natAbs : Int) := by omega
    have e2 : y = ((x.natAbs + 1 : Nat) : Int) := by omega
    rw [e1, e2]
    exact three_up q c (by omega) (by omega)
  have pos : ∀ {x y : Int}, (1 ≤ x.natAbs ∧ x.natAbs < n) → (1 ≤ y.natAbs ∧ y.natAbs < n) → (x.natAbs = y.natAbs + 1 ∨ y.natAbs = x.natAbs + 1) → 0 < x → 0 < y → Alike t u w s n many [x, y, x] [y, x, y] := fun hx hy e p1 p2 => by
    rcases e with e | e
    · exact (up hy.1 hx.2 e p2 p1).symm
    · exact up hx.1 hy.2 e p1 p2
  rcases g with ⟨g1, g2⟩ | ⟨g1, g2⟩
  · exact pos ha hb d g1 g2
  · have na : 1 ≤ (-a).natAbs ∧ (-a).natAbs < n := by rw [Int.natAbs_neg]; exact ha
    have nb : 1 ≤ (-b).natAbs ∧ (-b).natAbs < n := by rw [Int.natAbs_neg]; exact hb
    have z := three_inv q na nb (pos na nb (by rw [Int.natAbs_neg, Int.natAbs_neg]; exact d) (by omega) (by omega))
    rwa [Int.neg_neg, Int.neg_neg] at z
end
end DL
/-! P3: tallies as counts; a word turned round; one strand more; weights of edges. -/
namespace DL
section
variable {t u w : List (List Nat)} {s n many : Nat}
def fixR (t u : List (List Nat)) (s n : Nat) (word : List Int) : List (List Nat) := (rowsOf s n).filter fun r => decide (endR t u word r = r)
def idxW (t u w : List (List Nat)) (many : Nat) (word : List Int) (r : List Nat) : Nat := (totW t u w word r % (many : Int)).toNat
theorem bump_get {c : List Nat} {i j : Nat} (h : i < c.length) (hj : j < c.length) : (bump c i).getD j 0 = c.getD j 0 + if i = j then 1 else 0 := by
  unfold bump
  rw [getD_set hj]
  by_cases e : i = j
  · subst e
    simp
  · simp [e]
theorem bump_length (c : List Nat) (i : Nat) : (bump c i).length = c.length := by
  unfold bump
  rw [List.length_set]
theorem bumps : ∀ (is : List Nat) (c : List Nat), (∀ i ∈ is, i < c.length) → (is.foldl bump c).length = c.length ∧ ∀ j, j < c.length → (is.foldl bump c).getD j 0 = c.getD j 0 + is.count j
  | [], c, _ => ⟨rfl, fun j _ => rfl⟩
  | i :: is, c, h => by
    obtain ⟨h1, h2⟩ := bumps is (bump c i) fun k hk => by rw [bump_length]; exact h k (List.mem_cons_of_mem _ hk)
    rw [List.foldl_cons]
    refine ⟨by rw [h1, bump_length], fun j hj => ?_⟩
    rw [h2 j (by rw [bump_length]; exact hj), bump_get (h i (List.mem_cons_self ..)) hj, List.count_cons]
    simp only [beq_iff_eq]
    omega
theorem tally_fold : ∀ (rows : List (List Nat)) (word : List Int) (c : List Nat), rows.foldl (tally1 t u w word many) c = ((rows.filter fun r => decide (endR t u word r = r)).map (idxW t u w many word)).foldl bump c
  | [], _, _ => rfl
  | r :: rows, word, c => by
    rw [List.foldl_cons, tally_fold rows]
    unfold tally1
    rw [runW_eq]
    by_cases e : endR t u word r = r
    · rw [if_pos e, List.filter_cons_of_pos (by simp [e]), List.map_cons, List.foldl_cons]
      unfold idxW
      rw [Int.zero_add]
    · rw [if_neg e, List.filter_cons_of_neg (by simp [e])]
theorem idx_lt (hm : 0 < many) (word : List Int) (r : List Nat) : idxW t u w many word r < many := by
  unfold idxW
  have := Int.emod_nonneg (totW t u w word r) (show (many : Int) ≠ 0 by omega)
  have := Int.emod_lt_of_pos (totW t u w word r) (show (0 : Int) < (many : Int) by omega)
  omega
theorem tally_eq (hm : 0 < many) (word : List Int) : tally t u w word many (rowsOf s n) = (List.range many).map fun i => ((fixR t u s n word).map (idxW t u w many word)).count i := by
  unfold tally
  rw [tally_fold]
  show ((fixR t u s n word).map (idxW t u w many word)).foldl bump (List.replicate many 0) = _
  obtain ⟨h1, h2⟩ := bumps ((fixR t u s n word).map (idxW t u w many word)) (List.replicate many 0) fun i hi => by
    obtain ⟨r, _, rfl⟩ := List.mem_map.mp hi
    rw [List.length_replicate]
    exact idx_lt hm _ _
  rw [List.length_replicate] at h1 h2
  apply ext_getD (by rw [h1, List.length_map, List.length_range])
  intro j hj
  rw [h1] at hj
  rw [h2 j hj]
  simp [hj]
theorem rows_nodup (s : Nat) : ∀ n, (rowsOf s n).Nodup
  | 0 => by
    unfold rowsOf
    simp
  | n + 1 => by
    unfold rowsOf
    unfold List.Nodup
    rw [List.pairwise_flatMap]
    refine ⟨fun r _ => ?_, ?_⟩
    · rw [List.pairwise_map]
      refine List.Pairwise.imp ?_ (List.nodup_range (n := s))
      intro a b h e
      exact h (by simpa using e)
    · refine List.Pairwise.imp ?_ (rows_nodup s n)
      intro a b h x hx y hy e
      obtain ⟨k, _, rfl⟩ := List.mem_map.mp hx
      obtain ⟨m, _, rfl⟩ := List.mem_map.mp hy
      exact h (List.append_inj_left' e rfl)
theorem fix_nodup (word : List Int) : (fixR t u s n word).Nodup := List.Pairwise.filter _ (rows_nodup s n)
theorem fix_mem {word : List Int} {r : List Nat} : r ∈ fixR t u s n word ↔ RowOk n s r ∧ endR t u word r = r := by
  unfold fixR
  rw [List.mem_filter, rowsOf_mem, decide_eq_true_eq]
  rfl
theorem perm_by {α β : Type} {L : List α} {L' : List β} (f : α → β) (h1 : L.Nodup) (h2 : L'.Nodup) (inj : ∀ a ∈ L, ∀ b ∈ L, f a = f b → a = b) (on : ∀ b, b ∈ L' ↔ ∃ a ∈ L, f a = b) : (L.map f).Perm L' := by
  refine (List.perm_ext_iff_of_nodup ?_ h2).mpr fun b => by rw [List.mem_map]; exact (on b).symm
  clear on h2
  induction L with
  | nil => exact List.nodup_nil
  | cons a L ih =>
    rw [List.map_cons, List.nodup_cons]
    rw [List.nodup_cons] at h1
    refine ⟨fun hm => ?_, ih h1.2 fun x hx y hy => inj x (List.mem_cons_of_mem _ hx) y (List.mem_cons_of_mem _ hy)⟩
    obtain ⟨b, hb, e⟩ := List.mem_map.mp hm
    have := inj b (List.mem_cons_of_mem _ hb) a (List.mem_cons_self ..) e
    exact h1.1 (this ▸ hb)
theorem tally_by (hm : 0 < many) {n' : Nat} {word word' : List Int} (f : List Nat → List Nat) (inj : ∀ a, RowOk n s a → endR t u word a = a → ∀ b, RowOk n s b → endR t u word b = b → f a = f b → a = b)
    (to : ∀ a, RowOk n s a → endR t u word a = a → RowOk n' s (f a) ∧ endR t u word' (f a) = f a ∧ (totW t u w word' (f a) - totW t u w word a) % (many : Int) = 0)
    (on : ∀ b, RowOk n' s b → endR t u word' b = b → ∃ a, RowOk n s a ∧ endR t u word a = a ∧ f a = b) :
    tally t u w word' many (rowsOf s n') = tally t u w word many (rowsOf s n) := by
  have P : ((fixR t u s n word).map f).Perm (fixR t u s n' word') := perm_by f (fix_nodup word) (fix_nodup word') (fun a ha b hb => inj a (fix_mem.mp ha).1 (fix_mem.mp ha).2 b (fix_mem.mp hb).1 (fix_mem.mp hb).2) fun b => by
    rw [fix_mem]
    constructor
    · rintro ⟨h1, h2⟩
      obtain ⟨a, q1, q2, q3⟩ := on b h1 h2
      exact ⟨a, fix_mem.mpr ⟨q1, q2⟩, q3⟩
    · rintro ⟨a, ha, rfl⟩
      obtain ⟨q1, q2⟩ := fix_mem.mp ha
      exact ⟨(to a q1 q2).1, (to a q1 q2).2.1⟩
  have P2 := P.map (idxW t u w many word')
  rw [List.map_map] at P2
  have e : (fixR t u s n word).map (idxW t u w many word' ∘ f) = (fixR t u s n word).map (idxW t u w many word) := List.map_congr_left fun a ha => by
    obtain ⟨q1, q2⟩ := fix_mem.mp ha
    have z := (to a q1 q2).2.2
    show (totW t u w word' (f a) % (many : Int)).toNat = (totW t u w word a % (many : Int)).toNat
    rw [Int.emod_eq_emod_iff_emod_sub_eq_zero.mpr z]
  rw [e] at P2
  rw [tally_eq hm, tally_eq hm]
  exact List.map_congr_left fun i _ => (P2.count_eq i).symm
/-- words alike -/
theorem tally_alike (hm : 0 < many) {a b : List Int} (h : Alike t u w s n many a b) : tally t u w b many (rowsOf s n) = tally t u w a many (rowsOf s n) :=
  tally_by hm id (fun _ _ _ _ _ _ e => e) (fun r hr e => ⟨hr, by show endR t u b r = r; rw [← (h r hr).1]; exact e, (h.symm r hr).2⟩) fun r hr e => ⟨r, hr, by rw [(h r hr).1]; exact e, rfl⟩
/-- the first letter put last -/
theorem tally_turn (hm : 0 < many) (q : Qd t u s) {l : Int} {rest : List Int} (hl : 1 ≤ l.natAbs ∧ l.natAbs < n) (hr : Letters n rest) : tally t u w (rest ++ [l]) many (rowsOf s n) = tally t u w (l :: rest) many (rowsOf s n) :=
  tally_by hm (fun r => stepR t u r l)
    (fun a _ ea b _ eb e => by
      rw [endR_cons] at ea eb
      rw [← ea, ← eb]
      exact congrArg _ e)
    (fun a ha ea => by
      have ea' : endR t u rest (stepR t u a l) = a := ea
      refine ⟨q.step hl.1 hl.2 ha, ?_, ?_⟩
      · show endR t u (rest ++ [l]) (stepR t u a l) = stepR t u a l
        rw [endR_app, ea']
        rfl
      · show (totW t u w (rest ++ [l]) (stepR t u a l) - totW t u w (l :: rest) a) % (many : Int) = 0
        rw [totW_app, ea']
        simp only [totW]
        rw [mod0_eq (x := 0) (Int.zero_emod _)]
        omega)
    fun b hb eb => by
      rw [endR_app] at eb
      have eb' : stepR t u (endR t u rest b) l = b := eb
      exact ⟨endR t u rest b, q.run hr hb, by rw [endR_cons, eb'], eb'⟩
/-! one strand more -/
theorem getD_app {r : List Nat} {k j : Nat} (h : j < r.length) : (r ++ [k]).getD j 0 = r.getD j 0 := by
  simp [List.getD_eq_getElem?_getD, List.getElem?_append, h]
theorem step_app {r : List Nat} {k : Nat} {l : Int} (h : plc l + 1 < r.length) : stepR t u (r ++ [k]) l = stepR t u r l ++ [k] ∧ stepW u w (r ++ [k]) l = stepW u w r l := by
  have ex : xOf (r ++ [k]) l = xOf r l := getD_app (by omega)
  have ey : yOf (r ++ [k]) l = yOf r l := getD_app h
  have ep : ∀ a b : Nat, put2 (r ++ [k]) (plc l) a b = put2 r (plc l) a b ++ [k] := fun a b => by
    unfold put2
    rw [List.take_append_of_le_length (by omega), List.drop_append_of_le_length (by omega)]
    simp
  unfold stepR stepW
  rw [ex, ey]
  constructor
  · split <;> rw [ep]
  · rfl
theorem run_app (q : Qd t u s) : ∀ {word : List Int} {r : List Nat} {k : Nat}, Letters n word → RowOk n s r → endR t u word (r ++ [k]) = endR t u word r ++ [k] ∧ totW t u w word (r ++ [k]) = totW t u w word r
  | [], r, k, _, _ => ⟨rfl, rfl⟩
  | l :: rest, r, k, hl, hr => by
    have h1 := hl l (List.mem_cons_self ..)
    obtain ⟨e1, e2⟩ := step_app (t := t) (u := u) (w := w) (r := r) (k := k) (l := l) (by rw [hr.1]; exact plc_lt h1.1 h1.2)
    obtain ⟨e3, e4⟩ := run_app q (word := rest) (r := stepR t u r l) (k := k) (fun m hm => hl m (List.mem_cons_of_mem _ hm)) (q.step h1.1 h1.2 hr)
    rw [endR_cons, endR_cons, e1]
    refine ⟨e3, ?_⟩
    simp only [totW]
    rw [e1, e2, e4]
theorem last_split {r : List Nat} {m : Nat} (h : r.length = m + 1) : ∃ p, r = p ++ [r.getD m 0] ∧ p.length = m := by
  have hne : r ≠ [] := fun z => by rw [z] at h; cases h
  refine ⟨r.dropLast, ?_, by rw [List.length_dropLast, h]; rfl⟩
  have e : r.getD m 0 = r.getLast hne := by
    rw [List.getLast_eq_getElem]
    simp [h]
  rw [e, List.dropLast_concat_getLast hne]
theorem step_end {p : List Nat} {z k : Nat} {l : Int} (h : plc l = p.length) : stepR t u (p ++ [z] ++ [k]) l = (if 0 < l then p ++ [k, ent t z k] else p ++ [ent u k z, z]) ∧ stepW u w (p ++ [z] ++ [k]) l = if 0 < l then ((ent w z k : Nat) : Int) else - ((ent w (ent u k z) z : Nat) : Int) := by
  have ex : xOf (p ++ [z] ++ [k]) l = z := by
    unfold xOf
    rw [h]
    simp
  have ey : yOf (p ++ [z] ++ [k]) l = k := by
    unfold yOf
    rw [h]
    simp
  have ep : ∀ a b : Nat, put2 (p ++ [z] ++ [k]) (plc l) a b = p ++ [a, b] := fun a b => by
    unfold put2
    have e : p ++ [z] ++ [k] = p ++ [z, k] := by simp
    rw [h, List.drop_of_length_le (by simp), e, List.take_left]
    simp
  unfold stepR stepW
  rw [ex, ey, ep, ep]
  exact ⟨rfl, rfl⟩
theorem tally_more (hm : 0 < many) (q : Qd t u s) (same : ∀ a, a < s → ent w a a = 0) {word : List Int} {l : Int} (hn : 1 ≤ n) (hl : l.natAbs = n) (hw : Letters n word) : tally t u w (word ++ [l]) many (rowsOf s (n + 1)) = tally t u w word many (rowsOf s n) := by
  obtain ⟨m, rfl⟩ : ∃ m, n = m + 1 := ⟨n - 1, by omega⟩
  have hp : plc l = m := by unfold plc; omega
  have uu : ∀ a, a < s → ent u a a = a := fun a ha => by
    have z := q.l1 a ha a ha
    rwa [q.idem a ha] at z
  refine tally_by hm (fun r => r ++ [r.getD m 0]) ?_ ?_ ?_
  · intro a ha _ b hb _ e
    exact List.append_inj_left' e rfl
  · intro r hr e
    obtain ⟨p, ep, lp⟩ := last_split hr.1
    have hz := hr.at (show m < m + 1 by omega)
    generalize r.getD m 0 = z at ep hz ⊢
    obtain ⟨e1, e2⟩ := run_app (w := w) (k := z) q hw hr
    obtain ⟨e3, e4⟩ := step_end (t := t) (u := u) (w := w) (p := p) (z := z) (k := z) (l := l) (by rw [hp, lp])
    rw [← ep] at e3 e4
    refine ⟨⟨by rw [List.length_append, hr.1]; rfl, fun k hk => ?_⟩, ?_, ?_⟩
    · rcases List.mem_append.mp hk with y | y
      · exact hr.2 k y
      · rw [List.mem_singleton.mp y]
        exact hz
    · rw [endR_app, e1, e]
      show stepR t u (r ++ [z]) l = r ++ [z]
      rw [e3, q.idem z hz, uu z hz, ep]
      simp
    · rw [totW_app, e1, e2, e]
      show (totW t u w word r + (stepW u w (r ++ [z]) l + 0) - totW t u w word r) % (many : Int) = 0
      rw [e4, uu z hz, same z hz]
      rw [mod0_eq (x := 0) (Int.zero_emod _)]
      split <;> simp
  · intro R hR e
    obtain ⟨r, eR, lr⟩ := last_split hR.1
    have hk := hR.at (show m + 1 < m + 1 + 1 by omega)
    generalize R.getD (m + 1) 0 = k at eR hk
    subst eR
    have hr : RowOk (m + 1) s r := ⟨lr, fun x hx => hR.2 x (List.mem_append_left _ hx)⟩
    obtain ⟨e1, -⟩ := run_app (w := w) (k := k) q hw hr
    have hr' := q.run hw hr
    obtain ⟨p', ep', lp'⟩ := last_split hr'.1
    have hz' := hr'.at (show m < m + 1 by omega)
    obtain ⟨p, ep, lp⟩ := last_split hr.1
    have hz := hr.at (show m < m + 1 by omega)
    rw [endR_app, e1] at e
    have e : stepR t u (endR t u word r ++ [k]) l = r ++ [k] := e
    refine ⟨r, hr, ?_⟩
    generalize endR t u word r = r' at *
    generalize r'.getD m 0 = z' at *
    generalize r.getD m 0 = z at *
    obtain ⟨e3, -⟩ := step_end (t := t) (u := u) (w := w) (p := p') (z := z') (k := k) (l := l) (by rw [hp, lp'])
    rw [← ep'] at e3
    rw [e3, ep] at e
    by_cases h : 0 < l
    · rw [if_pos h] at e
      have e : p' ++ [k, ent t z' k] = p ++ [z, k] := by rw [e]; simp
      obtain ⟨f1, f2⟩ := List.append_inj e (by omega)
      simp only [List.cons.injEq, and_true] at f2
      obtain ⟨f2, f3⟩ := f2
      have f4 : z' = k := by
        have y := q.l1 z' hz' k hk
        rw [f3, uu k hk] at y
        exact y.symm
      subst f2
      rw [ep', ep, f1, f4]
      exact ⟨rfl, rfl⟩
    · rw [if_neg h] at e
      have e : p' ++ [ent u k z', z'] = p ++ [z, k] := by rw [e]; simp
      obtain ⟨f1, f2⟩ := List.append_inj e (by omega)
      simp only [List.cons.injEq, and_true] at f2
      obtain ⟨f2, f3⟩ := f2
      subst f3
      rw [uu _ hz'] at f2
      subst f2
      rw [ep', ep, f1]
      exact ⟨rfl, rfl⟩
/-! all together -/
theorem sum_counts (is : List Nat) (h : ∀ i ∈ is, i < many) : ((List.range many).map fun i => is.count i).sum = is.length := by
  induction is with
  | nil =>
    simp
    induction many with
    | zero => rfl
    | succ m ih => rw [List.range_succ, List.map_append, List.sum_append, ih (fun i hi => by cases hi)]; rfl
  | cons i is ih =>
    have z := ih fun k hk => h k (List.mem_cons_of_mem _ hk)
    rw [List.length_cons, ← z]
    have hi := h i (List.mem_cons_self ..)
    clear ih z h
    have key : ∀ m, ((List.range m).map fun j => (i :: is).count j).sum = ((List.range m).map fun j => is.count j).sum + if i < m then 1 else 0 := fun m => by
      induction m with
      | zero => rfl
      | succ m ih =>
        rw [List.range_succ, List.map_append, List.map_append, List.sum_append, List.sum_append, ih]
        simp only [List.map_cons, List.map_nil, List.sum_cons, List.sum_nil, List.count_cons, beq_iff_eq]
        by_cases c1 : i = m
        · subst c1
          simp
          omega
        · by_cases c2 : i < m
          · simp [c1, c2, show i < m + 1 by omega]
            omega
          · simp [c1, c2, show ¬ i < m + 1 by omega]
    rw [key many, if_pos hi]
theorem tally_sum (hm : 0 < many) (word : List Int) : (tally t u w word many (rowsOf s n)).sum = (fixR t u s n word).length := by
  rw [tally_eq hm, sum_counts _ fun i hi => by
    obtain ⟨r, _, rfl⟩ := List.mem_map.mp hi
    exact idx_lt hm _ _, List.length_map]
/-! weights of edges -/
def EdgeW (t w : List (List Nat)) (s many : Nat) (nu : Nat → Int) : Prop := ∀ a, a < s → ∀ b, b < s → ((ent w a b : Int) - (nu a - nu (ent t a b))) % (many : Int) = 0
def sumR (nu : Nat → Int) (r : List Nat) : Int := (r.map nu).sum
theorem row_split {r : List Nat} {p : Nat} (h : p + 1 < r.length) : r = r.take p ++ [r.getD p 0, r.getD (p + 1) 0] ++ r.drop (p + 2) := by
  apply List.ext_getElem?
  intro i
  simp only [List.getElem?_append, List.length_append, List.length_take, List.getElem?_take, List.getElem?_drop, List.length_cons, List.length_nil]
  have e : min p r.length = p := by omega
  rw [e]
  by_cases h1 : i < p
  · rw [if_pos (by omega), if_pos h1, if_pos h1]
  · by_cases h2 : i < p + (0 + 1 + 1)
    · rw [if_pos h2, if_neg h1]
      have : i = p ∨ i = p + 1 := by omega
      rcases this with rfl | rfl
      · simp [show i < r.length by omega]
      · simp [h]
    · rw [if_neg h2]
      congr 1
      omega
theorem step_sum (q : Qd t u s) {nu : Nat → Int} (h : EdgeW t w s many nu) {r : List Nat} {l : Int} (h1 : 1 ≤ l.natAbs) (h2 : l.natAbs < n) (hr : RowOk n s r) : (stepW u w r l + sumR nu (stepR t u r l) - sumR nu r) % (many : Int) = 0 := by
  have hp : plc l + 1 < r.length := by rw [hr.1]; exact plc_lt h1 h2
  have hx := hr.xs h1 h2
  have hy := hr.ys h1 h2
  have S : ∀ a b : Nat, sumR nu (put2 r (plc l) a b) - sumR nu r = nu a + nu b - nu (xOf r l) - nu (yOf r l) := fun a b => by
    have e : sumR nu r = sumR nu (r.take (plc l) ++ [xOf r l, yOf r l] ++ r.drop (plc l + 2)) := congrArg _ (row_split hp)
    rw [e]
    unfold sumR put2
    simp only [List.map_append, List.sum_append, List.map_cons, List.map_nil, List.sum_cons, List.sum_nil]
    omega
  unfold stepW stepR
  by_cases c : 0 < l
  · rw [if_pos c, if_pos c]
    have e := S (yOf r l) (ent t (xOf r l) (yOf r l))
    exact mod0_eq (h _ hx _ hy) (by omega)
  · rw [if_neg c, if_neg c]
    have e := S (ent u (yOf r l) (xOf r l)) (xOf r l)
    have z := h _ (q.ul _ hy _ hx) _ hx
    rw [q.l2 _ hy _ hx] at z
    exact mod0_eq (mod0_neg z) (by omega)
theorem run_sum (q : Qd t u s) {nu : Nat → Int} (h : EdgeW t w s many nu) : ∀ {word : List Int} {r : List Nat}, Letters n word → RowOk n s r → (totW t u w word r + sumR nu (endR t u word r) - sumR nu r) % (many : Int) = 0
  | [], r, _, _ => mod0_eq (Int.zero_emod _) (by simp [totW, endR])
  | l :: rest, r, hl, hr => by
    have h1 := hl l (List.mem_cons_self ..)
    have a := step_sum q h h1.1 h1.2 hr
    have b := run_sum q h (word := rest) (fun m hm => hl m (List.mem_cons_of_mem _ hm)) (q.step h1.1 h1.2 hr)
    rw [endR_cons]
    simp only [totW]
    exact mod0_eq (mod0_add a b) (by omega)
theorem tally_edge (hm : 0 < many) (q : Qd t u s) {nu : Nat → Int} (h : EdgeW t w s many nu) {word : List Int} (hw : Letters n word) : tally t u w word many (rowsOf s n) = (fixR t u s n word).length :: List.replicate (many - 1) 0 := by
  have e : (fixR t u s n word).map (idxW t u w many word) = List.replicate (fixR t u s n word).length 0 := by
    rw [List.eq_replicate_iff]
    refine ⟨List.length_map .., fun i hi => ?_⟩
    obtain ⟨r, hr, rfl⟩ := List.mem_map.mp hi
    obtain ⟨h1, h2⟩ := fix_mem.mp hr
    have z := run_sum q h hw h1
    rw [h2] at z
    unfold idxW
    rw [mod0_eq z (y := totW t u w word r) (by omega)]
    rfl
  rw [tally_eq hm, e]
  obtain ⟨m, rfl⟩ : ∃ m, many = m + 1 := ⟨many - 1, by omega⟩
  rw [List.range_succ_eq_map, List.map_cons, List.count_replicate_self, List.map_map]
  congr 1
  rw [List.eq_replicate_iff]
  refine ⟨by simp, fun x hx => ?_⟩
  obtain ⟨i, _, rfl⟩ := List.mem_map.mp hx
  show List.count (i + 1) (List.replicate _ 0) = 0
  rw [List.count_replicate]
  simp
theorem edge_coc (q : Qd t u s) {nu : Nat → Int} (h : EdgeW t w s many nu) (lt : ∀ a, a < s → ∀ b, b < s → ent w a b < many) : Coc t w s many where
  same := fun a ha => by
    have z := h a ha a ha
    rw [q.idem a ha, Int.sub_self, Int.sub_zero, ← Int.natCast_emod, Nat.mod_eq_of_lt (lt a ha a ha)] at z
    omega
  three := fun a ha b hb c hc => by
    have hab := q.tl a ha b hb
    have hac := q.tl a ha c hc
    have hbc := q.tl b hb c hc
    have z1 := h a ha b hb
    have z2 := h _ hab c hc
    have z3 := h a ha c hc
    have z4 := h _ hac _ hbc
    rw [q.dist a ha b hb c hc] at z2
    exact mod0_eq (mod0_add (mod0_add z1 z2) (mod0_neg (mod0_add z3 z4))) (by omega)
end
end DL
set_option maxRecDepth 100000
set_option maxHeartbeats 1000000
/-! M13: weights_fault and _law_fault. -/
namespace DL
open PySem PySem.Spec L2
section
variable {ga : D → M Unit} {fb : M Out}
theorem for_badX {X : Type} {f : X → D} {Inv : Sg → Prop} {bad : X → Bool} {v : D} : ∀ {xs : List X}, (∀ x ∈ xs, ∀ g, Inv g → ∃ g1 g2, noEr (ga (f x)) g = .ok ((), g1) ∧ fb g1 = .ok (if bad x = true then .rt v else .nx, g2) ∧ Inv g2) →
    ∀ g, Inv g → ∃ g', forD ga fb (xs.map f) g = .ok (if xs.any bad = true then .rt v else .nx, g') ∧ Inv g'
  | [], _, g, h => ⟨g, rfl, h⟩
  | x :: xs, st, g, h => by
    obtain ⟨g1, g2, e1, e2, h2⟩ := st x (List.mem_cons_self ..) g h
    rw [List.map_cons]
    unfold forD
    rw [bind_at, e1, rbind_ok, bind_at, e2, rbind_ok, List.any_cons]
    cases hb : bad x with
    | true => exact ⟨g2, rfl, h2⟩
    | false => exact for_badX (fun x' hx' => st x' (List.mem_cons_of_mem _ hx')) g2 h2
end
/-- the three parts of the look at a table's weights -/
def fltR (w : List (List Nat)) (many : Nat) : Bool := w.any fun r => r.any fun x => decide (many ≤ x)
def fltS (w : List (List Nat)) (s : Nat) : Bool := (List.range s).any fun a => decide (ent w a a ≠ 0)
def dif3 (t w : List (List Nat)) (a b c : Nat) : Int := (ent w a b : Int) + (ent w (ent t a b) c : Int) - (ent w a c : Int) - (ent w (ent t a c) (ent t b c) : Int)
def fltT (t w : List (List Nat)) (s many : Nat) : Bool := (List.range s).any fun a => (List.range s).any fun b => (List.range s).any fun c => decide (dif3 t w a b c % (many : Int) ≠ 0)
def faultD (t w : List (List Nat)) (s many : Nat) : D := if fltR w many = true then .str "weights" else if fltS w s = true then .str "same" else if fltT t w s many = true then .str "three" else .none
theorem lay_nil : PyData.canLayAll0 [] = true := rfl
theorem dep_nil : PyData.depthAll [] = 0 := rfl
theorem lstF_nil (b : Nat) : lstF [] b = M.pur [] := Eq.trans rfl rfl
theorem layAll_rep (k : Nat) (d : D) (h : d.canLay0 = true) : PyData.canLayAll0 (List.replicate k d) = true := by
  induction k with
  | zero => rfl
  | succ k ih => rw [List.replicate_succ]; simp only [PyData.canLayAll0, h, ih, Bool.and_self]
theorem depth_rep (k : Nat) (c : Bool) : PyData.depthAll (List.replicate k (.bool c)) = 0 := by
  induction k with
  | zero => rfl
  | succ k ih => rw [List.replicate_succ]; simp [PyData.depthAll, PyData.depth, ih]
/-- is a list of ints empty? -/
theorem neV_nil (xs : List Nat) : neV' (.dat (.list (xs.map fun (k : Nat) => PyData.int (k : Int)))) (.dat (.list [])) = M.pur (.bool (!xs.isEmpty)) := by
  have e : PyData.eqv (.list (xs.map fun (k : Nat) => PyData.int (k : Int))) (.list []) = xs.isEmpty := by
    cases xs <;> simp [PyData.eqv, PyData.eqvAll]
  show need (SeqAt.shaped (PyData.list (xs.map fun (k : Nat) => PyData.int (k : Int))) && SeqAt.shaped (PyData.list [])) (M.pur (PyData.bool (!PyData.eqv (.list (xs.map fun (k : Nat) => PyData.int (k : Int))) (.list [])))) = _
  rw [e, need_of (by simp [SeqAt.shaped, PyData.canLay0, PyData.depth, layAll_nat, depthAll_nat, lay_nil, dep_nil])]
theorem neV_trues {k : Nat} (hk : 1 ≤ k) : neV' (.dat (.list (List.replicate k (.bool true)))) (.dat (.list [])) = M.pur (.bool true) := by
  have e : PyData.eqv (.list (List.replicate k (.bool true))) (.list []) = false := by
    obtain ⟨m, rfl⟩ : ∃ m, k = m + 1 := ⟨k - 1, by omega⟩
    rw [List.replicate_succ]
    simp [PyData.eqv, PyData.eqvAll]
  show need (SeqAt.shaped (PyData.list (List.replicate k (.bool true))) && SeqAt.shaped (PyData.list [])) (M.pur (PyData.bool (!PyData.eqv (.list (List.replicate k (.bool true))) (.list [])))) = _
  rw [e, need_of (by simp [SeqAt.shaped, PyData.canLay0, PyData.depth, layAll_rep k (.bool true) rfl, depth_rep, lay_nil, dep_nil])]
  rfl
theorem fil_nat (xs : List Nat) (p : Nat → Bool) (q : D → Bool) (h : ∀ k : Nat, q (.int (k : Int)) = p k) : ((xs.map fun (k : Nat) => PyData.int (k : Int)).filter q).map (fun d => d) = (xs.filter p).map fun (k : Nat) => PyData.int (k : Int) := by
  rw [List.map_id'', List.filter_map]
  · congr 1
    apply List.filter_congr
    intro k _
    exact h k
  · intro d; rfl
theorem isE_fil (xs : List Nat) (p : Nat → Bool) : (!(xs.filter p).isEmpty) = xs.any p := by
  induction xs with
  | nil => rfl
  | cons x xs ih =>
    rw [List.any_cons, ← ih]
    cases h : p x <;> simp [h]
theorem isT_tTa (w : List (List Nat)) : isT "tuple" (tTa w) = some true := rfl
theorem isT_nTu (w : List Nat) : isT "tuple" (nTu w) = some true := rfl
theorem seqF_nTu (r : List Nat) : seqF (nTu r) = M.pur (r.map fun (k : Nat) => PyData.int (k : Int)) := Eq.trans rfl rfl
theorem seqF_tTa (w : List (List Nat)) : seqF (tTa w) = M.pur (w.map nTu) := Eq.trans rfl rfl
theorem asTru_nat (xs : List Nat) (p : Nat → Bool) : asTru (xs.map fun k => PyData.bool (p k)) = some (xs.map p) := by
  induction xs with
  | nil => rfl
  | cons x xs ih => simp [asTru, ih]
/-! ### _law_fault -/
def lfRow : M Out := (uIf (sOr (sNot (sT ((nam 5).bind (isiW "tuple")))) (sOr (sT (s2 (sD ((sCons (nam 5) sNil).bind (arg1 lenW))) (nam 4) neV')) (sT (s2 (sD (sL (lcF [9] ((sV 10 (nam 5)).bind seqF) (put 9) (sOr (sNot (sT ((nam 9).bind (isiW "int")))) (sOr (sT ((nam 9).bind (isiW "bool"))) (sOr (sT (s2 (nam 9) (sD (M.pur (.int 0))) ltV)) (sT (s2 (nam 9) (nam 2) geV))))) (lastF (sV 10 (nam 9)))))) (sD (sL (sLst 10 sNil))) neV')))) (uRet (M.pur (.str "weights"))) (M.pur .nx))
def lfIn : M Out := (uIf (sT (s2 (sD (s2 (sD (s2 (sD (s2 (sD (s2 (sD (s2 (sD (s2 (nam 1) (nam 6) atW)) (nam 7) atW)) (sD (s2 (sD (s2 (nam 1) (sD (s2 (sD (s2 (nam 0) (nam 6) atW)) (nam 7) atW)) atW)) (nam 8) atW)) addV)) (sD (s2 (sD (s2 (nam 1) (nam 6) atW)) (nam 8) atW)) subV)) (sD (s2 (sD (s2 (nam 1) (sD (s2 (sD (s2 (nam 0) (nam 6) atW)) (nam 8) atW)) atW)) (sD (s2 (sD (s2 (nam 0) (nam 7) atW)) (nam 8) atW)) atW)) subV)) (nam 2) modV)) (sD (M.pur (.int 0))) neV')) (uRet (M.pur (.str "three"))) (M.pur .nx))
section
variable {t w : List (List Nat)} {s many : Nat}
theorem lf_row {r : List Nat} {e0 e1 e3 e6 e7 e8 e9 : Ent} (hs : s ≤ 100) (hr : r.length = s) (k9 : keepable ⟨none, [.un, .un, .un, .un, .un, .un, .un, .un, .un, e9], none⟩ [9] = true) :
    lfRow ⟨none, [e0, e1, .im (.int (many : Int)), e3, .im (.int (s : Int)), .im (nTu r), e6, e7, e8, e9], none⟩ = .ok (if (r.any fun x => decide (many ≤ x)) = true then .rt (.str "weights") else .nx, ⟨none, [e0, e1, .im (.int (many : Int)), e3, .im (.int (s : Int)), .im (nTu r), e6, e7, e8, e9], none⟩) := by
  have lc := lcF_fil (i := 9) (t := none) (b := none) (es := [e0, e1, .im (.int (many : Int)), e3, .im (.int (s : Int)), .im (nTu r), e6, e7, e8, e9]) (fi := (sV 10 (nam 5)).bind seqF) (g := ⟨none, [e0, e1, .im (.int (many : Int)), e3, .im (.int (s : Int)), .im (nTu r), e6, e7, e8, e9], none⟩)
    (gt := (sOr (sNot (sT ((nam 9).bind (isiW "int")))) (sOr (sT ((nam 9).bind (isiW "bool"))) (sOr (sT (s2 (nam 9) (sD (M.pur (.int 0))) ltV)) (sT (s2 (nam 9) (nam 2) geV)))))) (fe := sV 10 (nam 9)) (F := fun d => d) (p := fun d => match d with
      | .int i => decide (i < 0) || decide ((many : Int) ≤ i)
      | _ => true) (ds := r.map fun (k : Nat) => PyData.int (k : Int)) (by simp [seqF_nTu]) k9 (by rw [List.length_map]; omega) (by simp) (fun d hd => by
        obtain ⟨k, hk, rfl⟩ := List.mem_map.mp hd
        refine ⟨?_, fun _ => by simp⟩
        have : ¬ ((k : Int) < 0) := by omega
        simp [isT, tyN, this])
  rw [fil_nat r (fun x => decide (many ≤ x)) _ (fun k => by
    show (decide ((k : Int) < 0) || decide ((many : Int) ≤ (k : Int))) = _
    rw [decide_eq_false (show ¬ ((k : Int) < 0) by omega), Bool.false_or, Bool.eq_iff_iff, decide_eq_true_eq, decide_eq_true_eq]
    omega)] at lc
  have nv := neV_nil (r.filter fun x => decide (many ≤ x))
  rw [isE_fil] at nv
  unfold lfRow
  have ln := len_nTu r
  generalize (r.any fun x => decide (many ≤ x)) = c at nv ⊢
  cases c <;> simp [isT_nTu, ln, neV_ints, hr, lc, lstF_nil, nv]
theorem lf_rowT {e0 e1 e3 e6 e7 e8 e9 : Ent} (hs : s ≤ 100) (h1 : 1 ≤ s) (k9 : keepable ⟨none, [.un, .un, .un, .un, .un, .un, .un, .un, .un, e9], none⟩ [9] = true) :
    lfRow ⟨none, [e0, e1, .im (.int (many : Int)), e3, .im (.int (s : Int)), .im (.tuple (List.replicate s (.bool true))), e6, e7, e8, e9], none⟩ = .ok (.rt (.str "weights"), ⟨none, [e0, e1, .im (.int (many : Int)), e3, .im (.int (s : Int)), .im (.tuple (List.replicate s (.bool true))), e6, e7, e8, e9], none⟩) := by
  have lc := lcF_fil (i := 9) (t := none) (b := none) (es := [e0, e1, .im (.int (many : Int)), e3, .im (.int (s : Int)), .im (.tuple (List.replicate s (.bool true))), e6, e7, e8, e9]) (fi := (sV 10 (nam 5)).bind seqF) (g := ⟨none, [e0, e1, .im (.int (many : Int)), e3, .im (.int (s : Int)), .im (.tuple (List.replicate s (.bool true))), e6, e7, e8, e9], none⟩)
    (gt := (sOr (sNot (sT ((nam 9).bind (isiW "int")))) (sOr (sT ((nam 9).bind (isiW "bool"))) (sOr (sT (s2 (nam 9) (sD (M.pur (.int 0))) ltV)) (sT (s2 (nam 9) (nam 2) geV)))))) (fe := sV 10 (nam 9)) (F := fun d => d) (p := fun d => true) (ds := List.replicate s (.bool true)) (by simp) k9 (by rw [List.length_replicate]; omega) (by simp) (fun d hd => by
        obtain rfl := List.eq_of_mem_replicate hd
        refine ⟨?_, fun _ => by simp⟩
        simp [isT, tyN])
  rw [List.filter_eq_self.mpr fun _ _ => rfl, List.map_id''  fun _ => rfl] at lc
  have nv := neV_trues h1
  have it : isT "tuple" (.tuple (List.replicate s (.bool true))) = some true := rfl
  unfold lfRow
  simp [it, neV_ints, lc, lstF_nil, nv]
theorem lf_in {a b c : Nat} (Ht : Good t s) (Hw : Sqr w s) (hm : 0 < many) (ha : a < s) (hb : b < s) (hc : c < s) {e3 e4 e5 e9 : Ent} :
    lfIn ⟨none, [.im (tTa t), .im (tTa w), .im (.int (many : Int)), e3, e4, e5, .im (.int (a : Int)), .im (.int (b : Int)), .im (.int (c : Int)), e9], none⟩ = .ok (if decide (dif3 t w a b c % (many : Int) ≠ 0) = true then .rt (.str "three") else .nx, ⟨none, [.im (tTa t), .im (tTa w), .im (.int (many : Int)), e3, e4, e5, .im (.int (a : Int)), .im (.int (b : Int)), .im (.int (c : Int)), e9], none⟩) := by
  have hab := Ht.lt a ha b hb
  have hac := Ht.lt a ha c hc
  have hbc := Ht.lt b hb c hc
  have S := Ht.sqr
  have T : ∀ x, x < s → atW (.dat (tTa t)) (.dat (.int (x : Int))) = M.pur (nTu (rowAt t x)) := fun x hx => atT (by rw [S.len]; exact hx)
  have W : ∀ x, x < s → atW (.dat (tTa w)) (.dat (.int (x : Int))) = M.pur (nTu (rowAt w x)) := fun x hx => atT (by rw [Hw.len]; exact hx)
  have T2 : ∀ x y, x < s → y < s → atW (.dat (nTu (rowAt t x))) (.dat (.int (y : Int))) = M.pur (.int ((ent t x y : Nat) : Int)) := fun x y hx hy => atE (by rw [S.row x hx]; exact hy)
  have W2 : ∀ x y, x < s → y < s → atW (.dat (nTu (rowAt w x))) (.dat (.int (y : Int))) = M.pur (.int ((ent w x y : Nat) : Int)) := fun x y hx hy => atE (by rw [Hw.row x hx]; exact hy)
  have md := modV_at (i := dif3 t w a b c) (j := (many : Int)) (by omega)
  unfold dif3 at md ⊢
  unfold lfIn
  simp [T a ha, T b hb, T2 a b ha hb, T2 a c ha hc, T2 b c hb hc, W a ha, W2 a b ha hb, W2 a c ha hc, W _ hab, W2 _ c hab hc, W _ hac, W2 _ _ hac hbc, md, neV_ints]
  split <;> simp_all
def lfO1 : M Out := (uFor ((sCons (nam 4) sNil).bind rg1) (put 7) (uFor ((sCons (nam 4) sNil).bind rg1) (put 8) lfIn))
theorem lf_out (Ht : Good t s) (Hw : Sqr w s) (hm : 0 < many) {e3 e5 e6 e7 e8 e9 : Ent} : ∃ f6 f7 f8, forD (put 6) lfO1 ((List.range s).map fun (k : Nat) => PyData.int (k : Int)) ⟨none, [.im (tTa t), .im (tTa w), .im (.int (many : Int)), e3, .im (.int (s : Int)), e5, e6, e7, e8, e9], none⟩ =
    .ok (if fltT t w s many = true then .rt (.str "three") else .nx, ⟨none, [.im (tTa t), .im (tTa w), .im (.int (many : Int)), e3, .im (.int (s : Int)), e5, f6, f7, f8, e9], none⟩) := by
  have s5 := Ht.s5
  have rg := rg1_at (n := s) (by omega)
  rw [rg_nat] at rg
  have st := for_badX (ga := put 6) (fb := lfO1) (X := Nat) (f := fun (k : Nat) => PyData.int (k : Int)) (v := .str "three")
    (bad := fun a => (List.range s).any fun b => (List.range s).any fun c => decide (dif3 t w a b c % (many : Int) ≠ 0)) (xs := List.range s)
    (Inv := fun g => ∃ e6 e7 e8, g = ⟨none, [.im (tTa t), .im (tTa w), .im (.int (many : Int)), e3, .im (.int (s : Int)), e5, e6, e7, e8, e9], none⟩) (fun a ha g hg => by
      obtain ⟨e6, e7, e8, rfl⟩ := hg
      have ha := List.mem_range.mp ha
      have st2 := for_badX (ga := put 7) (fb := (uFor ((sCons (nam 4) sNil).bind rg1) (put 8) lfIn)) (X := Nat) (f := fun (k : Nat) => PyData.int (k : Int)) (v := .str "three")
        (bad := fun b => (List.range s).any fun c => decide (dif3 t w a b c % (many : Int) ≠ 0)) (xs := List.range s)
        (Inv := fun g => ∃ e7 e8, g = ⟨none, [.im (tTa t), .im (tTa w), .im (.int (many : Int)), e3, .im (.int (s : Int)), e5, .im (.int (a : Int)), e7, e8, e9], none⟩) (fun b hb g hg => by
          obtain ⟨e7, e8, rfl⟩ := hg
          have hb := List.mem_range.mp hb
          have st3 := for_badX (ga := put 8) (fb := lfIn) (X := Nat) (f := fun (k : Nat) => PyData.int (k : Int)) (v := .str "three")
            (bad := fun c => decide (dif3 t w a b c % (many : Int) ≠ 0)) (xs := List.range s)
            (Inv := fun g => ∃ e8, g = ⟨none, [.im (tTa t), .im (tTa w), .im (.int (many : Int)), e3, .im (.int (s : Int)), e5, .im (.int (a : Int)), .im (.int (b : Int)), e8, e9], none⟩) (fun c hc g hg => by
              obtain ⟨e8, rfl⟩ := hg
              have hc := List.mem_range.mp hc
              exact ⟨_, _, rfl, lf_in Ht Hw hm ha hb hc, _, rfl⟩) _ ⟨e8, rfl⟩
          obtain ⟨g', e, e8', rfl⟩ := st3
          exact ⟨_, _, rfl, by simp [rg, e], .im (.int (b : Int)), e8', rfl⟩) _ ⟨e7, e8, rfl⟩
      obtain ⟨g', e, e7', e8', rfl⟩ := st2
      exact ⟨_, _, rfl, by unfold lfO1; simp [rg, e], .im (.int (a : Int)), e7', e8', rfl⟩) _ ⟨e6, e7, e8, rfl⟩
  obtain ⟨g', e, f6, f7, f8, rfl⟩ := st
  exact ⟨f6, f7, f8, e⟩
end
end DL
set_option maxRecDepth 100000
set_option maxHeartbeats 1000000
/-! M14: _law_fault in all. -/
namespace DL
open PySem PySem.Spec L2
section
variable {t w : List (List Nat)} {s many : Nat}
theorem any_filter {X : Type} (p : X → Bool) (xs : List X) : (!(xs.filter p).isEmpty) = xs.any p := by
  induction xs with
  | nil => rfl
  | cons x xs ih =>
    rw [List.any_cons, ← ih]
    cases h : p x <;> simp [h]
theorem lf_same (Ht : Good t s) (Hw : Sqr w s) {e0 e2 e3 e5 e7 e8 e9 : Ent} : lcF [6] ((sCons (nam 4) sNil).bind rg1) (put 6) (sT (s2 (sD (s2 (sD (s2 (nam 1) (nam 6) atW)) (nam 6) atW)) (sD (M.pur (.int 0))) neV')) (lastF (sV 10 (nam 6))) ⟨none, [e0, .im (tTa w), e2, e3, .im (.int (s : Int)), e5, .un, e7, e8, e9], none⟩ =
    .ok (((List.range s).filter fun a => decide (ent w a a ≠ 0)).map fun (k : Nat) => PyData.int (k : Int), ⟨none, [e0, .im (tTa w), e2, e3, .im (.int (s : Int)), e5, .un, e7, e8, e9], none⟩) := by
  have s5 := Ht.s5
  have rg := rg1_at (n := s) (by omega)
  rw [rg_nat] at rg
  have lc := lcF_fil (i := 6) (t := none) (b := none) (es := [e0, .im (tTa w), e2, e3, .im (.int (s : Int)), e5, .un, e7, e8, e9]) (fi := (sCons (nam 4) sNil).bind rg1) (g := ⟨none, [e0, .im (tTa w), e2, e3, .im (.int (s : Int)), e5, .un, e7, e8, e9], none⟩)
    (gt := (sT (s2 (sD (s2 (sD (s2 (nam 1) (nam 6) atW)) (nam 6) atW)) (sD (M.pur (.int 0))) neV'))) (fe := sV 10 (nam 6)) (F := fun d => d) (p := fun d => match d with
      | .int i => decide (ent w i.toNat i.toNat ≠ 0)
      | _ => true) (ds := (List.range s).map fun (k : Nat) => PyData.int (k : Int)) (by simp [rg]) (by rfl) (by rw [List.length_map, List.length_range]; omega) (by simp) (fun d hd => by
        obtain ⟨k, hk, rfl⟩ := List.mem_map.mp hd
        have hk := List.mem_range.mp hk
        refine ⟨?_, fun _ => by simp⟩
        have a1 := atT (t := w) (k := k) (by rw [Hw.len]; exact hk)
        have a2 := atE (t := w) (a := k) (b := k) (by rw [Hw.row k hk]; exact hk)
        simp [a1, a2, neV_ints])
  rw [fil_nat (List.range s) (fun a => decide (ent w a a ≠ 0)) _ (fun k => by simp)] at lc
  exact lc
theorem lf_good (Ht : Good t s) (Hw : Sqr w s) (h2 : 2 ≤ many) (h12 : many ≤ 12) : f__law_fault [tTa t, tTa w, .int (many : Int)] = .ok (faultD t w s many) := by
  have s5 := Ht.s5
  have st := for_badX (ga := put 5) (fb := lfRow) (X := List Nat) (f := nTu) (v := .str "weights") (bad := fun r => r.any fun x => decide (many ≤ x)) (xs := w)
    (Inv := fun g => ∃ e5, g = ⟨none, [.im (tTa t), .im (tTa w), .im (.int (many : Int)), .im .none, .im (.int (s : Int)), e5, .un, .un, .un, .un], none⟩) (fun r hr g hg => by
      obtain ⟨e5, rfl⟩ := hg
      obtain ⟨a, ha, rfl⟩ := List.getElem_of_mem hr
      have hl : (w[a]).length = s := by
        have z := Hw.row a (by rw [← Hw.len]; exact ha)
        unfold rowAt at z
        simpa [ha] using z
      exact ⟨_, _, rfl, lf_row (by omega) hl rfl, _, rfl⟩) ⟨none, [.im (tTa t), .im (tTa w), .im (.int (many : Int)), .im .none, .im (.int (s : Int)), .un, .un, .un, .un, .un], none⟩ ⟨_, rfl⟩
  obtain ⟨g', e, e5, rfl⟩ := st
  have e' : forD (put 5) lfRow (w.map nTu) ⟨none, [.im (tTa t), .im (tTa w), .im (.int (many : Int)), .im .none, .im (.int (s : Int)), .un, .un, .un, .un, .un], none⟩ = .ok (if fltR w many = true then Out.rt (.str "weights") else .nx, ⟨none, [.im (tTa t), .im (tTa w), .im (.int (many : Int)), .im .none, .im (.int (s : Int)), e5, .un, .un, .un, .un], none⟩) := e
  have sm := lf_same (w := w) Ht Hw (e0 := .im (tTa t)) (e2 := .im (.int (many : Int))) (e3 := .im .none) (e5 := e5) (e7 := .un) (e8 := .un) (e9 := .un)
  have nv := neV_nil ((List.range s).filter fun a => decide (ent w a a ≠ 0))
  rw [any_filter] at nv
  have nv' : neV' (.dat (.list (((List.range s).filter fun a => decide (ent w a a ≠ 0)).map fun (k : Nat) => PyData.int (k : Int)))) (.dat (.list [])) = M.pur (.bool (fltS w s)) := nv
  obtain ⟨f6, f7, f8, th⟩ := lf_out (t := t) (w := w) Ht Hw (show 0 < many by omega) (e3 := .im .none) (e5 := e5) (e6 := .un) (e7 := .un) (e8 := .un) (e9 := .un)
  have rg := rg1_at (n := s) (by omega)
  rw [rg_nat] at rg
  have i1 : (2 : Int) ≤ (many : Int) := by omega
  have i2 : (many : Int) ≤ 12 := by omega
  have i3 : isT "int" (.int (many : Int)) = some true := rfl
  have i4 : isT "bool" (.int (many : Int)) = some false := rfl
  clear nv
  generalize ((List.range s).filter fun a => decide (ent w a a ≠ 0)) = L at sm nv'
  unfold lfRow at e'
  unfold lfO1 lfIn at th
  unfold f__law_fault semP m__law_fault faultD
  generalize fltR w many = c1 at e' ⊢
  generalize fltS w s = c2 at nv' ⊢
  generalize fltT t w s many = c3 at th ⊢
  cases c1
  · cases c2
    · cases c3 <;> simp [argsE, Ht.fault, i1, i2, i3, i4, isT_tTa, len_tTa, Hw.len, Ht.len, neV_ints, seqF_tTa, e', sm, lstF_nil, nv', rg, th, runO]
    · simp [argsE, Ht.fault, i1, i2, i3, i4, isT_tTa, len_tTa, Hw.len, Ht.len, neV_ints, seqF_tTa, e', sm, lstF_nil, nv', runO]
  · simp [argsE, Ht.fault, i1, i2, i3, i4, isT_tTa, len_tTa, Hw.len, Ht.len, neV_ints, seqF_tTa, e', runO]
end
end DL
set_option maxRecDepth 100000
set_option maxHeartbeats 1000000
/-! M15: weights_fault in all. -/
namespace DL
open PySem PySem.Spec L2
def wfRow : M Out := (sq (uIf (sOr (sNot (sT ((nam 5).bind (isiW "tuple")))) (sT (s2 (sD ((sCons (nam 5) sNil).bind (arg1 lenW))) (sD ((sCons (nam 0) sNil).bind (arg1 lenW))) neV'))) (uRet (M.pur (.str "weights"))) (M.pur .nx))
  (uIf (sNot (sT ((sCons (sD (sL (lcF [11] ((sV 12 (nam 5)).bind seqF) (put 11) (M.pur true) (lastF (sAndV (sCall 12 (sCons (nam 11) sNil) f_is_integer) (chF leV ltV (sD (M.pur (.int 0))) (nam 11) (nam 2))))))) sNil).bind (arg1 (anyW true))))) (uRet (M.pur (.str "weights"))) (M.pur .nx)))
def wfIn : M Out := (sq (uSet 9 (s2 (sD (s2 (sD (s2 (nam 1) (nam 6) atW)) (nam 7) atW)) (sD (s2 (sD (s2 (nam 1) (sD (s2 (sD (s2 (nam 0) (nam 6) atW)) (nam 7) atW)) atW)) (nam 8) atW)) addV))
  (sq (uSet 10 (s2 (sD (s2 (sD (s2 (nam 1) (nam 6) atW)) (nam 8) atW)) (sD (s2 (sD (s2 (nam 1) (sD (s2 (sD (s2 (nam 0) (nam 6) atW)) (nam 8) atW)) atW)) (sD (s2 (sD (s2 (nam 0) (nam 7) atW)) (nam 8) atW)) atW)) addV))
  (uIf ((sD (s2 (sD (s2 (nam 9) (nam 10) subV)) (nam 2) modV)).bind truV) (uRet (M.pur (.str "three"))) (M.pur .nx))))
@[simp] theorem rgF_at {n : Nat} (h : n ≤ 1000000) : rgF (rngD (n : Int)) = M.pur (rgD 0 (n : Int)) := need_of (by unfold okR; rw [Bool.and_eq_true, decide_eq_true_eq, decide_eq_true_eq]; omega) _
theorem rgW_at (n : Int) : rgW (.dat (.int n)) = M.pur (rngD n) := Eq.trans rfl rfl
theorem truV_int (i : Int) : truV (.dat (.int i)) = M.pur (decide (i ≠ 0)) := by
  funext g
  show R.ok ((i != 0), g) = R.ok (decide (i ≠ 0), g)
  congr 2
  by_cases h : i = 0 <;> simp [h]
section
variable {t w : List (List Nat)} {s many : Nat}
theorem asTru_ints (xs : List Int) : asTru (xs.map PyData.int) = some (xs.map fun i => decide (i ≠ 0)) := by
  induction xs with
  | nil => rfl
  | cons x xs ih => 
    simp [asTru, ih]
    by_cases h : x = 0 <;> simp [h]
theorem all_any (r : List Nat) : ((r.map fun k => decide (k < many)).all id) = !(r.any fun x => decide (many ≤ x)) := by
  induction r with
  | nil => rfl
  | cons x r ih =>
    rw [List.map_cons, List.all_cons, ih, List.any_cons]
    by_cases h : x < many
    · simp [h, show ¬ many ≤ x by omega]
    · simp [h, show many ≤ x by omega]
theorem wf_row {r : List Nat} {e1 e3 e4 e6 e7 e8 e9 e10 : Ent} (Ht : t.length = s) (hs : s ≤ 100) (hr : r.length = s) :
    wfRow ⟨none, [.im (tTa t), e1, .im (.int (many : Int)), e3, e4, .im (nTu r), e6, e7, e8, e9, e10, .un], none⟩ = .ok (if (r.any fun x => decide (many ≤ x)) = true then .rt (.str "weights") else .nx, ⟨none, [.im (tTa t), e1, .im (.int (many : Int)), e3, e4, .im (nTu r), e6, e7, e8, e9, e10, .un], none⟩) := by
  have lc := lcF_map (i := 11) (t := none) (b := none) (es := [.im (tTa t), e1, .im (.int (many : Int)), e3, e4, .im (nTu r), e6, e7, e8, e9, e10, .un]) (fi := (sV 12 (nam 5)).bind seqF) (g := ⟨none, [.im (tTa t), e1, .im (.int (many : Int)), e3, e4, .im (nTu r), e6, e7, e8, e9, e10, .un], none⟩)
    (fe := (sAndV (sCall 12 (sCons (nam 11) sNil) f_is_integer) (chF leV ltV (sD (M.pur (.int 0))) (nam 11) (nam 2)))) (F := fun d => match d with
      | .int i => PyData.bool (decide (i.toNat < many))
      | _ => .none) (ds := r.map fun (k : Nat) => PyData.int (k : Int)) (by simp [seqF_nTu]) (by rfl) (by rw [List.length_map]; omega) (by simp) (fun d hd => by
        obtain ⟨k, hk, rfl⟩ := List.mem_map.mp hd
        simp [isint_int])
  rw [List.map_map] at lc
  replace lc : lcF [11] ((sV 12 (nam 5)).bind seqF) (put 11) (M.pur true) (lastF (sAndV (sCall 12 (sCons (nam 11) sNil) f_is_integer) (chF leV ltV (sD (M.pur (.int 0))) (nam 11) (nam 2)))) ⟨none, [.im (tTa t), e1, .im (.int (many : Int)), e3, e4, .im (nTu r), e6, e7, e8, e9, e10, .un], none⟩ = .ok (r.map fun k => PyData.bool (decide (k < many)), ⟨none, [.im (tTa t), e1, .im (.int (many : Int)), e3, e4, .im (nTu r), e6, e7, e8, e9, e10, .un], none⟩) := lc
  have an := asTru_nat r (fun k => decide (k < many))
  have aa := all_any (many := many) r
  have ln := len_nTu r
  unfold wfRow
  generalize (r.any fun x => decide (many ≤ x)) = c at aa ⊢
  generalize hL : (r.map fun k => PyData.bool (decide (k < many))) = L at lc an
  generalize hB : (r.map fun k => decide (k < many)) = B at aa an
  cases c <;> simp [isT_nTu, ln, len_tTa, Ht, neV_ints, hr, lc, an, aa]
theorem wf_rowT {e1 e3 e4 e6 e7 e8 e9 e10 : Ent} (Ht : t.length = s) (hs : s ≤ 100) (h1 : 1 ≤ s) :
    wfRow ⟨none, [.im (tTa t), e1, .im (.int (many : Int)), e3, e4, .im (.tuple (List.replicate s (.bool true))), e6, e7, e8, e9, e10, .un], none⟩ = .ok (.rt (.str "weights"), ⟨none, [.im (tTa t), e1, .im (.int (many : Int)), e3, e4, .im (.tuple (List.replicate s (.bool true))), e6, e7, e8, e9, e10, .un], none⟩) := by
  have lc := lcF_map (i := 11) (t := none) (b := none) (es := [.im (tTa t), e1, .im (.int (many : Int)), e3, e4, .im (.tuple (List.replicate s (.bool true))), e6, e7, e8, e9, e10, .un]) (fi := (sV 12 (nam 5)).bind seqF) (g := ⟨none, [.im (tTa t), e1, .im (.int (many : Int)), e3, e4, .im (.tuple (List.replicate s (.bool true))), e6, e7, e8, e9, e10, .un], none⟩)
    (fe := (sAndV (sCall 12 (sCons (nam 11) sNil) f_is_integer) (chF leV ltV (sD (M.pur (.int 0))) (nam 11) (nam 2)))) (F := fun d => .bool false) (ds := List.replicate s (.bool true)) (by simp) (by rfl) (by rw [List.length_replicate]; omega) (by simp) (fun d hd => by
        obtain rfl := List.eq_of_mem_replicate hd
        simp [isint_bool])
  rw [List.map_replicate] at lc
  have an : asTru (List.replicate s (.bool false)) = some (List.replicate s false) := by
    clear lc Ht hs h1
    induction s with
    | zero => rfl
    | succ s ih => simp [List.replicate_succ, asTru, ih]
  have aa : (List.replicate s false).all id = false := by
    obtain ⟨m, rfl⟩ : ∃ m, s = m + 1 := ⟨s - 1, by omega⟩
    rw [List.replicate_succ]
    rfl
  have it : isT "tuple" (.tuple (List.replicate s (.bool true))) = some true := rfl
  unfold wfRow
  generalize List.replicate s false = B at an aa
  generalize hL : List.replicate s (PyData.bool false) = L at lc an
  simp [it, len_tTa, Ht, neV_ints, lc, an, aa]
theorem wf_in {a b c : Nat} (Ht : Good t s) (Hw : Sqr w s) (hm : 0 < many) (ha : a < s) (hb : b < s) (hc : c < s) {e3 e4 e5 e9 e10 e11 : Ent} : ∃ f9 f10,
    wfIn ⟨none, [.im (tTa t), .im (tTa w), .im (.int (many : Int)), e3, e4, e5, .im (.int (a : Int)), .im (.int (b : Int)), .im (.int (c : Int)), e9, e10, e11], none⟩ = .ok (if decide (dif3 t w a b c % (many : Int) ≠ 0) = true then .rt (.str "three") else .nx, ⟨none, [.im (tTa t), .im (tTa w), .im (.int (many : Int)), e3, e4, e5, .im (.int (a : Int)), .im (.int (b : Int)), .im (.int (c : Int)), f9, f10, e11], none⟩) := by
  have hab := Ht.lt a ha b hb
  have hac := Ht.lt a ha c hc
  have hbc := Ht.lt b hb c hc
  have S := Ht.sqr
  have T : ∀ x, x < s → atW (.dat (tTa t)) (.dat (.int (x : Int))) = M.pur (nTu (rowAt t x)) := fun x hx => atT (by rw [S.len]; exact hx)
  have W : ∀ x, x < s → atW (.dat (tTa w)) (.dat (.int (x : Int))) = M.pur (nTu (rowAt w x)) := fun x hx => atT (by rw [Hw.len]; exact hx)
  have T2 : ∀ x y, x < s → y < s → atW (.dat (nTu (rowAt t x))) (.dat (.int (y : Int))) = M.pur (.int ((ent t x y : Nat) : Int)) := fun x y hx hy => atE (by rw [S.row x hx]; exact hy)
  have W2 : ∀ x y, x < s → y < s → atW (.dat (nTu (rowAt w x))) (.dat (.int (y : Int))) = M.pur (.int ((ent w x y : Nat) : Int)) := fun x y hx hy => atE (by rw [Hw.row x hx]; exact hy)
  have ee : (ent w a b : Int) + (ent w (ent t a b) c : Int) - ((ent w a c : Int) + (ent w (ent t a c) (ent t b c) : Int)) = dif3 t w a b c := by unfold dif3; omega
  have md := modV_at (i := dif3 t w a b c) (j := (many : Int)) (by omega)
  have tr := truV_int (dif3 t w a b c % (many : Int))
  refine ⟨.im (.int ((ent w a b : Int) + (ent w (ent t a b) c : Int))), .im (.int ((ent w a c : Int) + (ent w (ent t a c) (ent t b c) : Int))), ?_⟩
  unfold wfIn
  generalize dif3 t w a b c = x at ee md tr ⊢
  generalize (decide (x % (many : Int) ≠ 0)) = d at tr ⊢
  cases d <;> simp [T a ha, T b hb, T2 a b ha hb, T2 a c ha hc, T2 b c hb hc, W a ha, W2 a b ha hb, W2 a c ha hc, W _ hab, W2 _ c hab hc, W _ hac, W2 _ _ hac hbc, ee, md, tr]
def wfO1 : M Out := (uFor ((sV 12 (nam 4)).bind rgF) (put 7) (uFor ((sV 12 (nam 4)).bind rgF) (put 8) wfIn))
theorem wf_out (Ht : Good t s) (Hw : Sqr w s) (hm : 0 < many) {e3 e5 e6 e7 e8 e9 e10 e11 : Ent} : ∃ f6 f7 f8 f9 f10, forD (put 6) wfO1 ((List.range s).map fun (k : Nat) => PyData.int (k : Int)) ⟨none, [.im (tTa t), .im (tTa w), .im (.int (many : Int)), e3, .im (rngD (s : Int)), e5, e6, e7, e8, e9, e10, e11], none⟩ =
    .ok (if fltT t w s many = true then .rt (.str "three") else .nx, ⟨none, [.im (tTa t), .im (tTa w), .im (.int (many : Int)), e3, .im (rngD (s : Int)), e5, f6, f7, f8, f9, f10, e11], none⟩) := by
  have s5 := Ht.s5
  have rg := rgF_at (n := s) (by omega)
  rw [rg_nat] at rg
  have st := for_badX (ga := put 6) (fb := wfO1) (X := Nat) (f := fun (k : Nat) => PyData.int (k : Int)) (v := .str "three")
    (bad := fun a => (List.range s).any fun b => (List.range s).any fun c => decide (dif3 t w a b c % (many : Int) ≠ 0)) (xs := List.range s)
    (Inv := fun g => ∃ e6 e7 e8 e9 e10, g = ⟨none, [.im (tTa t), .im (tTa w), .im (.int (many : Int)), e3, .im (rngD (s : Int)), e5, e6, e7, e8, e9, e10, e11], none⟩) (fun a ha g hg => by
      obtain ⟨e6, e7, e8, e9, e10, rfl⟩ := hg
      have ha := List.mem_range.mp ha
      have st2 := for_badX (ga := put 7) (fb := (uFor ((sV 12 (nam 4)).bind rgF) (put 8) wfIn)) (X := Nat) (f := fun (k : Nat) => PyData.int (k : Int)) (v := .str "three")
        (bad := fun b => (List.range s).any fun c => decide (dif3 t w a b c % (many : Int) ≠ 0)) (xs := List.range s)
        (Inv := fun g => ∃ e7 e8 e9 e10, g = ⟨none, [.im (tTa t), .im (tTa w), .im (.int (many : Int)), e3, .im (rngD (s : Int)), e5, .im (.int (a : Int)), e7, e8, e9, e10, e11], none⟩) (fun b hb g hg => by
          obtain ⟨e7, e8, e9, e10, rfl⟩ := hg
          have hb := List.mem_range.mp hb
          have st3 := for_badX (ga := put 8) (fb := wfIn) (X := Nat) (f := fun (k : Nat) => PyData.int (k : Int)) (v := .str "three")
            (bad := fun c => decide (dif3 t w a b c % (many : Int) ≠ 0)) (xs := List.range s)
            (Inv := fun g => ∃ e8 e9 e10, g = ⟨none, [.im (tTa t), .im (tTa w), .im (.int (many : Int)), e3, .im (rngD (s : Int)), e5, .im (.int (a : Int)), .im (.int (b : Int)), e8, e9, e10, e11], none⟩) (fun c hc g hg => by
              obtain ⟨e8, e9, e10, rfl⟩ := hg
              have hc := List.mem_range.mp hc
              obtain ⟨f9, f10, e⟩ := wf_in (t := t) (w := w) (many := many) Ht Hw hm ha hb hc (e3 := e3) (e4 := .im (rngD (s : Int))) (e5 := e5) (e9 := e9) (e10 := e10) (e11 := e11)
              exact ⟨_, _, rfl, e, _, _, _, rfl⟩) _ ⟨e8, e9, e10, rfl⟩
          obtain ⟨g', e, e8', e9', e10', rfl⟩ := st3
          exact ⟨_, _, rfl, by simp [rg, e], .im (.int (b : Int)), e8', e9', e10', rfl⟩) _ ⟨e7, e8, e9, e10, rfl⟩
      obtain ⟨g', e, e7', e8', e9', e10', rfl⟩ := st2
      exact ⟨_, _, rfl, by unfold wfO1; simp [rg, e], .im (.int (a : Int)), e7', e8', e9', e10', rfl⟩) _ ⟨e6, e7, e8, e9, e10, rfl⟩
  obtain ⟨g', e, f6, f7, f8, f9, f10, rfl⟩ := st
  exact ⟨f6, f7, f8, f9, f10, e⟩
theorem wf_same (Ht : Good t s) (Hw : Sqr w s) {e0 e2 e3 e5 e7 e8 e9 e10 e11 : Ent} : lcF [6] ((sV 12 (nam 4)).bind rgF) (put 6) (M.pur true) (lastF (s2 (sD (s2 (nam 1) (nam 6) atW)) (nam 6) atW)) ⟨none, [e0, .im (tTa w), e2, e3, .im (rngD (s : Int)), e5, .un, e7, e8, e9, e10, e11], none⟩ =
    .ok (((List.range s).map fun a => (ent w a a : Int)).map PyData.int, ⟨none, [e0, .im (tTa w), e2, e3, .im (rngD (s : Int)), e5, .un, e7, e8, e9, e10, e11], none⟩) := by
  have s5 := Ht.s5
  have rg := rgF_at (n := s) (by omega)
  rw [rg_nat] at rg
  have lc := lcF_map (i := 6) (t := none) (b := none) (es := [e0, .im (tTa w), e2, e3, .im (rngD (s : Int)), e5, .un, e7, e8, e9, e10, e11]) (fi := (sV 12 (nam 4)).bind rgF) (g := ⟨none, [e0, .im (tTa w), e2, e3, .im (rngD (s : Int)), e5, .un, e7, e8, e9, e10, e11], none⟩)
    (fe := (s2 (sD (s2 (nam 1) (nam 6) atW)) (nam 6) atW)) (F := fun d => match d with
      | .int i => PyData.int (ent w i.toNat i.toNat : Int)
      | _ => .none) (ds := (List.range s).map fun (k : Nat) => PyData.int (k : Int)) (by simp [rg]) (by rfl) (by rw [List.length_map, List.length_range]; omega) (by simp) (fun d hd => by
        obtain ⟨k, hk, rfl⟩ := List.mem_map.mp hd
        have hk := List.mem_range.mp hk
        have a1 := atT (t := w) (k := k) (by rw [Hw.len]; exact hk)
        have a2 := atE (t := w) (a := k) (b := k) (by rw [Hw.row k hk]; exact hk)
        simp [a1, a2])
  rw [List.map_map] at lc
  rw [List.map_map]
  exact lc
theorem wf_good (Ht : Good t s) (Hw : Sqr w s) (h2 : 2 ≤ many) (h12 : many ≤ 12) : f_weights_fault [tTa t, tTa w, .int (many : Int)] = .ok (faultD t w s many) := by
  have s5 := Ht.s5
  have st := for_badX (ga := put 5) (fb := wfRow) (X := List Nat) (f := nTu) (v := .str "weights") (bad := fun r => r.any fun x => decide (many ≤ x)) (xs := w)
    (Inv := fun g => ∃ e5, g = ⟨none, [.im (tTa t), .im (tTa w), .im (.int (many : Int)), .im .none, .im (rngD (s : Int)), e5, .un, .un, .un, .un, .un, .un], none⟩) (fun r hr g hg => by
      obtain ⟨e5, rfl⟩ := hg
      obtain ⟨a, ha, rfl⟩ := List.getElem_of_mem hr
      have hl : (w[a]).length = s := by
        have z := Hw.row a (by rw [← Hw.len]; exact ha)
        unfold rowAt at z
        simpa [ha] using z
      exact ⟨_, _, rfl, wf_row Ht.len (by omega) hl, _, rfl⟩) ⟨none, [.im (tTa t), .im (tTa w), .im (.int (many : Int)), .im .none, .im (rngD (s : Int)), .un, .un, .un, .un, .un, .un, .un], none⟩ ⟨_, rfl⟩
  obtain ⟨g', e, e5, rfl⟩ := st
  have e' : forD (put 5) wfRow (w.map nTu) ⟨none, [.im (tTa t), .im (tTa w), .im (.int (many : Int)), .im .none, .im (rngD (s : Int)), .un, .un, .un, .un, .un, .un, .un], none⟩ = .ok (if fltR w many = true then Out.rt (.str "weights") else .nx, ⟨none, [.im (tTa t), .im (tTa w), .im (.int (many : Int)), .im .none, .im (rngD (s : Int)), e5, .un, .un, .un, .un, .un, .un], none⟩) := e
  have sm := wf_same (w := w) Ht Hw (e0 := .im (tTa t)) (e2 := .im (.int (many : Int))) (e3 := .im .none) (e5 := e5) (e7 := .un) (e8 := .un) (e9 := .un) (e10 := .un) (e11 := .un)
  have an := asTru_ints ((List.range s).map fun a => (ent w a a : Int))
  have aa : (((List.range s).map fun a => (ent w a a : Int)).map fun i => decide (i ≠ 0)).any id = fltS w s := by
    unfold fltS
    rw [List.map_map, List.any_map]
    congr 1
    funext a
    show decide ((ent w a a : Int) ≠ 0) = decide (ent w a a ≠ 0)
    rw [Bool.eq_iff_iff, decide_eq_true_eq, decide_eq_true_eq]
    omega
  obtain ⟨f6, f7, f8, f9, f10, th⟩ := wf_out (t := t) (w := w) Ht Hw (show 0 < many by omega) (e3 := .im .none) (e5 := e5) (e6 := .un) (e7 := .un) (e8 := .un) (e9 := .un) (e10 := .un) (e11 := .un)
  have rg := rgF_at (n := s) (by omega)
  rw [rg_nat] at rg
  have i1 : (2 : Int) ≤ (many : Int) := by omega
  have i2 : (many : Int) ≤ 12 := by omega
  generalize ((List.range s).map fun a => (ent w a a : Int)) = L at sm an aa
  generalize (L.map fun i => decide (i ≠ 0)) = B at an aa
  unfold wfRow at e'
  unfold wfO1 wfIn at th
  unfold f_weights_fault semP m_weights_fault faultD
  generalize fltR w many = c1 at e' ⊢
  generalize fltS w s = c2 at aa ⊢
  generalize fltT t w s many = c3 at th ⊢
  cases c1
  · cases c2
    · cases c3 <;> simp [argsE, Ht.fault, isint_int, i1, i2, isT_tTa, len_tTa, Hw.len, Ht.len, neV_ints, rgW_at, seqF_tTa, e', sm, an, aa, rg, th, runO]
    · simp [argsE, Ht.fault, isint_int, i1, i2, isT_tTa, len_tTa, Hw.len, Ht.len, neV_ints, rgW_at, seqF_tTa, e', sm, an, aa, runO]
  · simp [argsE, Ht.fault, isint_int, i1, i2, isT_tTa, len_tTa, Hw.len, Ht.len, neV_ints, rgW_at, seqF_tTa, e', runO]
end
end DL
set_option maxRecDepth 100000
set_option maxHeartbeats 1000000
/-! M16: faults of what is no table of weights. -/
namespace DL
open PySem PySem.Spec L2
section
variable {t w : List (List Nat)} {s many : Nat}
inductive BadMany : D → Prop
  | one : BadMany (.int 1)
  | big : BadMany (.int 13)
  | tru : BadMany (.bool true)
  | non : BadMany .none
theorem wf_many {o : D} (Ht : Good t s) (x : D) (h : BadMany o) : f_weights_fault [tTa t, x, o] = .ok (.str "weights") := by
  unfold f_weights_fault semP m_weights_fault
  cases h <;> simp [argsE, Ht.fault, isint_int, isint_bool, isint_none, runO]
theorem lf_many {o : D} (Ht : Good t s) (x : D) (h : BadMany o) : f__law_fault [tTa t, x, o] = .ok (.str "weights") := by
  unfold f__law_fault semP m__law_fault
  cases h <;> simp [argsE, Ht.fault, isT, tyN, runO]
inductive BadShape (s : Nat) : D → Prop
  | lst (ds : List D) : BadShape s (.list ds)
  | non : BadShape s .none
  | len (w : List (List Nat)) : w.length ≠ s → BadShape s (tTa w)
theorem wf_shape {x : D} (Ht : Good t s) (h2 : 2 ≤ many) (h12 : many ≤ 12) (h : BadShape s x) : f_weights_fault [tTa t, x, .int (many : Int)] = .ok (.str "weights") := by
  have i1 : (2 : Int) ≤ (many : Int) := by omega
  have i2 : (many : Int) ≤ 12 := by omega
  unfold f_weights_fault semP m_weights_fault
  cases h with
  | lst ds => simp [argsE, Ht.fault, isint_int, i1, i2, isT, tyN, runO]
  | non => simp [argsE, Ht.fault, isint_int, i1, i2, isT, tyN, runO]
  | len w h =>
    have h' : ¬ ((w.length : Int) = (s : Int)) := by omega
    simp [argsE, Ht.fault, isint_int, i1, i2, isT_tTa, len_tTa, Ht.len, neV_ints, h, h', runO]
theorem lf_shape {x : D} (Ht : Good t s) (h2 : 2 ≤ many) (h12 : many ≤ 12) (h : BadShape s x) : f__law_fault [tTa t, x, .int (many : Int)] = .ok (.str "weights") := by
  have i1 : (2 : Int) ≤ (many : Int) := by omega
  have i2 : (many : Int) ≤ 12 := by omega
  have i3 : isT "int" (.int (many : Int)) = some true := rfl
  have i4 : isT "bool" (.int (many : Int)) = some false := rfl
  unfold f__law_fault semP m__law_fault
  cases h with
  | lst ds =>
    have i5 : isT "tuple" (.list ds) = some false := rfl
    simp [argsE, Ht.fault, i1, i2, i3, i4, i5, runO]
  | non =>
    have i5 : isT "tuple" .none = some false := rfl
    simp [argsE, Ht.fault, i1, i2, i3, i4, i5, runO]
  | len w h =>
    have h' : ¬ ((w.length : Int) = (s : Int)) := by omega
    simp [argsE, Ht.fault, i1, i2, i3, i4, isT_tTa, len_tTa, Ht.len, neV_ints, h, h', runO]
/-- its first row is made of truths -/
def truT (s : Nat) (rest : List (List Nat)) : D := .tuple (.tuple (List.replicate s (.bool true)) :: rest.map nTu)
theorem wf_truth {rest : List (List Nat)} (Ht : Good t s) (h2 : 2 ≤ many) (h12 : many ≤ 12) (hl : rest.length + 1 = s) : f_weights_fault [tTa t, truT s rest, .int (many : Int)] = .ok (.str "weights") := by
  have s5 := Ht.s5
  have i1 : (2 : Int) ≤ (many : Int) := by omega
  have i2 : (many : Int) ≤ 12 := by omega
  have e1 := wf_rowT (t := t) (s := s) (many := many) Ht.len (by omega) Ht.s1 (e1 := .im (truT s rest)) (e3 := .im .none) (e4 := .im (rngD (s : Int))) (e6 := .un) (e7 := .un) (e8 := .un) (e9 := .un) (e10 := .un)
  have e2 : forD (put 5) wfRow (.tuple (List.replicate s (.bool true)) :: rest.map nTu) ⟨none, [.im (tTa t), .im (truT s rest), .im (.int (many : Int)), .im .none, .im (rngD (s : Int)), .un, .un, .un, .un, .un, .un, .un], none⟩ = .ok (.rt (.str "weights"), ⟨none, [.im (tTa t), .im (truT s rest), .im (.int (many : Int)), .im .none, .im (rngD (s : Int)), .im (.tuple (List.replicate s (.bool true))), .un, .un, .un, .un, .un, .un], none⟩) := by
    unfold forD
    simp [e1]
  have i5 : isT "tuple" (truT s rest) = some true := rfl
  have i6 : lenW (.dat (truT s rest)) = M.pur (.int (s : Int)) := by
    unfold truT
    rw [lenW_tup, List.length_cons, List.length_map, hl]
  have i7 : seqF (truT s rest) = M.pur (.tuple (List.replicate s (.bool true)) :: rest.map nTu) := rfl
  generalize truT s rest = x at *
  unfold wfRow at e2
  unfold f_weights_fault semP m_weights_fault
  simp [argsE, Ht.fault, isint_int, i1, i2, i5, i6, i7, len_tTa, Ht.len, neV_ints, rgW_at, e2, runO]
theorem lf_truth {rest : List (List Nat)} (Ht : Good t s) (h2 : 2 ≤ many) (h12 : many ≤ 12) (hl : rest.length + 1 = s) : f__law_fault [tTa t, truT s rest, .int (many : Int)] = .ok (.str "weights") := by
  have s5 := Ht.s5
  have i1 : (2 : Int) ≤ (many : Int) := by omega
  have i2 : (many : Int) ≤ 12 := by omega
  have i3 : isT "int" (.int (many : Int)) = some true := rfl
  have i4 : isT "bool" (.int (many : Int)) = some false := rfl
  have e1 := lf_rowT (s := s) (many := many) (by omega) Ht.s1 (e0 := .im (tTa t)) (e1 := .im (truT s rest)) (e3 := .im .none) (e6 := .un) (e7 := .un) (e8 := .un) (e9 := .un) rfl
  have e2 : forD (put 5) lfRow (.tuple (List.replicate s (.bool true)) :: rest.map nTu) ⟨none, [.im (tTa t), .im (truT s rest), .im (.int (many : Int)), .im .none, .im (.int (s : Int)), .un, .un, .un, .un, .un], none⟩ = .ok (.rt (.str "weights"), ⟨none, [.im (tTa t), .im (truT s rest), .im (.int (many : Int)), .im .none, .im (.int (s : Int)), .im (.tuple (List.replicate s (.bool true))), .un, .un, .un, .un], none⟩) := by
    unfold forD
    simp [e1]
  have i5 : isT "tuple" (truT s rest) = some true := rfl
  have i6 : lenW (.dat (truT s rest)) = M.pur (.int (s : Int)) := by
    unfold truT
    rw [lenW_tup, List.length_cons, List.length_map, hl]
  have i7 : seqF (truT s rest) = M.pur (.tuple (List.replicate s (.bool true)) :: rest.map nTu) := rfl
  generalize truT s rest = x at *
  unfold lfRow at e2
  unfold f__law_fault semP m__law_fault
  simp [argsE, Ht.fault, i1, i2, i3, i4, i5, i6, i7, len_tTa, Ht.len, neV_ints, e2, runO]
/-- what a fault may be -/
inductive DueOk : D → Prop
  | non : DueOk .none
  | w : DueOk (.str "weights")
  | s : DueOk (.str "same")
  | t : DueOk (.str "three")
theorem fault_due (t w : List (List Nat)) (s many : Nat) : DueOk (faultD t w s many) := by
  unfold faultD
  split
  · exact .w
  · split
    · exact .s
    · split
      · exact .t
      · exact .non
theorem due_same {d : D} (h : DueOk d) : f__law_same [d, d] = .ok (.bool true) := by
  cases h <;> exact same_ok (by decide +kernel) (by decide +kernel)
@[simp] theorem isN_str (n : Bool) (x : Str) : isN n (.dat (.str x)) = M.pur (.bool n) := by cases n <;> exact Eq.trans rfl rfl
@[simp] theorem raiseX_at (c : Str) (d : D) (g : Sg) : raiseX c d g = .er c d := Eq.trans rfl rfl
theorem one_fault : f_table_fault [.tuple [.tuple [.int 1]]] = .ok (.str "shape") := by kernel_rfl
theorem wf_one (x y : D) : f_weights_fault [.tuple [.tuple [.int 1]], x, y] = .ok (.str "shape") := by
  unfold f_weights_fault semP m_weights_fault
  simp [argsE, one_fault, runO]
/-- where the look finds a fault, nothing is counted -/
theorem wc_fault {x o d : D} (Ht : Good t s) (h : f_weights_fault [tTa t, x, o] = .ok d) (hd : DueOk d) (hn : d ≠ .none) : f_weighed_colourings [.int 2, .tuple [.int 1], tTa t, x, o] = .er "Refused" d := by
  have ck := check_ok (n := 2) (w := [1]) (by omega) (by omega) (by simp) (fun l hl => by
    obtain rfl := List.mem_singleton.mp hl
    decide)
  have ck' : f_check_word [.int 2, .tuple [.int 1]] = .ok .none := ck
  unfold f_weighed_colourings semP m_weighed_colourings
  cases hd
  · exact absurd rfl hn
  all_goals simp [argsE, ck', h, runO]
end
end DL
set_option maxRecDepth 100000
set_option maxHeartbeats 1000000
/-! M17: weights of edges. -/
namespace DL
open PySem PySem.Spec L2
def edgeE (t : List (List Nat)) (nums : List Nat) (many a b : Nat) : Nat := (((nums.getD a 0 : Nat) : Int) - ((nums.getD (ent t a b) 0 : Nat) : Int)).emod (many : Int) |>.toNat
def edgeT (t : List (List Nat)) (nums : List Nat) (s many : Nat) : List (List Nat) := (List.range s).map fun a => (List.range s).map fun b => edgeE t nums many a b
def nL (nums : List Nat) : D := .list (nums.map fun (k : Nat) => PyData.int (k : Int))
section
variable {t : List (List Nat)} {nums : List Nat} {s many : Nat}
theorem edge_ent {a b : Nat} (ha : a < s) (hb : b < s) : ent (edgeT t nums s many) a b = edgeE t nums many a b := by
  unfold ent edgeT
  simp [ha, hb]
theorem edge_row {a : Nat} (ha : a < s) : rowAt (edgeT t nums s many) a = (List.range s).map fun b => edgeE t nums many a b := by
  unfold rowAt edgeT
  simp [ha]
theorem edge_sqr : Sqr (edgeT t nums s many) s := ⟨by simp [edgeT], fun a ha => by rw [edge_row ha]; simp⟩
theorem edge_val (hm : 0 < many) (a b : Nat) : ((edgeE t nums many a b : Nat) : Int) = (((nums.getD a 0 : Nat) : Int) - ((nums.getD (ent t a b) 0 : Nat) : Int)) % (many : Int) := by
  unfold edgeE
  have := Int.emod_nonneg (((nums.getD a 0 : Nat) : Int) - ((nums.getD (ent t a b) 0 : Nat) : Int)) (show (many : Int) ≠ 0 by omega)
  exact Int.toNat_of_nonneg this
theorem edge_lt (hm : 0 < many) (a b : Nat) : edgeE t nums many a b < many := by
  have h := edge_val (t := t) (nums := nums) hm a b
  have := Int.emod_lt_of_pos (((nums.getD a 0 : Nat) : Int) - ((nums.getD (ent t a b) 0 : Nat) : Int)) (show (0 : Int) < (many : Int) by omega)
  omega
theorem edge_edge (hm : 0 < many) : EdgeW t (edgeT t nums s many) s many (fun a => ((nums.getD a 0 : Nat) : Int)) := fun a ha b hb => by
  rw [edge_ent ha hb, edge_val hm]
  generalize ((nums.getD a 0 : Nat) : Int) - ((nums.getD (ent t a b) 0 : Nat) : Int) = x
  rw [Int.emod_sub_emod, Int.sub_self]
  exact Int.zero_emod _
theorem edge_rows (hm : 0 < many) (h12 : many ≤ 12) (s5 : s ≤ 5) : ∀ r ∈ edgeT t nums s many, (∀ k ∈ r, k < 200) ∧ r.length ≤ 12 := fun r hr => by
  unfold edgeT at hr
  obtain ⟨a, _, rfl⟩ := List.mem_map.mp hr
  refine ⟨fun k hk => ?_, by simp; omega⟩
  obtain ⟨b, _, rfl⟩ := List.mem_map.mp hk
  have := edge_lt (t := t) (nums := nums) hm a b
  omega
theorem atL {row : List Nat} {k : Nat} (h : k < row.length) : atW (.dat (nL row)) (.dat (.int (k : Int))) = M.pur (.int ((row.getD k 0 : Nat) : Int)) := by
  unfold nL
  rw [atW_natL (by rw [List.length_map]; exact h)]
  simp [h]
/-- one cell, wherever table, numbers, many, a and b lie -/
theorem edge_cell (Ht : Good t s) (hn : nums.length = s) (hm : 0 < many) {a b : Nat} (ha : a < s) (hb : b < s) {x y z p q : Nat} {bx : Option (List D)} {es : List Ent} {tb : Option Addr} (h1 : es[x]? = some (.im (tTa t))) (h2 : es[y]? = some (.im (nL nums))) (h3 : es[z]? = some (.im (.int (many : Int)))) (h4 : es[p]? = some (.im (.int (a : Int)))) (h5 : es[q]? = some (.im (.int (b : Int)))) :
    (s2 (sD (s2 (sD (s2 (nam y) (nam p) atW)) (sD (s2 (nam y) (sD (s2 (sD (s2 (nam x) (nam p) atW)) (nam q) atW)) atW)) subV)) (nam z) modV) ⟨bx, es, tb⟩ = .ok (.int ((edgeE t nums many a b : Nat) : Int), ⟨bx, es, tb⟩) := by
  have T := atT (t := t) (k := a) (by rw [Ht.len]; exact ha)
  have T2 := atE (t := t) (a := a) (b := b) (by rw [Ht.sqr.row a ha]; exact hb)
  have N1 := atL (row := nums) (k := a) (by omega)
  have N2 := atL (row := nums) (k := ent t a b) (by have := Ht.lt a ha b hb; omega)
  have ev := edge_val (t := t) (nums := nums) hm a b
  have md := modV_at (i := ((nums.getD a 0 : Nat) : Int) - ((nums.getD (ent t a b) 0 : Nat) : Int)) (j := (many : Int)) (by omega)
  rw [ev]
  generalize ((nums.getD a 0 : Nat) : Int) = na at *
  generalize ((nums.getD (ent t a b) 0 : Nat) : Int) = nb at *
  simp [h1, h2, h3, h4, h5, T, T2, N1, N2, md]
theorem edge_ok (Ht : Good t s) (hn : nums.length = s) (hm : 0 < many) : f_edge_weights [tTa t, nL nums, .int (many : Int)] = .ok (tTa (edgeT t nums s many)) := by
  have s5 := Ht.s5
  have rg := rgF_at (n := s) (by omega)
  rw [rg_nat] at rg
  have inn : ∀ a, a < s → lcF [5] ((sV 6 (nam 3)).bind rgF) (put 5) (M.pur true) (lastF (s2 (sD (s2 (sD (s2 (nam 1) (nam 4) atW)) (sD (s2 (nam 1) (sD (s2 (sD (s2 (nam 0) (nam 4) atW)) (nam 5) atW)) atW)) subV)) (nam 2) modV)) ⟨none, [.im (tTa t), .im (nL nums), .im (.int (many : Int)), .im (rngD (s : Int)), .im (.int (a : Int)), .un], none⟩ =
      .ok (((List.range s).map fun b => edgeE t nums many a b).map fun (k : Nat) => PyData.int (k : Int), ⟨none, [.im (tTa t), .im (nL nums), .im (.int (many : Int)), .im (rngD (s : Int)), .im (.int (a : Int)), .un], none⟩) := fun a ha => by
    have lc := lcF_map (i := 5) (t := none) (b := none) (es := [.im (tTa t), .im (nL nums), .im (.int (many : Int)), .im (rngD (s : Int)), .im (.int (a : Int)), .un]) (fi := (sV 6 (nam 3)).bind rgF) (g := ⟨none, [.im (tTa t), .im (nL nums), .im (.int (many : Int)), .im (rngD (s : Int)), .im (.int (a : Int)), .un], none⟩)
      (fe := (s2 (sD (s2 (sD (s2 (nam 1) (nam 4) atW)) (sD (s2 (nam 1) (sD (s2 (sD (s2 (nam 0) (nam 4) atW)) (nam 5) atW)) atW)) subV)) (nam 2) modV)) (F := fun d => match d with
        | .int i => PyData.int (edgeE t nums many a i.toNat : Int)
        | _ => .none) (ds := (List.range s).map fun (k : Nat) => PyData.int (k : Int)) (by simp [rg]) (by rfl) (by rw [List.length_map, List.length_range]; omega) (by simp) (fun d hd => by
          obtain ⟨b, hb, rfl⟩ := List.mem_map.mp hd
          exact edge_cell Ht hn hm ha (List.mem_range.mp hb) rfl rfl rfl rfl rfl)
    rw [List.map_map] at lc
    rw [List.map_map]
    exact lc
  have lc := lcF_map (i := 4) (t := none) (b := none) (es := [.im (tTa t), .im (nL nums), .im (.int (many : Int)), .im (rngD (s : Int)), .un, .un]) (fi := (sV 6 (nam 3)).bind rgF) (g := ⟨none, [.im (tTa t), .im (nL nums), .im (.int (many : Int)), .im (rngD (s : Int)), .un, .un], none⟩)
      (fe := ((sCons (sD (sL (lcF [5] ((sV 6 (nam 3)).bind rgF) (put 5) (M.pur true) (lastF (s2 (sD (s2 (sD (s2 (nam 1) (nam 4) atW)) (sD (s2 (nam 1) (sD (s2 (sD (s2 (nam 0) (nam 4) atW)) (nam 5) atW)) atW)) subV)) (nam 2) modV))))) sNil).bind (arg1 tupW))) (F := fun d => match d with
        | .int i => nTu ((List.range s).map fun b => edgeE t nums many i.toNat b)
        | _ => .none) (ds := (List.range s).map fun (k : Nat) => PyData.int (k : Int)) (by simp [rg]) (by rfl) (by rw [List.length_map, List.length_range]; omega) (by simp) (fun d hd => by
          obtain ⟨a, ha, rfl⟩ := List.mem_map.mp hd
          have z := inn a (List.mem_range.mp ha)
          show _ = R.ok (nTu ((List.range s).map fun b => edgeE t nums many a b), _)
          generalize ((List.range s).map fun b => edgeE t nums many a b) = L at z ⊢
          simp [z, nTu])
  rw [List.map_map] at lc
  replace lc : lcF [4] ((sV 6 (nam 3)).bind rgF) (put 4) (M.pur true) (lastF ((sCons (sD (sL (lcF [5] ((sV 6 (nam 3)).bind rgF) (put 5) (M.pur true) (lastF (s2 (sD (s2 (sD (s2 (nam 1) (nam 4) atW)) (sD (s2 (nam 1) (sD (s2 (sD (s2 (nam 0) (nam 4) atW)) (nam 5) atW)) atW)) subV)) (nam 2) modV))))) sNil).bind (arg1 tupW))) ⟨none, [.im (tTa t), .im (nL nums), .im (.int (many : Int)), .im (rngD (s : Int)), .un, .un], none⟩ = .ok ((edgeT t nums s many).map nTu, ⟨none, [.im (tTa t), .im (nL nums), .im (.int (many : Int)), .im (rngD (s : Int)), .un, .un], none⟩) := by
    unfold edgeT
    rw [List.map_map]
    exact lc
  generalize edgeT t nums s many = W at lc ⊢
  unfold f_edge_weights semP m_edge_weights
  simp [argsE, len_tTa, Ht.len, rgW_at, lc, runO]
  rfl
end
end DL
set_option maxRecDepth 100000
set_option maxHeartbeats 1000000
/-! M18: _law_tried. -/
namespace DL
open PySem PySem.Spec L2
theorem for_foldN {ga : D → M Unit} {fb : M Out} {S X : Type} {I : Nat → S → Sg → Prop} {f : X → D} {step : S → X → S} : ∀ {xs : List X} {k n : Nat}, k + xs.length = n → (∀ x ∈ xs, ∀ k s g, k < n → I k s g → ∃ g1 g2, noEr (ga (f x)) g = .ok ((), g1) ∧ fb g1 = .ok (.nx, g2) ∧ I (k + 1) (step s x) g2) →
    ∀ s g, I k s g → ∃ g', forD ga fb (xs.map f) g = .ok (.nx, g') ∧ I n (xs.foldl step s) g'
  | [], k, n, hn, _, s, g, h => ⟨g, rfl, by rw [← hn]; exact h⟩
  | x :: xs, k, n, hn, st, s, g, h => by
    rw [List.length_cons] at hn
    obtain ⟨g1, g2, e1, e2, h2⟩ := st x (List.mem_cons_self ..) k s g (by omega) h
    obtain ⟨g', e3, h3⟩ := for_foldN (xs := xs) (k := k + 1) (n := n) (by omega) (fun x' hx' => st x' (List.mem_cons_of_mem _ hx')) (step s x) g2 h2
    refine ⟨g', ?_, h3⟩
    rw [List.map_cons]
    unfold forD
    rw [bind_at, e1, rbind_ok, bind_at, e2, rbind_ok]
    exact e3
def trIn : M Out := (uSet 7 (sL (s2N (nam 7) (sD (sL (lcF [13] ((sCons (sD ((sCons (nam 2) sNil).bind (arg1 lenW))) sNil).bind rg1) (put 13) (M.pur true) (lastF (s2 (nam 8) (sD (sTup 18 (sCons (sD ((sCons (nam 13) sNil).bind (arg1 intW))) sNil))) addV))))) catN)))
def trRow : M Out := (sq (uSet 7 (sL (sLst 18 sNil)))
  (sq (uFor ((sV 18 (nam 5)).bind seqF) (put 8) trIn)
  (uSet 5 (sV 18 (nam 7)))))
def nLs (rows : List (List Nat)) : D := .list (rows.map nTu)
section
variable {t u w : List (List Nat)} {s many : Nat}
theorem catN_at {xs ys : List (List Nat)} (h : xs.length + ys.length ≤ 1000000) : catN (.dat (nLs xs)) (.dat (.list (ys.map nTu))) = M.pur ((xs ++ ys).map nTu) := by
  show need (lenOk ((xs.map nTu).length + (ys.map nTu).length)) (M.pur (xs.map nTu ++ ys.map nTu)) = _
  rw [need_of (lenOk_of (by simp; omega)), List.map_append]
theorem tr_in (ht : t.length = s) (hs : s ≤ 7) {acc : List (List Nat)} {row : List Nat} (hr : row.length ≤ 10) (ha : acc.length + s ≤ 1000000) {e0 e1 e3 e4 e5 e6 e9 e10 e11 e12 e14 e15 e16 e17 : Ent} :
    trIn ⟨none, [e0, e1, .im (tTa t), e3, e4, e5, e6, .im (nLs acc), .im (nTu row), e9, e10, e11, e12, .un, e14, e15, e16, e17], none⟩ = .ok (.nx, ⟨none, [e0, e1, .im (tTa t), e3, e4, e5, e6, .im (nLs (acc ++ (List.range s).map fun k => row ++ [k])), .im (nTu row), e9, e10, e11, e12, .un, e14, e15, e16, e17], none⟩) := by
  have rg := rg1_at (n := s) (by omega)
  rw [rg_nat] at rg
  have lc := lcF_map (i := 13) (t := none) (b := none) (es := [e0, e1, .im (tTa t), e3, e4, e5, e6, .im (nLs acc), .im (nTu row), e9, e10, e11, e12, .un, e14, e15, e16, e17]) (fi := ((sCons (sD ((sCons (nam 2) sNil).bind (arg1 lenW))) sNil).bind rg1)) (g := ⟨none, [e0, e1, .im (tTa t), e3, e4, e5, e6, .im (nLs acc), .im (nTu row), e9, e10, e11, e12, .un, e14, e15, e16, e17], none⟩)
    (fe := (s2 (nam 8) (sD (sTup 18 (sCons (sD ((sCons (nam 13) sNil).bind (arg1 intW))) sNil))) addV)) (F := fun d => match d with
      | .int i => nTu (row ++ [i.toNat])
      | _ => .none) (ds := (List.range s).map fun (k : Nat) => PyData.int (k : Int)) (by simp [len_tTa, ht, rg]) (by rfl) (by rw [List.length_map, List.length_range]; omega) (by simp) (fun d hd => by
        obtain ⟨k, hk, rfl⟩ := List.mem_map.mp hd
        have ad : addV (.dat (nTu row)) (.dat (.tuple [.int (k : Int)])) = M.pur (nTu (row ++ [k])) := add_nTu (ys := [k]) (by simp; omega)
        simp [tupF, lenOk_of, need_of, ad])
  rw [List.map_map] at lc
  replace lc : lcF [13] ((sCons (sD ((sCons (nam 2) sNil).bind (arg1 lenW))) sNil).bind rg1) (put 13) (M.pur true) (lastF (s2 (nam 8) (sD (sTup 18 (sCons (sD ((sCons (nam 13) sNil).bind (arg1 intW))) sNil))) addV)) ⟨none, [e0, e1, .im (tTa t), e3, e4, e5, e6, .im (nLs acc), .im (nTu row), e9, e10, e11, e12, .un, e14, e15, e16, e17], none⟩ = .ok (((List.range s).map fun k => row ++ [k]).map nTu, ⟨none, [e0, e1, .im (tTa t), e3, e4, e5, e6, .im (nLs acc), .im (nTu row), e9, e10, e11, e12, .un, e14, e15, e16, e17], none⟩) := by
    rw [List.map_map]
    exact lc
  have ct := catN_at (xs := acc) (ys := (List.range s).map fun k => row ++ [k]) (by rw [List.length_map, List.length_range]; omega)
  generalize ((List.range s).map fun k => row ++ [k]) = Y at lc ct ⊢
  unfold trIn
  simp [lc, ct]
  unfold nLs
  rw [List.map_append]
theorem seqF_nLs (w : List (List Nat)) : seqF (nLs w) = M.pur (w.map nTu) := Eq.trans rfl rfl
theorem tr_row (ht : t.length = s) (hs : s ≤ 7) {k : Nat} (hk : k ≤ 9) (hp : s ^ (k + 1) ≤ 900000) {e0 e1 e3 e4 e6 e7 e8 e9 e10 e11 e12 e14 e15 e16 e17 : Ent} : ∃ f7 f8,
    trRow ⟨none, [e0, e1, .im (tTa t), e3, e4, .im (nLs (rowsOf s k)), e6, e7, e8, e9, e10, e11, e12, .un, e14, e15, e16, e17], none⟩ = .ok (.nx, ⟨none, [e0, e1, .im (tTa t), e3, e4, .im (nLs (rowsOf s (k + 1))), e6, f7, f8, e9, e10, e11, e12, .un, e14, e15, e16, e17], none⟩) := by
  have st := for_foldN (ga := put 8) (fb := trIn) (S := List (List Nat)) (X := List Nat) (f := nTu) (step := fun acc row => acc ++ (List.range s).map fun k => row ++ [k]) (xs := rowsOf s k) (k := 0) (n := s ^ k)
    (I := fun j acc g => acc.length = j * s ∧ ∃ e8, g = ⟨none, [e0, e1, .im (tTa t), e3, e4, .im (nLs (rowsOf s k)), e6, .im (nLs acc), e8, e9, e10, e11, e12, .un, e14, e15, e16, e17], none⟩) (by rw [rowsOf_len, Nat.zero_add]) (fun row hrow j acc g hj hg => by
      obtain ⟨hl, e8, rfl⟩ := hg
      obtain ⟨r1, r2⟩ := rowsOf_mem.mp hrow
      have b1 : j * s + s ≤ s ^ (k + 1) := by
        rw [Nat.pow_succ, ← Nat.succ_mul]
        exact Nat.mul_le_mul_right _ hj
      exact ⟨_, _, rfl, tr_in ht hs (by omega) (by omega), by rw [List.length_append, hl, List.length_map, List.length_range, Nat.succ_mul], _, rfl⟩) [] ⟨none, [e0, e1, .im (tTa t), e3, e4, .im (nLs (rowsOf s k)), e6, .im (nLs []), e8, e9, e10, e11, e12, .un, e14, e15, e16, e17], none⟩ ⟨by simp, e8, rfl⟩
  obtain ⟨g', e, -, f8, rfl⟩ := st
  have fl : ∀ (xs acc : List (List Nat)), xs.foldl (fun acc row => acc ++ (List.range s).map fun k => row ++ [k]) acc = acc ++ xs.flatMap fun row => (List.range s).map fun k => row ++ [k] := fun xs => by
    induction xs with
    | nil => intro acc; simp
    | cons x xs ih => intro acc; rw [List.foldl_cons, ih, List.flatMap_cons, List.append_assoc]
  rw [fl, List.nil_append] at e
  replace e : forD (put 8) trIn ((rowsOf s k).map nTu) ⟨none, [e0, e1, .im (tTa t), e3, e4, .im (nLs (rowsOf s k)), e6, .im (.list []), e8, e9, e10, e11, e12, .un, e14, e15, e16, e17], none⟩ = .ok (Out.nx, (⟨none, [e0, e1, .im (tTa t), e3, e4, .im (nLs (rowsOf s k)), e6, .im (nLs (rowsOf s (k + 1))), f8, e9, e10, e11, e12, .un, e14, e15, e16, e17], none⟩ : Sg)) := e
  refine ⟨.im (nLs (rowsOf s (k + 1))), f8, ?_⟩
  generalize rowsOf s (k + 1) = Y at e ⊢
  unfold trRow
  simp [lstF_nil, seqF_nLs, e]
/-! one letter -/
def trLet : M Out := (sq (uSet 13 ((sCons (nam 12) sNil).bind (arg1 absW)))
  (sq (uAsg (sTup 18 (sCons (sD (s2 (nam 8) (sD (s2 (nam 13) (sD (M.pur (.int 1))) subV)) atW)) (sCons (sD (s2 (nam 8) (nam 13) atW)) sNil))) (tupG 2 (gsCons (put 14) (gsCons (put 15) gsNil))))
  (uIf (sT (s2 (nam 12) (sD (M.pur (.int 0))) gtV)) (sq (uSet 11 (s2 (nam 11) (sD (s2 (sD (s2 (nam 3) (nam 14) atW)) (nam 15) atW)) addV))
  (uAsg (sTup 18 (sCons (nam 15) (sCons (sD (s2 (sD (s2 (nam 2) (nam 14) atW)) (nam 15) atW)) sNil))) (tupG 2 (gsCons (subG (nam 8) (sD (s2 (nam 13) (sD (M.pur (.int 1))) subV))) (gsCons (subG (nam 8) (nam 13)) gsNil))))) (sq (uSet 16 (s2 (sD (sL (lcF [17] ((sCons (sD ((sCons (nam 2) sNil).bind (arg1 lenW))) sNil).bind rg1) (put 17) (sT (s2 (sD (s2 (sD (s2 (nam 2) (nam 17) atW)) (nam 14) atW)) (nam 15) eqV')) (lastF (sV 18 (nam 17)))))) (sD (M.pur (.int 0))) atW))
  (sq (uSet 11 (s2 (nam 11) (sD (s2 (sD (s2 (nam 3) (nam 16) atW)) (nam 14) atW)) subV))
  (uAsg (sTup 18 (sCons (sD ((sCons (nam 16) sNil).bind (arg1 intW))) (sCons (nam 14) sNil))) (tupG 2 (gsCons (subG (nam 8) (sD (s2 (nam 13) (sD (M.pur (.int 1))) subV))) (gsCons (subG (nam 8) (nam 13)) gsNil)))))))))
def olN (row : List Nat) : Ent := .ol (row.map fun (k : Nat) => PyData.int (k : Int))
theorem atOwn {i k : Nat} {row : List Nat} {b : Option (List D)} {es : List Ent} {q : Option Addr} (h : es[i]? = some (olN row)) (hk : k < row.length) : atW (.own i) (.dat (.int (k : Int))) ⟨b, es, q⟩ = .ok (.int ((row.getD k 0 : Nat) : Int), ⟨b, es, q⟩) := by
  show (R.bind (seqOf (.own i) ⟨b, es, q⟩) fun p => (match atI p.1.2 (k : Int) with
    | some d => M.pur d
    | none => M.no) p.2) = _
  rw [seqOf_own, h]
  show (match atI (row.map fun (k : Nat) => PyData.int (k : Int)) (k : Int) with
    | some d => M.pur d
    | none => M.no) ⟨b, es, q⟩ = _
  rw [atI_nat (by rw [List.length_map]; exact hk)]
  simp [hk]
theorem stOwn {i k x : Nat} {row : List Nat} {b : Option (List D)} {es : List Ent} {q : Option Addr} (h : es[i]? = some (olN row)) (hk : k < row.length) : stO (.own i) (.dat (.int (k : Int))) (.int (x : Int)) ⟨b, es, q⟩ = .ok ((), ⟨b, es.set i (olN (row.set k x)), q⟩) := by
  show stO1 i (.int (x : Int)) (k : Int) ⟨b, es, q⟩ = _
  unfold stO1
  simp only [h]
  unfold olN
  simp only [List.length_map, ixN_nat hk, List.map_set]
/-- which colour goes below to this one -/
theorem under_at (Ht : Good t s) (Hu : Back t u s) {x y : Nat} (hx : x < s) (hy : y < s) : (List.range s).filter (fun c => decide (ent t c x = y)) = [ent u y x] := by
  apply List.perm_singleton.mp
  refine (List.perm_ext_iff_of_nodup (List.Pairwise.filter _ List.nodup_range) (by simp)).mpr fun c => ?_
  rw [List.mem_filter, List.mem_range, decide_eq_true_eq, List.mem_singleton]
  constructor
  · rintro ⟨h1, h2⟩
    rw [← h2, Hu.l1 c h1 x hx]
  · rintro rfl
    exact ⟨Hu.lt y hy x hx, Hu.l2 y hy x hx⟩
theorem tr_under (Ht : Good t s) (Hu : Back t u s) {x y : Nat} (hx : x < s) (hy : y < s) {e0 e1 e3 e4 e5 e6 e7 e8 e9 e10 e11 e12 e13 e16 e17 : Ent} (k17 : keepable ⟨none, [.un, .un, .un, .un, .un, .un, .un, .un, .un, .un, .un, .un, .un, .un, .un, .un, .un, e17], none⟩ [17] = true) :
    lcF [17] ((sCons (sD ((sCons (nam 2) sNil).bind (arg1 lenW))) sNil).bind rg1) (put 17) (sT (s2 (sD (s2 (sD (s2 (nam 2) (nam 17) atW)) (nam 14) atW)) (nam 15) eqV')) (lastF (sV 18 (nam 17))) ⟨none, [e0, e1, .im (tTa t), e3, e4, e5, e6, e7, e8, e9, e10, e11, e12, e13, .im (.int (x : Int)), .im (.int (y : Int)), e16, e17], none⟩ =
      .ok ([.int ((ent u y x : Nat) : Int)], ⟨none, [e0, e1, .im (tTa t), e3, e4, e5, e6, e7, e8, e9, e10, e11, e12, e13, .im (.int (x : Int)), .im (.int (y : Int)), e16, e17], none⟩) := by
  have s5 := Ht.s5
  have rg := rg1_at (n := s) (by omega)
  rw [rg_nat] at rg
  have lc := lcF_fil (i := 17) (t := none) (b := none) (es := [e0, e1, .im (tTa t), e3, e4, e5, e6, e7, e8, e9, e10, e11, e12, e13, .im (.int (x : Int)), .im (.int (y : Int)), e16, e17]) (fi := (sCons (sD ((sCons (nam 2) sNil).bind (arg1 lenW))) sNil).bind rg1) (g := ⟨none, [e0, e1, .im (tTa t), e3, e4, e5, e6, e7, e8, e9, e10, e11, e12, e13, .im (.int (x : Int)), .im (.int (y : Int)), e16, e17], none⟩)
    (gt := (sT (s2 (sD (s2 (sD (s2 (nam 2) (nam 17) atW)) (nam 14) atW)) (nam 15) eqV'))) (fe := sV 18 (nam 17)) (F := fun d => d) (p := fun d => match d with
      | .int i => decide (ent t i.toNat x = y)
      | _ => true) (ds := (List.range s).map fun (k : Nat) => PyData.int (k : Int)) (by simp [len_tTa, Ht.len, rg]) k17 (by rw [List.length_map, List.length_range]; omega) (by simp) (fun d hd => by
        obtain ⟨k, hk, rfl⟩ := List.mem_map.mp hd
        have hk := List.mem_range.mp hk
        refine ⟨?_, fun _ => by simp⟩
        have a1 := atT (t := t) (k := k) (by rw [Ht.len]; exact hk)
        have a2 := atE (t := t) (a := k) (b := x) (by rw [Ht.sqr.row k hk]; exact hx)
        have dd : decide (((ent t k x : Nat) : Int) = (y : Int)) = decide (ent t k x = y) := by
          rw [Bool.eq_iff_iff, decide_eq_true_eq, decide_eq_true_eq]
          omega
        simp [a1, a2, eqV_ints, dd])
  rw [fil_nat (List.range s) (fun c => decide (ent t c x = y)) _ (fun k => by simp), under_at Ht Hu hx hy] at lc
  exact lc
theorem tr_letter (Ht : Good t s) (Hu : Back t u s) (Hw : Sqr w s) {row : List Nat} {l tot : Int} (hr : ∀ k ∈ row, k < s) (hl : 1 ≤ l.natAbs) (hl2 : l.natAbs < row.length) (hn : row.length ≤ 100)
    {e0 e1 e4 e5 e6 e7 e9 e10 e13 e14 e15 e16 e17 : Ent} (k17 : keepable ⟨none, [.un, .un, .un, .un, .un, .un, .un, .un, .un, .un, .un, .un, .un, .un, .un, .un, .un, e17], none⟩ [17] = true) : ∃ f13 f14 f15 f16 : Ent,
    trLet ⟨none, [e0, e1, .im (tTa t), .im (tTa w), e4, e5, e6, e7, olN row, e9, e10, .im (.int tot), .im (.int l), e13, e14, e15, e16, e17], none⟩ = .ok (.nx, ⟨none, [e0, e1, .im (tTa t), .im (tTa w), e4, e5, e6, e7, olN (stepR t u row l), e9, e10, .im (.int (tot + stepW u w row l)), .im (.int l), f13, f14, f15, f16, e17], none⟩) := by
  have hp : (l.natAbs : Int) - 1 = ((plc l : Nat) : Int) := by unfold plc; omega
  have hq : (l.natAbs : Int) = ((plc l + 1 : Nat) : Int) := by unfold plc; omega
  have hp1 : plc l + 1 < row.length := by unfold plc; omega
  have hp0 : plc l < row.length := by omega
  have hx : xOf row l < s := hr _ (getD_mem hp0)
  have hy : yOf row l < s := hr _ (getD_mem hp1)
  have bt := atT (t := t) (k := xOf row l) (by rw [Ht.len]; exact hx)
  have bw := atT (t := w) (k := xOf row l) (by rw [Hw.len]; exact hx)
  have ct := atE (t := t) (a := xOf row l) (b := yOf row l) (by rw [Ht.sqr.row _ hx]; exact hy)
  have cw := atE (t := w) (a := xOf row l) (b := yOf row l) (by rw [Hw.row _ hx]; exact hy)
  have hz := Hu.lt _ hy _ hx
  have dw := atT (t := w) (k := ent u (yOf row l) (xOf row l)) (by rw [Hw.len]; exact hz)
  have ew := atE (t := w) (a := ent u (yOf row l) (xOf row l)) (b := xOf row l) (by rw [Hw.row _ hz]; exact hx)
  have a1 : ∀ (es : List Ent), es[8]? = some (olN row) → atW (.own 8) (.dat (.int ((plc l : Nat) : Int))) ⟨none, es, none⟩ = .ok (.int ((xOf row l : Nat) : Int), ⟨none, es, none⟩) := fun es h => atOwn h hp0
  have a2 : ∀ (es : List Ent), es[8]? = some (olN row) → atW (.own 8) (.dat (.int ((plc l + 1 : Nat) : Int))) ⟨none, es, none⟩ = .ok (.int ((yOf row l : Nat) : Int), ⟨none, es, none⟩) := fun es h => atOwn h hp1
  have b1 : ∀ (es : List Ent) (x : Nat), es[8]? = some (olN row) → stO (.own 8) (.dat (.int ((plc l : Nat) : Int))) (.int (x : Int)) ⟨none, es, none⟩ = .ok ((), ⟨none, es.set 8 (olN (row.set (plc l) x)), none⟩) := fun es x h => stOwn h hp0
  have b2 : ∀ (es : List Ent) (x y : Nat), es[8]? = some (olN (row.set (plc l) y)) → stO (.own 8) (.dat (.int ((plc l + 1 : Nat) : Int))) (.int (x : Int)) ⟨none, es, none⟩ = .ok ((), ⟨none, es.set 8 (olN ((row.set (plc l) y).set (plc l + 1) x)), none⟩) := fun es x y h => stOwn h (by rw [List.length_set]; exact hp1)
  have nam8 : ∀ (r : List Nat) (es : List Ent), es[8]? = some (olN r) → nam 8 ⟨none, es, none⟩ = .ok (.own 8, ⟨none, es, none⟩) := fun r es h => by
    rw [nam_at, h]
    rfl
  have sr := stepR_set (t := t) (u := u) (row := row) (l := l) hp1
  by_cases h : 0 < l
  · have r2 : stepW u w row l = ((ent w (xOf row l) (yOf row l) : Nat) : Int) := if_pos h
    have ra : aOf u row l = yOf row l := if_pos h
    have rb : bOf t row l = ent t (xOf row l) (yOf row l) := if_pos h
    rw [sr, r2, ra, rb]
    refine ⟨.im (.int ((plc l + 1 : Nat) : Int)), .im (.int (xOf row l : Int)), .im (.int (yOf row l : Int)), e16, ?_⟩
    have hq1 : ((plc l + 1 : Nat) : Int) - 1 = ((plc l : Nat) : Int) := by omega
    have b2' := fun es x => b2 es x (yOf row l)
    unfold trLet
    generalize ((plc l : Nat) : Int) = P at *
    generalize ((plc l + 1 : Nat) : Int) = Q at *
    simp [hq, hq1, nam8 row, nam8 (row.set (plc l) (yOf row l)), a1, a2, tupF, lenOk_of, need_of, tupG, gsCons, gsNil, subG, h, bt, bw, ct, cw, b1, b2']
  · have r2 : stepW u w row l = -((ent w (ent u (yOf row l) (xOf row l)) (xOf row l) : Nat) : Int) := if_neg h
    have ra : aOf u row l = ent u (yOf row l) (xOf row l) := if_neg h
    have rb : bOf t row l = xOf row l := if_neg h
    rw [sr, r2, ra, rb]
    refine ⟨.im (.int ((plc l + 1 : Nat) : Int)), .im (.int (xOf row l : Int)), .im (.int (yOf row l : Int)), .im (.int ((ent u (yOf row l) (xOf row l) : Nat) : Int)), ?_⟩
    have hq1 : ((plc l + 1 : Nat) : Int) - 1 = ((plc l : Nat) : Int) := by omega
    have b2' := fun es x => b2 es x (ent u (yOf row l) (xOf row l))
    have ud := tr_under (t := t) (u := u) Ht Hu hx hy (e0 := e0) (e1 := e1) (e3 := .im (tTa w)) (e4 := e4) (e5 := e5) (e6 := e6) (e7 := e7) (e8 := olN row) (e9 := e9) (e10 := e10) (e11 := .im (.int tot)) (e12 := .im (.int l)) (e13 := .im (.int ((plc l + 1 : Nat) : Int))) (e16 := e16) (e17 := e17) k17
    have at0 : ∀ i : Int, atW (.dat (.list [.int i])) (.dat (.int 0)) = M.pur (.int i) := fun i => atW_natL (ds := [.int i]) (k := 0) (by simp)
    unfold trLet
    generalize ((plc l : Nat) : Int) = P at *
    generalize ((plc l + 1 : Nat) : Int) = Q at *
    simp [hq, hq1, nam8 row, nam8 (row.set (plc l) (ent u (yOf row l) (xOf row l))), a1, a2, tupF, lenOk_of, need_of, tupG, gsCons, gsNil, subG, h, ud, at0, dw, ew, b1, b2', Int.sub_eq_add_neg]
end
end DL
set_option maxRecDepth 100000
set_option maxHeartbeats 1000000
/-! M19: _law_tried in all. -/
namespace DL
open PySem PySem.Spec L2
@[simp] theorem lisW_tup (r : List Nat) : lisW (.dat (nTu r)) = M.pur (r.map fun (k : Nat) => PyData.int (k : Int)) := Eq.trans rfl rfl
def trMain : M Out := (sq (uSetO 8 ((sCons (nam 10) sNil).bind (arg1N lisW)))
  (sq (uSet 11 (M.pur (.int 0)))
  (sq (uFor ((sV 18 (nam 1)).bind seqF) (put 12) trLet)
  (uIf (sT (s2 (sD ((sCons (nam 8) sNil).bind (arg1 tupW))) (nam 10) eqV')) (uAsg (s2 (sD (s2 (nam 9) (sD (s2 (nam 11) (nam 4) modV)) atW)) (sD (M.pur (.int 1))) addV) (subG (nam 9) (sD (s2 (nam 11) (nam 4) modV)))) (M.pur .nx)))))
section
variable {t u w : List (List Nat)} {s n many : Nat}
theorem tr_main (Ht : Good t s) (Hu : Back t u s) (Hw : Sqr w s) {row : List Nat} {word : List Int} {c : List Nat} (hr : row.length = n ∧ ∀ k ∈ row, k < s) (hw : Letters n word) (hn : n ≤ 100) (hm : 0 < many) (hc : c.length = many)
    {e0 e5 e6 e7 e8 e11 e12 e13 e14 e15 e16 : Ent} : ∃ f8 f11 f12 f13 f14 f15 f16 : Ent,
    trMain ⟨none, [e0, .im (wT word), .im (tTa t), .im (tTa w), .im (.int (many : Int)), e5, e6, e7, e8, olN c, .im (nTu row), e11, e12, e13, e14, e15, e16, .un], none⟩ = .ok (.nx, ⟨none, [e0, .im (wT word), .im (tTa t), .im (tTa w), .im (.int (many : Int)), e5, e6, e7, f8, olN (tally1 t u w word many c row), .im (nTu row), f11, f12, f13, f14, f15, f16, .un], none⟩) := by
  have st := for_fold (S := List Nat × Int) (X := Int) (ga := put 12) (fb := trLet) (f := PyData.int) (xs := word) (step := fun p l => (stepR t u p.1 l, p.2 + stepW u w p.1 l))
    (I := fun p g => (∃ e12 e13 e14 e15 e16 : Ent, g = ⟨none, [e0, .im (wT word), .im (tTa t), .im (tTa w), .im (.int (many : Int)), e5, e6, e7, olN p.1, olN c, .im (nTu row), .im (.int p.2), e12, e13, e14, e15, e16, .un], none⟩) ∧ p.1.length = n ∧ ∀ k ∈ p.1, k < s) (fun l hl p g hg => by
      obtain ⟨⟨e12, e13, e14, e15, e16, rfl⟩, h1, h2⟩ := hg
      obtain ⟨q1, q2⟩ := hw l hl
      obtain ⟨f13, f14, f15, f16, e⟩ := tr_letter (t := t) (u := u) (w := w) Ht Hu Hw (row := p.1) (l := l) (tot := p.2) h2 q1 (by omega) (by omega) (e0 := e0) (e1 := .im (wT word)) (e4 := .im (.int (many : Int))) (e5 := e5) (e6 := e6) (e7 := e7) (e9 := olN c) (e10 := .im (nTu row)) (e13 := e13) (e14 := e14) (e15 := e15) (e16 := e16) (e17 := .un) rfl
      exact ⟨_, _, rfl, e, ⟨_, _, _, _, _, rfl⟩, stepR_ok Ht.lt Hu.lt q1 q2 ⟨h1, h2⟩⟩) (row, 0) _ ⟨⟨e12, e13, e14, e15, e16, rfl⟩, hr.1, hr.2⟩
  obtain ⟨g', e, ⟨f12, f13, f14, f15, f16, rfl⟩, h1, h2⟩ := st
  replace e : forD (put 12) trLet (word.map PyData.int) ⟨none, [e0, .im (wT word), .im (tTa t), .im (tTa w), .im (.int (many : Int)), e5, e6, e7, .ol (row.map fun (k : Nat) => PyData.int (k : Int)), olN c, .im (nTu row), .im (.int 0), e12, e13, e14, e15, e16, .un], none⟩ = R.ok (Out.nx, (⟨none, [e0, .im (wT word), .im (tTa t), .im (tTa w), .im (.int (many : Int)), e5, e6, e7, olN (runW t u w word (row, 0)).1, olN c, .im (nTu row), .im (.int (runW t u w word (row, 0)).2), f12, f13, f14, f15, f16, .un], none⟩ : Sg)) := e
  have hmi : (0 : Int) < (many : Int) := by omega
  unfold tally1
  generalize runW t u w word (row, 0) = p at e ⊢
  obtain ⟨m, hm1, hm2⟩ : ∃ m : Nat, m < many ∧ p.2 % (many : Int) = (m : Int) := ⟨(p.2 % (many : Int)).toNat, by have := Int.emod_nonneg p.2 (show (many : Int) ≠ 0 by omega); have := Int.emod_lt_of_pos p.2 hmi; omega, by have := Int.emod_nonneg p.2 (show (many : Int) ≠ 0 by omega); omega⟩
  have tw : ∀ es : List Ent, es[8]? = some (olN p.1) → tupW (.own 8) ⟨none, es, none⟩ = .ok (nTu p.1, ⟨none, es, none⟩) := fun es h => by
    rw [tupW_own, seqOf_own, h]
    rfl
  have nam8 : ∀ (es : List Ent), es[8]? = some (olN p.1) → nam 8 ⟨none, es, none⟩ = .ok (.own 8, ⟨none, es, none⟩) := fun es h => by
    rw [nam_at, h]
    rfl
  have nam9 : ∀ (es : List Ent), es[9]? = some (olN c) → nam 9 ⟨none, es, none⟩ = .ok (.own 9, ⟨none, es, none⟩) := fun es h => by
    rw [nam_at, h]
    rfl
  have a1 : ∀ (es : List Ent), es[9]? = some (olN c) → atW (.own 9) (.dat (.int (m : Int))) ⟨none, es, none⟩ = .ok (.int ((c.getD m 0 : Nat) : Int), ⟨none, es, none⟩) := fun es h => atOwn h (by omega)
  have b1 : ∀ (es : List Ent), es[9]? = some (olN c) → stO (.own 9) (.dat (.int (m : Int))) (.int (((c.getD m 0 : Nat) : Int) + 1)) ⟨none, es, none⟩ = .ok ((), ⟨none, es.set 9 (olN (bump c m)), none⟩) := fun es h => stOwn (x := c.getD m 0 + 1) h (by omega)
  generalize ((c.getD m 0 : Nat) : Int) = cv at a1 b1
  by_cases h : p.1 = row
  · refine ⟨olN p.1, .im (.int p.2), f12, f13, f14, f15, f16, ?_⟩
    rw [if_pos h, hm2, Int.toNat_natCast]
    unfold trMain
    simp [e, nam8, nam9, tw, eqV_nTu, h, modV_at hmi, hm2, a1, subG, b1]
  · refine ⟨olN p.1, .im (.int p.2), f12, f13, f14, f15, f16, ?_⟩
    rw [if_neg h]
    unfold trMain
    simp [e, nam8, nam9, tw, eqV_nTu, h]
theorem tried_ok {word : List Int} (Ht : Good t s) (Hu : Back t u s) (Hw : Sqr w s) (h6 : n ≤ 6) (hp : s ^ n ≤ 20000) (hw : Letters n word) (hm : 0 < many) (hm2 : many ≤ 100) :
    f__law_tried [.int (n : Int), wT word, tTa t, tTa w, .int (many : Int)] = .ok (nTu (tally t u w word many (rowsOf s n))) := by
  have s1 := Ht.s1
  have s5 := Ht.s5
  have st := for_idx (ga := put 6) (fb := trRow) (I := fun k g => ∃ e6 e7 e8 : Ent, g = ⟨none, [.im (.int (n : Int)), .im (wT word), .im (tTa t), .im (tTa w), .im (.int (many : Int)), .im (nLs (rowsOf s k)), e6, e7, e8, .un, .un, .un, .un, .un, .un, .un, .un, .un], none⟩) (ds := (List.range n).map fun (k : Nat) => PyData.int (k : Int)) (k := 0) (n := n) (by simp) (fun d _ k g hk hg => by
    obtain ⟨e6, e7, e8, rfl⟩ := hg
    obtain ⟨f7, f8, e⟩ := tr_row (t := t) (s := s) Ht.len (by omega) (k := k) (by omega) (by
      have : s ^ (k + 1) ≤ s ^ n := Nat.pow_le_pow_right s1 (by omega)
      omega) (e0 := .im (.int (n : Int))) (e1 := .im (wT word)) (e3 := .im (tTa w)) (e4 := .im (.int (many : Int))) (e6 := .im d) (e7 := e7) (e8 := e8) (e9 := .un) (e10 := .un) (e11 := .un) (e12 := .un) (e14 := .un) (e15 := .un) (e16 := .un) (e17 := .un)
    exact ⟨_, _, rfl, e, .im d, f7, f8, rfl⟩) ⟨none, [.im (.int (n : Int)), .im (wT word), .im (tTa t), .im (tTa w), .im (.int (many : Int)), .im (nLs (rowsOf s 0)), .un, .un, .un, .un, .un, .un, .un, .un, .un, .un, .un, .un], none⟩ ⟨_, _, _, rfl⟩
  obtain ⟨g', e, f6, f7, f8, rfl⟩ := st
  have st2 := for_fold (S := List Nat) (X := List Nat) (ga := put 10) (fb := trMain) (f := nTu) (xs := rowsOf s n) (step := tally1 t u w word many)
    (I := fun c g => (∃ e8 e10 e11 e12 e13 e14 e15 e16 : Ent, g = ⟨none, [.im (.int (n : Int)), .im (wT word), .im (tTa t), .im (tTa w), .im (.int (many : Int)), .im (nLs (rowsOf s n)), f6, f7, e8, olN c, e10, e11, e12, e13, e14, e15, e16, .un], none⟩) ∧ c.length = many) (fun r hr c g hg => by
      obtain ⟨⟨e8, e10, e11, e12, e13, e14, e15, e16, rfl⟩, hc⟩ := hg
      obtain ⟨g8, g11, g12, g13, g14, g15, g16, e⟩ := tr_main (t := t) (u := u) (w := w) Ht Hu Hw (row := r) (word := word) (c := c) (many := many) (n := n) (rowsOf_mem.mp hr) hw (by omega) hm hc (e0 := .im (.int (n : Int))) (e5 := .im (nLs (rowsOf s n))) (e6 := f6) (e7 := f7) (e8 := e8) (e11 := e11) (e12 := e12) (e13 := e13) (e14 := e14) (e15 := e15) (e16 := e16)
      exact ⟨_, _, rfl, e, ⟨_, _, _, _, _, _, _, _, rfl⟩, by rw [tally1_len, hc]⟩) (List.replicate many 0) ⟨none, [.im (.int (n : Int)), .im (wT word), .im (tTa t), .im (tTa w), .im (.int (many : Int)), .im (nLs (rowsOf s n)), f6, f7, f8, olN (List.replicate many 0), .un, .un, .un, .un, .un, .un, .un, .un], none⟩ ⟨⟨_, _, _, _, _, _, _, _, rfl⟩, List.length_replicate⟩
  obtain ⟨g', e2, ⟨f8', f10, f11, f12, f13, f14, f15, f16, rfl⟩, hc⟩ := st2
  have rg := rg1_at (n := n) (by omega)
  rw [rg_nat] at rg
  have z : olN (List.replicate many 0) = .ol (List.replicate many (.int 0)) := by unfold olN; simp
  have z2 : (List.replicate many 0).map (fun (k : Nat) => PyData.int (k : Int)) = List.replicate many (.int 0) := by simp
  have rp := repN_zero (m := many) (by omega)
  rw [z2] at rp
  rw [z] at e2
  have tw : ∀ (c : List Nat) (es : List Ent), es[9]? = some (olN c) → tupW (.own 9) ⟨none, es, none⟩ = .ok (nTu c, ⟨none, es, none⟩) := fun c es h => by
    rw [tupW_own, seqOf_own, h]
    rfl
  have nam9 : ∀ (c : List Nat) (es : List Ent), es[9]? = some (olN c) → nam 9 ⟨none, es, none⟩ = .ok (.own 9, ⟨none, es, none⟩) := fun c es h => by
    rw [nam_at, h]
    rfl
  have tw' := tw (tally t u w word many (rowsOf s n))
  have nam9' := nam9 (tally t u w word many (rowsOf s n))
  have hf : (rowsOf s n).foldl (tally1 t u w word many) (List.replicate many 0) = tally t u w word many (rowsOf s n) := rfl
  rw [hf] at e2
  have z0 : nLs (rowsOf s 0) = .list [.tuple []] := rfl
  rw [z0] at e
  generalize tally t u w word many (rowsOf s n) = T at *
  unfold trRow trIn at e
  unfold trMain trLet at e2
  unfold f__law_tried semP m__law_tried
  simp [argsE, tupF, lstF, lenOk_of, need_of, rg, e, rp, seqF_nLs, e2, nam9', tw', runO]
end
end DL
set_option maxRecDepth 100000
set_option maxHeartbeats 1000000
/-! M20: words read and cut; the moves; _law_row_reason. -/
namespace DL
open PySem PySem.Spec L2
/-! words -/
theorem atI_wT {w : List Int} {k : Nat} (h : k < w.length) : atW (.dat (wT w)) (.dat (.int (k : Int))) = M.pur (.int (w.getD k 0)) := by
  unfold wT
  rw [atW_nat (by rw [List.length_map]; exact h)]
  simp [h]
theorem len_wT (w : List Int) : lenW (.dat (wT w)) = M.pur (.int (w.length : Int)) := by
  unfold wT
  rw [lenW_tup, List.length_map]
theorem cutW_lo {w : List Int} {k : Nat} (h : k ≤ w.length) : cutW (.dat (wT w)) none (some (k : Int)) = M.pur (wT (w.take k)) := by
  show M.pur (PyData.tuple (cutD (w.map PyData.int) none (some (k : Int)))) = _
  unfold cutD
  rw [HT.sIx_none, HT.sIx_nat, List.length_map, Nat.min_eq_left h]
  simp [wT, List.map_take]
theorem cutW_hi {w : List Int} {k : Nat} (h : k ≤ w.length) : cutW (.dat (wT w)) (some (k : Int)) none = M.pur (wT (w.drop k)) := by
  show M.pur (PyData.tuple (cutD (w.map PyData.int) (some (k : Int)) none)) = _
  unfold cutD
  rw [HT.sIx_none, HT.sIx_nat, List.length_map, Nat.min_eq_left h]
  simp [wT, List.map_drop]
  rw [List.take_of_length_le (by simp)]
theorem cutW_mid {w : List Int} {k m : Nat} (h : k ≤ w.length) (h2 : m ≤ w.length) : cutW (.dat (wT w)) (some (k : Int)) (some (m : Int)) = M.pur (wT ((w.drop k).take (m - k))) := by
  show M.pur (PyData.tuple (cutD (w.map PyData.int) (some (k : Int)) (some (m : Int)))) = _
  unfold cutD
  rw [HT.sIx_nat, HT.sIx_nat, List.length_map, Nat.min_eq_left h, Nat.min_eq_left h2]
  simp [wT, List.map_drop, List.map_take]
theorem add_wT {xs ys : List Int} (h : xs.length + ys.length ≤ 1000000) : addV (.dat (wT xs)) (.dat (wT ys)) = M.pur (wT (xs ++ ys)) := by
  show need (lenOk ((xs.map PyData.int).length + (ys.map PyData.int).length)) (M.pur (PyData.tuple ((xs.map PyData.int) ++ ys.map PyData.int))) = _
  rw [need_of (lenOk_of (by simp; omega)), ← List.map_append]
  rfl
/-! the moves -/
def rIn (k : Nat) (l : Int) : D := .tuple [.str "in", .int (k : Int), .int l]
def rK (x : Str) (k : Nat) : D := .tuple [.str x, .int (k : Int)]
inductive Mv (n : Nat) : List Int → D → List Int → Prop
  | ins (x y : List Int) (l : Int) : 1 ≤ l.natAbs → l.natAbs < n → Mv n (x ++ y) (rIn x.length l) (x ++ [l, -l] ++ y)
  | out (x y : List Int) (l : Int) : Mv n (x ++ [l, -l] ++ y) (rK "out" x.length) (x ++ y)
  | far (x y : List Int) (a b : Int) : (1 < a.natAbs - b.natAbs ∨ 1 < b.natAbs - a.natAbs) → Mv n (x ++ [a, b] ++ y) (rK "far" x.length) (x ++ [b, a] ++ y)
  | three (x y : List Int) (a b : Int) : (a.natAbs = b.natAbs + 1 ∨ b.natAbs = a.natAbs + 1) → ((0 < a ∧ 0 < b) ∨ (a < 0 ∧ b < 0)) → Mv n (x ++ [a, b, a] ++ y) (rK "three" x.length) (x ++ [b, a, b] ++ y)
theorem Mv.letters {n : Nat} {w w' : List Int} {r : D} (h : Mv n w r w') (hw : Letters n w) : Letters n w' ∧ w'.length ≤ w.length + 2 := by
  cases h with
  | ins x y l h1 h2 =>
    refine ⟨fun m hm => ?_, by simp; omega⟩
    simp only [List.mem_append, List.mem_cons, List.not_mem_nil, or_false] at hm
    rcases hm with (hm | hm | hm) | hm
    · exact hw m (List.mem_append_left _ hm)
    · rw [hm]; exact ⟨h1, h2⟩
    · rw [hm, Int.natAbs_neg]; exact ⟨h1, h2⟩
    · exact hw m (List.mem_append_right _ hm)
  | out x y l =>
    refine ⟨fun m hm => ?_, by simp; omega⟩
    rcases List.mem_append.mp hm with z | z
    · exact hw m (List.mem_append_left _ (List.mem_append_left _ z))
    · exact hw m (List.mem_append_right _ z)
  | far x y a b d =>
    refine ⟨fun m hm => hw m ?_, by simp⟩
    simp only [List.mem_append, List.mem_cons, List.not_mem_nil, or_false] at hm ⊢
    rcases hm with (hm | hm | hm) | hm
    · exact .inl (.inl hm)
    · exact .inl (.inr (.inr hm))
    · exact .inl (.inr (.inl hm))
    · exact .inr hm
  | three x y a b d e =>
    refine ⟨fun m hm => hw m ?_, by simp⟩
    simp only [List.mem_append, List.mem_cons, List.not_mem_nil, or_false] at hm ⊢
    rcases hm with (hm | hm | hm | hm) | hm
    · exact .inl (.inl hm)
    · exact .inl (.inr (.inr (.inl hm)))
    · exact .inl (.inr (.inl hm))
    · exact .inl (.inr (.inr (.inl hm)))
    · exact .inr hm
theorem Mv.alike {n : Nat} {w w' : List Int} {r : D} {t u wt : List (List Nat)} {s many : Nat} (h : Mv n w r w') (hw : Letters n w) (q : Qd t u s) (c : Coc t wt s many) : Alike t u wt s n many w w' := by
  cases h with
  | ins x y l h1 h2 =>
    have z := ((alike_back (w := wt) (many := many) q h1 h2).symm).ctx q x y fun m hm => hw m (List.mem_append_left _ hm)
    simpa using z
  | out x y l =>
    have hl := hw l (List.mem_append_left _ (List.mem_append_right _ (List.mem_cons_self ..)))
    have z := (alike_back (w := wt) (many := many) q hl.1 hl.2).ctx q x y fun m hm => hw m (List.mem_append_left _ (List.mem_append_left _ hm))
    simpa using z
  | far x y a b d =>
    have ha := hw a (List.mem_append_left _ (List.mem_append_right _ (by simp)))
    have hb := hw b (List.mem_append_left _ (List.mem_append_right _ (by simp)))
    exact (alike_far (t := t) (u := u) (w := wt) (s := s) (many := many) ha.1 ha.2 hb.1 hb.2 d).ctx q x y fun m hm => hw m (List.mem_append_left _ (List.mem_append_left _ hm))
  | three x y a b d e =>
    have ha := hw a (List.mem_append_left _ (List.mem_append_right _ (by simp)))
    have hb := hw b (List.mem_append_left _ (List.mem_append_right _ (by simp)))
    exact (alike_three q c ha hb d e).ctx q x y fun m hm => hw m (List.mem_append_left _ (List.mem_append_left _ hm))
inductive Mvs (n : Nat) : List Int → List Int → Prop
  | refl (w : List Int) : Mvs n w w
  | step {w w1 w2 : List Int} {r : D} : Mvs n w w1 → Mv n w1 r w2 → Mvs n w w2
theorem Mvs.letters {n : Nat} {w w' : List Int} (h : Mvs n w w') (hw : Letters n w) : Letters n w' := by
  induction h with
  | refl => exact hw
  | step _ m ih => exact (m.letters ih).1
theorem Mvs.alike {n : Nat} {w w' : List Int} {t u wt : List (List Nat)} {s many : Nat} (h : Mvs n w w') (hw : Letters n w) (q : Qd t u s) (c : Coc t wt s many) : Alike t u wt s n many w w' := by
  induction h with
  | refl => exact Alike.refl _
  | step p m ih => exact ih.trans (m.alike (p.letters hw) q c)
/-! texts compared -/
theorem eqs (x y : Str) (c : Bool) (h1 : (SeqAt.shaped (PyData.str x) && SeqAt.shaped (PyData.str y)) = true) (h2 : PyData.eqv (.str x) (.str y) = c) : eqV' (.dat (.str x)) (.dat (.str y)) = M.pur (.bool c) := by
  rw [← h2]
  show need (SeqAt.shaped (PyData.str x) && SeqAt.shaped (PyData.str y)) (M.pur (PyData.bool (PyData.eqv (.str x) (.str y)))) = _
  exact need_of h1 _
theorem eq_in_in : eqV' (.dat (.str "in")) (.dat (.str "in")) = M.pur (.bool true) := eqs _ _ _ (by decide +kernel) (by decide +kernel)
theorem eq_out_in : eqV' (.dat (.str "out")) (.dat (.str "in")) = M.pur (.bool false) := eqs _ _ _ (by decide +kernel) (by decide +kernel)
theorem eq_out_out : eqV' (.dat (.str "out")) (.dat (.str "out")) = M.pur (.bool true) := eqs _ _ _ (by decide +kernel) (by decide +kernel)
theorem eq_far_in : eqV' (.dat (.str "far")) (.dat (.str "in")) = M.pur (.bool false) := eqs _ _ _ (by decide +kernel) (by decide +kernel)
theorem eq_far_out : eqV' (.dat (.str "far")) (.dat (.str "out")) = M.pur (.bool false) := eqs _ _ _ (by decide +kernel) (by decide +kernel)
theorem eq_far_far : eqV' (.dat (.str "far")) (.dat (.str "far")) = M.pur (.bool true) := eqs _ _ _ (by decide +kernel) (by decide +kernel)
theorem eq_three_in : eqV' (.dat (.str "three")) (.dat (.str "in")) = M.pur (.bool false) := eqs _ _ _ (by decide +kernel) (by decide +kernel)
theorem eq_three_out : eqV' (.dat (.str "three")) (.dat (.str "out")) = M.pur (.bool false) := eqs _ _ _ (by decide +kernel) (by decide +kernel)
theorem eq_three_far : eqV' (.dat (.str "three")) (.dat (.str "far")) = M.pur (.bool false) := eqs _ _ _ (by decide +kernel) (by decide +kernel)
theorem inW_strs (n : Bool) (x : Str) (ys : List D) (c : Bool) (h1 : (flatD (.str x) && ys.all flatD) = true) (h2 : (ys.any fun z => PyData.eqv z (.str x)) = c) : inW n (.dat (.str x)) (.dat (.tuple ys)) = M.pur (.bool (if n = true then !c else c)) := by
  rw [← h2]
  show need (flatD (.str x) && ys.all flatD) (M.pur (PyData.bool (if n = true then !(ys.any fun z => PyData.eqv z (.str x)) else ys.any fun z => PyData.eqv z (.str x)))) = _
  exact need_of h1 _
theorem in4_out : inW true (.dat (.str "out")) (.dat (.tuple [.str "in", .str "out", .str "far", .str "three"])) = M.pur (.bool false) := inW_strs _ _ _ true (by decide +kernel) (by decide +kernel)
theorem in4_far : inW true (.dat (.str "far")) (.dat (.tuple [.str "in", .str "out", .str "far", .str "three"])) = M.pur (.bool false) := inW_strs _ _ _ true (by decide +kernel) (by decide +kernel)
theorem in4_three : inW true (.dat (.str "three")) (.dat (.tuple [.str "in", .str "out", .str "far", .str "three"])) = M.pur (.bool false) := inW_strs _ _ _ true (by decide +kernel) (by decide +kernel)
theorem in2_in : inW false (.dat (.str "in")) (.dat (.tuple [.str "far", .str "three"])) = M.pur (.bool false) := inW_strs _ _ _ false (by decide +kernel) (by decide +kernel)
theorem in2_out : inW false (.dat (.str "out")) (.dat (.tuple [.str "far", .str "three"])) = M.pur (.bool false) := inW_strs _ _ _ false (by decide +kernel) (by decide +kernel)
theorem in2_far : inW false (.dat (.str "far")) (.dat (.tuple [.str "far", .str "three"])) = M.pur (.bool true) := inW_strs _ _ _ true (by decide +kernel) (by decide +kernel)
theorem in2_three : inW false (.dat (.str "three")) (.dat (.tuple [.str "far", .str "three"])) = M.pur (.bool true) := inW_strs _ _ _ true (by decide +kernel) (by decide +kernel)
theorem dg_out : dgetW [("in", 0), ("out", 2), ("far", 2), ("three", 3)] (.dat (.str "out")) = M.pur (.int 2) := by
  have e : kvGet [("in", 0), ("out", 2), ("far", 2), ("three", 3)] "out" = some 2 := by decide +kernel
  simp only [dgetW, e]
theorem dg_far : dgetW [("in", 0), ("out", 2), ("far", 2), ("three", 3)] (.dat (.str "far")) = M.pur (.int 2) := by
  have e : kvGet [("in", 0), ("out", 2), ("far", 2), ("three", 3)] "far" = some 2 := by decide +kernel
  simp only [dgetW, e]
theorem dg_three : dgetW [("in", 0), ("out", 2), ("far", 2), ("three", 3)] (.dat (.str "three")) = M.pur (.int 3) := by
  have e : kvGet [("in", 0), ("out", 2), ("far", 2), ("three", 3)] "three" = some 3 := by decide +kernel
  simp only [dgetW, e]
theorem at0T (d : D) (ds : List D) : atW (.dat (.tuple (d :: ds))) (.dat (.int 0)) = M.pur d := atW_nat (ds := d :: ds) (k := 0) (by simp)
theorem at1T (d e : D) (ds : List D) : atW (.dat (.tuple (d :: e :: ds))) (.dat (.int 1)) = M.pur e := atW_nat (ds := d :: e :: ds) (k := 1) (by simp)
theorem at2T (d e f : D) (ds : List D) : atW (.dat (.tuple (d :: e :: f :: ds))) (.dat (.int 2)) = M.pur f := atW_nat (ds := d :: e :: f :: ds) (k := 2) (by simp)
theorem cut1T (d e : D) : cutW (.dat (.tuple [d, e])) (some 1) none = M.pur (.tuple [e]) := Eq.trans rfl rfl
theorem rr_look {k : Nat} {x : Str} {e0 e1 e3 e4 e5 e6 : Ent} : lcF [7] ((sSl (nam 2) (sPt (sD (M.pur (.int 1)))) sNo).bind seqF) (put 7) (sOr (sNot (sT ((nam 7).bind (isiW "int")))) (sT ((nam 7).bind (isiW "bool")))) (lastF (sV 8 (nam 7))) ⟨none, [e0, e1, .im (rK x k), e3, e4, e5, e6, .un], none⟩ = .ok ([], ⟨none, [e0, e1, .im (rK x k), e3, e4, e5, e6, .un], none⟩) := by
  have lc := lcF_fil (i := 7) (t := none) (b := none) (es := [e0, e1, .im (rK x k), e3, e4, e5, e6, .un]) (fi := (sSl (nam 2) (sPt (sD (M.pur (.int 1)))) sNo).bind seqF) (g := ⟨none, [e0, e1, .im (rK x k), e3, e4, e5, e6, .un], none⟩)
    (gt := (sOr (sNot (sT ((nam 7).bind (isiW "int")))) (sT ((nam 7).bind (isiW "bool"))))) (fe := sV 8 (nam 7)) (F := fun d => d) (p := fun d => false) (ds := [.int (k : Int)]) (by simp [rK, cut1T]) (by rfl) (by simp) (by simp) (fun d hd => by
      obtain rfl := List.mem_singleton.mp hd
      refine ⟨?_, fun z => by cases z⟩
      simp [isT, tyN])
  exact lc
theorem nil_ne : neV' (.dat (.list [])) (.dat (.list [])) = M.pur (.bool false) := neV_nil []
end DL
set_option maxRecDepth 100000
set_option maxHeartbeats 1000000
/-! M21: _law_row_reason, _law_stepped. -/
namespace DL
open PySem PySem.Spec L2
theorem spl2 {w : List Int} {k : Nat} (h : k + 2 ≤ w.length) : w = w.take k ++ [w.getD k 0, w.getD (k + 1) 0] ++ w.drop (k + 2) := by
  have e1 : w.drop k = w.getD k 0 :: w.drop (k + 1) := by
    rw [List.drop_eq_getElem_cons (by omega)]
    simp [show k < w.length by omega]
  have e2 : w.drop (k + 1) = w.getD (k + 1) 0 :: w.drop (k + 2) := by
    rw [List.drop_eq_getElem_cons (by omega)]
    simp [show k + 1 < w.length by omega]
  have e3 := List.take_append_drop k w
  rw [e1, e2] at e3
  rw [List.append_assoc]
  exact e3.symm
theorem spl3 {w : List Int} {k : Nat} (h : k + 3 ≤ w.length) : w = w.take k ++ [w.getD k 0, w.getD (k + 1) 0, w.getD (k + 2) 0] ++ w.drop (k + 3) := by
  have e1 : w.drop k = w.getD k 0 :: w.drop (k + 1) := by
    rw [List.drop_eq_getElem_cons (by omega)]
    simp [show k < w.length by omega]
  have e2 : w.drop (k + 1) = w.getD (k + 1) 0 :: w.drop (k + 2) := by
    rw [List.drop_eq_getElem_cons (by omega)]
    simp [show k + 1 < w.length by omega]
  have e4 : w.drop (k + 2) = w.getD (k + 2) 0 :: w.drop (k + 3) := by
    rw [List.drop_eq_getElem_cons (by omega)]
    simp [show k + 2 < w.length by omega]
  have e3 := List.take_append_drop k w
  rw [e1, e2, e4] at e3
  rw [List.append_assoc]
  exact e3.symm
theorem len_rK (x : Str) (k : Nat) : lenW (.dat (rK x k)) = M.pur (.int 2) := Eq.trans rfl rfl
theorem isT_rK (x : Str) (k : Nat) : isT "tuple" (rK x k) = some true := rfl
theorem isT_strT (x : Str) : isT "str" (.str x) = some true := rfl
theorem at0_rK (x : Str) (k : Nat) : atW (.dat (rK x k)) (.dat (.int 0)) = M.pur (.str x) := at0T _ _
theorem at1_rK (x : Str) (k : Nat) : atW (.dat (rK x k)) (.dat (.int 1)) = M.pur (.int (k : Int)) := at1T _ _ _
theorem truV_bool (c : Bool) : truV (.dat (.bool c)) = M.pur c := Eq.trans rfl rfl
section
variable {n k : Nat} {w : List Int}
theorem rr_out (hw : Letters n w) (hk : k ≤ w.length) : ∃ d, f__law_row_reason [.int (n : Int), wT w, rK "out" k] = .ok d ∧ ((d = .none ∧ ∃ w', Mv n w (rK "out" k) w') ∨ ∃ x, d = .str x) := by
  have lk := fun {e0 e1 e3 e4 e5 e6} => rr_look (k := k) (x := "out") (e0 := e0) (e1 := e1) (e3 := e3) (e4 := e4) (e5 := e5) (e6 := e6)
  have k0 : ¬ ((k : Int) < 0) := by omega
  by_cases h : k + 2 ≤ w.length
  · have h' : ¬ ((w.length : Int) < (k : Int) + 2) := by omega
    have a1 := atI_wT (w := w) (k := k) (by omega)
    have a2 : atW (.dat (wT w)) (.dat (.int ((k : Int) + 1))) = M.pur (.int (w.getD (k + 1) 0)) := atI_wT (k := k + 1) (by omega)
    have sp := spl2 h
    generalize w.getD k 0 = a at *
    generalize w.getD (k + 1) 0 = b at *
    by_cases c : a + b = 0
    · refine ⟨.none, ?_, .inl ⟨rfl, ?_⟩⟩
      · unfold f__law_row_reason semP m__law_row_reason
        simp [argsE, isT_rK, isT_strT, len_rK, len_wT, at0_rK, at1_rK, neV_ints, eqV_ints, tupF, lenOk_of, need_of, in4_out, eq_out_in, eq_out_out, lk, lstF_nil, nil_ne, dg_out, k0, h', a1, a2, c, runO]
      · have hb : b = -a := by omega
        have z := Mv.out (n := n) (w.take k) (w.drop (k + 2)) a
        rw [← hb, ← sp, List.length_take, Nat.min_eq_left hk] at z
        exact ⟨_, z⟩
    · refine ⟨.str "letter", ?_, .inr ⟨_, rfl⟩⟩
      unfold f__law_row_reason semP m__law_row_reason
      simp [argsE, isT_rK, isT_strT, len_rK, len_wT, at0_rK, at1_rK, neV_ints, eqV_ints, tupF, lenOk_of, need_of, in4_out, eq_out_in, eq_out_out, lk, lstF_nil, nil_ne, dg_out, k0, h', a1, a2, c, runO]
  · have h' : ((w.length : Int) < (k : Int) + 2) := by omega
    refine ⟨.str "place", ?_, .inr ⟨_, rfl⟩⟩
    unfold f__law_row_reason semP m__law_row_reason
    simp [argsE, isT_rK, isT_strT, len_rK, len_wT, at0_rK, at1_rK, neV_ints, eqV_ints, tupF, lenOk_of, need_of, in4_out, eq_out_in, eq_out_out, lk, lstF_nil, nil_ne, dg_out, k0, h', runO]
theorem rr_far (hw : Letters n w) (hk : k ≤ w.length) : ∃ d, f__law_row_reason [.int (n : Int), wT w, rK "far" k] = .ok d ∧ ((d = .none ∧ ∃ w', Mv n w (rK "far" k) w') ∨ ∃ x, d = .str x) := by
  have lk := fun {e0 e1 e3 e4 e5 e6} => rr_look (k := k) (x := "far") (e0 := e0) (e1 := e1) (e3 := e3) (e4 := e4) (e5 := e5) (e6 := e6)
  have k0 : ¬ ((k : Int) < 0) := by omega
  by_cases h : k + 2 ≤ w.length
  · have h' : ¬ ((w.length : Int) < (k : Int) + 2) := by omega
    have a1 := atI_wT (w := w) (k := k) (by omega)
    have a2 : atW (.dat (wT w)) (.dat (.int ((k : Int) + 1))) = M.pur (.int (w.getD (k + 1) 0)) := atI_wT (k := k + 1) (by omega)
    have sp := spl2 h
    generalize w.getD k 0 = a at *
    generalize w.getD (k + 1) 0 = b at *
    by_cases c : (1 : Int) < (((a.natAbs : Int) - (b.natAbs : Int)).natAbs : Int)
    · refine ⟨.none, ?_, .inl ⟨rfl, ?_⟩⟩
      · unfold f__law_row_reason semP m__law_row_reason
        simp only [argsE]
        simp [isT_rK, isT_strT, len_rK, len_wT, at0_rK, at1_rK, neV_ints, eqV_ints, tupF, lenOk_of, need_of, in4_far, eq_far_in, eq_far_out, eq_far_far, lk, lstF_nil, nil_ne, dg_far, k0, h', a1, a2, c, runO]
      · have z := Mv.far (n := n) (w.take k) (w.drop (k + 2)) a b (by omega)
        rw [← sp, List.length_take, Nat.min_eq_left hk] at z
        exact ⟨_, z⟩
    · refine ⟨.str "letter", ?_, .inr ⟨_, rfl⟩⟩
      unfold f__law_row_reason semP m__law_row_reason
      simp only [argsE]
      simp [isT_rK, isT_strT, len_rK, len_wT, at0_rK, at1_rK, neV_ints, eqV_ints, tupF, lenOk_of, need_of, in4_far, eq_far_in, eq_far_out, eq_far_far, lk, lstF_nil, nil_ne, dg_far, k0, h', a1, a2, c, runO]
  · have h' : ((w.length : Int) < (k : Int) + 2) := by omega
    refine ⟨.str "place", ?_, .inr ⟨_, rfl⟩⟩
    unfold f__law_row_reason semP m__law_row_reason
    simp [argsE, isT_rK, isT_strT, len_rK, len_wT, at0_rK, at1_rK, neV_ints, eqV_ints, tupF, lenOk_of, need_of, in4_far, eq_far_in, lk, lstF_nil, nil_ne, dg_far, k0, h', runO]
theorem rr_three (hn : n ≤ 6) (hw : Letters n w) (hk : k ≤ w.length) : ∃ d, f__law_row_reason [.int (n : Int), wT w, rK "three" k] = .ok d ∧ ((d = .none ∧ ∃ w', Mv n w (rK "three" k) w') ∨ ∃ x, d = .str x) := by
  have lk := fun {e0 e1 e3 e4 e5 e6} => rr_look (k := k) (x := "three") (e0 := e0) (e1 := e1) (e3 := e3) (e4 := e4) (e5 := e5) (e6 := e6)
  have k0 : ¬ ((k : Int) < 0) := by omega
  by_cases h : k + 3 ≤ w.length
  · have h' : ¬ ((w.length : Int) < (k : Int) + 3) := by omega
    have a1 := atI_wT (w := w) (k := k) (by omega)
    have a2 : atW (.dat (wT w)) (.dat (.int ((k : Int) + 1))) = M.pur (.int (w.getD (k + 1) 0)) := atI_wT (k := k + 1) (by omega)
    have a3 : atW (.dat (wT w)) (.dat (.int ((k : Int) + 2))) = M.pur (.int (w.getD (k + 2) 0)) := atI_wT (k := k + 2) (by omega)
    have sp := spl3 h
    have la : (w.getD k 0).natAbs < n := (hw _ (by
      have : w.getD k 0 = w[k] := by simp [show k < w.length by omega]
      rw [this]; exact List.getElem_mem _)).2
    generalize w.getD k 0 = a at *
    generalize w.getD (k + 1) 0 = b at *
    generalize w.getD (k + 2) 0 = x at *
    have mu := mulV_l (i := a) (j := b) (small_of (by omega) (by omega))
    by_cases c1 : x = a
    · by_cases c2 : (((a.natAbs : Int) - (b.natAbs : Int)).natAbs : Int) = 1
      · by_cases c3 : 0 < a * b
        · refine ⟨.none, ?_, .inl ⟨rfl, ?_⟩⟩
          · unfold f__law_row_reason semP m__law_row_reason
            simp only [argsE]
            simp [isT_rK, isT_strT, len_rK, len_wT, at0_rK, at1_rK, neV_ints, eqV_ints, tupF, lenOk_of, need_of, in4_three, eq_three_in, eq_three_out, eq_three_far, lk, lstF_nil, nil_ne, dg_three, k0, h', a1, a2, a3, c1, c2, mu, c3, truV_bool, runO]
          · have sg : (0 < a ∧ 0 < b) ∨ (a < 0 ∧ b < 0) := by
              rcases Int.lt_trichotomy a 0 with ha | ha | ha
              · right
                refine ⟨ha, ?_⟩
                rcases Int.lt_trichotomy b 0 with hb | hb | hb
                · exact hb
                · subst hb; simp at c3
                · have := Int.mul_neg_of_neg_of_pos ha hb; omega
              · subst ha; simp at c3
              · left
                refine ⟨ha, ?_⟩
                rcases Int.lt_trichotomy b 0 with hb | hb | hb
                · have := Int.mul_neg_of_pos_of_neg ha hb; omega
                · subst hb; simp at c3
                · exact hb
            have z := Mv.three (n := n) (w.take k) (w.drop (k + 3)) a b (by omega) sg
            rw [c1] at sp
            rw [← sp, List.length_take, Nat.min_eq_left hk] at z
            exact ⟨_, z⟩
        · refine ⟨.str "letter", ?_, .inr ⟨_, rfl⟩⟩
          unfold f__law_row_reason semP m__law_row_reason
          simp only [argsE]
          simp [isT_rK, isT_strT, len_rK, len_wT, at0_rK, at1_rK, neV_ints, eqV_ints, tupF, lenOk_of, need_of, in4_three, eq_three_in, eq_three_out, eq_three_far, lk, lstF_nil, nil_ne, dg_three, k0, h', a1, a2, a3, c1, c2, mu, c3, truV_bool, runO]
      · refine ⟨.str "letter", ?_, .inr ⟨_, rfl⟩⟩
        unfold f__law_row_reason semP m__law_row_reason
        simp only [argsE]
        simp [isT_rK, isT_strT, len_rK, len_wT, at0_rK, at1_rK, neV_ints, eqV_ints, tupF, lenOk_of, need_of, in4_three, eq_three_in, eq_three_out, eq_three_far, lk, lstF_nil, nil_ne, dg_three, k0, h', a1, a2, a3, c1, c2, truV_bool, runO]
    · refine ⟨.str "letter", ?_, .inr ⟨_, rfl⟩⟩
      unfold f__law_row_reason semP m__law_row_reason
      simp only [argsE]
      simp [isT_rK, isT_strT, len_rK, len_wT, at0_rK, at1_rK, neV_ints, eqV_ints, tupF, lenOk_of, need_of, in4_three, eq_three_in, eq_three_out, eq_three_far, lk, lstF_nil, nil_ne, dg_three, k0, h', a1, a2, a3, c1, truV_bool, runO]
  · have h' : ((w.length : Int) < (k : Int) + 3) := by omega
    refine ⟨.str "place", ?_, .inr ⟨_, rfl⟩⟩
    unfold f__law_row_reason semP m__law_row_reason
    simp [argsE, isT_rK, isT_strT, len_rK, len_wT, at0_rK, at1_rK, neV_ints, eqV_ints, tupF, lenOk_of, need_of, in4_three, eq_three_in, lk, lstF_nil, nil_ne, dg_three, k0, h', runO]
end
end DL
set_option maxRecDepth 100000
set_option maxHeartbeats 1000000
/-! M22: _law_stepped, _law_steps. -/
namespace DL
open PySem PySem.Spec L2
theorem at0_rIn (k : Nat) (l : Int) : atW (.dat (rIn k l)) (.dat (.int 0)) = M.pur (.str "in") := at0T _ _
theorem at1_rIn (k : Nat) (l : Int) : atW (.dat (rIn k l)) (.dat (.int 1)) = M.pur (.int (k : Int)) := at1T _ _ _
theorem at2_rIn (k : Nat) (l : Int) : atW (.dat (rIn k l)) (.dat (.int 2)) = M.pur (.int l) := at2T _ _ _ _
theorem stepped_ok {n : Nat} {w w' : List Int} {r : D} (h : Mv n w r w') (hl : w.length ≤ 1000) : f__law_stepped [wT w, r] = .ok (wT w') := by
  have ad : ∀ xs ys : List Int, xs.length + ys.length ≤ 1000000 → addV (.dat (wT xs)) (.dat (wT ys)) = M.pur (wT (xs ++ ys)) := fun xs ys h => add_wT h
  cases h with
  | ins x y l h1 h2 =>
    rw [List.length_append] at hl
    have c1 : cutW (.dat (wT (x ++ y))) none (some (x.length : Int)) = M.pur (wT x) := by rw [cutW_lo (by simp), List.take_left]
    have c2 : cutW (.dat (wT (x ++ y))) (some (x.length : Int)) none = M.pur (wT y) := by rw [cutW_hi (by simp), List.drop_left]
    have t1 : PyData.tuple [.int l, .int (-l)] = wT [l, -l] := rfl
    have d1 := ad x [l, -l] (by simp; omega)
    have d2 := ad (x ++ [l, -l]) y (by simp; omega)
    unfold f__law_stepped semP m__law_stepped
    generalize x ++ y = w at *
    simp only [argsE]
    simp [at0_rIn, at1_rIn, at2_rIn, eq_in_in, c1, c2, tupF, lenOk_of, need_of, t1, d1, d2, runO]
  | out x y l =>
    have e2 : x ++ [l, -l] ++ y = (x ++ [l, -l]) ++ y := rfl
    have hl' := hl
    simp only [List.length_append, List.length_cons, List.length_nil] at hl'
    have c1 : cutW (.dat (wT (x ++ [l, -l] ++ y))) none (some (x.length : Int)) = M.pur (wT x) := by rw [cutW_lo (by simp), List.append_assoc, List.take_left]
    have c2 : cutW (.dat (wT (x ++ [l, -l] ++ y))) (some ((x.length : Int) + 2)) none = M.pur (wT y) := by
      have z := cutW_hi (w := x ++ [l, -l] ++ y) (k := x.length + 2) (by simp)
      rw [show x.length + 2 = (x ++ [l, -l]).length by simp, List.drop_left] at z
      rw [← z]
      congr 2
      simp
    have d1 := ad x y (by omega)
    unfold f__law_stepped semP m__law_stepped
    generalize x ++ [l, -l] ++ y = w at *
    simp only [argsE]
    simp [at0_rK, at1_rK, eq_out_in, eq_out_out, c1, c2, d1, runO]
  | far x y a b d =>
    have hl' := hl
    simp only [List.length_append, List.length_cons, List.length_nil] at hl'
    have dr : (x ++ [a, b] ++ y).drop x.length = a :: b :: y := by rw [List.append_assoc, List.drop_left]; rfl
    have dr1 : (x ++ [a, b] ++ y).drop (x.length + 1) = b :: y := by rw [← List.drop_drop, dr]; rfl
    have dr2 : (x ++ [a, b] ++ y).drop (x.length + 2) = y := by rw [← List.drop_drop, dr]; rfl
    have ln : (x ++ [a, b] ++ y).length = x.length + 2 + y.length := by simp; omega
    have c1 : cutW (.dat (wT (x ++ [a, b] ++ y))) none (some (x.length : Int)) = M.pur (wT x) := by rw [cutW_lo (by omega), List.append_assoc, List.take_left]
    have c2 : cutW (.dat (wT (x ++ [a, b] ++ y))) (some ((x.length : Int) + 1)) (some ((x.length : Int) + 2)) = M.pur (wT [b]) := by
      have z := cutW_mid (w := x ++ [a, b] ++ y) (k := x.length + 1) (m := x.length + 2) (by omega) (by omega)
      rw [dr1, show x.length + 2 - (x.length + 1) = 1 by omega] at z
      exact z
    have c3 : cutW (.dat (wT (x ++ [a, b] ++ y))) (some (x.length : Int)) (some ((x.length : Int) + 1)) = M.pur (wT [a]) := by
      have z := cutW_mid (w := x ++ [a, b] ++ y) (k := x.length) (m := x.length + 1) (by omega) (by omega)
      rw [dr, show x.length + 1 - x.length = 1 by omega] at z
      exact z
    have c4 : cutW (.dat (wT (x ++ [a, b] ++ y))) (some ((x.length : Int) + 2)) none = M.pur (wT y) := by
      have z := cutW_hi (w := x ++ [a, b] ++ y) (k := x.length + 2) (by omega)
      rw [dr2] at z
      exact z
    have d1 := ad x [b] (by simp; omega)
    have d2 := ad (x ++ [b]) [a] (by simp; omega)
    have d3 := ad (x ++ [b] ++ [a]) y (by simp; omega)
    have fin : x ++ [b] ++ [a] ++ y = x ++ [b, a] ++ y := by simp
    rw [← fin]
    unfold f__law_stepped semP m__law_stepped
    generalize x ++ [a, b] ++ y = w at *
    generalize x ++ [b] ++ [a] ++ y = w4 at *
    generalize x ++ [b] ++ [a] = w3 at *
    generalize x ++ [b] = w2 at *
    simp only [argsE]
    simp [at0_rK, at1_rK, eq_far_in, eq_far_out, eq_far_far, c1, c2, c3, c4, d1, d2, d3, runO]
  | three x y a b d e =>
    have hl' := hl
    simp only [List.length_append, List.length_cons, List.length_nil] at hl'
    have dr : (x ++ [a, b, a] ++ y).drop x.length = a :: b :: a :: y := by rw [List.append_assoc, List.drop_left]; rfl
    have dr1 : (x ++ [a, b, a] ++ y).drop (x.length + 1) = b :: a :: y := by rw [← List.drop_drop, dr]; rfl
    have dr3 : (x ++ [a, b, a] ++ y).drop (x.length + 3) = y := by rw [← List.drop_drop, dr]; rfl
    have ln : (x ++ [a, b, a] ++ y).length = x.length + 3 + y.length := by simp; omega
    have c1 : cutW (.dat (wT (x ++ [a, b, a] ++ y))) none (some (x.length : Int)) = M.pur (wT x) := by rw [cutW_lo (by omega), List.append_assoc, List.take_left]
    have c2 : cutW (.dat (wT (x ++ [a, b, a] ++ y))) (some ((x.length : Int) + 1)) (some ((x.length : Int) + 2)) = M.pur (wT [b]) := by
      have z := cutW_mid (w := x ++ [a, b, a] ++ y) (k := x.length + 1) (m := x.length + 2) (by omega) (by omega)
      rw [dr1, show x.length + 2 - (x.length + 1) = 1 by omega] at z
      exact z
    have c3 : cutW (.dat (wT (x ++ [a, b, a] ++ y))) (some (x.length : Int)) (some ((x.length : Int) + 1)) = M.pur (wT [a]) := by
      have z := cutW_mid (w := x ++ [a, b, a] ++ y) (k := x.length) (m := x.length + 1) (by omega) (by omega)
      rw [dr, show x.length + 1 - x.length = 1 by omega] at z
      exact z
    have c4 : cutW (.dat (wT (x ++ [a, b, a] ++ y))) (some ((x.length : Int) + 3)) none = M.pur (wT y) := by
      have z := cutW_hi (w := x ++ [a, b, a] ++ y) (k := x.length + 3) (by omega)
      rw [dr3] at z
      exact z
    have d1 := ad x [b] (by simp; omega)
    have d2 := ad (x ++ [b]) [a] (by simp; omega)
    have d3 := ad (x ++ [b] ++ [a]) [b] (by simp; omega)
    have d4 := ad (x ++ [b] ++ [a] ++ [b]) y (by simp; omega)
    have fin : x ++ [b] ++ [a] ++ [b] ++ y = x ++ [b, a, b] ++ y := by simp
    rw [← fin]
    unfold f__law_stepped semP m__law_stepped
    generalize x ++ [a, b, a] ++ y = w at *
    generalize x ++ [b] ++ [a] ++ [b] ++ y = w5 at *
    generalize x ++ [b] ++ [a] ++ [b] = w4 at *
    generalize x ++ [b] ++ [a] = w3 at *
    generalize x ++ [b] = w2 at *
    simp only [argsE]
    simp [at0_rK, at1_rK, eq_three_in, eq_three_out, eq_three_far, c1, c2, c3, c4, d1, d2, d3, d4, runO]
/-- d is a move that may be done -/
def Gd (n : Nat) (w : List Int) (d : D) : Prop := ∃ w', Mv n w d w'
def stLet : M Out := (uIf (sT (s2 (sD ((sCons (nam 1) sNil).bind (arg1 lenW))) (nam 2) ltV)) (uSetO 3 (s2N (nam 3) (sD (sL (sLst 7 (sCons (sD (sTup 7 (sCons (sD (M.pur (.str "in"))) (sCons (sD ((sCons (nam 4) sNil).bind (arg1 intW))) (sCons (sD ((sCons (nam 5) sNil).bind (arg1 intW))) sNil))))) (sCons (sD (sTup 7 (sCons (sD (M.pur (.str "in"))) (sCons (sD ((sCons (nam 4) sNil).bind (arg1 intW))) (sCons (sD (s2 (sD (M.pur (.int 0))) (sD ((sCons (nam 5) sNil).bind (arg1 intW))) subV)) sNil))))) sNil))))) catN)) (M.pur .nx))
def stKind : M Out := (uIf (sT ((sD (sCall 7 (sCons (nam 0) (sCons (nam 1) (sCons (sD (sTup 7 (sCons (nam 6) (sCons (sD ((sCons (nam 4) sNil).bind (arg1 intW))) sNil)))) sNil))) f__law_row_reason)).bind (isN false))) (uApp 3 (sTup 7 (sCons (nam 6) (sCons (sD ((sCons (nam 4) sNil).bind (arg1 intW))) sNil)))) (M.pur .nx))
def stBody : M Out := (sq (uFor ((sCons (sD (M.pur (.int 1))) (sCons (nam 0) sNil)).bind rg2) (put 5) stLet)
  (uFor ((sL (sLst 7 (sCons (sD (M.pur (.str "out"))) (sCons (sD (M.pur (.str "far"))) (sCons (sD (M.pur (.str "three"))) sNil))))).bind seqF) (put 6) stKind))
section
variable {n long : Nat} {w : List Int}
def StS (n long : Nat) (w : List Int) (L : Nat) (e4 : Ent) (g : Sg) : Prop := ∃ (found : List D) (e5 e6 : Ent), g = ⟨none, [.im (.int (n : Int)), .im (wT w), .im (.int (long : Int)), .ol found, e4, e5, e6], none⟩ ∧ (∀ d ∈ found, Gd n w d) ∧ found.length ≤ L
theorem catN_own {i : Nat} {xs ys : List D} {b : Option (List D)} {es : List Ent} {q : Option Addr} (h : es[i]? = some (.ol xs)) (hl : xs.length + ys.length ≤ 1000000) : catN (.own i) (.dat (.list ys)) ⟨b, es, q⟩ = .ok (xs ++ ys, ⟨b, es, q⟩) := by
  show R.bind ((match es[i]? with
    | some (.ol ds) => R.ok (ds, (⟨b, es, q⟩ : Sg))
    | _ => R.no)) (fun p => (M.bind (M.pur ys) fun ys => need (lenOk (p.1.length + ys.length)) (M.pur (p.1 ++ ys))) p.2) = _
  rw [h]
  show need (lenOk (xs.length + ys.length)) (M.pur (xs ++ ys)) ⟨b, es, q⟩ = _
  rw [need_of (lenOk_of (by omega))]
  rfl
theorem st_let {k l L : Nat} (hk : k ≤ w.length) (h1 : 1 ≤ l) (h2 : l < n) (hL : L ≤ 10000) {found : List D} (hf : ∀ d ∈ found, Gd n w d) (hl : found.length ≤ L) {e6 : Ent} : ∃ g', stLet ⟨none, [.im (.int (n : Int)), .im (wT w), .im (.int (long : Int)), .ol found, .im (.int (k : Int)), .im (.int (l : Int)), e6], none⟩ = .ok (.nx, g') ∧ StS n long w (L + 2) (.im (.int (k : Int))) g' := by
  by_cases h : w.length < long
  · refine ⟨_, ?_, found ++ [rIn k (l : Int), rIn k (-(l : Int))], .im (.int (l : Int)), e6, rfl, fun d hd => ?_, by simp; omega⟩
    · have ct := fun es z => catN_own (i := 3) (xs := found) (ys := [rIn k (l : Int), rIn k (-(l : Int))]) (b := none) (es := es) (q := none) z (by simp; omega)
      have hh : (w.length : Int) < (long : Int) := by omega
      unfold stLet
      unfold rIn at ct ⊢
      simp [len_wT, hh, tupF, lstF, lenOk_of, need_of, ct]
    · rcases List.mem_append.mp hd with z | z
      · exact hf d z
      · have sp := List.take_append_drop k w
        have e1 : ∀ m : Int, 1 ≤ m.natAbs → m.natAbs < n → Gd n w (rIn k m) := fun m m1 m2 => by
          have y := Mv.ins (n := n) (w.take k) (w.drop k) m m1 m2
          rw [sp, List.length_take, Nat.min_eq_left hk] at y
          exact ⟨_, y⟩
        simp only [List.mem_cons, List.not_mem_nil, or_false] at z
        rcases z with rfl | rfl
        · exact e1 _ (by omega) (by omega)
        · exact e1 _ (by omega) (by omega)
  · refine ⟨_, ?_, found, .im (.int (l : Int)), e6, rfl, hf, by omega⟩
    have hh : ¬ (w.length : Int) < (long : Int) := by omega
    unfold stLet
    simp [len_wT, hh]
theorem st_kind {k L : Nat} (hn : n ≤ 6) (hw : Letters n w) (hk : k ≤ w.length) (hL : L ≤ 10000) {found : List D} (hf : ∀ d ∈ found, Gd n w d) (hl : found.length ≤ L) {x : Str} (hx : x = "out" ∨ x = "far" ∨ x = "three") {e5 : Ent} : ∃ g', stKind ⟨none, [.im (.int (n : Int)), .im (wT w), .im (.int (long : Int)), .ol found, .im (.int (k : Int)), e5, .im (.str x)], none⟩ = .ok (.nx, g') ∧ StS n long w (L + 1) (.im (.int (k : Int))) g' := by
  have rr : ∃ d, f__law_row_reason [.int (n : Int), wT w, rK x k] = .ok d ∧ ((d = .none ∧ ∃ w', Mv n w (rK x k) w') ∨ ∃ x, d = .str x) := by
    rcases hx with rfl | rfl | rfl
    · exact rr_out hw hk
    · exact rr_far hw hk
    · exact rr_three hn hw hk
  obtain ⟨d, e, h⟩ := rr
  unfold rK at e
  rcases h with ⟨rfl, hm⟩ | ⟨y, rfl⟩
  · refine ⟨_, ?_, found ++ [rK x k], e5, .im (.str x), rfl, fun d hd => ?_, by simp; omega⟩
    · have lk : lenOk (found.length + 1) = true := lenOk_of (by omega)
      unfold stKind
      simp [tupF, lenOk_of, need_of, e, lk]
      rfl
    · rcases List.mem_append.mp hd with z | z
      · exact hf d z
      · rw [List.mem_singleton.mp z]
        exact hm
  · refine ⟨_, ?_, found, e5, .im (.str x), rfl, hf, by omega⟩
    unfold stKind
    simp [tupF, lenOk_of, need_of, e]
theorem st_body {k L : Nat} (hn : n ≤ 6) (hn1 : 1 ≤ n) (hw : Letters n w) (hk : k ≤ w.length) (hL : L ≤ 9000) {found : List D} (hf : ∀ d ∈ found, Gd n w d) (hl : found.length ≤ L) {e5 e6 : Ent} : ∃ g', stBody ⟨none, [.im (.int (n : Int)), .im (wT w), .im (.int (long : Int)), .ol found, .im (.int (k : Int)), e5, e6], none⟩ = .ok (.nx, g') ∧ StS n long w (L + 20) (.im (.int (k : Int))) g' := by
  have st1 := for_idx (ga := put 5) (fb := stLet) (I := fun j g => StS n long w (L + 2 * j) (.im (.int (k : Int))) g) (ds := rgD 1 (n : Int)) (k := 0) (n := n - 1) (by simp [rgD]) (fun d hd j g hj hg => by
    obtain ⟨found, e5, e6, rfl, hf, hl⟩ := hg
    unfold rgD at hd
    obtain ⟨i, hi, rfl⟩ := List.mem_map.mp hd
    have hi := List.mem_range.mp hi
    obtain ⟨g', e, hg'⟩ := st_let (n := n) (long := long) (w := w) (k := k) (l := 1 + i) (L := L + 2 * j) hk (by omega) (by omega) (by omega) hf hl (e6 := e6)
    rw [show L + 2 * j + 2 = L + 2 * (j + 1) by omega] at hg'
    have c : ((1 + i : Nat) : Int) = 1 + (i : Int) := by omega
    rw [c] at e
    exact ⟨_, _, rfl, e, hg'⟩) ⟨none, [.im (.int (n : Int)), .im (wT w), .im (.int (long : Int)), .ol found, .im (.int (k : Int)), e5, e6], none⟩ ⟨found, _, _, rfl, hf, by omega⟩
  obtain ⟨g1, e1, found1, f5, f6, rfl, hf1, hl1⟩ := st1
  have st2 := for_idx (ga := put 6) (fb := stKind) (I := fun j g => StS n long w (L + 2 * (n - 1) + j) (.im (.int (k : Int))) g) (ds := [.str "out", .str "far", .str "three"]) (k := 0) (n := 3) (by rfl) (fun d hd j g hj hg => by
    obtain ⟨found, e5, e6, rfl, hf, hl⟩ := hg
    have hx : ∃ x : Str, d = .str x ∧ (x = "out" ∨ x = "far" ∨ x = "three") := by
      simp only [List.mem_cons, List.not_mem_nil, or_false] at hd
      rcases hd with rfl | rfl | rfl
      · exact ⟨_, rfl, .inl rfl⟩
      · exact ⟨_, rfl, .inr (.inl rfl)⟩
      · exact ⟨_, rfl, .inr (.inr rfl)⟩
    obtain ⟨x, rfl, hx⟩ := hx
    obtain ⟨g', e, hg'⟩ := st_kind (n := n) (long := long) (w := w) (k := k) (L := L + 2 * (n - 1) + j) hn hw hk (by omega) hf hl hx (e5 := e5)
    exact ⟨_, _, rfl, e, hg'⟩) ⟨none, [.im (.int (n : Int)), .im (wT w), .im (.int (long : Int)), .ol found1, .im (.int (k : Int)), f5, f6], none⟩ ⟨found1, _, _, rfl, hf1, by omega⟩
  obtain ⟨g2, e2, found2, h5, h6, rfl, hf2, hl2⟩ := st2
  refine ⟨_, ?_, found2, h5, h6, rfl, hf2, by omega⟩
  have rg : rg2 [.dat (.int 1), .dat (.int (n : Int))] = M.pur (rgD 1 (n : Int)) := by
    show need (okR 1 && okR (n : Int)) (M.pur (rgD 1 (n : Int))) = _
    rw [need_of (by unfold okR; simp only [Bool.and_eq_true, decide_eq_true_eq]; omega)]
  unfold stBody
  simp [rg, e1, lstF, lenOk_of, need_of, e2]
def stAll : M Out := (sq (uSetO 3 (sLst 7 sNil))
  (sq (uFor ((sCons (sD (s2 (sD ((sCons (nam 1) sNil).bind (arg1 lenW))) (sD (M.pur (.int 1))) addV)) sNil).bind rg1) (put 4) stBody)
  (uRet (sV 7 (nam 3)))))
theorem steps_for (hn : n ≤ 6) (hn1 : 1 ≤ n) (hw : Letters n w) (hl : w.length ≤ 300) : ∃ g', forD (put 4) stBody ((List.range (w.length + 1)).map fun (k : Nat) => PyData.int (k : Int)) ⟨none, [.im (.int (n : Int)), .im (wT w), .im (.int (long : Int)), .ol [], .un, .un, .un], none⟩ = .ok (.nx, g') ∧ ∃ e4, StS n long w (20 * (w.length + 1)) e4 g' := by
  refine for_foldN (ga := put 4) (fb := stBody) (S := Unit) (X := Nat) (f := fun (k : Nat) => PyData.int (k : Int)) (step := fun s _ => s) (I := fun j _ g => ∃ e4, StS n long w (20 * j) e4 g) (xs := List.range (w.length + 1)) (k := 0) (n := w.length + 1) (by simp) (fun k hk j _ g hj hg => ?_) () _ ⟨_, [], _, _, rfl, (fun d hd => by cases hd), Nat.zero_le _⟩
  obtain ⟨e4, found, e5, e6, rfl, hf, hl⟩ := hg
  have hk := List.mem_range.mp hk
  obtain ⟨g', e, hg'⟩ := st_body (n := n) (long := long) (w := w) (k := k) (L := 20 * j) hn hn1 hw (by omega) (by omega) hf hl (e5 := e5) (e6 := e6)
  rw [show 20 * j + 20 = 20 * (j + 1) by omega] at hg'
  exact ⟨_, _, rfl, e, _, hg'⟩
theorem steps_end {R found : List D} {L : Int} {W : D} {e4 f5 f6 : Ent} (hl : lenW (.dat W) = M.pur (.int L)) (rg : rg1 [.dat (.int (L + 1))] = M.pur R) (e : forD (put 4) stBody R ⟨none, [.im (.int (n : Int)), .im W, .im (.int (long : Int)), .ol [], .un, .un, .un], none⟩ = .ok (.nx, ⟨none, [.im (.int (n : Int)), .im W, .im (.int (long : Int)), .ol found, e4, f5, f6], none⟩)) :
    f__law_steps [.int (n : Int), W, .int (long : Int)] = .ok (.list found) := by
  show runO (stAll ⟨none, [.im (.int (n : Int)), .im W, .im (.int (long : Int)), .un, .un, .un, .un], none⟩) = .ok (.list found)
  unfold stAll
  simp [lstF_nil, hl, rg, e, runO]
theorem steps_ok (hn : n ≤ 6) (hn1 : 1 ≤ n) (hw : Letters n w) (hl : w.length ≤ 300) : ∃ found, f__law_steps [.int (n : Int), wT w, .int (long : Int)] = .ok (.list found) ∧ (∀ d ∈ found, Gd n w d) ∧ found.length ≤ 20 * (w.length + 1) := by
  obtain ⟨g', e, e4, found, f5, f6, rfl, hf, hl'⟩ := steps_for (long := long) hn hn1 hw hl
  have rg : rg1 [.dat (.int ((w.length : Int) + 1))] = M.pur ((List.range (w.length + 1)).map fun (k : Nat) => PyData.int (k : Int)) := by
    have z := rg1_at (n := w.length + 1) (by omega)
    rw [rg_nat] at z
    exact z
  exact ⟨found, steps_end (len_wT w) rg e, hf, hl'⟩
end
end DL
set_option maxRecDepth 100000
set_option maxHeartbeats 1000000
/-! M23: _law_other_word. -/
namespace DL
open PySem PySem.Spec L2
def nearB (d : D) : Bool := match d with
  | .tuple (.str x :: _) => (x == "far") || (x == "three")
  | _ => false
theorem near_in (k : Nat) (l : Int) : nearB (rIn k l) = false := by
  show ((("in" : Str) == "far") || (("in" : Str) == "three")) = false
  decide +kernel
theorem near_out (k : Nat) : nearB (rK "out" k) = false := by
  show ((("out" : Str) == "far") || (("out" : Str) == "three")) = false
  decide +kernel
theorem near_far (k : Nat) : nearB (rK "far" k) = true := by
  show ((("far" : Str) == "far") || (("far" : Str) == "three")) = true
  decide +kernel
theorem near_three (k : Nat) : nearB (rK "three" k) = true := by
  show ((("three" : Str) == "far") || (("three" : Str) == "three")) = true
  decide +kernel
theorem lay_move {n : Nat} {w : List Int} {d : D} (h : Gd n w d) : d.canLay0 = true ∧ d.depth ≤ 1 := by
  obtain ⟨w', h⟩ := h
  have o1 : PyData.strOk "in" = true := by decide +kernel
  have o2 : PyData.strOk "out" = true := by decide +kernel
  have o3 : PyData.strOk "far" = true := by decide +kernel
  have o4 : PyData.strOk "three" = true := by decide +kernel
  cases h <;> simp [rIn, rK, PyData.canLay0, PyData.canLayAll0, PyData.depth, PyData.depthAll, o1, o2, o3, o4]
theorem lay_moves {n : Nat} {w : List Int} {ds : List D} (h : ∀ d ∈ ds, Gd n w d) : PyData.canLayAll0 ds = true ∧ PyData.depthAll ds ≤ 1 := by
  induction ds with
  | nil => exact ⟨rfl, by simp [PyData.depthAll]⟩
  | cons d ds ih =>
    obtain ⟨h1, h2⟩ := lay_move (h d (List.mem_cons_self ..))
    obtain ⟨h3, h4⟩ := ih fun e he => h e (List.mem_cons_of_mem _ he)
    simp only [PyData.canLayAll0, PyData.depthAll, h1, h3]
    exact ⟨rfl, by omega⟩
theorem neV_moves {n : Nat} {w : List Int} {ds : List D} (h : ∀ d ∈ ds, Gd n w d) : neV' (.dat (.list ds)) (.dat (.list [])) = M.pur (.bool (!ds.isEmpty)) := by
  obtain ⟨h1, h2⟩ := lay_moves h
  have e : PyData.eqv (.list ds) (.list []) = ds.isEmpty := by
    cases ds <;> simp [PyData.eqv, PyData.eqvAll]
  show need (SeqAt.shaped (PyData.list ds) && SeqAt.shaped (PyData.list [])) (M.pur (PyData.bool (!PyData.eqv (.list ds) (.list [])))) = _
  rw [e, need_of (by
    simp only [SeqAt.shaped, PyData.canLay0, PyData.depth, h1, lay_nil, dep_nil]
    simp
    omega)]
def owTail : M Out := (uIf (sT (s2 (nam 7) (sD (sL (sLst 0 sNil))) neV')) (sq (uSet 9 (sCallB 0 (sCons (nam 7) sNil) f__law_pick))
  (sq (uApp 5 (sV 0 (nam 9)))
  (uSet 2 (sCall 0 (sCons (nam 2) (sCons (nam 9) sNil)) f__law_stepped)))) (M.pur .nx))
def owBody : M Out := (sq (uSet 7 (sCall 0 (sCons (nam 1) (sCons (nam 2) (sCons (nam 4) sNil))) f__law_steps))
  (sq (uSet 8 (sL (lcF [9] ((sV 0 (nam 7)).bind seqF) (put 9) (sT (s2 (sD (s2 (nam 9) (sD (M.pur (.int 0))) atW)) (sD (sTup 0 (sCons (sD (M.pur (.str "far"))) (sCons (sD (M.pur (.str "three"))) sNil)))) (inW false))) (lastF (sV 0 (nam 9))))))
  (sq (uIf (sAnd (sT (s2 (nam 8) (sD (sL (sLst 0 sNil))) neV')) (sT (s2 (sD (sCallB 0 (sCons (sD (M.pur (.int 2))) sNil) f__law_draw)) (sD (M.pur (.int 0))) eqV'))) (uSet 7 (sV 0 (nam 8))) (M.pur .nx))
  owTail)))
section
variable {n : Nat} {w0 : List Int}
theorem ow_near {w : List Int} {found : List D} {bx : Option (List D)} (hf : ∀ d ∈ found, Gd n w d) (hl : found.length ≤ 10000) {e0 e1 e2 e3 e4 e5 e6 e8 e9 : Ent} (k9 : keepable ⟨none, [.un, .un, .un, .un, .un, .un, .un, .un, .un, e9], none⟩ [9] = true) :
    lcF [9] ((sV 0 (nam 7)).bind seqF) (put 9) (sT (s2 (sD (s2 (nam 9) (sD (M.pur (.int 0))) atW)) (sD (sTup 0 (sCons (sD (M.pur (.str "far"))) (sCons (sD (M.pur (.str "three"))) sNil)))) (inW false))) (lastF (sV 0 (nam 9))) ⟨bx, [e0, e1, e2, e3, e4, e5, e6, .im (.list found), e8, e9], none⟩ = .ok (found.filter nearB, ⟨bx, [e0, e1, e2, e3, e4, e5, e6, .im (.list found), e8, e9], none⟩) := by
  have lc := lcF_fil (i := 9) (t := none) (b := bx) (es := [e0, e1, e2, e3, e4, e5, e6, .im (.list found), e8, e9]) (fi := (sV 0 (nam 7)).bind seqF) (g := ⟨bx, [e0, e1, e2, e3, e4, e5, e6, .im (.list found), e8, e9], none⟩)
    (gt := (sT (s2 (sD (s2 (nam 9) (sD (M.pur (.int 0))) atW)) (sD (sTup 0 (sCons (sD (M.pur (.str "far"))) (sCons (sD (M.pur (.str "three"))) sNil)))) (inW false)))) (fe := sV 0 (nam 9)) (F := fun d => d) (p := nearB) (ds := found) (by simp) k9 (by omega) (by simp) (fun d hd => by
      refine ⟨?_, fun _ => by simp⟩
      obtain ⟨w', h⟩ := hf d hd
      cases h
      · simp [at0_rIn, tupF, lenOk_of, need_of, in2_in, near_in]
      · simp [at0_rK, tupF, lenOk_of, need_of, in2_out, near_out]
      · simp [at0_rK, tupF, lenOk_of, need_of, in2_far, near_far]
      · simp [at0_rK, tupF, lenOk_of, need_of, in2_three, near_three])
  rw [List.map_id'' fun _ => rfl] at lc
  exact lc
def OwS (n N : Nat) (w0 : List Int) (j : Nat) (g : Sg) : Prop := ∃ (b : List D) (w : List Int) (rows : List D) (e6 e7 e8 e9 : Ent), g = ⟨some b, [.un, .im (.int (n : Int)), .im (wT w), .im (.int 4), .im (.int 9), .ol rows, e6, e7, e8, e9], none⟩ ∧ Bx (N + 2 * j) b ∧ Letters n w ∧ w.length ≤ 5 + 2 * j ∧ rows.length ≤ j ∧ Mvs n w0 w ∧ keepable ⟨none, [.un, .un, .un, .un, .un, .un, .un, .un, .un, e9], none⟩ [9] = true
theorem ow_take {N j : Nat} {w : List Int} {L : List D} {b : List D} {rows : List D} (hf : ∀ d ∈ L, Gd n w d) (hN : N ≤ 900000) (hj : j < 100) (hb : Bx (N + 2 * j + 1) b) (hw : Letters n w) (hl : w.length ≤ 5 + 2 * j) (hr : rows.length ≤ j) (hm : Mvs n w0 w) {e6 e8 e9 : Ent} (k9 : keepable ⟨none, [.un, .un, .un, .un, .un, .un, .un, .un, .un, e9], none⟩ [9] = true) : ∃ g', owTail ⟨some b, [.un, .im (.int (n : Int)), .im (wT w), .im (.int 4), .im (.int 9), .ol rows, e6, .im (.list L), e8, e9], none⟩ = .ok (.nx, g') ∧ OwS n N w0 (j + 1) g' := by
  have nv := neV_moves hf
  cases L with
  | nil =>
    refine ⟨_, ?_, b, w, rows, e6, .im (.list []), e8, e9, rfl, hb.le (by omega), hw, by omega, by omega, hm, k9⟩
    unfold owTail
    simp [lstF_nil, nil_ne]
  | cons d L =>
    obtain ⟨r, b', hd, e, hb'⟩ := pick_ok (ds := d :: L) hb (by omega) (by simp)
    obtain ⟨w', h⟩ := hf r hd
    obtain ⟨l1, l2⟩ := h.letters hw
    have sp := stepped_ok h (by omega)
    have lk : lenOk (rows.length + 1) = true := lenOk_of (by omega)
    refine ⟨_, ?_, b', w', rows ++ [r], e6, .im (.list (d :: L)), e8, .im r, rfl, hb'.le (by omega), l1, by omega, by simp; omega, .step hm h, rfl⟩
    rw [List.isEmpty_cons] at nv
    unfold owTail
    simp [lstF_nil, nv, e, lk, sp]
theorem ow_end0 {W lg : D} {found rows : List D} {b : List D} {e6 e7 e8 e9 : Ent} {g' : Sg} (es : f__law_steps [.int (n : Int), W, lg] = .ok (.list found))
    (nr : ∀ e8, lcF [9] ((sV 0 (nam 7)).bind seqF) (put 9) (sT (s2 (sD (s2 (nam 9) (sD (M.pur (.int 0))) atW)) (sD (sTup 0 (sCons (sD (M.pur (.str "far"))) (sCons (sD (M.pur (.str "three"))) sNil)))) (inW false))) (lastF (sV 0 (nam 9))) ⟨some b, [.un, .im (.int (n : Int)), .im W, .im (.int 4), .im lg, .ol rows, e6, .im (.list found), e8, e9], none⟩ = .ok ([], ⟨some b, [.un, .im (.int (n : Int)), .im W, .im (.int 4), .im lg, .ol rows, e6, .im (.list found), e8, e9], none⟩))
    (e : owTail ⟨some b, [.un, .im (.int (n : Int)), .im W, .im (.int 4), .im lg, .ol rows, e6, .im (.list found), .im (.list []), e9], none⟩ = .ok (.nx, g')) :
    owBody ⟨some b, [.un, .im (.int (n : Int)), .im W, .im (.int 4), .im lg, .ol rows, e6, e7, e8, e9], none⟩ = .ok (.nx, g') := by
  unfold owBody
  simp [es, nr, lstF_nil, nil_ne, e]
theorem ow_end1 {W lg : D} {found rows near : List D} {b b' : List D} {e6 e7 e8 e9 : Ent} {g' : Sg} {r : Int} (es : f__law_steps [.int (n : Int), W, lg] = .ok (.list found))
    (nr : ∀ e8, lcF [9] ((sV 0 (nam 7)).bind seqF) (put 9) (sT (s2 (sD (s2 (nam 9) (sD (M.pur (.int 0))) atW)) (sD (sTup 0 (sCons (sD (M.pur (.str "far"))) (sCons (sD (M.pur (.str "three"))) sNil)))) (inW false))) (lastF (sV 0 (nam 9))) ⟨some b, [.un, .im (.int (n : Int)), .im W, .im (.int 4), .im lg, .ol rows, e6, .im (.list found), e8, e9], none⟩ = .ok (near, ⟨some b, [.un, .im (.int (n : Int)), .im W, .im (.int 4), .im lg, .ol rows, e6, .im (.list found), e8, e9], none⟩))
    (nv : neV' (.dat (.list near)) (.dat (.list [])) = M.pur (.bool true)) (ed : f__law_draw b [.int 2] = .ok (.int r, b'))
    (e : owTail ⟨some b', [.un, .im (.int (n : Int)), .im W, .im (.int 4), .im lg, .ol rows, e6, .im (.list (if r = 0 then near else found)), .im (.list near), e9], none⟩ = .ok (.nx, g')) :
    owBody ⟨some b, [.un, .im (.int (n : Int)), .im W, .im (.int 4), .im lg, .ol rows, e6, e7, e8, e9], none⟩ = .ok (.nx, g') := by
  unfold owBody
  by_cases hz : r = 0
  · subst hz
    rw [if_pos rfl] at e
    simp [es, nr, lstF_nil, nv, ed, eqV_ints, e]
  · rw [if_neg hz] at e
    simp [es, nr, lstF_nil, nv, ed, eqV_ints, hz, e]
theorem ow_body {N j : Nat} (hn : n ≤ 6) (hn1 : 1 ≤ n) (hN : N ≤ 900000) (hj : j < 100) {g : Sg} (hg : OwS n N w0 j g) : ∃ g', owBody g = .ok (.nx, g') ∧ OwS n N w0 (j + 1) g' := by
  obtain ⟨b, w, rows, e6, e7, e8, e9, rfl, hb, hw, hl, hr, hm, k9⟩ := hg
  obtain ⟨found, es, hf, hfl⟩ := steps_ok (n := n) (long := 9) (w := w) hn hn1 hw (by omega)
  have nr := fun e8 => ow_near (bx := some b) hf (by omega) (e0 := .un) (e1 := .im (.int (n : Int))) (e2 := .im (wT w)) (e3 := .im (.int 4)) (e4 := .im (.int 9)) (e5 := .ol rows) (e6 := e6) (e8 := e8) (e9 := e9) k9
  have hf2 : ∀ d ∈ found.filter nearB, Gd n w d := fun d hd => hf d (List.mem_filter.mp hd).1
  have nv := neV_moves hf2
  generalize found.filter nearB = near at *
  cases near with
  | nil =>
    obtain ⟨g', e, hg'⟩ := ow_take (w0 := w0) (e6 := e6) (e8 := .im (.list [])) (e9 := e9) hf hN hj (hb.le (by omega)) hw hl hr hm k9
    exact ⟨g', ow_end0 es nr e, hg'⟩
  | cons d near =>
    obtain ⟨r, b', hr2, ed, hb'⟩ := draw_ok hb (by omega) (show 0 < 2 by omega)
    have hf3 : ∀ d' ∈ (if (r : Int) = 0 then d :: near else found), Gd n w d' := by
      split
      · exact hf2
      · exact hf
    obtain ⟨g', e, hg'⟩ := ow_take (w0 := w0) (e6 := e6) (e8 := .im (.list (d :: near))) (e9 := e9) hf3 hN hj hb' hw hl hr hm k9
    exact ⟨g', ow_end1 es nr nv ed e, hg'⟩
theorem frzs_cons (b : Nat) (w : View) (ws : List View) (g : Sg) : frzs b (w :: ws) g = R.bind (frz b w g) fun p => R.bind (frzs b ws p.2) fun q => .ok (p.1 :: q.1, q.2) := Eq.trans rfl rfl
def owAll : M Out := (sq (uSetO 5 (sLst 0 sNil))
  (sq (uFor ((sCons (nam 3) sNil).bind rg1) (put 6) owBody)
  (uRet (sTup 0 (sCons (nam 2) (sCons (nam 5) sNil))))))
theorem other_end {Rg : List D} {W0 W : D} {bs b : List D} {rows : List D} {e6 e7 e8 e9 : Ent} (rg : rg1 [.dat (.int 4)] = M.pur Rg) (e : forD (put 6) owBody Rg ⟨some bs, [.un, .im (.int (n : Int)), .im W0, .im (.int 4), .im (.int 9), .ol [], .un, .un, .un, .un], none⟩ = .ok (.nx, ⟨some b, [.un, .im (.int (n : Int)), .im W, .im (.int 4), .im (.int 9), .ol rows, e6, e7, e8, e9], none⟩)) :
    f__law_other_word bs [.int (n : Int), W0, .int 4, .int 9] = .ok (.tuple [W, .list rows], b) := by
  show runB (owAll ⟨some bs, [.un, .im (.int (n : Int)), .im W0, .im (.int 4), .im (.int 9), .un, .un, .un, .un, .un], none⟩) = _
  unfold owAll
  simp [lstF_nil, rg, e, tupF, lenOk_of, need_of, frzs_cons, runB]
theorem other_for {N : Nat} {bs : List D} (hn : n ≤ 6) (hn1 : 1 ≤ n) (hN : N ≤ 900000) (hb : Bx N bs) (hw : Letters n w0) (hl : w0.length ≤ 5) : ∃ g', forD (put 6) owBody ((List.range 4).map fun (k : Nat) => PyData.int (k : Int)) ⟨some bs, [.un, .im (.int (n : Int)), .im (wT w0), .im (.int 4), .im (.int 9), .ol [], .un, .un, .un, .un], none⟩ = .ok (.nx, g') ∧ OwS n N w0 4 g' := by
  refine for_foldN (ga := put 6) (fb := owBody) (S := Unit) (X := Nat) (f := fun (k : Nat) => PyData.int (k : Int)) (step := fun s _ => s) (I := fun j _ g => OwS n N w0 j g) (xs := List.range 4) (k := 0) (n := 4) rfl (fun k hk j _ g hj hg => ?_) () _ ⟨bs, w0, [], _, _, _, _, rfl, hb.le (by omega), hw, by omega, Nat.zero_le _, .refl _, rfl⟩
  obtain ⟨b, w, rows, e6, e7, e8, e9, rfl, hg⟩ := hg
  have hg2 : OwS n N w0 j ⟨some b, [.un, .im (.int (n : Int)), .im (wT w), .im (.int 4), .im (.int 9), .ol rows, .im (.int (k : Int)), e7, e8, e9], none⟩ := ⟨b, w, rows, _, _, _, _, rfl, hg⟩
  obtain ⟨g', e, hg'⟩ := ow_body hn hn1 hN (by omega) hg2
  exact ⟨_, _, rfl, e, hg'⟩
theorem other_ok {N : Nat} {bs : List D} (hn : n ≤ 6) (hn1 : 1 ≤ n) (hN : N ≤ 900000) (hb : Bx N bs) (hw : Letters n w0) (hl : w0.length ≤ 5) : ∃ (w : List Int) (rows : List D) (b : List D), f__law_other_word bs [.int (n : Int), wT w0, .int 4, .int 9] = .ok (.tuple [wT w, .list rows], b) ∧ Bx (N + 8) b ∧ Letters n w ∧ w.length ≤ 13 ∧ Mvs n w0 w := by
  obtain ⟨g', e, b, w, rows, e6, e7, e8, e9, rfl, hb', hw', hl', hr, hm, -⟩ := other_for hn hn1 hN hb hw hl
  have rg := rg1_at (n := 4) (by omega)
  rw [rg_nat] at rg
  exact ⟨w, rows, b, other_end rg e, hb', hw', hl', hm⟩
end
end DL
set_option maxRecDepth 100000
set_option maxHeartbeats 1000000
/-! M24: closed facts. -/
namespace DL
open PySem PySem.Spec L2
def t7 : List (List Nat) := [[0, 5, 3, 1, 6, 4, 2], [3, 1, 6, 4, 2, 0, 5], [6, 4, 2, 0, 5, 3, 1], [2, 0, 5, 3, 1, 6, 4], [5, 3, 1, 6, 4, 2, 0], [1, 6, 4, 2, 0, 5, 3], [4, 2, 0, 5, 3, 1, 6]]
theorem shifted7 : f_shifted_table [.int 7, .int 3] = .ok (tTa t7) := by kernel_rfl
def z7 : List (List Nat) := List.replicate 7 (List.replicate 7 0)
def n7 : D := .list (List.replicate 7 (.int 0))
theorem edge7 : f_edge_weights [tTa t7, n7, .int 2] = .ok (tTa z7) := by kernel_rfl
theorem rep7 : repN (.dat (.list [.int 0])) (.dat (.int 7)) = M.pur (List.replicate 7 (.int 0)) := Eq.trans rfl rfl
theorem known_two : f_weighed_colourings [.int 2, .tuple [.int 1, .int 1, .int 1], tTa tk, tTa rk, .int 2] = .ok (.tuple [.int 4, .int 12]) := by kernel_rfl
theorem known_same : f__law_same [.tuple [.int 4, .int 12], .tuple [.int 4, .int 12]] = .ok (.bool true) := by kernel_rfl
theorem too_many : f_weighed_colourings [.int 6, .tuple [], tTa t7, tTa z7, .int 2] = .er "TooMany" (.str "tries") := by kernel_rfl
end DL
set_option maxRecDepth 100000
set_option maxHeartbeats 1000000
/-! M25: the statements of law. -/
namespace DL
open PySem PySem.Spec L2
def lb0 : M Out := (uSetOO 8 (lcF [20] ((sV 1 (nam 5)).bind seqF) (put 20) (M.pur true) (lastF ((sCons (nam 20) sNil).bind (arg1N lisW)))))
def lb1 : M Out := (uPar 1 9 10 (sCons (sD (sCallB 1 (sCons (sD ((sCons (nam 4) sNil).bind (arg1 lenW))) sNil) f__law_draw)) (sCons (sD (sCallB 1 (sCons (sD ((sCons (nam 4) sNil).bind (arg1 lenW))) sNil) f__law_draw)) sNil)))
def lb2 : M Out := (uAsg (sCallB 1 (sCons (sD (s2 (nam 3) (sD (M.pur (.int 1))) addV)) sNil) f__law_draw) (stOO 8 9 10))
def lb3 : M Out := (uSet 11 (sCallB 1 (sCons (sD (sL (sLst 1 (sCons (sD ((sCons (sD (sL (lcF [20] ((sV 1 (nam 8)).bind seqF) (put 20) (M.pur true) (lastF ((sCons (nam 20) sNil).bind (arg1 tupW)))))) sNil).bind (arg1 tupW))) (sCons (sD ((sCons (sD (sL (lcF [20] ((sV 1 (nam 8)).bind seqF) (put 20) (M.pur true) (lastF ((sCons (nam 20) sNil).bind (arg1 tupW)))))) sNil).bind (arg1 tupW))) (sCons (sD (sSl (nam 5) sNo (sPt (sD ((M.pur (.int 1)).bind negD))))) (sCons (nam 8) (sCons (sD (M.pur .none)) (sCons (sD (s2 (sD (sTup 1 (sCons (sD (s2 (sD (sTup 1 (sCons (sD (M.pur (.bool true))) sNil))) (sD ((sCons (nam 4) sNil).bind (arg1 lenW))) repTW)) sNil))) (sD (sSl (nam 5) (sPt (sD (M.pur (.int 1)))) sNo)) addV)) sNil))))))))) sNil) f__law_pick))
def lb4 : M Out := (uSet 12 (sCallB 1 (sCons (sD (sL (sLst 1 (sCons (nam 3) (sCons (nam 3) (sCons (nam 3) (sCons (sD (M.pur (.int 1))) (sCons (sD (M.pur (.int 13))) (sCons (sD (M.pur (.bool true))) (sCons (sD (M.pur .none)) sNil)))))))))) sNil) f__law_pick))
def lb5 : M Out := (uSet 13 (sCall 1 (sCons (nam 4) (sCons (nam 11) (sCons (nam 12) sNil))) f__law_fault))
def lb6 : M Out := (uIf (sNot (sT (sCall 1 (sCons (sD (sCall 1 (sCons (nam 4) (sCons (nam 11) (sCons (nam 12) sNil))) f_weights_fault)) (sCons (nam 13) sNil)) f__law_same))) (uRet (M.pur (.bool false))) (M.pur .nx))
def lb7 (PT : Addr) : M Out := (uIf (sAnd (sT ((nam 13).bind (isN true))) (sT (s2 (sD (toldS PT (sCall 1 (sCons (sD (M.pur (.int 2))) (sCons (sD (sTup 1 (sCons (sD (M.pur (.int 1))) sNil))) (sCons (nam 4) (sCons (nam 11) (sCons (nam 12) sNil))))) f_weighed_colourings))) (sD (sL (sLst 1 (sCons (sD (M.pur (.str "refused"))) (sCons (nam 13) sNil))))) neV'))) (uRet (M.pur (.bool false))) (M.pur .nx))
def lBody (PT : Addr) : M Out := (sq lb0 (sq lb1 (sq lb2 (sq lb3 (sq lb4 (sq lb5 (sq lb6 (lb7 PT))))))))
def lw0 : M Out := (uSet 2 (sCallB 1 (sCons (sD (M.pur (.int 3))) sNil) f__law_draw))
def lw1 : M Out := (uSet 3 (s2 (sD (M.pur (.int 2))) (sD (sCallB 1 (sCons (sD (M.pur (.int 4))) sNil) f__law_draw)) addV))
def lw2 : M Out := (uIf (sT (s2 (nam 2) (sD (M.pur (.int 0))) eqV')) (sq (uAsg (callD f__law_known []) (tupG 2 (gsCons (put 4) (gsCons (put 5) gsNil))))
  (uSet 3 (M.pur (.int 2)))) (sq (uSet 4 (sCallB 1 (sCons (sD (sL (sLst 1 (sCons (sD (sCall 1 (sCons (sD (M.pur (.int 3))) sNil) f_turned_table)) (sCons (sD (sCall 1 (sCons (sD (M.pur (.int 4))) sNil) f_turned_table)) (sCons (sD (sCall 1 (sCons (sD (M.pur (.int 5))) (sCons (sD (M.pur (.int 2))) sNil)) f_shifted_table)) (sCons (sD (sCall 1 (sCons (sD (M.pur (.int 2))) sNil) f_turned_table)) sNil))))))) sNil) f__law_pick))
  (sq (uSet 6 (sL (lcF [9] ((sCons (sD ((sCons (nam 4) sNil).bind (arg1 lenW))) sNil).bind rg1) (put 9) (M.pur true) (lastF (sCallB 1 (sCons (nam 3) sNil) f__law_draw)))))
  (sq (uSet 5 ((sCons (sD (sL (lcF [9] ((sCons (sD ((sCons (nam 4) sNil).bind (arg1 lenW))) sNil).bind rg1) (put 9) (M.pur true) (lastF ((sCons (sD (sL (lcF [10] ((sCons (sD ((sCons (nam 4) sNil).bind (arg1 lenW))) sNil).bind rg1) (put 10) (M.pur true) (lastF (s2 (sD (s2 (sD (s2 (nam 6) (nam 9) atW)) (sD (s2 (nam 6) (sD (s2 (sD (s2 (nam 4) (nam 9) atW)) (nam 10) atW)) atW)) subV)) (nam 3) modV))))) sNil).bind (arg1 tupW)))))) sNil).bind (arg1 tupW)))
  (uIf (sNot (sT (sCall 1 (sCons (sD (sCall 1 (sCons (nam 4) (sCons (nam 6) (sCons (nam 3) sNil))) f_edge_weights)) (sCons (nam 5) sNil)) f__law_same))) (uRet (M.pur (.bool false))) (M.pur .nx))))))
def lw3 : M Out := (uIf (sOr (sT ((sD (sCall 1 (sCons (nam 4) (sCons (nam 5) (sCons (nam 3) sNil))) f__law_fault)).bind (isN true))) (sT ((sD (sCall 1 (sCons (nam 4) (sCons (nam 5) (sCons (nam 3) sNil))) f_weights_fault)).bind (isN true)))) (uRet (M.pur (.bool false))) (M.pur .nx))
def lw4 (PT : Addr) : M Out := (uFor ((sCons (sD (M.pur (.int 4))) sNil).bind rg1) (put 7) (lBody PT))
def lw5 : M Out := (uSet 14 (s2 (sD (M.pur (.int 1))) (sD (sCallB 1 (sCons (sD (M.pur (.int 3))) sNil) f__law_draw)) addV))
def lw6 : M Out := (uSet 15 (sCallB 1 (sCons (nam 14) (sCons (sD (M.pur (.int 5))) sNil)) f__law_word))
def lw7 : M Out := (uSet 16 (sCall 1 (sCons (nam 14) (sCons (nam 15) (sCons (nam 4) (sCons (nam 5) (sCons (nam 3) sNil))))) f_weighed_colourings))
def lw8 : M Out := (uIf (sOr (sNot (sT (sCall 1 (sCons (nam 16) (sCons (sD (sCall 1 (sCons (nam 14) (sCons (nam 15) (sCons (nam 4) (sCons (nam 5) (sCons (nam 3) sNil))))) f__law_tried)) sNil)) f__law_same))) (sT (s2 (sD ((sCons (nam 16) sNil).bind (arg1 sumW))) (sD (sCall 1 (sCons (nam 14) (sCons (nam 15) (sCons (nam 4) sNil))) f_counted_by)) neV'))) (uRet (M.pur (.bool false))) (M.pur .nx))
def lw9 : M Out := (uIf (sAnd (sT (s2 (nam 2) (sD (M.pur (.int 0))) gtV)) (sT (s2 (nam 16) (sD (s2 (sD (sTup 1 (sCons (sD (sCall 1 (sCons (nam 14) (sCons (nam 15) (sCons (nam 4) sNil))) f_counted_by)) sNil))) (sD (s2 (sD (sTup 1 (sCons (sD (M.pur (.int 0))) sNil))) (sD (s2 (nam 3) (sD (M.pur (.int 1))) subV)) repTW)) addV)) neV'))) (uRet (M.pur (.bool false))) (M.pur .nx))
def lw10 : M Out := (uSet 17 (s2 (sD (sCallB 1 (sCons (nam 14) (sCons (nam 15) (sCons (sD (M.pur (.int 4))) (sCons (sD (M.pur (.int 9))) sNil)))) f__law_other_word)) (sD (M.pur (.int 0))) atW))
def lw11 : M Out := (uIf (sNot (sT (sCall 1 (sCons (sD (sCall 1 (sCons (nam 14) (sCons (sD (s2 (sD (sSl (nam 17) (sPt (sD (M.pur (.int 1)))) sNo)) (sD (sSl (nam 17) sNo (sPt (sD (M.pur (.int 1)))))) addV)) (sCons (nam 4) (sCons (nam 5) (sCons (nam 3) sNil))))) f_weighed_colourings)) (sCons (nam 16) sNil)) f__law_same))) (uRet (M.pur (.bool false))) (M.pur .nx))
def lw12 : M Out := (uIf (sAnd (sT (s2 (nam 14) (sD (M.pur (.int 3))) ltV)) (sNot (sT (sCall 1 (sCons (sD (sCall 1 (sCons (sD (s2 (nam 14) (sD (M.pur (.int 1))) addV)) (sCons (sD (s2 (nam 15) (sD (sTup 1 (sCons (sD (sCallB 1 (sCons (sD (sL (sLst 1 (sCons (nam 14) (sCons (sD (s2 (sD (M.pur (.int 0))) (nam 14) subV)) sNil))))) sNil) f__law_pick)) sNil))) addV)) (sCons (nam 4) (sCons (nam 5) (sCons (nam 3) sNil))))) f_weighed_colourings)) (sCons (nam 16) sNil)) f__law_same)))) (uRet (M.pur (.bool false))) (M.pur .nx))
def lw13 : M Out := (uAsg (callD f__law_known []) (tupG 2 (gsCons (put 18) (gsCons (put 19) gsNil))))
def lw14 : M Out := (uIf (sOr (sNot (sT (sCall 1 (sCons (sD (sCall 1 (sCons (sD (M.pur (.int 2))) (sCons (sD (sTup 1 (sCons (sD (M.pur (.int 1))) (sCons (sD (M.pur (.int 1))) (sCons (sD (M.pur (.int 1))) sNil))))) (sCons (nam 18) (sCons (nam 19) (sCons (sD (M.pur (.int 2))) sNil))))) f_weighed_colourings)) (sCons (sD (sTup 1 (sCons (sD (M.pur (.int 4))) (sCons (sD (M.pur (.int 12))) sNil)))) sNil)) f__law_same))) (sT (s2 (sD (sCall 1 (sCons (sD (sTup 1 (sCons (sD (sTup 1 (sCons (sD (M.pur (.int 1))) sNil))) sNil))) (sCons (nam 5) (sCons (nam 3) sNil))) f_weights_fault)) (sD (M.pur (.str "shape"))) neV'))) (uRet (M.pur (.bool false))) (M.pur .nx))
def lw15 (PT : Addr) : M Out := (uRet (s2 (sD (toldS PT (sCall 1 (sCons (sD (M.pur (.int 6))) (sCons (sD (sTup 1 sNil)) (sCons (sD (sCall 1 (sCons (sD (M.pur (.int 7))) (sCons (sD (M.pur (.int 3))) sNil)) f_shifted_table)) (sCons (sD (sCall 1 (sCons (sD (sCall 1 (sCons (sD (M.pur (.int 7))) (sCons (sD (M.pur (.int 3))) sNil)) f_shifted_table)) (sCons (sD (sL (s2N (sD (sL (sLst 1 (sCons (sD (M.pur (.int 0))) sNil)))) (sD (M.pur (.int 7))) repN))) (sCons (sD (M.pur (.int 2))) sNil))) f_edge_weights)) (sCons (sD (M.pur (.int 2))) sNil))))) f_weighed_colourings))) (sD (sL (sLst 1 (sCons (sD (M.pur (.str "too many"))) (sCons (sD (M.pur (.str "tries"))) sNil))))) eqV'))
def lTail (PT : Addr) : M Out := (sq lw5 (sq lw6 (sq lw7 (sq lw8 (sq lw9 (sq lw10 (sq lw11 (sq lw12 (sq lw13 (sq lw14 (lw15 PT)))))))))))
theorem m_law_eq (PT : Addr) : m_law PT = (sq lw0 (sq lw1 (sq lw2 (sq lw3 (sq (lw4 PT) (lTail PT)))))) := rfl
section
variable {PT : Addr} {b b' : List D} {e0 e2 e3 e4 e5 e6 e7 e8 e9 e10 e11 e12 e13 e14 e15 e16 e17 e18 e19 e20 : Ent}
variable {n kind many r c : Int} {tb rw wd T : D}
theorem lw5_at (h : f__law_draw b [.int 3] = .ok (.int r, b')) :
    lw5 ⟨some b, [e0, .un, e2, e3, e4, e5, e6, e7, e8, e9, e10, e11, e12, e13, e14, e15, e16, e17, e18, e19, e20], some PT⟩ = .ok (.nx, ⟨some b', [e0, .un, e2, e3, e4, e5, e6, e7, e8, e9, e10, e11, e12, e13, .im (.int (1 + r)), e15, e16, e17, e18, e19, e20], some PT⟩) := by
  unfold lw5
  simp [h]
theorem lw6_at (h : f__law_word b [.int n, .int 5] = .ok (wd, b')) :
    lw6 ⟨some b, [e0, .un, e2, e3, e4, e5, e6, e7, e8, e9, e10, e11, e12, e13, .im (.int n), e15, e16, e17, e18, e19, e20], some PT⟩ = .ok (.nx, ⟨some b', [e0, .un, e2, e3, e4, e5, e6, e7, e8, e9, e10, e11, e12, e13, .im (.int n), .im wd, e16, e17, e18, e19, e20], some PT⟩) := by
  unfold lw6
  simp [h]
theorem lw7_at (h : f_weighed_colourings [.int n, wd, tb, rw, .int many] = .ok T) :
    lw7 ⟨some b, [e0, .un, e2, .im (.int many), .im tb, .im rw, e6, e7, e8, e9, e10, e11, e12, e13, .im (.int n), .im wd, e16, e17, e18, e19, e20], some PT⟩ = .ok (.nx, ⟨some b, [e0, .un, e2, .im (.int many), .im tb, .im rw, e6, e7, e8, e9, e10, e11, e12, e13, .im (.int n), .im wd, .im T, e17, e18, e19, e20], some PT⟩) := by
  unfold lw7
  simp [h]
theorem lw8_at (h : f__law_tried [.int n, wd, tb, rw, .int many] = .ok T) (h2 : f__law_same [T, T] = .ok (.bool true)) (h3 : sumW (.dat T) = M.pur (.int c)) (h4 : f_counted_by [.int n, wd, tb] = .ok (.int c)) :
    lw8 ⟨some b, [e0, .un, e2, .im (.int many), .im tb, .im rw, e6, e7, e8, e9, e10, e11, e12, e13, .im (.int n), .im wd, .im T, e17, e18, e19, e20], some PT⟩ = .ok (.nx, ⟨some b, [e0, .un, e2, .im (.int many), .im tb, .im rw, e6, e7, e8, e9, e10, e11, e12, e13, .im (.int n), .im wd, .im T, e17, e18, e19, e20], some PT⟩) := by
  unfold lw8
  simp [h, h2, h3, h4, neV_ints]
theorem lw9_no (h : ¬ 0 < kind) :
    lw9 ⟨some b, [e0, .un, .im (.int kind), .im (.int many), .im tb, .im rw, e6, e7, e8, e9, e10, e11, e12, e13, .im (.int n), .im wd, .im T, e17, e18, e19, e20], some PT⟩ = .ok (.nx, ⟨some b, [e0, .un, .im (.int kind), .im (.int many), .im tb, .im rw, e6, e7, e8, e9, e10, e11, e12, e13, .im (.int n), .im wd, .im T, e17, e18, e19, e20], some PT⟩) := by
  unfold lw9
  simp [h]
theorem lw9_at {Z X : D} (h : 0 < kind) (h4 : f_counted_by [.int n, wd, tb] = .ok (.int c)) (h5 : repTW (.dat (.tuple [.int 0])) (.dat (.int (many - 1))) = M.pur Z) (h6 : addV (.dat (.tuple [.int c])) (.dat Z) = M.pur X) (h7 : neV' (.dat T) (.dat X) = M.pur (.bool false)) :
    lw9 ⟨some b, [e0, .un, .im (.int kind), .im (.int many), .im tb, .im rw, e6, e7, e8, e9, e10, e11, e12, e13, .im (.int n), .im wd, .im T, e17, e18, e19, e20], some PT⟩ = .ok (.nx, ⟨some b, [e0, .un, .im (.int kind), .im (.int many), .im tb, .im rw, e6, e7, e8, e9, e10, e11, e12, e13, .im (.int n), .im wd, .im T, e17, e18, e19, e20], some PT⟩) := by
  unfold lw9
  simp [h, h4, tupF, lenOk_of, need_of, h5, h6, h7]
theorem lw10_at {ch rs : D} (h : f__law_other_word b [.int n, wd, .int 4, .int 9] = .ok (.tuple [ch, rs], b')) :
    lw10 ⟨some b, [e0, .un, e2, .im (.int many), .im tb, .im rw, e6, e7, e8, e9, e10, e11, e12, e13, .im (.int n), .im wd, .im T, e17, e18, e19, e20], some PT⟩ = .ok (.nx, ⟨some b', [e0, .un, e2, .im (.int many), .im tb, .im rw, e6, e7, e8, e9, e10, e11, e12, e13, .im (.int n), .im wd, .im T, .im ch, e18, e19, e20], some PT⟩) := by
  unfold lw10
  simp [h, at0T]
theorem lw11_at {ch c1 c2 c3 : D} (h1 : cutW (.dat ch) (some 1) none = M.pur c1) (h2 : cutW (.dat ch) none (some 1) = M.pur c2) (h3 : addV (.dat c1) (.dat c2) = M.pur c3) (h4 : f_weighed_colourings [.int n, c3, tb, rw, .int many] = .ok T) (h5 : f__law_same [T, T] = .ok (.bool true)) :
    lw11 ⟨some b, [e0, .un, e2, .im (.int many), .im tb, .im rw, e6, e7, e8, e9, e10, e11, e12, e13, .im (.int n), .im wd, .im T, .im ch, e18, e19, e20], some PT⟩ = .ok (.nx, ⟨some b, [e0, .un, e2, .im (.int many), .im tb, .im rw, e6, e7, e8, e9, e10, e11, e12, e13, .im (.int n), .im wd, .im T, .im ch, e18, e19, e20], some PT⟩) := by
  unfold lw11
  simp [h1, h2, h3, h4, h5]
theorem lw12_no (h : ¬ n < 3) :
    lw12 ⟨some b, [e0, .un, e2, .im (.int many), .im tb, .im rw, e6, e7, e8, e9, e10, e11, e12, e13, .im (.int n), .im wd, .im T, e17, e18, e19, e20], some PT⟩ = .ok (.nx, ⟨some b, [e0, .un, e2, .im (.int many), .im tb, .im rw, e6, e7, e8, e9, e10, e11, e12, e13, .im (.int n), .im wd, .im T, e17, e18, e19, e20], some PT⟩) := by
  unfold lw12
  simp [h]
theorem lw12_at {l : Int} {w2 : D} (h : n < 3) (h1 : f__law_pick b [.list [.int n, .int (-n)]] = .ok (.int l, b')) (h2 : addV (.dat wd) (.dat (.tuple [.int l])) = M.pur w2) (h4 : f_weighed_colourings [.int (n + 1), w2, tb, rw, .int many] = .ok T) (h5 : f__law_same [T, T] = .ok (.bool true)) :
    lw12 ⟨some b, [e0, .un, e2, .im (.int many), .im tb, .im rw, e6, e7, e8, e9, e10, e11, e12, e13, .im (.int n), .im wd, .im T, e17, e18, e19, e20], some PT⟩ = .ok (.nx, ⟨some b', [e0, .un, e2, .im (.int many), .im tb, .im rw, e6, e7, e8, e9, e10, e11, e12, e13, .im (.int n), .im wd, .im T, e17, e18, e19, e20], some PT⟩) := by
  unfold lw12
  simp [h, tupF, lstF, lenOk_of, need_of, h1, h2, h4, h5]
theorem lw13_at (h : f__law_known [] = .ok (.tuple [tb, rw])) :
    lw13 ⟨some b, [e0, .un, e2, e3, e4, e5, e6, e7, e8, e9, e10, e11, e12, e13, e14, e15, e16, e17, e18, e19, e20], some PT⟩ = .ok (.nx, ⟨some b, [e0, .un, e2, e3, e4, e5, e6, e7, e8, e9, e10, e11, e12, e13, e14, e15, e16, e17, .im tb, .im rw, e20], some PT⟩) := by
  unfold lw13
  simp [h, tupG, gsCons, gsNil]
theorem lw14_at (h1 : f_weighed_colourings [.int 2, .tuple [.int 1, .int 1, .int 1], tTa tk, tTa rk, .int 2] = .ok T) (h2 : T = .tuple [.int 4, .int 12]) (h3 : f__law_same [.tuple [.int 4, .int 12], .tuple [.int 4, .int 12]] = .ok (.bool true)) (h4 : f_weights_fault [.tuple [.tuple [.int 1]], rw, .int many] = .ok (.str "shape")) (h5 : neV' (.dat (.str "shape")) (.dat (.str "shape")) = M.pur (.bool false)) :
    lw14 ⟨some b, [e0, .un, e2, .im (.int many), e4, .im rw, e6, e7, e8, e9, e10, e11, e12, e13, e14, e15, e16, e17, .im (tTa tk), .im (tTa rk), e20], some PT⟩ = .ok (.nx, ⟨some b, [e0, .un, e2, .im (.int many), e4, .im rw, e6, e7, e8, e9, e10, e11, e12, e13, e14, e15, e16, e17, .im (tTa tk), .im (tTa rk), e20], some PT⟩) := by
  unfold lw14
  simp [h1, h2, h3, h4, h5, tupF, lenOk_of, need_of]
end
end DL
set_option maxRecDepth 100000
set_option maxHeartbeats 1000000
/-! M26: the last statement of law; its tail. -/
namespace DL
open PySem PySem.Spec L2
section
variable {PT : Addr} {b b' : List D} {e0 e2 e3 e4 e5 e6 e7 e8 e9 e10 e11 e12 e13 e14 e15 e16 e17 e18 e19 e20 : Ent}
theorem told_er {fe : M D} {c t : Str} {d : D} {es : List Ent} (h : fe ⟨none, es.map dimE, none⟩ = .er c d) (ht : tagOf c = some t) : toldS PT fe ⟨some b, es, some PT⟩ = .ok (.list [.str t, d], ⟨some b, es, some PT⟩) := by
  unfold toldS
  rw [if_pos ⟨rfl, rfl⟩]
  show (match fe ⟨none, es.map dimE, none⟩ with
    | .ok (d, _) => R.ok (d, (⟨some b, es, some PT⟩ : Sg))
    | .er c d => (match tagOf c with
      | some t => .ok (.list [.str t, d], ⟨some b, es, some PT⟩)
      | none => .no)
    | .no => .no) = _
  rw [h]
  simp only [ht]
theorem tag_refused : tagOf "Refused" = some "refused" := by decide +kernel
theorem tag_many : tagOf "TooMany" = some "too many" := by decide +kernel
theorem eq_many : eqV' (.dat (.list [.str "too many", .str "tries"])) (.dat (.list [.str "too many", .str "tries"])) = M.pur (.bool true) := by
  show need (SeqAt.shaped (PyData.list [.str "too many", .str "tries"]) && SeqAt.shaped (PyData.list [.str "too many", .str "tries"])) (M.pur (PyData.bool (PyData.eqv (.list [.str "too many", .str "tries"]) (.list [.str "too many", .str "tries"])))) = _
  rw [show PyData.eqv (.list [.str "too many", .str "tries"]) (.list [.str "too many", .str "tries"]) = true by decide +kernel]
  exact need_of (by decide +kernel) _
theorem lw15_fe {S7 E7 : D} {es : List Ent} (h1 : f_shifted_table [.int 7, .int 3] = .ok S7) (h2 : repN (.dat (.list [.int 0])) (.dat (.int 7)) = M.pur (List.replicate 7 (.int 0))) (h3 : f_edge_weights [S7, n7, .int 2] = .ok E7) (h4 : f_weighed_colourings [.int 6, .tuple [], S7, E7, .int 2] = .er "TooMany" (.str "tries")) :
    (sCall 1 (sCons (sD (M.pur (.int 6))) (sCons (sD (sTup 1 sNil)) (sCons (sD (sCall 1 (sCons (sD (M.pur (.int 7))) (sCons (sD (M.pur (.int 3))) sNil)) f_shifted_table)) (sCons (sD (sCall 1 (sCons (sD (sCall 1 (sCons (sD (M.pur (.int 7))) (sCons (sD (M.pur (.int 3))) sNil)) f_shifted_table)) (sCons (sD (sL (s2N (sD (sL (sLst 1 (sCons (sD (M.pur (.int 0))) sNil)))) (sD (M.pur (.int 7))) repN))) (sCons (sD (M.pur (.int 2))) sNil))) f_edge_weights)) (sCons (sD (M.pur (.int 2))) sNil))))) f_weighed_colourings) ⟨none, es, none⟩ = .er "TooMany" (.str "tries") := by
  unfold n7 at h3
  generalize List.replicate 7 (PyData.int 0) = Z at h2 h3
  simp [tupF, lstF, lenOk_of, need_of, h1, h2, h3, h4]
theorem lw15_at {es : List Ent} : lw15 PT ⟨some b, es, some PT⟩ = .ok (.rt (.bool true), ⟨some b, es, some PT⟩) := by
  have e := told_er (PT := PT) (b := b) (es := es) (lw15_fe (es := es.map dimE) shifted7 rep7 edge7 too_many) tag_many
  unfold lw15
  simp only [bind_at, e]
  simp [lstF, lenOk_of, need_of, eq_many]
end
end DL
set_option maxRecDepth 100000
set_option maxHeartbeats 1000000
/-! M27: the tail of law. -/
namespace DL
open PySem PySem.Spec L2
theorem ne_shape : neV' (.dat (.str "shape")) (.dat (.str "shape")) = M.pur (.bool false) := by
  show need (SeqAt.shaped (PyData.str "shape") && SeqAt.shaped (PyData.str "shape")) (M.pur (PyData.bool (!PyData.eqv (.str "shape") (.str "shape")))) = _
  rw [show PyData.eqv (.str "shape") (.str "shape") = true by decide +kernel]
  exact need_of (by decide +kernel) _
theorem sq_nx {f f2 : M Out} {g g1 : Sg} {r : R (Out × Sg)} (h : f g = .ok (.nx, g1)) (h2 : f2 g1 = r) : sq f f2 g = r := by
  rw [sq_at, h]
  exact h2
/-- a table of colours with weights, as law has it -/
structure Wt (t u w : List (List Nat)) (s many : Nat) : Prop where
  g : Good t s
  b : Back t u s
  q : Sqr w s
  c : Coc t w s many
  lt : fltR w many = false
  m2 : 2 ≤ many
  m12 : many ≤ 12
theorem Wt.qd {t u w : List (List Nat)} {s many : Nat} (h : Wt t u w s many) : Qd t u s := ⟨h.g.lt, h.b.lt, h.g.idem, h.b.l1, h.b.l2, h.g.dist⟩
theorem Wt.none {t u w : List (List Nat)} {s many : Nat} (h : Wt t u w s many) : faultD t w s many = .none := by
  have h2 : fltS w s = false := by
    unfold fltS
    rw [List.any_eq_false]
    intro a ha
    rw [h.c.same a (List.mem_range.mp ha)]
    simp
  have h3 : fltT t w s many = false := by
    unfold fltT
    rw [List.any_eq_false]
    intro a ha
    rw [Bool.not_eq_true, List.any_eq_false]
    intro b hb
    rw [Bool.not_eq_true, List.any_eq_false]
    intro c hc
    have z := h.c.three a (List.mem_range.mp ha) b (List.mem_range.mp hb) c (List.mem_range.mp hc)
    unfold dif3
    rw [z]
    simp
  unfold faultD
  rw [h.lt, h2, h3]
  rfl
section
variable {t u w : List (List Nat)} {s many n : Nat} {word : List Int}
theorem Wt.wf (h : Wt t u w s many) : f_weights_fault [tTa t, tTa w, .int (many : Int)] = .ok .none := by
  rw [wf_good h.g h.q h.m2 h.m12, h.none]
theorem pow_small (h : Wt t u w s many) (hn : n ≤ 3) : s ^ n ≤ 125 := by
  have a : s ^ n ≤ 5 ^ n := Nat.pow_le_pow_left h.g.s5 n
  have b : 5 ^ n ≤ 5 ^ 3 := Nat.pow_le_pow_right (by omega) hn
  omega
theorem Wt.weighed (h : Wt t u w s many) (h1 : 1 ≤ n) (h3 : n ≤ 3) (hl : word.length ≤ 2000) (hw : Letters n word) : f_weighed_colourings [.int (n : Int), wT word, tTa t, tTa w, .int (many : Int)] = .ok (nTu (tally t u w word many (rowsOf s n))) := by
  have m2 := h.m2
  have m12 := h.m12
  have p := pow_small h h3
  exact weighed_ok h.g h.b h.q h.wf h1 (by omega) (by omega) hl hw (by omega) (by omega)
theorem Wt.tried (h : Wt t u w s many) (h3 : n ≤ 3) (hw : Letters n word) : f__law_tried [.int (n : Int), wT word, tTa t, tTa w, .int (many : Int)] = .ok (nTu (tally t u w word many (rowsOf s n))) := by
  have m2 := h.m2
  have m12 := h.m12
  have p := pow_small h h3
  exact tried_ok h.g h.b h.q (by omega) (by omega) hw (by omega) (by omega)
theorem Wt.counted (h : Wt t u w s many) (h1 : 1 ≤ n) (h3 : n ≤ 3) (hl : word.length ≤ 2000) (hw : Letters n word) : f_counted_by [.int (n : Int), wT word, tTa t] = .ok (.int (((fixR t u s n word).length : Nat) : Int)) := by
  have p := pow_small h h3
  exact counted_ok h.g h.b h1 (by omega) (by omega) hl hw
theorem fix_small (h : Wt t u w s many) (h3 : n ≤ 3) : (fixR t u s n word).length ≤ 125 := by
  have p := pow_small h h3
  have z : (fixR t u s n word).length ≤ (rowsOf s n).length := List.length_filter_le _ _
  rw [rowsOf_len] at z
  omega
theorem Wt.tsame (h : Wt t u w s many) (h3 : n ≤ 3) : f__law_same [nTu (tally t u w word many (rowsOf s n)), nTu (tally t u w word many (rowsOf s n))] = .ok (.bool true) := by
  have m2 := h.m2
  have m12 := h.m12
  have f := fix_small (word := word) h h3
  refine nTu_same (fun k hk => ?_) ?_
  · rw [tally_eq (by omega)] at hk
    obtain ⟨i, _, rfl⟩ := List.mem_map.mp hk
    have z := List.count_le_length (a := i) (l := (fixR t u s n word).map (idxW t u w many word))
    rw [List.length_map] at z
    omega
  · rw [tally_eq (by omega), List.length_map, List.length_range]
    exact m12
theorem sum_nTu (xs : List Nat) : sumW (.dat (nTu xs)) = M.pur (.int ((xs.sum : Nat) : Int)) := by
  have e : ∀ xs : List Nat, asInts (xs.map fun (k : Nat) => PyData.int (k : Int)) = some (xs.map fun (k : Nat) => (k : Int)) := fun xs => by
    induction xs with
    | nil => rfl
    | cons x xs ih => simp [asInts, ih]
  have e2 : ∀ xs : List Nat, (xs.map fun (k : Nat) => (k : Int)).sum = ((xs.sum : Nat) : Int) := fun xs => by
    induction xs with
    | nil => rfl
    | cons x xs ih => rw [List.map_cons, List.sum_cons, ih, List.sum_cons]; omega
  funext g
  show (match asInts (xs.map fun (k : Nat) => PyData.int (k : Int)) with
    | some ns => M.pur (PyData.int ns.sum)
    | none => M.no) g = _
  rw [e]
  show M.pur (PyData.int (xs.map fun (k : Nat) => (k : Int)).sum) g = _
  rw [e2]
theorem rep_zero {k : Nat} (h1 : 1 ≤ k) (h2 : k ≤ 1000) : repTW (.dat (.tuple [.int 0])) (.dat (.int (k : Int))) = M.pur (nTu (List.replicate k 0)) := by
  show need (![PyData.int 0].isEmpty && decide (1 ≤ (k : Int)) && decide ((k : Int) ≤ 1000) && decide ([PyData.int 0].length ≤ 1000)) (M.pur (PyData.tuple (List.replicate (k : Int).toNat [PyData.int 0]).flatten)) = _
  rw [need_of (by simp only [Bool.and_eq_true, decide_eq_true_eq]; refine ⟨⟨⟨rfl, by omega⟩, by omega⟩, by simp⟩), Int.toNat_natCast]
  congr 2
  clear h1 h2
  induction k with
  | zero => rfl
  | succ k ih =>
    rw [List.replicate_succ, List.flatten_cons, List.replicate_succ, List.map_cons, ih]
    rfl
theorem cut1_hi (w : List Int) : cutW (.dat (wT w)) (some 1) none = M.pur (wT (w.drop 1)) := by
  cases w with
  | nil => exact Eq.trans rfl rfl
  | cons l w => exact cutW_hi (k := 1) (by simp)
theorem cut1_lo (w : List Int) : cutW (.dat (wT w)) none (some 1) = M.pur (wT (w.take 1)) := by
  cases w with
  | nil => exact Eq.trans rfl rfl
  | cons l w => exact cutW_lo (k := 1) (by simp)
theorem Wt.moved (h : Wt t u w s many) {w' : List Int} (hm : Mvs n word w') (hw : Letters n word) : tally t u w (w'.drop 1 ++ w'.take 1) many (rowsOf s n) = tally t u w word many (rowsOf s n) := by
  have m2 := h.m2
  have a := tally_alike (show 0 < many by omega) (hm.alike hw h.qd h.c)
  have hl := hm.letters hw
  rw [← a]
  cases w' with
  | nil => rfl
  | cons l rest =>
    exact tally_turn (by omega) h.qd (hl l (List.mem_cons_self ..)) fun m hm => hl m (List.mem_cons_of_mem _ hm)
end
section
variable {PT : Addr} {b : List D} {e0 e6 e7 e8 e9 e10 e11 e12 e13 e14 e15 e16 e17 e18 e19 e20 : Ent}
variable {t u w : List (List Nat)} {s many kind N : Nat}
theorem lw9_all (h : Wt t u w s many) (hk : 0 < kind → ∃ nu, EdgeW t w s many nu) {n : Nat} {word : List Int} (h1 : 1 ≤ n) (h3 : n ≤ 3) (hl : word.length ≤ 2000) (hw : Letters n word) :
    lw9 ⟨some b, [e0, .un, .im (.int (kind : Int)), .im (.int (many : Int)), .im (tTa t), .im (tTa w), e6, e7, e8, e9, e10, e11, e12, e13, .im (.int (n : Int)), .im (wT word), .im (nTu (tally t u w word many (rowsOf s n))), e17, e18, e19, e20], some PT⟩ = .ok (.nx, ⟨some b, [e0, .un, .im (.int (kind : Int)), .im (.int (many : Int)), .im (tTa t), .im (tTa w), e6, e7, e8, e9, e10, e11, e12, e13, .im (.int (n : Int)), .im (wT word), .im (nTu (tally t u w word many (rowsOf s n))), e17, e18, e19, e20], some PT⟩) := by
  have m2 := h.m2
  have m12 := h.m12
  by_cases hz : 0 < kind
  · obtain ⟨nu, he⟩ := hk hz
    have hc := h.counted h1 h3 hl hw
    have z := rep_zero (k := many - 1) (by omega) (by omega)
    rw [show ((many - 1 : Nat) : Int) = (many : Int) - 1 by omega] at z
    have ad : addV (.dat (.tuple [.int (((fixR t u s n word).length : Nat) : Int)])) (.dat (nTu (List.replicate (many - 1) 0))) = M.pur (nTu ((fixR t u s n word).length :: List.replicate (many - 1) 0)) := add_nTu (xs := [(fixR t u s n word).length]) (by simp; omega)
    have te := tally_edge (show 0 < many by omega) h.qd he hw
    have nv : neV' (.dat (nTu (tally t u w word many (rowsOf s n)))) (.dat (nTu ((fixR t u s n word).length :: List.replicate (many - 1) 0))) = M.pur (.bool false) := by
      rw [neV_nTu, te]
      simp
    exact lw9_at (by omega) hc z ad nv
  · exact lw9_no (by omega)
theorem lw12_all (h : Wt t u w s many) (hb : Bx N b) (hN : N ≤ 900000) {n : Nat} {word : List Int} (h1 : 1 ≤ n) (h3 : n ≤ 3) (hl : word.length ≤ 1000) (hw : Letters n word) {e2 e17 : Ent} : ∃ b',
    lw12 ⟨some b, [e0, .un, e2, .im (.int (many : Int)), .im (tTa t), .im (tTa w), e6, e7, e8, e9, e10, e11, e12, e13, .im (.int (n : Int)), .im (wT word), .im (nTu (tally t u w word many (rowsOf s n))), e17, e18, e19, e20], some PT⟩ = .ok (.nx, ⟨some b', [e0, .un, e2, .im (.int (many : Int)), .im (tTa t), .im (tTa w), e6, e7, e8, e9, e10, e11, e12, e13, .im (.int (n : Int)), .im (wT word), .im (nTu (tally t u w word many (rowsOf s n))), e17, e18, e19, e20], some PT⟩) := by
  have m2 := h.m2
  by_cases hz : n < 3
  · obtain ⟨d, b', hd, e, hb'⟩ := pick_ok (ds := [.int (n : Int), .int (-(n : Int))]) hb (by omega) (by simp)
    obtain ⟨l, rfl, hll⟩ : ∃ l : Int, d = .int l ∧ l.natAbs = n := by
      simp only [List.mem_cons, List.not_mem_nil, or_false] at hd
      rcases hd with rfl | rfl
      · exact ⟨_, rfl, by omega⟩
      · exact ⟨_, rfl, by omega⟩
    have hw2 : Letters (n + 1) (word ++ [l]) := fun m hm => by
      rcases List.mem_append.mp hm with y | y
      · have := hw m y
        omega
      · rw [List.mem_singleton.mp y]
        omega
    have ad : addV (.dat (wT word)) (.dat (.tuple [.int l])) = M.pur (wT (word ++ [l])) := add_wT (ys := [l]) (by simp; omega)
    have wc := h.weighed (n := n + 1) (word := word ++ [l]) (by omega) (by omega) (by simp; omega) hw2
    rw [tally_more (by omega) h.qd h.c.same h1 hll hw, show ((n + 1 : Nat) : Int) = (n : Int) + 1 by omega] at wc
    exact ⟨b', lw12_at (by omega) e ad wc (h.tsame (by omega))⟩
  · exact ⟨b, lw12_no (by omega)⟩
theorem tail_ok (h : Wt t u w s many) (hk : 0 < kind → ∃ nu, EdgeW t w s many nu) (hb : Bx N b) (hN : N ≤ 100000) : ∃ g', lTail PT ⟨some b, [e0, .un, .im (.int (kind : Int)), .im (.int (many : Int)), .im (tTa t), .im (tTa w), e6, e7, e8, e9, e10, e11, e12, e13, e14, e15, e16, e17, e18, e19, e20], some PT⟩ = .ok (.rt (.bool true), g') := by
  have m2 := h.m2
  obtain ⟨r, b1, hr, d1, hb1⟩ := draw_ok hb (by omega) (show 0 < 3 by omega)
  have d1' : f__law_draw b [.int 3] = .ok (.int (r : Int), b1) := d1
  obtain ⟨n, hn⟩ : ∃ n : Nat, n = 1 + r := ⟨_, rfl⟩
  have hni : 1 + (r : Int) = (n : Int) := by omega
  have s5 := lw5_at (PT := PT) (e0 := e0) (e2 := .im (.int (kind : Int))) (e3 := .im (.int (many : Int))) (e4 := .im (tTa t)) (e5 := .im (tTa w)) (e6 := e6) (e7 := e7) (e8 := e8) (e9 := e9) (e10 := e10) (e11 := e11) (e12 := e12) (e13 := e13) (e14 := e14) (e15 := e15) (e16 := e16) (e17 := e17) (e18 := e18) (e19 := e19) (e20 := e20) d1'
  rw [hni] at s5
  obtain ⟨word, b2, hw, hl, d2, hb2⟩ := word_ok (n := n) (most := 5) hb1 (by omega) (by omega) (by omega)
  have d2' : f__law_word b1 [.int (n : Int), .int 5] = .ok (wT word, b2) := d2
  have wc := h.weighed (n := n) (word := word) (by omega) (by omega) (by omega) hw
  have ts := h.tsame (n := n) (word := word) (by omega)
  have tr := h.tried (n := n) (word := word) (by omega) hw
  have ct := h.counted (n := n) (word := word) (by omega) (by omega) (by omega) hw
  have sm := sum_nTu (tally t u w word many (rowsOf s n))
  rw [tally_sum (by omega)] at sm
  obtain ⟨w', rows, b3, d3, hb3, hw', hl', hm⟩ := other_ok (n := n) (by omega) (by omega) (by omega) hb2 hw hl
  have c1 := cut1_hi w'
  have c2 := cut1_lo w'
  have c3 := add_wT (xs := w'.drop 1) (ys := w'.take 1) (by simp; omega)
  have hw3 : Letters n (w'.drop 1 ++ w'.take 1) := fun m hm => by
    rcases List.mem_append.mp hm with y | y
    · exact hw' m (List.mem_of_mem_drop y)
    · exact hw' m (List.mem_of_mem_take y)
  have wc2 := h.weighed (n := n) (word := w'.drop 1 ++ w'.take 1) (by omega) (by omega) (by simp; omega) hw3
  rw [h.moved hm hw] at wc2
  have o9 := lw9_all (PT := PT) (b := b2) (e0 := e0) (kind := kind) (e6 := e6) (e7 := e7) (e8 := e8) (e9 := e9) (e10 := e10) (e11 := e11) (e12 := e12) (e13 := e13) (e17 := e17) (e18 := e18) (e19 := e19) (e20 := e20) h hk (n := n) (word := word) (by omega) (by omega) (by omega) hw
  obtain ⟨b4, o12⟩ := lw12_all (PT := PT) (b := b3) (e0 := e0) (e2 := .im (.int (kind : Int))) (e6 := e6) (e7 := e7) (e8 := e8) (e9 := e9) (e10 := e10) (e11 := e11) (e12 := e12) (e13 := e13) (e17 := .im (wT w')) (e18 := e18) (e19 := e19) (e20 := e20) h hb3 (by omega) (n := n) (word := word) (by omega) (by omega) (by omega) hw
  unfold lTail
  exact ⟨_, sq_nx s5 (sq_nx (lw6_at d2') (sq_nx (lw7_at wc) (sq_nx (lw8_at tr ts sm ct) (sq_nx o9 (sq_nx (lw10_at d3) (sq_nx (lw11_at c1 c2 c3 wc2 ts) (sq_nx o12 (sq_nx (lw13_at known_at) (sq_nx (lw14_at known_two rfl known_same (wf_one _ _) ne_shape) lw15_at)))))))))⟩
end
end DL
set_option maxRecDepth 100000
set_option maxHeartbeats 1000000
/-! M28: the loop over spoilt weights. -/
namespace DL
open PySem PySem.Spec L2
def iL (r : List Nat) : List D := r.map fun (k : Nat) => PyData.int (k : Int)
def setC (w : List (List Nat)) (a b v : Nat) : List (List Nat) := w.set a ((rowAt w a).set b v)
theorem setC_sqr {w : List (List Nat)} {s a b v : Nat} (h : Sqr w s) : Sqr (setC w a b v) s := by
  refine ⟨by unfold setC; rw [List.length_set, h.len], fun c hc => ?_⟩
  unfold setC rowAt
  simp only [List.getD_eq_getElem?_getD, List.getElem?_set]
  by_cases e : a = c
  · subst e
    rw [if_pos rfl, if_pos (by rw [h.len]; exact hc)]
    show (List.set _ b v).length = s
    rw [List.length_set]
    have z := h.row a hc
    unfold rowAt at z
    simpa [List.getD_eq_getElem?_getD] using z
  · rw [if_neg e]
    have z := h.row c hc
    unfold rowAt at z
    simpa [List.getD_eq_getElem?_getD] using z
theorem cut_last (w : List (List Nat)) : cutW (.dat (tTa w)) none (some (-1)) = M.pur (tTa w.dropLast) := by
  show M.pur (PyData.tuple (cutD (w.map nTu) none (some (-1)))) = _
  unfold cutD
  rw [HT.sIx_none, List.length_map]
  have e : HT.sIx w.length w.length (some (-1)) = w.length - 1 := by
    unfold HT.sIx
    simp
    omega
  rw [e, List.drop_zero, Nat.sub_zero]
  unfold tTa
  rw [List.dropLast_eq_take, List.map_take]
theorem cut_first (w : List (List Nat)) (h : 1 ≤ w.length) : cutW (.dat (tTa w)) (some 1) none = M.pur (tTa (w.drop 1)) := by
  show M.pur (PyData.tuple (cutD (w.map nTu) (some ((1 : Nat) : Int)) none)) = _
  unfold cutD
  rw [HT.sIx_none, HT.sIx_nat, List.length_map, Nat.min_eq_left h]
  unfold tTa
  rw [List.map_drop, List.take_of_length_le (by simp)]
theorem rep_true {k : Nat} (h1 : 1 ≤ k) (h2 : k ≤ 1000) : repTW (.dat (.tuple [.bool true])) (.dat (.int (k : Int))) = M.pur (.tuple (List.replicate k (.bool true))) := by
  show need (![PyData.bool true].isEmpty && decide (1 ≤ (k : Int)) && decide ((k : Int) ≤ 1000) && decide ([PyData.bool true].length ≤ 1000)) (M.pur (PyData.tuple (List.replicate (k : Int).toNat [PyData.bool true]).flatten)) = _
  rw [need_of (by simp only [Bool.and_eq_true, decide_eq_true_eq]; refine ⟨⟨⟨rfl, by omega⟩, by omega⟩, by simp⟩), Int.toNat_natCast]
  congr 2
  clear h1 h2
  induction k with
  | zero => rfl
  | succ k ih =>
    rw [List.replicate_succ, List.flatten_cons, List.replicate_succ, ih]
    rfl
theorem add_truth {x : D} {rest : List (List Nat)} (h : rest.length ≤ 1000) : addV (.dat (.tuple [x])) (.dat (tTa rest)) = M.pur (.tuple (x :: rest.map nTu)) := by
  show need (lenOk ([x].length + (rest.map nTu).length)) (M.pur (PyData.tuple ([x] ++ rest.map nTu))) = _
  rw [need_of (lenOk_of (by simp; omega))]
  rfl
theorem lisW_tup_at (r : List Nat) (g : Sg) : lisW (.dat (.tuple (r.map fun (k : Nat) => PyData.int (k : Int)))) g = .ok (r.map fun (k : Nat) => PyData.int (k : Int), g) := Eq.trans rfl rfl
section
variable {PT : Addr} {b : List D} {e0 e2 e3 e4 e6 e7 e8 e9 e10 e11 e12 e13 e14 e15 e16 e17 e18 e19 : Ent}
variable {t u w : List (List Nat)} {s many N : Nat}
theorem lb0_at (hl : w.length ≤ 1000) : lb0 ⟨some b, [e0, .un, e2, e3, e4, .im (tTa w), e6, e7, e8, e9, e10, e11, e12, e13, e14, e15, e16, e17, e18, e19, .un], some PT⟩ = .ok (.nx, ⟨some b, [e0, .un, e2, e3, e4, .im (tTa w), e6, e7, .oo (w.map iL), e9, e10, e11, e12, e13, e14, e15, e16, e17, e18, e19, .un], some PT⟩) := by
  have lc := lcF_map (β := List D) (i := 20) (t := some PT) (b := some b) (es := [e0, .un, e2, e3, e4, .im (tTa w), e6, e7, e8, e9, e10, e11, e12, e13, e14, e15, e16, e17, e18, e19, .un]) (fi := (sV 1 (nam 5)).bind seqF) (g := ⟨some b, [e0, .un, e2, e3, e4, .im (tTa w), e6, e7, e8, e9, e10, e11, e12, e13, e14, e15, e16, e17, e18, e19, .un], some PT⟩)
    (fe := ((sCons (nam 20) sNil).bind (arg1N lisW))) (F := fun d => match d with
      | .tuple ds => ds
      | _ => []) (ds := w.map nTu) (by simp [seqF_tTa]) (by rfl) (by rw [List.length_map]; omega) (by simp) (fun d hd => by
      obtain ⟨r, hr, rfl⟩ := List.mem_map.mp hd
      simp [nTu]
      exact lisW_tup_at _ _)
  rw [List.map_map] at lc
  replace lc : lcF [20] ((sV 1 (nam 5)).bind seqF) (put 20) (M.pur true) (lastF ((sCons (nam 20) sNil).bind (arg1N lisW))) ⟨some b, [e0, .un, e2, e3, e4, .im (tTa w), e6, e7, e8, e9, e10, e11, e12, e13, e14, e15, e16, e17, e18, e19, .un], some PT⟩ = .ok (w.map iL, ⟨some b, [e0, .un, e2, e3, e4, .im (tTa w), e6, e7, e8, e9, e10, e11, e12, e13, e14, e15, e16, e17, e18, e19, .un], some PT⟩) := lc
  unfold lb0
  simp [lc]
theorem lb1_at {b1 b2 : List D} {x y L : Int} {T : D} {e5 e20 : Ent} (hl : lenW (.dat T) = M.pur (.int L)) (h1 : f__law_draw b [.int L] = .ok (.int x, b1)) (h2 : f__law_draw b1 [.int L] = .ok (.int y, b2)) : lb1 ⟨some b, [e0, .un, e2, e3, .im T, e5, e6, e7, e8, e9, e10, e11, e12, e13, e14, e15, e16, e17, e18, e19, e20], some PT⟩ = .ok (.nx, ⟨some b2, [e0, .un, e2, e3, .im T, e5, e6, e7, e8, .im (.int x), .im (.int y), e11, e12, e13, e14, e15, e16, e17, e18, e19, e20], some PT⟩) := by
  unfold lb1
  simp [hl, h1, h2]
theorem lb2_at {b1 : List D} {x y v : Nat} {mn : Int} {e5 e20 : Ent} (hx : x < w.length) (hy : y < (rowAt w x).length) (h1 : f__law_draw b [.int (mn + 1)] = .ok (.int (v : Int), b1)) : lb2 ⟨some b, [e0, .un, e2, .im (.int mn), e4, e5, e6, e7, .oo (w.map iL), .im (.int (x : Int)), .im (.int (y : Int)), e11, e12, e13, e14, e15, e16, e17, e18, e19, e20], some PT⟩ = .ok (.nx, ⟨some b1, [e0, .un, e2, .im (.int mn), e4, e5, e6, e7, .oo ((setC w x y v).map iL), .im (.int (x : Int)), .im (.int (y : Int)), e11, e12, e13, e14, e15, e16, e17, e18, e19, e20], some PT⟩) := by
  have wx : (w.map iL)[x]? = some (iL (rowAt w x)) := by
    unfold rowAt
    simp [hx]
  have st : stOO 8 9 10 (.int (v : Int)) ⟨some b1, [e0, .un, e2, .im (.int mn), e4, e5, e6, e7, .oo (w.map iL), .im (.int (x : Int)), .im (.int (y : Int)), e11, e12, e13, e14, e15, e16, e17, e18, e19, e20], some PT⟩ = .ok ((), ⟨some b1, [e0, .un, e2, .im (.int mn), e4, e5, e6, e7, .oo ((setC w x y v).map iL), .im (.int (x : Int)), .im (.int (y : Int)), e11, e12, e13, e14, e15, e16, e17, e18, e19, e20], some PT⟩) := by
    have l1 : (iL (rowAt w x)).length = (rowAt w x).length := by unfold iL; rw [List.length_map]
    have l2 : (w.map iL).length = w.length := List.length_map ..
    have ss : (w.map iL).set x ((iL (rowAt w x)).set y (.int (v : Int))) = (setC w x y v).map iL := by
      unfold setC
      rw [List.map_set]
      congr 1
      unfold iL
      rw [List.map_set]
    unfold stOO
    simp [ixN_nat hx, wx, l1, ixN_nat hy, ss]
  generalize (setC w x y v).map iL = W at st ⊢
  generalize w.map iL = W0 at st ⊢
  unfold lb2
  simp [h1, st]
end
end DL
set_option maxRecDepth 100000
set_option maxHeartbeats 1000000
/-! M29: the loop over spoilt weights, in all. -/
namespace DL
open PySem PySem.Spec L2
def lnL (W : List (List Nat)) : D := .list ((W.map iL).map .list)
section
variable {PT : Addr} {b : List D} {e0 e2 e3 e4 e6 e7 e8 e9 e10 e11 e12 e13 e14 e15 e16 e17 e18 e19 : Ent}
variable {t u w : List (List Nat)} {s many N : Nat}
theorem lb3_lc {W : List (List Nat)} {e5 e8 : Ent} (hl : W.length ≤ 1000) (h8 : e8 = .oo (W.map iL) ∨ e8 = .im (lnL W)) : lcF [20] ((sV 1 (nam 8)).bind seqF) (put 20) (M.pur true) (lastF ((sCons (nam 20) sNil).bind (arg1 tupW))) ⟨some b, [e0, .un, e2, e3, e4, e5, e6, e7, e8, e9, e10, e11, e12, e13, e14, e15, e16, e17, e18, e19, .un], some PT⟩ = .ok (W.map nTu, ⟨some b, [e0, .un, e2, e3, e4, e5, e6, e7, .im (lnL W), e9, e10, e11, e12, e13, e14, e15, e16, e17, e18, e19, .un], some PT⟩) := by
  have lc := lcF_map (i := 20) (t := some PT) (b := some b) (es := [e0, .un, e2, e3, e4, e5, e6, e7, .im (lnL W), e9, e10, e11, e12, e13, e14, e15, e16, e17, e18, e19, .un]) (fi := (sV 1 (nam 8)).bind seqF) (g := ⟨some b, [e0, .un, e2, e3, e4, e5, e6, e7, e8, e9, e10, e11, e12, e13, e14, e15, e16, e17, e18, e19, .un], some PT⟩)
    (fe := ((sCons (nam 20) sNil).bind (arg1 tupW))) (F := fun d => match d with
      | .list ds => .tuple ds
      | _ => .none) (ds := (W.map iL).map .list) (by
        rcases h8 with rfl | rfl
        · simp [lnL]
        · simp [lnL]) (by rfl) (by rw [List.length_map, List.length_map]; omega) (by simp) (fun d hd => by
      obtain ⟨r, hr, rfl⟩ := List.mem_map.mp hd
      simp)
  rw [List.map_map, List.map_map] at lc
  exact lc
theorem lb3_at {W : List (List Nat)} {T RW Wd TT W1 Wt d : D} {L : Int} {b' : List D} {e10 : Ent} (hl : W.length ≤ 1000) (h1 : f__law_pick b [.list [tTa W, tTa W, Wd, lnL W, .none, Wt]] = .ok (d, b')) (c1 : cutW (.dat RW) none (some (-1)) = M.pur Wd) (h2 : lenW (.dat T) = M.pur (.int L)) (h3 : repTW (.dat (.tuple [.bool true])) (.dat (.int L)) = M.pur TT) (c2 : cutW (.dat RW) (some 1) none = M.pur W1) (ad : addV (.dat (.tuple [TT])) (.dat W1) = M.pur Wt) :
    lb3 ⟨some b, [e0, .un, e2, e3, .im T, .im RW, e6, e7, .oo (W.map iL), e9, e10, e11, e12, e13, e14, e15, e16, e17, e18, e19, .un], some PT⟩ = .ok (.nx, ⟨some b', [e0, .un, e2, e3, .im T, .im RW, e6, e7, .im (lnL W), e9, e10, .im d, e12, e13, e14, e15, e16, e17, e18, e19, .un], some PT⟩) := by
  have l1 := lb3_lc (PT := PT) (b := b) (e0 := e0) (e2 := e2) (e3 := e3) (e4 := .im T) (e5 := .im RW) (e6 := e6) (e7 := e7) (e9 := e9) (e10 := e10) (e11 := e11) (e12 := e12) (e13 := e13) (e14 := e14) (e15 := e15) (e16 := e16) (e17 := e17) (e18 := e18) (e19 := e19) hl (.inl rfl)
  have l2 := lb3_lc (PT := PT) (b := b) (e0 := e0) (e2 := e2) (e3 := e3) (e4 := .im T) (e5 := .im RW) (e6 := e6) (e7 := e7) (e9 := e9) (e10 := e10) (e11 := e11) (e12 := e12) (e13 := e13) (e14 := e14) (e15 := e15) (e16 := e16) (e17 := e17) (e18 := e18) (e19 := e19) hl (.inr rfl)
  have tw : PyData.tuple (W.map nTu) = tTa W := rfl
  generalize lnL W = LW at *
  generalize W.map nTu = WT at l1 l2 tw
  generalize W.map iL = WI at l1 ⊢
  generalize tTa W = TW at *
  have ng : negD (.int 1) = M.pur (.int (-1)) := Eq.trans rfl rfl
  unfold lb3
  simp [l1, l2, tw, ng, c1, h2, h3, c2, ad, tupF, lstF, lenOk_of, need_of, h1]
theorem lb4_at {b' : List D} {d : D} {mn : Int} {e5 e20 : Ent} (h : f__law_pick b [.list [.int mn, .int mn, .int mn, .int 1, .int 13, .bool true, .none]] = .ok (d, b')) : lb4 ⟨some b, [e0, .un, e2, .im (.int mn), e4, e5, e6, e7, e8, e9, e10, e11, e12, e13, e14, e15, e16, e17, e18, e19, e20], some PT⟩ = .ok (.nx, ⟨some b', [e0, .un, e2, .im (.int mn), e4, e5, e6, e7, e8, e9, e10, e11, .im d, e13, e14, e15, e16, e17, e18, e19, e20], some PT⟩) := by
  unfold lb4
  simp [lstF, lenOk_of, need_of, h]
theorem lb5_at {T x o due : D} {e5 e20 : Ent} (h : f__law_fault [T, x, o] = .ok due) : lb5 ⟨some b, [e0, .un, e2, e3, .im T, e5, e6, e7, e8, e9, e10, .im x, .im o, e13, e14, e15, e16, e17, e18, e19, e20], some PT⟩ = .ok (.nx, ⟨some b, [e0, .un, e2, e3, .im T, e5, e6, e7, e8, e9, e10, .im x, .im o, .im due, e14, e15, e16, e17, e18, e19, e20], some PT⟩) := by
  unfold lb5
  simp [h]
theorem lb6_at {T x o due : D} {e5 e20 : Ent} (h : f_weights_fault [T, x, o] = .ok due) (h2 : f__law_same [due, due] = .ok (.bool true)) : lb6 ⟨some b, [e0, .un, e2, e3, .im T, e5, e6, e7, e8, e9, e10, .im x, .im o, .im due, e14, e15, e16, e17, e18, e19, e20], some PT⟩ = .ok (.nx, ⟨some b, [e0, .un, e2, e3, .im T, e5, e6, e7, e8, e9, e10, .im x, .im o, .im due, e14, e15, e16, e17, e18, e19, e20], some PT⟩) := by
  unfold lb6
  simp [h, h2]
theorem ne_ref (y : Str) (h1 : SeqAt.shaped (PyData.list [.str "refused", .str y]) = true) (h2 : PyData.eqv (.list [.str "refused", .str y]) (.list [.str "refused", .str y]) = true) : neV' (.dat (.list [.str "refused", .str y])) (.dat (.list [.str "refused", .str y])) = M.pur (.bool false) := by
  show need (SeqAt.shaped (PyData.list [.str "refused", .str y]) && SeqAt.shaped (PyData.list [.str "refused", .str y])) (M.pur (PyData.bool (!PyData.eqv (.list [.str "refused", .str y]) (.list [.str "refused", .str y])))) = _
  rw [h2]
  exact need_of (by rw [h1]; rfl) _
theorem lb7_no {e5 e20 : Ent} : lb7 PT ⟨some b, [e0, .un, e2, e3, e4, e5, e6, e7, e8, e9, e10, e11, e12, .im .none, e14, e15, e16, e17, e18, e19, e20], some PT⟩ = .ok (.nx, ⟨some b, [e0, .un, e2, e3, e4, e5, e6, e7, e8, e9, e10, e11, e12, .im .none, e14, e15, e16, e17, e18, e19, e20], some PT⟩) := by
  unfold lb7
  simp
theorem lb7_fe {T x o : D} {c0 c1 c2 c3 c5 c6 c7 c8 c9 c10 c13 c14 c15 c16 c17 c18 c19 c20 : Ent} {y : Str} (h : f_weighed_colourings [.int 2, .tuple [.int 1], T, x, o] = .er "Refused" (.str y)) :
    (sCall 1 (sCons (sD (M.pur (.int 2))) (sCons (sD (sTup 1 (sCons (sD (M.pur (.int 1))) sNil))) (sCons (nam 4) (sCons (nam 11) (sCons (nam 12) sNil))))) f_weighed_colourings) ⟨none, [c0, c1, c2, c3, .im T, c5, c6, c7, c8, c9, c10, .im x, .im o, c13, c14, c15, c16, c17, c18, c19, c20], none⟩ = .er "Refused" (.str y) := by
  simp [tupF, lenOk_of, need_of, h]
theorem lb7_at {T x o : D} {y : Str} {e5 e20 : Ent} (h : f_weighed_colourings [.int 2, .tuple [.int 1], T, x, o] = .er "Refused" (.str y)) (h1 : SeqAt.shaped (PyData.list [.str "refused", .str y]) = true) (h2 : PyData.eqv (.list [.str "refused", .str y]) (.list [.str "refused", .str y]) = true) : lb7 PT ⟨some b, [e0, .un, e2, e3, .im T, e5, e6, e7, e8, e9, e10, .im x, .im o, .im (.str y), e14, e15, e16, e17, e18, e19, e20], some PT⟩ = .ok (.nx, ⟨some b, [e0, .un, e2, e3, .im T, e5, e6, e7, e8, e9, e10, .im x, .im o, .im (.str y), e14, e15, e16, e17, e18, e19, e20], some PT⟩) := by
  have e := told_er (PT := PT) (b := b) (es := [e0, .un, e2, e3, .im T, e5, e6, e7, e8, e9, e10, .im x, .im o, .im (.str y), e14, e15, e16, e17, e18, e19, e20]) (lb7_fe (c0 := dimE e0) (c1 := dimE .un) (c2 := dimE e2) (c3 := dimE e3) (c5 := dimE e5) (c6 := dimE e6) (c7 := dimE e7) (c8 := dimE e8) (c9 := dimE e9) (c10 := dimE e10) (c13 := dimE (.im (.str y))) (c14 := dimE e14) (c15 := dimE e15) (c16 := dimE e16) (c17 := dimE e17) (c18 := dimE e18) (c19 := dimE e19) (c20 := dimE e20) h) tag_refused
  have nv := ne_ref y h1 h2
  unfold lb7
  generalize toldS PT _ = X at e ⊢
  simp [e, lstF, lenOk_of, need_of, nv]
inductive SpOk (s : Nat) : D → Prop
  | sq (W : List (List Nat)) : Sqr W s → SpOk s (tTa W)
  | bad {d : D} : BadShape s d → SpOk s d
  | tru (rest : List (List Nat)) : rest.length + 1 = s → SpOk s (truT s rest)
theorem due_ok {x o : D} (Ht : Good t s) (h2 : 2 ≤ many) (h12 : many ≤ 12) (hx : SpOk s x) (ho : o = .int (many : Int) ∨ BadMany o) : ∃ due, f__law_fault [tTa t, x, o] = .ok due ∧ f_weights_fault [tTa t, x, o] = .ok due ∧ DueOk due := by
  rcases ho with rfl | ho
  · cases hx with
    | sq W hW => exact ⟨_, lf_good Ht hW h2 h12, wf_good Ht hW h2 h12, fault_due ..⟩
    | bad h => exact ⟨_, lf_shape Ht h2 h12 h, wf_shape Ht h2 h12 h, .w⟩
    | tru rest h => exact ⟨_, lf_truth Ht h2 h12 h, wf_truth Ht h2 h12 h, .w⟩
  · exact ⟨_, lf_many Ht x ho, wf_many Ht x ho, .w⟩
def LpS (PT : Addr) (e0 e2 e6 : Ent) (t w : List (List Nat)) (many N j : Nat) (g : Sg) : Prop := ∃ (b : List D) (e7 e8 e9 e10 e11 e12 e13 : Ent), g = ⟨some b, [e0, .un, e2, .im (.int (many : Int)), .im (tTa t), .im (tTa w), e6, e7, e8, e9, e10, e11, e12, e13, .un, .un, .un, .un, .un, .un, .un], some PT⟩ ∧ Bx (N + 5 * j) b
theorem lp_body (h : Wt t u w s many) (hN : N ≤ 100000) {j : Nat} (hj : j < 100) {g : Sg} (hg : LpS PT e0 e2 e6 t w many N j g) : ∃ g', lBody PT g = .ok (.nx, g') ∧ LpS PT e0 e2 e6 t w many N (j + 1) g' := by
  obtain ⟨b, e7, e8, e9, e10, e11, e12, e13, rfl, hb⟩ := hg
  have s1 := h.g.s1
  have s5 := h.g.s5
  have lt := len_tTa t
  rw [h.g.len] at lt
  have wl : w.length = s := h.q.len
  obtain ⟨x, b1, hx, d1, hb1⟩ := draw_ok hb (by omega) (show 0 < s by omega)
  obtain ⟨y, b2, hy, d2, hb2⟩ := draw_ok hb1 (by omega) (show 0 < s by omega)
  obtain ⟨v, b3, hv, d3, hb3⟩ := draw_ok hb2 (by omega) (show 0 < many + 1 by omega)
  have d3' : f__law_draw b2 [.int ((many : Int) + 1)] = .ok (.int (v : Int), b3) := d3
  have W := setC_sqr (a := x) (b := y) (v := v) h.q
  have cl := cut_last w
  have cf := cut_first w (by omega)
  have rt := rep_true (k := s) s1 (by omega)
  have ad := add_truth (x := .tuple (List.replicate s (.bool true))) (rest := w.drop 1) (by simp; omega)
  obtain ⟨sp, b4, hsp, d4, hb4⟩ := pick_ok (ds := [tTa (setC w x y v), tTa (setC w x y v), tTa w.dropLast, lnL (setC w x y v), .none, .tuple (.tuple (List.replicate s (.bool true)) :: (w.drop 1).map nTu)]) hb3 (by omega) (by simp)
  obtain ⟨o, b5, ho, d5, hb5⟩ := pick_ok (ds := [.int (many : Int), .int (many : Int), .int (many : Int), .int 1, .int 13, .bool true, .none]) hb4 (by omega) (by simp)
  have hsp' : SpOk s sp := by
    simp only [List.mem_cons, List.not_mem_nil, or_false] at hsp
    rcases hsp with rfl | rfl | rfl | rfl | rfl | rfl
    · exact .sq _ W
    · exact .sq _ W
    · exact .bad (.len _ (by rw [List.length_dropLast, wl]; omega))
    · exact .bad (.lst _)
    · exact .bad .non
    · exact .tru (w.drop 1) (by rw [List.length_drop, wl]; omega)
  have ho' : o = .int (many : Int) ∨ BadMany o := by
    simp only [List.mem_cons, List.not_mem_nil, or_false] at ho
    rcases ho with rfl | rfl | rfl | rfl | rfl | rfl | rfl
    · exact .inl rfl
    · exact .inl rfl
    · exact .inl rfl
    · exact .inr .one
    · exact .inr .big
    · exact .inr .tru
    · exact .inr .non
  obtain ⟨due, f1, f2, f3⟩ := due_ok h.g h.m2 h.m12 hsp' ho'
  have sm := due_same f3
  have o7 : ∃ g', lb7 PT ⟨some b5, [e0, .un, e2, .im (.int (many : Int)), .im (tTa t), .im (tTa w), e6, e7, .im (lnL (setC w x y v)), .im (.int (x : Int)), .im (.int (y : Int)), .im sp, .im o, .im due, .un, .un, .un, .un, .un, .un, .un], some PT⟩ = .ok (.nx, g') ∧ g' = ⟨some b5, [e0, .un, e2, .im (.int (many : Int)), .im (tTa t), .im (tTa w), e6, e7, .im (lnL (setC w x y v)), .im (.int (x : Int)), .im (.int (y : Int)), .im sp, .im o, .im due, .un, .un, .un, .un, .un, .un, .un], some PT⟩ := by
    cases f3 with
    | non => exact ⟨_, lb7_no, rfl⟩
    | w => exact ⟨_, lb7_at (wc_fault h.g f2 .w (by simp)) (by decide +kernel) (by decide +kernel), rfl⟩
    | s => exact ⟨_, lb7_at (wc_fault h.g f2 .s (by simp)) (by decide +kernel) (by decide +kernel), rfl⟩
    | t => exact ⟨_, lb7_at (wc_fault h.g f2 .t (by simp)) (by decide +kernel) (by decide +kernel), rfl⟩
  obtain ⟨g', o7, rfl⟩ := o7
  refine ⟨⟨some b5, [e0, .un, e2, .im (.int (many : Int)), .im (tTa t), .im (tTa w), e6, e7, .im (lnL (setC w x y v)), .im (.int (x : Int)), .im (.int (y : Int)), .im sp, .im o, .im due, .un, .un, .un, .un, .un, .un, .un], some PT⟩, ?_, b5, e7, .im (lnL (setC w x y v)), .im (.int (x : Int)), .im (.int (y : Int)), .im sp, .im o, .im due, rfl, hb5.le (by omega)⟩
  unfold lBody
  exact sq_nx (lb0_at (by omega)) (sq_nx (lb1_at lt d1 d2) (sq_nx (lb2_at (by omega) (by rw [h.q.row x hx]; exact hy) d3') (sq_nx (lb3_at (by rw [W.len]; omega) d4 cl lt rt cf ad) (sq_nx (lb4_at d5) (sq_nx (lb5_at f1) (sq_nx (lb6_at f2 sm) o7))))))
theorem lw4_ok (h : Wt t u w s many) (hN : N ≤ 100000) (hb : Bx N b) : ∃ g', lw4 PT ⟨some b, [e0, .un, e2, .im (.int (many : Int)), .im (tTa t), .im (tTa w), e6, e7, e8, e9, e10, e11, e12, e13, .un, .un, .un, .un, .un, .un, .un], some PT⟩ = .ok (.nx, g') ∧ LpS PT e0 e2 e6 t w many N 4 g' := by
  have st := for_foldN (ga := put 7) (fb := lBody PT) (S := Unit) (X := Nat) (f := fun (k : Nat) => PyData.int (k : Int)) (step := fun s _ => s) (I := fun j _ g => LpS PT e0 e2 e6 t w many N j g) (xs := List.range 4) (k := 0) (n := 4) rfl (fun k hk j _ g hj hg => by
    obtain ⟨b, e7, e8, e9, e10, e11, e12, e13, rfl, hb⟩ := hg
    have hg2 : LpS PT e0 e2 e6 t w many N j ⟨some b, [e0, .un, e2, .im (.int (many : Int)), .im (tTa t), .im (tTa w), e6, .im (.int (k : Int)), e8, e9, e10, e11, e12, e13, .un, .un, .un, .un, .un, .un, .un], some PT⟩ := ⟨b, _, _, _, _, _, _, _, rfl, hb⟩
    obtain ⟨g', e, hg'⟩ := lp_body h hN (by omega) hg2
    exact ⟨_, _, rfl, e, hg'⟩) () ⟨some b, [e0, .un, e2, .im (.int (many : Int)), .im (tTa t), .im (tTa w), e6, e7, e8, e9, e10, e11, e12, e13, .un, .un, .un, .un, .un, .un, .un], some PT⟩ ⟨b, _, _, _, _, _, _, _, rfl, hb.le (by omega)⟩
  obtain ⟨g', e, hg'⟩ := st
  refine ⟨g', ?_, hg'⟩
  have rg := rg1_at (n := 4) (by omega)
  rw [rg_nat] at rg
  have rg' : rg1 [.dat (.int 4)] = M.pur ((List.range 4).map fun (k : Nat) => PyData.int (k : Int)) := rg
  generalize ((List.range 4).map fun (k : Nat) => PyData.int (k : Int)) = R at rg' e
  generalize tTa t = T at e ⊢
  generalize tTa w = TW at e ⊢
  unfold lw4
  simp [rg', e]
end
end DL
set_option maxRecDepth 100000
set_option maxHeartbeats 1000000
/-! M30: the head of law; the plain law. -/
namespace DL
open PySem PySem.Spec L2
section
variable {β : Type} {i : Nat} {fe : M β}
theorem lc_box {I : Nat → List D → Prop} {t : Option Addr} {es : List Ent} {F : β → Prop} {n : Nat} : ∀ {ds : List D} {k : Nat}, k + ds.length ≤ n → i < es.length → (∀ d ∈ ds, ∀ k b, k < n → I k b → ∃ b' r, fe ⟨some b, es.set i (.im d), t⟩ = .ok (r, ⟨some b', es.set i (.im d), t⟩) ∧ F r ∧ I (k + 1) b') →
    ∀ b, I k b → ∃ b' rs, lcL [i] (put i) (M.pur true) (lastF fe) ds ⟨some b, es.set i .un, t⟩ = .ok (rs, ⟨some b', es.set i .un, t⟩) ∧ rs.length = ds.length ∧ (∀ r ∈ rs, F r) ∧ I (k + ds.length) b'
  | [], k, _, _, _, b, h => ⟨b, [], rfl, rfl, (fun r hr => by cases hr), h⟩
  | d :: ds, k, hn, hi, st, b, h => by
    rw [List.length_cons] at hn
    obtain ⟨b1, r, e1, hF, hI⟩ := st d (List.mem_cons_self ..) k b (by omega) h
    obtain ⟨b2, rs, e3, e4, e5, e6⟩ := lc_box (ds := ds) (k := k + 1) (by omega) hi (fun d' hd' => st d' (List.mem_cons_of_mem _ hd')) b1 hI
    refine ⟨b2, r :: rs, ?_, by rw [List.length_cons, List.length_cons, e4], fun x hx => ?_, by rw [List.length_cons, show k + (ds.length + 1) = k + 1 + ds.length by omega]; exact e6⟩
    · unfold lcL
      simp [clr, clrE, e1, e3]
    · rcases List.mem_cons.mp hx with y | y
      · rw [y]; exact hF
      · exact e5 x y
theorem lcF_box {I : Nat → List D → Prop} {t : Option Addr} {es : List Ent} {F : β → Prop} {fi : M (List D)} {g : Sg} {ds : List D} {b : List D} (hfi : fi g = .ok (ds, ⟨some b, es, t⟩)) (hk : keepable ⟨some b, es, t⟩ [i] = true) (hn : ds.length ≤ 16777216) (hi : i < es.length) (hb : I 0 b)
    (st : ∀ d ∈ ds, ∀ k b, k < ds.length → I k b → ∃ b' r, fe ⟨some b, es.set i (.im d), t⟩ = .ok (r, ⟨some b', es.set i (.im d), t⟩) ∧ F r ∧ I (k + 1) b') :
    ∃ b' rs, lcF [i] fi (put i) (M.pur true) (lastF fe) g = .ok (rs, ⟨some b', es, t⟩) ∧ rs.length = ds.length ∧ (∀ r ∈ rs, F r) ∧ I ds.length b' := by
  obtain ⟨b', rs, e, h1, h2, h3⟩ := lc_box (F := F) (n := ds.length) (ds := ds) (k := 0) (by omega) hi st b hb
  rw [Nat.zero_add] at h3
  refine ⟨b', rs, ?_, h1, h2, h3⟩
  unfold lcF
  rw [bind_at, hfi, rbind_ok]
  simp only [hk, if_true, clrE, e]
  rw [if_pos (by unfold lenOk; exact decide_eq_true (by omega)), resE_one hi]
end
theorem nats_of {m : Nat} : ∀ {rs : List D}, (∀ r ∈ rs, ∃ v : Nat, v < m ∧ r = .int (v : Int)) → ∃ ns : List Nat, rs = ns.map fun (k : Nat) => PyData.int (k : Int)
  | [], _ => ⟨[], rfl⟩
  | r :: rs, h => by
    obtain ⟨v, _, rfl⟩ := h r (List.mem_cons_self ..)
    obtain ⟨ns, rfl⟩ := nats_of (rs := rs) fun x hx => h x (List.mem_cons_of_mem _ hx)
    exact ⟨v :: ns, rfl⟩
/-! the tables of law -/
theorem Wt.known : Wt tk uk rk 4 2 := ⟨goodk, backk, ⟨rfl, by decide +kernel⟩, ⟨by decide +kernel, by decide +kernel⟩, by decide +kernel, by decide, by decide⟩
theorem edge_lt2 {t : List (List Nat)} {nums : List Nat} {s many : Nat} (hm : 0 < many) : fltR (edgeT t nums s many) many = false := by
  unfold fltR
  rw [List.any_eq_false]
  intro r hr
  rw [Bool.not_eq_true, List.any_eq_false]
  intro x hx
  unfold edgeT at hr
  obtain ⟨a, _, rfl⟩ := List.mem_map.mp hr
  obtain ⟨b, _, rfl⟩ := List.mem_map.mp hx
  have := edge_lt (t := t) (nums := nums) hm a b
  simp
  omega
theorem Wt.edge {t u : List (List Nat)} {s many : Nat} (nums : List Nat) (g : Good t s) (b : Back t u s) (m2 : 2 ≤ many) (m12 : many ≤ 12) : Wt t u (edgeT t nums s many) s many :=
  ⟨g, b, edge_sqr, edge_coc ⟨g.lt, b.lt, g.idem, b.l1, b.l2, g.dist⟩ (edge_edge (by omega)) (fun a ha c hc => by rw [edge_ent ha hc]; exact edge_lt (by omega) a c), edge_lt2 (by omega), m2, m12⟩
section
variable {PT : Addr} {b : List D} {e0 e2 e3 e4 e5 e6 e7 e8 e9 e10 e11 e12 e13 e14 e15 e16 e17 e18 e19 e20 : Ent}
variable {t u w : List (List Nat)} {s many N : Nat}
def el0 : M Out := (uSet 4 (sCallB 1 (sCons (sD (sL (sLst 1 (sCons (sD (sCall 1 (sCons (sD (M.pur (.int 3))) sNil) f_turned_table)) (sCons (sD (sCall 1 (sCons (sD (M.pur (.int 4))) sNil) f_turned_table)) (sCons (sD (sCall 1 (sCons (sD (M.pur (.int 5))) (sCons (sD (M.pur (.int 2))) sNil)) f_shifted_table)) (sCons (sD (sCall 1 (sCons (sD (M.pur (.int 2))) sNil) f_turned_table)) sNil))))))) sNil) f__law_pick))
def el1 : M Out := (uSet 6 (sL (lcF [9] ((sCons (sD ((sCons (nam 4) sNil).bind (arg1 lenW))) sNil).bind rg1) (put 9) (M.pur true) (lastF (sCallB 1 (sCons (nam 3) sNil) f__law_draw)))))
def elIn : M (List D) := (lcF [10] ((sCons (sD ((sCons (nam 4) sNil).bind (arg1 lenW))) sNil).bind rg1) (put 10) (M.pur true) (lastF (s2 (sD (s2 (sD (s2 (nam 6) (nam 9) atW)) (sD (s2 (nam 6) (sD (s2 (sD (s2 (nam 4) (nam 9) atW)) (nam 10) atW)) atW)) subV)) (nam 3) modV)))
def el2 : M Out := (uSet 5 ((sCons (sD (sL (lcF [9] ((sCons (sD ((sCons (nam 4) sNil).bind (arg1 lenW))) sNil).bind rg1) (put 9) (M.pur true) (lastF ((sCons (sD (sL elIn)) sNil).bind (arg1 tupW)))))) sNil).bind (arg1 tupW)))
def el3 : M Out := (uIf (sNot (sT (sCall 1 (sCons (sD (sCall 1 (sCons (nam 4) (sCons (nam 6) (sCons (nam 3) sNil))) f_edge_weights)) (sCons (nam 5) sNil)) f__law_same))) (uRet (M.pur (.bool false))) (M.pur .nx))
theorem lw2_eq : lw2 = (uIf (sT (s2 (nam 2) (sD (M.pur (.int 0))) eqV')) (sq (uAsg (callD f__law_known []) (tupG 2 (gsCons (put 4) (gsCons (put 5) gsNil)))) (uSet 3 (M.pur (.int 2)))) (sq el0 (sq el1 (sq el2 el3)))) := rfl
theorem el0_at {b' : List D} {a1 a2 a3 a4 d : D} (h1 : f_turned_table [.int 3] = .ok a1) (h2 : f_turned_table [.int 4] = .ok a2) (h3 : f_shifted_table [.int 5, .int 2] = .ok a3) (h4 : f_turned_table [.int 2] = .ok a4) (h : f__law_pick b [.list [a1, a2, a3, a4]] = .ok (d, b')) :
    el0 ⟨some b, [e0, .un, e2, e3, e4, e5, e6, e7, e8, e9, e10, e11, e12, e13, e14, e15, e16, e17, e18, e19, e20], some PT⟩ = .ok (.nx, ⟨some b', [e0, .un, e2, e3, .im d, e5, e6, e7, e8, e9, e10, e11, e12, e13, e14, e15, e16, e17, e18, e19, e20], some PT⟩) := by
  unfold el0
  simp [h1, h2, h3, h4, lstF, lenOk_of, need_of, h]
theorem el1_at (g : Good t s) (hm : 0 < many) (hb : Bx N b) (hN : N ≤ 900000) : ∃ (nums : List Nat) (b' : List D), nums.length = s ∧ Bx (N + s) b' ∧
    el1 ⟨some b, [e0, .un, e2, .im (.int (many : Int)), .im (tTa t), e5, e6, e7, e8, .un, e10, e11, e12, e13, e14, e15, e16, e17, e18, e19, e20], some PT⟩ = .ok (.nx, ⟨some b', [e0, .un, e2, .im (.int (many : Int)), .im (tTa t), e5, .im (nL nums), e7, e8, .un, e10, e11, e12, e13, e14, e15, e16, e17, e18, e19, e20], some PT⟩) := by
  have s5 := g.s5
  have rg := rg1_at (n := s) (by omega)
  rw [rg_nat] at rg
  have lt := len_tTa t
  rw [g.len] at lt
  obtain ⟨b', rs, e, h1, h2, h3⟩ := lcF_box (i := 9) (I := fun k b => Bx (N + k) b) (F := fun r => ∃ v : Nat, v < many ∧ r = PyData.int (v : Int)) (t := some PT) (es := [e0, .un, e2, .im (.int (many : Int)), .im (tTa t), e5, e6, e7, e8, .un, e10, e11, e12, e13, e14, e15, e16, e17, e18, e19, e20]) (b := b) (fi := ((sCons (sD ((sCons (nam 4) sNil).bind (arg1 lenW))) sNil).bind rg1)) (fe := sCallB 1 (sCons (nam 3) sNil) f__law_draw) (g := ⟨some b, [e0, .un, e2, .im (.int (many : Int)), .im (tTa t), e5, e6, e7, e8, .un, e10, e11, e12, e13, e14, e15, e16, e17, e18, e19, e20], some PT⟩)
    (ds := (List.range s).map fun (k : Nat) => PyData.int (k : Int)) (by simp [lt, rg]) (by rfl) (by rw [List.length_map, List.length_range]; omega) (by simp) hb (fun d hd k b hk hb => by
      rw [List.length_map, List.length_range] at hk
      obtain ⟨v, b', hv, e, hb'⟩ := draw_ok hb (by omega) hm
      exact ⟨b', _, by simp [e], ⟨v, hv, rfl⟩, hb'⟩)
  rw [List.length_map, List.length_range] at h1 h3
  obtain ⟨nums, rfl⟩ := nats_of h2
  rw [List.length_map] at h1
  refine ⟨nums, b', h1, h3, ?_⟩
  generalize hX : (nums.map fun (k : Nat) => PyData.int (k : Int)) = X at e
  have hY : nL nums = .list X := by rw [← hX]; rfl
  rw [hY]
  unfold el1
  simp [e]
theorem el2_at {nums : List Nat} (g : Good t s) (hn : nums.length = s) (hm : 0 < many) :
    el2 ⟨some b, [e0, .un, e2, .im (.int (many : Int)), .im (tTa t), e5, .im (nL nums), e7, e8, .un, .un, e11, e12, e13, e14, e15, e16, e17, e18, e19, e20], some PT⟩ = .ok (.nx, ⟨some b, [e0, .un, e2, .im (.int (many : Int)), .im (tTa t), .im (tTa (edgeT t nums s many)), .im (nL nums), e7, e8, .un, .un, e11, e12, e13, e14, e15, e16, e17, e18, e19, e20], some PT⟩) := by
  have s5 := g.s5
  have rg := rg1_at (n := s) (by omega)
  rw [rg_nat] at rg
  have lt := len_tTa t
  rw [g.len] at lt
  have inn : ∀ a, a < s → elIn ⟨some b, [e0, .un, e2, .im (.int (many : Int)), .im (tTa t), e5, .im (nL nums), e7, e8, .im (.int (a : Int)), .un, e11, e12, e13, e14, e15, e16, e17, e18, e19, e20], some PT⟩ =
      .ok (((List.range s).map fun b => edgeE t nums many a b).map fun (k : Nat) => PyData.int (k : Int), ⟨some b, [e0, .un, e2, .im (.int (many : Int)), .im (tTa t), e5, .im (nL nums), e7, e8, .im (.int (a : Int)), .un, e11, e12, e13, e14, e15, e16, e17, e18, e19, e20], some PT⟩) := fun a ha => by
    have lc := lcF_map (i := 10) (t := some PT) (b := some b) (es := [e0, .un, e2, .im (.int (many : Int)), .im (tTa t), e5, .im (nL nums), e7, e8, .im (.int (a : Int)), .un, e11, e12, e13, e14, e15, e16, e17, e18, e19, e20]) (fi := ((sCons (sD ((sCons (nam 4) sNil).bind (arg1 lenW))) sNil).bind rg1)) (g := ⟨some b, [e0, .un, e2, .im (.int (many : Int)), .im (tTa t), e5, .im (nL nums), e7, e8, .im (.int (a : Int)), .un, e11, e12, e13, e14, e15, e16, e17, e18, e19, e20], some PT⟩)
      (fe := (s2 (sD (s2 (sD (s2 (nam 6) (nam 9) atW)) (sD (s2 (nam 6) (sD (s2 (sD (s2 (nam 4) (nam 9) atW)) (nam 10) atW)) atW)) subV)) (nam 3) modV)) (F := fun d => match d with
        | .int i => PyData.int (edgeE t nums many a i.toNat : Int)
        | _ => .none) (ds := (List.range s).map fun (k : Nat) => PyData.int (k : Int)) (by simp [lt, rg]) (by rfl) (by rw [List.length_map, List.length_range]; omega) (by simp) (fun d hd => by
          obtain ⟨b, hb, rfl⟩ := List.mem_map.mp hd
          exact edge_cell g hn hm ha (List.mem_range.mp hb) rfl rfl rfl rfl rfl)
    rw [List.map_map] at lc
    rw [List.map_map]
    exact lc
  have lc := lcF_map (i := 9) (t := some PT) (b := some b) (es := [e0, .un, e2, .im (.int (many : Int)), .im (tTa t), e5, .im (nL nums), e7, e8, .un, .un, e11, e12, e13, e14, e15, e16, e17, e18, e19, e20]) (fi := ((sCons (sD ((sCons (nam 4) sNil).bind (arg1 lenW))) sNil).bind rg1)) (g := ⟨some b, [e0, .un, e2, .im (.int (many : Int)), .im (tTa t), e5, .im (nL nums), e7, e8, .un, .un, e11, e12, e13, e14, e15, e16, e17, e18, e19, e20], some PT⟩)
      (fe := ((sCons (sD (sL elIn)) sNil).bind (arg1 tupW))) (F := fun d => match d with
        | .int i => nTu ((List.range s).map fun b => edgeE t nums many i.toNat b)
        | _ => .none) (ds := (List.range s).map fun (k : Nat) => PyData.int (k : Int)) (by simp [lt, rg]) (by rfl) (by rw [List.length_map, List.length_range]; omega) (by simp) (fun d hd => by
          obtain ⟨a, ha, rfl⟩ := List.mem_map.mp hd
          have z := inn a (List.mem_range.mp ha)
          show _ = R.ok (nTu ((List.range s).map fun b => edgeE t nums many a b), _)
          generalize ((List.range s).map fun b => edgeE t nums many a b) = L at z ⊢
          simp [z, nTu])
  rw [List.map_map] at lc
  have et : tTa (edgeT t nums s many) = .tuple ((List.range s).map fun a => nTu ((List.range s).map fun b => edgeE t nums many a b)) := by
    unfold tTa edgeT
    rw [List.map_map]
    rfl
  replace lc : lcF [9] ((sCons (sD ((sCons (nam 4) sNil).bind (arg1 lenW))) sNil).bind rg1) (put 9) (M.pur true) (lastF ((sCons (sD (sL elIn)) sNil).bind (arg1 tupW))) ⟨some b, [e0, .un, e2, .im (.int (many : Int)), .im (tTa t), e5, .im (nL nums), e7, e8, .un, .un, e11, e12, e13, e14, e15, e16, e17, e18, e19, e20], some PT⟩ = .ok ((List.range s).map fun a => nTu ((List.range s).map fun b => edgeE t nums many a b), ⟨some b, [e0, .un, e2, .im (.int (many : Int)), .im (tTa t), e5, .im (nL nums), e7, e8, .un, .un, e11, e12, e13, e14, e15, e16, e17, e18, e19, e20], some PT⟩) := lc
  rw [et]
  generalize ((List.range s).map fun a => nTu ((List.range s).map fun b => edgeE t nums many a b)) = X at lc ⊢
  unfold el2
  simp [lc]
theorem el3_at {tb nm rw : D} {mn : Int} (h : f_edge_weights [tb, nm, .int mn] = .ok rw) (h2 : f__law_same [rw, rw] = .ok (.bool true)) : el3 ⟨some b, [e0, .un, e2, .im (.int mn), .im tb, .im rw, .im nm, e7, e8, e9, e10, e11, e12, e13, e14, e15, e16, e17, e18, e19, e20], some PT⟩ = .ok (.nx, ⟨some b, [e0, .un, e2, .im (.int mn), .im tb, .im rw, .im nm, e7, e8, e9, e10, e11, e12, e13, e14, e15, e16, e17, e18, e19, e20], some PT⟩) := by
  unfold el3
  simp [h, h2]
theorem lw3_at {tb rw : D} {mn : Int} (h : f__law_fault [tb, rw, .int mn] = .ok .none) (h2 : f_weights_fault [tb, rw, .int mn] = .ok .none) : lw3 ⟨some b, [e0, .un, e2, .im (.int mn), .im tb, .im rw, e6, e7, e8, e9, e10, e11, e12, e13, e14, e15, e16, e17, e18, e19, e20], some PT⟩ = .ok (.nx, ⟨some b, [e0, .un, e2, .im (.int mn), .im tb, .im rw, e6, e7, e8, e9, e10, e11, e12, e13, e14, e15, e16, e17, e18, e19, e20], some PT⟩) := by
  unfold lw3
  simp [h, h2]
theorem lw0_at {b' : List D} {r : Int} (h : f__law_draw b [.int 3] = .ok (.int r, b')) : lw0 ⟨some b, [e0, .un, e2, e3, e4, e5, e6, e7, e8, e9, e10, e11, e12, e13, e14, e15, e16, e17, e18, e19, e20], some PT⟩ = .ok (.nx, ⟨some b', [e0, .un, .im (.int r), e3, e4, e5, e6, e7, e8, e9, e10, e11, e12, e13, e14, e15, e16, e17, e18, e19, e20], some PT⟩) := by
  unfold lw0
  simp [h]
theorem lw1_at {b' : List D} {r : Int} (h : f__law_draw b [.int 4] = .ok (.int r, b')) : lw1 ⟨some b, [e0, .un, e2, e3, e4, e5, e6, e7, e8, e9, e10, e11, e12, e13, e14, e15, e16, e17, e18, e19, e20], some PT⟩ = .ok (.nx, ⟨some b', [e0, .un, e2, .im (.int (2 + r)), e4, e5, e6, e7, e8, e9, e10, e11, e12, e13, e14, e15, e16, e17, e18, e19, e20], some PT⟩) := by
  unfold lw1
  simp [h]
theorem lw2_no {tb rw : D} (h : f__law_known [] = .ok (.tuple [tb, rw])) : lw2 ⟨some b, [e0, .un, .im (.int 0), e3, e4, e5, e6, e7, e8, e9, e10, e11, e12, e13, e14, e15, e16, e17, e18, e19, e20], some PT⟩ = .ok (.nx, ⟨some b, [e0, .un, .im (.int 0), .im (.int 2), .im tb, .im rw, e6, e7, e8, e9, e10, e11, e12, e13, e14, e15, e16, e17, e18, e19, e20], some PT⟩) := by
  rw [lw2_eq]
  simp [eqV_ints, h, tupG, gsCons, gsNil]
theorem lw2_yes {k : Int} {r : R (Out × Sg)} (hk : k ≠ 0) (h : (sq el0 (sq el1 (sq el2 el3))) ⟨some b, [e0, .un, .im (.int k), e3, e4, e5, e6, e7, e8, e9, e10, e11, e12, e13, e14, e15, e16, e17, e18, e19, e20], some PT⟩ = r) : lw2 ⟨some b, [e0, .un, .im (.int k), e3, e4, e5, e6, e7, e8, e9, e10, e11, e12, e13, e14, e15, e16, e17, e18, e19, e20], some PT⟩ = r := by
  rw [lw2_eq]
  generalize (sq el0 (sq el1 (sq el2 el3))) = X at h ⊢
  simp [eqV_ints, hk, h]
/-- what law's head has made -/
theorem lw2_ok {k many0 : Nat} (hb : Bx N b) (hN : N ≤ 1000) (m2 : 2 ≤ many0) (m12 : many0 ≤ 12) : ∃ (t u w : List (List Nat)) (s many : Nat) (b' : List D) (f6 : Ent), Wt t u w s many ∧ (0 < k → ∃ nu, EdgeW t w s many nu) ∧ Bx (N + 20) b' ∧
    lw2 ⟨some b, [e0, .un, .im (.int (k : Int)), .im (.int (many0 : Int)), .un, .un, .un, .un, .un, .un, .un, .un, .un, .un, .un, .un, .un, .un, .un, .un, .un], some PT⟩ = .ok (.nx, ⟨some b', [e0, .un, .im (.int (k : Int)), .im (.int (many : Int)), .im (tTa t), .im (tTa w), f6, .un, .un, .un, .un, .un, .un, .un, .un, .un, .un, .un, .un, .un, .un], some PT⟩) := by
  by_cases hk : k = 0
  · subst hk
    exact ⟨tk, uk, rk, 4, 2, b, .un, Wt.known, fun h => absurd h (by omega), hb.le (by omega), lw2_no known_at⟩
  · obtain ⟨d, b1, hd, e, hb1⟩ := pick_ok (ds := [tTa t3, tTa t4, tTa t5, tTa t2]) hb (by omega) (by simp)
    have ht : ∃ t u s, d = tTa t ∧ Good t s ∧ Back t u s := by
      simp only [List.mem_cons, List.not_mem_nil, or_false] at hd
      rcases hd with rfl | rfl | rfl | rfl
      · exact ⟨_, _, _, rfl, good3, back3⟩
      · exact ⟨_, _, _, rfl, good4, back4⟩
      · exact ⟨_, _, _, rfl, good5, back5⟩
      · exact ⟨_, _, _, rfl, good2, back2⟩
    obtain ⟨t, u, s, rfl, g, bk⟩ := ht
    have s5 := g.s5
    obtain ⟨nums, b2, hl, hb2, s1⟩ := el1_at (PT := PT) (b := b1) (e0 := e0) (e2 := .im (.int (k : Int))) (e5 := .un) (e6 := .un) (e7 := .un) (e8 := .un) (e10 := .un) (e11 := .un) (e12 := .un) (e13 := .un) (e14 := .un) (e15 := .un) (e16 := .un) (e17 := .un) (e18 := .un) (e19 := .un) (e20 := .un) (many := many0) g (by omega) hb1 (by omega)
    have ed := edge_ok (many := many0) g hl (by omega)
    have sm := tTa_same (w := edgeT t nums s many0) (edge_rows (by omega) m12 s5) (by unfold edgeT; rw [List.length_map, List.length_range]; omega)
    refine ⟨t, u, edgeT t nums s many0, s, many0, b2, .im (nL nums), Wt.edge nums g bk m2 m12, fun _ => ⟨_, edge_edge (by omega)⟩, hb2.le (by omega), lw2_yes (by omega) ?_⟩
    exact sq_nx (el0_at turned3 turned4 shifted5 turned2 e) (sq_nx s1 (sq_nx (el2_at g hl (by omega)) (el3_at ed sm)))
end
theorem lf_none {t u w : List (List Nat)} {s many : Nat} (h : Wt t u w s many) : f__law_fault [tTa t, tTa w, .int (many : Int)] = .ok .none := by
  rw [lf_good h.g h.q h.m2 h.m12, h.none]
theorem head_ok {PT : Addr} {b : List D} {e0 : Ent} (hb : Bx 0 b) : ∃ g', m_law PT ⟨some b, [e0, .un, .un, .un, .un, .un, .un, .un, .un, .un, .un, .un, .un, .un, .un, .un, .un, .un, .un, .un, .un], some PT⟩ = .ok (.rt (.bool true), g') := by
  obtain ⟨k, b1, hk, d1, hb1⟩ := draw_ok hb (by omega) (show 0 < 3 by omega)
  obtain ⟨m, b2, hm, d2, hb2⟩ := draw_ok hb1 (by omega) (show 0 < 4 by omega)
  obtain ⟨m0, hm0⟩ : ∃ m0 : Nat, m0 = 2 + m := ⟨_, rfl⟩
  have s1 := lw1_at (PT := PT) (e0 := e0) (e2 := .im (.int (k : Int))) (e3 := .un) (e4 := .un) (e5 := .un) (e6 := .un) (e7 := .un) (e8 := .un) (e9 := .un) (e10 := .un) (e11 := .un) (e12 := .un) (e13 := .un) (e14 := .un) (e15 := .un) (e16 := .un) (e17 := .un) (e18 := .un) (e19 := .un) (e20 := .un) d2
  rw [show (2 : Int) + (m : Int) = ((m0 : Nat) : Int) by omega] at s1
  obtain ⟨t, u, w, s, many, b3, f6, h, he, hb3, s2⟩ := lw2_ok (PT := PT) (b := b2) (e0 := e0) (k := k) (many0 := m0) hb2 (by omega) (by omega) (by omega)
  obtain ⟨g4, s4, b5, e7, e8, e9, e10, e11, e12, e13, rfl, hb5⟩ := lw4_ok (PT := PT) (b := b3) (e0 := e0) (e2 := .im (.int (k : Int))) (e6 := f6) (e7 := .un) (e8 := .un) (e9 := .un) (e10 := .un) (e11 := .un) (e12 := .un) (e13 := .un) h (by omega) hb3
  obtain ⟨g5, s5⟩ := tail_ok (PT := PT) (e0 := e0) (kind := k) (e6 := f6) (e7 := e7) (e8 := e8) (e9 := e9) (e10 := e10) (e11 := e11) (e12 := e12) (e13 := e13) (e14 := .un) (e15 := .un) (e16 := .un) (e17 := .un) (e18 := .un) (e19 := .un) (e20 := .un) h he hb5 (by omega)
  refine ⟨g5, ?_⟩
  rw [m_law_eq]
  exact sq_nx (lw0_at d1) (sq_nx s1 (sq_nx s2 (sq_nx (lw3_at (lf_none h) h.wf) (sq_nx s4 s5))))
theorem fn_law_ok (ns : List Int) : ∃ b, Bx 0 b ∧ fn_law ⟨none, argsE [locked (ns.map .int)] 21, none⟩ = .ok (b, ⟨none, argsE [locked (ns.map .int)] 21, none⟩) := by
  obtain ⟨digs, e⟩ := digits_ok ns
  refine ⟨[.list (digs.map .int), .int 0], ⟨digs, 0, rfl, by omega⟩, ?_⟩
  unfold fn_law
  generalize locked (ns.map .int) = X at e ⊢
  simp [argsE, e, lstF, lenOk_of, need_of]
theorem plain_law (PT : Addr) (ns : List Int) (h : ns.length ≤ 63) : f_law PT [locked (ns.map .int)] = .ok (.bool true) := by
  obtain ⟨b, hb, e⟩ := fn_law_ok ns
  obtain ⟨g', e2⟩ := head_ok (PT := PT) (b := b) (e0 := .im (locked (ns.map .int))) hb
  unfold f_law semL
  rw [e]
  show runO (m_law PT ⟨some b, [.im (locked (ns.map .int)), .un, .un, .un, .un, .un, .un, .un, .un, .un, .un, .un, .un, .un, .un, .un, .un, .un, .un, .un, .un], some PT⟩) = _
  rw [e2]
  rfl
end DL
set_option maxRecDepth 100000
open PySem PySem.W PyProof.Rows
set_option maxRecDepth 100000 in
set_option maxHeartbeats 0 in
theorem PySem.Challenge.cw_plaitworld_k50_weights_summed_holds : PySem.Challenge.rw_plaitworld_k50_weights_summed.Holds := by
  w_on; o_law; k_head; (case hw => w_witness2)
  k_fill
  refine DL.walk_end (l := PySem.Challenge.rw_plaitworld_k50_weights_summed) (n := 63) (k := 7) (nm := "script") rfl (by decide) rfl ⟨rfl, by decide, by decide⟩ (by rfl) (fun w h Y => (by first | exact PySem.W.kIn_of Y | exact PySem.W.km_in_of Y)) ?F
  case F =>
    intro w mg fa h X G hmg
    refine' DL.end_facts X G hmg ?d_is_integer ?d_to_power ?d_check_word ?d_all_rows ?d_table_fault ?d_back_table ?d_counted_by ?d_turned_table ?d_shifted_table ?d_weights_fault ?d_edge_weights ?d_weighed_colourings ?d__law_cell ?d__law_digits ?d__law_draw ?d__law_pick ?d__law_same ?d__law_word ?d__law_row_reason ?d__law_stepped ?d__law_steps ?d__law_other_word ?d__law_told ?d__law_known ?d__law_fault ?d__law_tried ?d_law ?e_BadWord ?e_TooMany ?e_Refused ?zs ?op ?lD ?fD ?tb ?rb ?rt ?bb ?tt ?rr ?z_range ?z_isinstance ?z_int ?z_bool ?z_str ?z_list ?z_tuple ?z_len ?z_set ?z_abs ?z_any ?z_all ?z_sum ?z_enumerate ?z_repr ?k_MOST_STRANDS ?k_MOST_LETTERS ?k_MOST_TRIES ?k_MOST_COLOURS ?hct ?lt ?vt ?np w (DL.plain_law _)
    (case d_is_integer => exact ⟨by k_is, L2.fun_mk (by k_is) (by k_is) (by k_is)⟩)
    (case d_to_power => exact ⟨by k_is, L2.fun_mk (by k_is) (by k_is) (by k_is)⟩)
    (case d_check_word => exact ⟨by k_is, L2.fun_mk (by k_is) (by k_is) (by k_is)⟩)
    (case d_all_rows => exact ⟨by k_is, L2.fun_mk (by k_is) (by k_is) (by k_is)⟩)
    (case d_table_fault => exact ⟨by k_is, L2.fun_mk (by k_is) (by k_is) (by k_is)⟩)
    (case d_back_table => exact ⟨by k_is, L2.fun_mk (by k_is) (by k_is) (by k_is)⟩)
    (case d_counted_by => exact ⟨by k_is, L2.fun_mk (by k_is) (by k_is) (by k_is)⟩)
    (case d_turned_table => exact ⟨by k_is, L2.fun_mk (by k_is) (by k_is) (by k_is)⟩)
    (case d_shifted_table => exact ⟨by k_is, L2.fun_mk (by k_is) (by k_is) (by k_is)⟩)
    (case d_weights_fault => exact ⟨by k_is, L2.fun_mk (by k_is) (by k_is) (by k_is)⟩)
    (case d_edge_weights => exact ⟨by k_is, L2.fun_mk (by k_is) (by k_is) (by k_is)⟩)
    (case d_weighed_colourings => exact ⟨by k_is, L2.fun_mk (by k_is) (by k_is) (by k_is)⟩)
    (case d__law_cell => exact ⟨by k_is, L2.fun_mk (by k_is) (by k_is) (by k_is)⟩)
    (case d__law_digits => exact ⟨by k_is, L2.fun_mk (by k_is) (by k_is) (by k_is)⟩)
    (case d__law_draw => exact ⟨by k_is, L2.fun_mk (by k_is) (by k_is) (by k_is)⟩)
    (case d__law_pick => exact ⟨by k_is, L2.fun_mk (by k_is) (by k_is) (by k_is)⟩)
    (case d__law_same => exact ⟨by k_is, L2.fun_mk (by k_is) (by k_is) (by k_is)⟩)
    (case d__law_word => exact ⟨by k_is, L2.fun_mk (by k_is) (by k_is) (by k_is)⟩)
    (case d__law_row_reason => exact ⟨by k_is, L2.fun_mk (by k_is) (by k_is) (by k_is)⟩)
    (case d__law_stepped => exact ⟨by k_is, L2.fun_mk (by k_is) (by k_is) (by k_is)⟩)
    (case d__law_steps => exact ⟨by k_is, L2.fun_mk (by k_is) (by k_is) (by k_is)⟩)
    (case d__law_other_word => exact ⟨by k_is, L2.fun_mk (by k_is) (by k_is) (by k_is)⟩)
    (case d__law_told => exact ⟨by k_is, L2.fun_mk (by k_is) (by k_is) (by k_is)⟩)
    (case d__law_known => exact ⟨by k_is, L2.fun_mk (by k_is) (by k_is) (by k_is)⟩)
    (case d__law_fault => exact ⟨by k_is, L2.fun_mk (by k_is) (by k_is) (by k_is)⟩)
    (case d__law_tried => exact ⟨by k_is, L2.fun_mk (by k_is) (by k_is) (by k_is)⟩)
    (case d_law => exact ⟨by k_is, L2.fun_mk (by k_is) (by k_is) (by k_is)⟩)
    (case e_BadWord => exact ⟨by k_is, ⟨_, _, _, _, _, _, _, _, _, _, _, _, _, _, by k_is⟩, by k_is, by k_is, by k_is, by k_is, by k_is, by k_is, by k_is, by k_is, by k_is, by k_is, by k_is, by k_is, _, _, _, _, _, _, _, _, _, _, _, _, _, _, _, _, _, _, by k_is, by k_is, by k_is, by rfl, by decide +kernel, by k_is⟩)
    (case e_TooMany => exact ⟨by k_is, ⟨_, _, _, _, _, _, _, _, _, _, _, _, _, _, by k_is⟩, by k_is, by k_is, by k_is, by k_is, by k_is, by k_is, by k_is, by k_is, by k_is, by k_is, by k_is, by k_is, _, _, _, _, _, _, _, _, _, _, _, _, _, _, _, _, _, _, by k_is, by k_is, by k_is, by rfl, by decide +kernel, by k_is⟩)
    (case e_Refused => exact ⟨by k_is, ⟨_, _, _, _, _, _, _, _, _, _, _, _, _, _, by k_is⟩, by k_is, by k_is, by k_is, by k_is, by k_is, by k_is, by k_is, by k_is, by k_is, by k_is, by k_is, by k_is, _, _, _, _, _, _, _, _, _, _, _, _, _, _, _, _, _, _, by k_is, by k_is, by k_is, by rfl, by decide +kernel, by k_is⟩)
    (case zs => k_is)
    (case op => k_is)
    (case lD => exact ⟨_, _, _, _, _, _, _, _, _, _, _, _, _, _, _, by k_is⟩)
    (case fD => k_is)
    (case tb => k_is)
    (case rb => k_is)
    (case rt => k_is)
    (case bb => k_is)
    (case tt => k_is)
    (case rr => k_is)
    (case z_range => k_is)
    (case z_isinstance => k_is)
    (case z_int => k_is)
    (case z_bool => k_is)
    (case z_str => k_is)
    (case z_list => k_is)
    (case z_tuple => k_is)
    (case z_len => k_is)
    (case z_set => k_is)
    (case z_abs => k_is)
    (case z_any => k_is)
    (case z_all => k_is)
    (case z_sum => k_is)
    (case z_enumerate => k_is)
    (case z_repr => k_is)
    (case k_MOST_STRANDS => exact ⟨_, by k_is⟩)
    (case k_MOST_LETTERS => exact ⟨_, by k_is⟩)
    (case k_MOST_TRIES => exact ⟨_, by k_is⟩)
    (case k_MOST_COLOURS => exact ⟨_, by k_is⟩)
    (case hct => rfl)
    (case lt => k_is); (case vt => rfl); (case np => first | rfl | kernel_rfl)
