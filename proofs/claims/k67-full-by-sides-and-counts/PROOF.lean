import PyProof.Rows.All
import Wide.All
import OpenK.AllK
import Wide.FinOn
import HandS.ForMost
import HandS.Exc
import HandS.ExcOwn
import HandS.WordsExc
import KE.KTupSum
import HandS.Property
import HandS.IsInst
import HandS.Walk
import KE.GoesMore
import KE.GoesEnum
import PyProof.EnumMake
import HandS.Words
import HandS.ForSpec
import HandS.ExcField
import HandS.TryMany
import HandS.ClsMeth
import HandS.CallLocal
import HandS.WordsList
import HandS.HeadHook1
import HandS.HeadHook2
import KE.KStateDown
import HandS.Head0
import HandS.Head1
import HandS.Head2
import HandS.HeadEnd
import PySem.Challenge.RW_askprices_k67_full_by_sides_and_counts
set_option Elab.async false
set_option linter.all false
set_option maxRecDepth 100000
set_option maxHeartbeats 4000000
/-! Ya: plain data over the hand layer: what a piece of Python does, as a plain function of data. -/
namespace Ya
open PySem PySem.Spec PyProof.Rows L2

/-- plain data; scr: the script -/
inductive D where
  | non | bl (b : Bool) | int (i : Int) | str (x : Str)
  | lst (xs : List D) | tup (xs : List D)
  | ins (c : Str) (ns : List Str) (ds : List D)
  | scr (ns : List Int)
  | cls (c : Str)
/-- what a cell holds that its owner may change -/
inductive C where
  | lst (xs : List D)
  | dk (m : List (Key × D))
  | dt (m : List (List Key × D))
  | obj (c : Str) (ns : List Str) (ds : List D)
/-- a slot: nothing known, data, a cell of one's own (o: the argument that brought it) -/
inductive S where
  | und | val (d : D) | own (o : Option Nat) (c : C)
abbrev En := List S

section
variable (K : PySem.W.Frag) (cl : Str → Addr) (G : Hp)
mutual
def Rep : D → V → Prop
  | .non, v => v = .non
  | .bl b, v => v = .bl b
  | .int i, v => v = .int i
  | .str x, v => v = .str x
  | .lst xs, v => ∃ a vs, v = .ref a ∧ G a = some (.lst vs) ∧ RepL xs vs
  | .tup xs, v => ∃ a vs, v = .ref a ∧ G a = some (.tup vs) ∧ RepL xs vs
  | .ins c ns ds, v => ∃ a dx vs, v = .ref a ∧ G a = some (.ins (cl c) dx (ns.zip vs)) ∧ ns.length = ds.length ∧ RepL ds vs
  | .scr ns, v => ∃ a, v = .ref a ∧ SqL K G a (ns.map V.int)
  | .cls c, v => v = .ref (cl c)
def RepL : List D → List V → Prop
  | [], vs => vs = []
  | d :: ds, vs => ∃ v r, vs = v :: r ∧ Rep d v ∧ RepL ds r
end
/-- what stands in a cell -/
def CellAt : C → HO → Prop
  | .lst xs, h => ∃ vs, h = .lst vs ∧ RepL K cl G xs vs
  | .dk m, h => ∃ kvs : List (Key × V), h = .dK kvs ∧ m.map (·.1) = kvs.map (·.1) ∧ RepL K cl G (m.map (·.2)) (kvs.map (·.2))
  | .dt m, h => ∃ kvs : List (List Key × V), h = .dT kvs ∧ m.map (·.1) = kvs.map (·.1) ∧ RepL K cl G (m.map (·.2)) (kvs.map (·.2))
  | .obj c ns ds, h => ∃ dx vs, h = .ins (cl c) dx (ns.zip vs) ∧ ns.length = ds.length ∧ RepL K cl G ds vs
end

def Ex (H H' : Hp) : Prop := ∀ a o, H a = some o → H' a = some o
theorem Ex.refl (H : Hp) : Ex H H := fun _ _ h => h
theorem Ex.trans {H H1 H2 : Hp} (a : Ex H H1) (b : Ex H1 H2) : Ex H H2 := fun x o h => b x o (a x o h)
theorem Ex.new {H : Hp} {p : Addr} {o : HO} (h : H p = none) : Ex H (upd H p o) := fun a u e => by
  rw [upd_ne (ne_of_none e h)]
  exact e
theorem Ex.free {H H' : Hp} (e : Ex H H') {p : Addr} (h : H' p = none) : H p = none := by
  cases q : H p with
  | none => rfl
  | some o => rw [e p o q] at h; cases h
theorem Ex.seqL {K : PySem.W.Frag} {H H' : Hp} {a : Addr} {xs : List V} (e : Ex H H') (h : SqL K H a xs) : SqL K H' a xs := Same.seq e h

section
variable {K : PySem.W.Frag} {cl : Str → Addr} {G G' H H' : Hp}
mutual
theorem Rep.mono (e : Ex G G') : ∀ {d : D} {v : V}, Rep K cl G d v → Rep K cl G' d v
  | .non, _, h => h
  | .bl _, _, h => h
  | .int _, _, h => h
  | .str _, _, h => h
  | .lst xs, v, h => by
    obtain ⟨a, vs, h1, h2, h3⟩ := (show ∃ a vs, v = .ref a ∧ G a = some (.lst vs) ∧ RepL K cl G xs vs by simpa only [Rep] using h)
    show Rep K cl G' (.lst xs) v
    simp only [Rep]
    exact ⟨a, vs, h1, e _ _ h2, RepL.mono e h3⟩
  | .tup xs, v, h => by
    obtain ⟨a, vs, h1, h2, h3⟩ := (show ∃ a vs, v = .ref a ∧ G a = some (.tup vs) ∧ RepL K cl G xs vs by simpa only [Rep] using h)
    show Rep K cl G' (.tup xs) v
    simp only [Rep]
    exact ⟨a, vs, h1, e _ _ h2, RepL.mono e h3⟩
  | .ins c ns ds, v, h => by
    obtain ⟨a, dx, vs, h1, h2, h3, h4⟩ := (show ∃ a dx vs, v = .ref a ∧ G a = some (.ins (cl c) dx (ns.zip vs)) ∧ ns.length = ds.length ∧ RepL K cl G ds vs by simpa only [Rep] using h)
    show Rep K cl G' (.ins c ns ds) v
    simp only [Rep]
    exact ⟨a, dx, vs, h1, e _ _ h2, h3, RepL.mono e h4⟩
  | .scr ns, v, h => by
    obtain ⟨a, h1, h2⟩ := (show ∃ a, v = .ref a ∧ SqL K G a (ns.map V.int) by simpa only [Rep] using h)
    show Rep K cl G' (.scr ns) v
    simp only [Rep]
    exact ⟨a, h1, e.seqL h2⟩
  | .cls _, _, h => h
theorem RepL.mono (e : Ex G G') : ∀ {ds : List D} {vs : List V}, RepL K cl G ds vs → RepL K cl G' ds vs
  | [], _, h => h
  | d :: ds, vs, h => by
    obtain ⟨v, r, h1, h2, h3⟩ := (show ∃ v r, vs = v :: r ∧ Rep K cl G d v ∧ RepL K cl G ds r by simpa only [RepL] using h)
    simp only [RepL]
    exact ⟨v, r, h1, Rep.mono e h2, RepL.mono e h3⟩
end
theorem CellAt.mono (e : Ex G G') {c : C} {h : HO} (x : CellAt K cl G c h) : CellAt K cl G' c h := by
  cases c with
  | lst xs => obtain ⟨vs, h1, h2⟩ := x; exact ⟨vs, h1, h2.mono e⟩
  | dk m => obtain ⟨vs, h1, h2, h3⟩ := x; exact ⟨vs, h1, h2, h3.mono e⟩
  | dt m => obtain ⟨vs, h1, h2, h3⟩ := x; exact ⟨vs, h1, h2, h3.mono e⟩
  | obj c ns ds => obtain ⟨dx, vs, h1, h2, h3⟩ := x; exact ⟨dx, vs, h1, h2, h3.mono e⟩
theorem rep_lst {xs : List D} {v : V} : Rep K cl G (.lst xs) v ↔ ∃ a vs, v = .ref a ∧ G a = some (.lst vs) ∧ RepL K cl G xs vs := by simp only [Rep]
theorem rep_tup {xs : List D} {v : V} : Rep K cl G (.tup xs) v ↔ ∃ a vs, v = .ref a ∧ G a = some (.tup vs) ∧ RepL K cl G xs vs := by simp only [Rep]
theorem rep_ins {c : Str} {ns : List Str} {ds : List D} {v : V} : Rep K cl G (.ins c ns ds) v ↔ ∃ a dx vs, v = .ref a ∧ G a = some (.ins (cl c) dx (ns.zip vs)) ∧ ns.length = ds.length ∧ RepL K cl G ds vs := by simp only [Rep]
theorem rep_scr {ns : List Int} {v : V} : Rep K cl G (.scr ns) v ↔ ∃ a, v = .ref a ∧ SqL K G a (ns.map V.int) := by simp only [Rep]
theorem rep_cls {c : Str} {v : V} : Rep K cl G (.cls c) v ↔ v = .ref (cl c) := by simp only [Rep]
theorem rep_int {i : Int} {v : V} : Rep K cl G (.int i) v ↔ v = .int i := by simp only [Rep]
theorem rep_bl {b : Bool} {v : V} : Rep K cl G (.bl b) v ↔ v = .bl b := by simp only [Rep]
theorem rep_str {x : Str} {v : V} : Rep K cl G (.str x) v ↔ v = .str x := by simp only [Rep]
theorem rep_non {v : V} : Rep K cl G .non v ↔ v = .non := by simp only [Rep]
theorem repL_nil {vs : List V} : RepL K cl G [] vs ↔ vs = [] := by simp only [RepL]
theorem repL_cons {d : D} {ds : List D} {vs : List V} : RepL K cl G (d :: ds) vs ↔ ∃ v r, vs = v :: r ∧ Rep K cl G d v ∧ RepL K cl G ds r := by simp only [RepL]
theorem RepL.len : ∀ {ds : List D} {vs : List V}, RepL K cl G ds vs → ds.length = vs.length
  | [], _, h => by rw [repL_nil] at h; subst h; rfl
  | d :: ds, vs, h => by
    obtain ⟨v, r, rfl, _, h3⟩ := repL_cons.mp h
    simp [RepL.len h3]
theorem RepL.get : ∀ {ds : List D} {vs : List V} {i : Nat} {d : D}, RepL K cl G ds vs → ds[i]? = some d → ∃ v, vs[i]? = some v ∧ Rep K cl G d v
  | [], _, _, _, _, e => by simp at e
  | d :: ds, vs, i, d', h, e => by
    obtain ⟨v, r, rfl, h2, h3⟩ := repL_cons.mp h
    cases i with
    | zero => simp at e; subst e; exact ⟨v, by simp, h2⟩
    | succ i => obtain ⟨u, q1, q2⟩ := RepL.get (i := i) h3 (by simpa using e); exact ⟨u, by simpa using q1, q2⟩
theorem RepL.get' : ∀ {ds : List D} {vs : List V} {i : Nat} {v : V}, RepL K cl G ds vs → vs[i]? = some v → ∃ d, ds[i]? = some d ∧ Rep K cl G d v
  | [], _, _, _, h, e => by rw [repL_nil] at h; subst h; simp at e
  | d :: ds, vs, i, v', h, e => by
    obtain ⟨v, r, rfl, h2, h3⟩ := repL_cons.mp h
    cases i with
    | zero => simp at e; subst e; exact ⟨d, by simp, h2⟩
    | succ i => obtain ⟨u, q1, q2⟩ := RepL.get' (i := i) h3 (by simpa using e); exact ⟨u, by simpa using q1, q2⟩
theorem RepL.app : ∀ {ds es : List D} {vs us : List V}, RepL K cl G ds vs → RepL K cl G es us → RepL K cl G (ds ++ es) (vs ++ us)
  | [], _, _, _, h, h' => by rw [repL_nil] at h; subst h; simpa using h'
  | d :: ds, es, vs, us, h, h' => by
    obtain ⟨v, r, rfl, h2, h3⟩ := repL_cons.mp h
    exact repL_cons.mpr ⟨v, r ++ us, rfl, h2, RepL.app h3 h'⟩
theorem RepL.one {d : D} {v : V} (h : Rep K cl G d v) : RepL K cl G [d] [v] := repL_cons.mpr ⟨v, [], rfl, h, repL_nil.mpr rfl⟩
theorem RepL.set : ∀ {ds : List D} {vs : List V} {d : D} {v : V} (i : Nat), RepL K cl G ds vs → Rep K cl G d v → RepL K cl G (ds.set i d) (vs.set i v)
  | [], _, _, _, _, h, _ => by rw [repL_nil] at h; subst h; exact repL_nil.mpr rfl
  | d :: ds, vs, e, u, i, h, h' => by
    obtain ⟨v, r, rfl, h2, h3⟩ := repL_cons.mp h
    cases i with
    | zero => exact repL_cons.mpr ⟨u, r, rfl, h', h3⟩
    | succ i => exact repL_cons.mpr ⟨v, r.set i u, rfl, h2, RepL.set i h3 h'⟩
theorem RepL.take : ∀ {ds : List D} {vs : List V} (n : Nat), RepL K cl G ds vs → RepL K cl G (ds.take n) (vs.take n)
  | _, _, 0, _ => repL_nil.mpr rfl
  | [], _, n + 1, h => by rw [repL_nil] at h; subst h; exact repL_nil.mpr rfl
  | d :: ds, vs, n + 1, h => by
    obtain ⟨v, r, rfl, h2, h3⟩ := repL_cons.mp h
    exact repL_cons.mpr ⟨v, r.take n, rfl, h2, RepL.take n h3⟩
theorem RepL.drop : ∀ {ds : List D} {vs : List V} (n : Nat), RepL K cl G ds vs → RepL K cl G (ds.drop n) (vs.drop n)
  | _, _, 0, h => h
  | [], _, n + 1, h => by rw [repL_nil] at h; subst h; exact repL_nil.mpr rfl
  | d :: ds, vs, n + 1, h => by
    obtain ⟨v, r, rfl, h2, h3⟩ := repL_cons.mp h
    exact RepL.drop n h3
theorem RepL.rev : ∀ {ds : List D} {vs : List V}, RepL K cl G ds vs → RepL K cl G ds.reverse vs.reverse
  | [], _, h => by rw [repL_nil] at h; subst h; exact repL_nil.mpr rfl
  | d :: ds, vs, h => by
    obtain ⟨v, r, rfl, h2, h3⟩ := repL_cons.mp h
    rw [List.reverse_cons, List.reverse_cons]
    exact (RepL.rev h3).app (RepL.one h2)
theorem RepL.ints : ∀ {ns : List Int} {vs : List V}, RepL K cl G (ns.map D.int) vs ↔ vs = ns.map V.int
  | [], vs => repL_nil
  | n :: ns, vs => by
    rw [List.map_cons, repL_cons, List.map_cons]
    constructor
    · rintro ⟨v, r, rfl, h2, h3⟩
      rw [rep_int.mp h2, RepL.ints.mp h3]
    · rintro rfl
      exact ⟨_, _, rfl, rep_int.mpr rfl, RepL.ints.mpr rfl⟩
theorem RepL.bls : ∀ {ns : List Bool} {vs : List V}, RepL K cl G (ns.map D.bl) vs ↔ vs = ns.map V.bl
  | [], vs => repL_nil
  | n :: ns, vs => by
    rw [List.map_cons, repL_cons, List.map_cons]
    constructor
    · rintro ⟨v, r, rfl, h2, h3⟩
      rw [rep_bl.mp h2, RepL.bls.mp h3]
    · rintro rfl
      exact ⟨_, _, rfl, rep_bl.mpr rfl, RepL.bls.mpr rfl⟩
end

/-! ### states -/
def Own (σ : L2.St) (env : En) (a : Addr) : Prop := ∃ (i : Nat) (o : Option Nat) (c : C), env[i]? = some (S.own o c) ∧ σ[i]? = some (some (V.ref a))
section
variable (K : PySem.W.Frag) (cl : Str → Addr) (args : List V)
def RepS (G H : Hp) (x : Option (Option V)) : S → Prop
  | .und => True
  | .val d => ∃ v, x = some (some v) ∧ Rep K cl G d v
  | .own o c => ∃ (a : Addr) (h : HO), x = some (some (V.ref a)) ∧ G a = none ∧ H a = some h ∧ CellAt K cl G c h ∧ ∀ k : Nat, o = some k → args[k]? = some (V.ref a)
structure RS (G H : Hp) (σ : L2.St) (env : En) : Prop where
  ex : Ex G H
  len : σ.length = env.length
  slot : ∀ (i : Nat) (s : S), env[i]? = some s → RepS K cl args G H (σ[i]?) s
  sep : ∀ (i j : Nat) (o o' : Option Nat) (c c' : C) (a : Addr), env[i]? = some (S.own o c) → env[j]? = some (S.own o' c') → σ[i]? = some (some (V.ref a)) → σ[j]? = some (some (V.ref a)) → i = j
end
/-- from a state to a later one: what one owns may change, nothing else; what one owns then is owned now or new -/
structure Stp (G H : Hp) (A : Addr → Prop) (G' H' : Hp) (A' : Addr → Prop) : Prop where
  g : Ex G G'
  h : ∀ a o, ¬ A a → H a = some o → H' a = some o
  n : ∀ a, ¬ A a → H a ≠ none → G a = none → G' a = none
  o : ∀ a, A' a → A a ∨ H a = none
theorem Stp.refl {G H : Hp} {A : Addr → Prop} : Stp G H A G H A := ⟨Ex.refl G, fun _ _ _ h => h, fun _ _ _ h => h, fun _ h => .inl h⟩
theorem Stp.trans {G H G1 H1 G2 H2 : Hp} {A A1 A2 : Addr → Prop} (x : Stp G H A G1 H1 A1) (y : Stp G1 H1 A1 G2 H2 A2) : Stp G H A G2 H2 A2 := by
  have na : ∀ a o, ¬ A a → H a = some o → ¬ A1 a := fun a o n e z => by
    rcases x.o a z with q | q
    · exact n q
    · rw [e] at q; cases q
  refine ⟨x.g.trans y.g, fun a o n e => y.h a o (na a o n e) (x.h a o n e), fun a n e z => ?_, fun a z => ?_⟩
  · cases q : H a with
    | none => exact absurd q e
    | some o => exact y.n a (na a o n q) (by rw [x.h a o n q]; simp) (x.n a n e z)
  · rcases y.o a z with q | q
    · exact x.o a q
    · cases e : H a with
      | none => exact .inr rfl
      | some o =>
        refine .inl (Classical.byContradiction fun n => ?_)
        rw [x.h a o n e] at q; cases q
/-- what one owns at the end may be told smaller -/
theorem Stp.less {G H G' H' : Hp} {A A' B : Addr → Prop} (x : Stp G H A G' H' A') (h : ∀ a, B a → A' a) : Stp G H A G' H' B := ⟨x.g, x.h, x.n, fun a z => x.o a (h a z)⟩
/-- one owns more around it -/
theorem Stp.more {G H G' H' : Hp} {A A' B B' : Addr → Prop} (x : Stp G H A G' H' A') (h : ∀ a, A a → B a) (h' : ∀ a, B' a → A' a ∨ B a) : Stp G H B G' H' B' :=
  ⟨x.g, fun a o n => x.h a o fun z => n (h a z), fun a n => x.n a fun z => n (h a z), fun a z => by
    rcases h' a z with q | q
    · rcases x.o a q with r | r
      · exact .inl (h a r)
      · exact .inr r
    · exact .inl q⟩
/-- a new object that is known from now on -/
theorem Stp.new {G H : Hp} {A : Addr → Prop} {p : Addr} {o : HO} (e : Ex G H) (h : H p = none) : Stp G H A (upd G p o) (upd H p o) A :=
  ⟨Ex.new (e.free h), fun a u _ q => Ex.new h a u q, fun a _ q z => by
    by_cases r : a = p
    · subst r; exact absurd h q
    · rw [upd_ne r]; exact z, fun _ z => .inl z⟩
/-- a new object that is owned -/
theorem Stp.cell {G H : Hp} {A : Addr → Prop} {p : Addr} {o : HO} (h : H p = none) : Stp G H A G (upd H p o) (fun a => A a ∨ a = p) :=
  ⟨Ex.refl G, fun a u _ q => Ex.new h a u q, fun a _ _ z => z, fun a z => by
    rcases z with z | z
    · exact .inl z
    · subst z; exact .inr h⟩
theorem Ex.both {G H : Hp} {p : Addr} {o : HO} (e : Ex G H) : Ex (upd G p o) (upd H p o) := fun a u q => by
  by_cases r : a = p
  · subst r; rw [upd_same] at q ⊢; exact q
  · rw [upd_ne r] at q ⊢; exact e a u q
theorem Ex.at {G H : Hp} {p : Addr} {o : HO} (e : Ex G H) (h : H p = some o) : Ex (upd G p o) H := fun a u q => by
  by_cases r : a = p
  · subst r; rw [upd_same] at q; rw [h]; exact q
  · rw [upd_ne r] at q; exact e a u q
theorem Ex.mut {G H : Hp} {p : Addr} {o : HO} (e : Ex G H) (h : G p = none) : Ex G (upd H p o) := fun a u q => by
  rw [upd_ne (ne_of_none q h)]; exact e a u q

/-! ### results -/
inductive Res (α : Type) where
  | ok (a : α) (env : En)
  | exc (c : Str) (ns : List Str) (ds : List D) (env : En)
  | bad
def frz : S → Option D
  | .val d => some d
  | .own _ (.lst xs) => some (.lst xs)
  | .own _ (.obj c ns ds) => some (.ins c ns ds)
  | _ => none
def Res.bind {α β : Type} (r : Res α) (k : α → En → Res β) : Res β := match r with
  | .ok a e => k a e
  | .exc c ns ds e => .exc c ns ds e
  | .bad => .bad
def Res.data {β : Type} (r : Res S) (k : D → En → Res β) : Res β := match r with
  | .ok a e => (match frz a with | some d => k d e | none => .bad)
  | .exc c ns ds e => .exc c ns ds e
  | .bad => .bad
def Res.opt {α : Type} (o : Option α) (e : En) : Res α := match o with | some a => .ok a e | none => .bad
abbrev Xp := En → Res S
abbrev Xt := En → Res Bool
abbrev Xa := En → Res (List D)
inductive Fl where | nx | rt (r : S) | bk | ct
abbrev Xs := En → Res Fl

section
variable (K : PySem.W.Frag) (cl : Str → Addr)
/-- a value that has come: data, or a new cell -/
def RepR (G H : Hp) (A : Addr → Prop) (v : V) : S → Prop
  | .val d => Rep K cl G d v
  | .own none c => ∃ (a : Addr) (h : HO), v = .ref a ∧ G a = none ∧ H a = some h ∧ CellAt K cl G c h ∧ ¬ A a
  | _ => False
def OwnR (v : V) (r : S) (a : Addr) : Prop := ∃ c, r = .own none c ∧ v = .ref a
/-- an exception that has come: its class, its own dict -/
def ExcAt (G : Hp) (c : Str) (ns : List Str) (ds : List D) (x : Value) (d : Option Addr) : Prop :=
  x = .ref (cl c) ∧ ns.length = ds.length ∧ ∃ vs, RepL K cl G ds vs ∧ ((∃ a, d = some a ∧ G a = some (.xd (ns.zip vs))) ∨ (ns = [] ∧ d = none))
/-- what is wanted of an end: w of an ok one; exceptions by W -/
abbrev Wnt (β : Type) := Hp → Hp → (Addr → Prop) → β → En → Prop
def Lat {β : Type} (w : Wnt β) : Prop := ∀ G H A G1 H1 A1 b e, Stp G H A G1 H1 A1 → w G H A b e → w G1 H1 A1 b e
def Post {β : Type} (args : List V) (W : WX) (w : Wnt β) (G H : Hp) (A : Addr → Prop) : Res β → Prop
  | .ok b e => w G H A b e
  | .exc c ns ds e => ∀ x d σ' G' H', RS K cl args G' H' σ' e → Stp G H A G' H' (Own σ' e) → ExcAt K cl G' c ns ds x d → W x d σ' H'
  | .bad => False
def wE (args : List V) (σ : L2.St) (Q : VK) : Wnt S := fun G H A r e => ∀ v G' H', RS K cl args G' H' σ e → Stp G H A G' H' (fun a => Own σ e a ∨ OwnR v r a) → RepR K cl G' H' (Own σ e) v r → Q v H'
def wT (args : List V) (σ : L2.St) (Q : Bool → Hp → Prop) : Wnt Bool := fun G H A b e => ∀ G' H', RS K cl args G' H' σ e → Stp G H A G' H' (Own σ e) → Q b H'
def wA (args : List V) (σ : L2.St) (Q : List V → Hp → Prop) : Wnt (List D) := fun G H A ds e => ∀ vs G' H', RS K cl args G' H' σ e → Stp G H A G' H' (Own σ e) → RepL K cl G' ds vs → Q vs H'
def wS (args : List V) (D : Ends) : Wnt Fl := fun G H A f e => match f with
  | .nx => ∀ σ' G' H', RS K cl args G' H' σ' e → Stp G H A G' H' (Own σ' e) → D.nx σ' H'
  | .bk => ∀ σ' G' H', RS K cl args G' H' σ' e → Stp G H A G' H' (Own σ' e) → D.bk σ' H'
  | .ct => ∀ σ' G' H', RS K cl args G' H' σ' e → Stp G H A G' H' (Own σ' e) → D.ct σ' H'
  | .rt r => ∀ v σ' G' H', RS K cl args G' H' σ' e → Stp G H A G' H' (fun a => Own σ' e a ∨ OwnR v r a) → RepR K cl G' H' (Own σ' e) v r → D.rt v H'
def tE (W : WX) (f : Xp) : TE := fun σ H Q => ∃ args G env, RS K cl args G H σ env ∧ Post K cl args W (wE K cl args σ Q) G H (Own σ env) (f env)
def tT (W : WX) (f : Xt) : TT := fun σ H Q => ∃ args G env, RS K cl args G H σ env ∧ Post K cl args W (wT K cl args σ Q) G H (Own σ env) (f env)
def tA (W : WX) (f : Xa) : TA := fun σ H Q => ∃ args G env, RS K cl args G H σ env ∧ Post K cl args W (wA K cl args σ Q) G H (Own σ env) (f env)
def tS (W : WX) (f : Xs) : TS := fun D σ H => ∃ args G env, RS K cl args G H σ env ∧ Post K cl args W (wS K cl args D) G H (Own σ env) (f env)
/-- a new thing -/
inductive Nw (G H : Hp) : S → V → Hp → Hp → Prop where
  | same {d : D} {v : V} : Rep K cl G d v → Nw G H (.val d) v G H
  | tup {ds : List D} {vs : List V} {p : Addr} : RepL K cl G ds vs → H p = none → Nw G H (.val (.tup ds)) (.ref p) (upd G p (.tup vs)) (upd H p (.tup vs))
  | cell {c : C} {h : HO} {p : Addr} : CellAt K cl G c h → H p = none → Nw G H (.own none c) (.ref p) G (upd H p h)
end

section
variable {K : PySem.W.Frag} {cl : Str → Addr} {args : List V} {G H G' H' G1 H1 : Hp} {σ : L2.St} {env env' env1 : En} {W : WX} {v : V} {r : S} {d : D}
theorem wE_lat {Q : VK} : Lat (wE K cl args σ Q) := fun _ _ _ _ _ _ _ _ st h v G' H' rs s2 x => h v G' H' rs (st.trans s2) x
theorem wT_lat {Q : Bool → Hp → Prop} : Lat (wT K cl args σ Q) := fun _ _ _ _ _ _ _ _ st h G' H' rs s2 => h G' H' rs (st.trans s2)
theorem wA_lat {Q : List V → Hp → Prop} : Lat (wA K cl args σ Q) := fun _ _ _ _ _ _ _ _ st h v G' H' rs s2 x => h v G' H' rs (st.trans s2) x
theorem wS_lat {D : Ends} : Lat (wS K cl args D) := fun G H A G1 H1 A1 b e st h => by
  cases b with
  | nx => exact fun σ' G' H' rs s2 => h σ' G' H' rs (st.trans s2)
  | bk => exact fun σ' G' H' rs s2 => h σ' G' H' rs (st.trans s2)
  | ct => exact fun σ' G' H' rs s2 => h σ' G' H' rs (st.trans s2)
  | rt r => exact fun v σ' G' H' rs s2 x => h v σ' G' H' rs (st.trans s2) x
theorem Post.later {β : Type} {w : Wnt β} {A A1 : Addr → Prop} {R : Res β} (lat : Lat w) (st : Stp G H A G1 H1 A1) (h : Post K cl args W w G H A R) : Post K cl args W w G1 H1 A1 R := by
  cases R with
  | ok b e => exact lat _ _ _ _ _ _ _ _ st h
  | exc c ns ds e => exact fun x d σ' G' H' rs s2 q => h x d σ' G' H' rs (st.trans s2) q
  | bad => exact h
theorem RS.val (rs : RS K cl args G H σ env) {i : Nat} (h : env[i]? = some (.val d)) : ∃ v, σ[i]? = some (some v) ∧ Rep K cl G d v := rs.slot i _ h
theorem RS.lt {i : Nat} (rs : RS K cl args G H σ env) {s : S} (h : env[i]? = some s) : i < σ.length := by
  rw [rs.len]; exact (List.getElem?_eq_some_iff.mp h).1
/-- other heaps: what is known grows, what is owned stays -/
theorem RS.move (rs : RS K cl args G H σ env) (ex : Ex G' H') (g : Ex G G') (o : ∀ a h, Own σ env a → H a = some h → G a = none → H' a = some h ∧ G' a = none) : RS K cl args G' H' σ env :=
  ⟨ex, rs.len, fun i s h => by
    have q := rs.slot i s h
    cases s with
    | und => trivial
    | val d => obtain ⟨v, h1, h2⟩ := q; exact ⟨v, h1, h2.mono g⟩
    | own ow c =>
      obtain ⟨a, u, h1, h2, h3, h4, h5⟩ := q
      obtain ⟨q1, q2⟩ := o a u ⟨i, ow, c, h, h1⟩ h3 h2
      exact ⟨a, u, h1, q2, q1, h4.mono g, h5⟩, rs.sep⟩
theorem RS.known (rs : RS K cl args G H σ env) {p : Addr} {o : HO} (hp : H p = none) : RS K cl args (upd G p o) (upd H p o) σ env :=
  rs.move rs.ex.both (Ex.new (rs.ex.free hp)) fun a h _ e n => by
    have ne : a ≠ p := ne_of_none e hp
    rw [upd_ne ne, upd_ne ne]; exact ⟨e, n⟩
theorem RS.cell (rs : RS K cl args G H σ env) {p : Addr} {o : HO} (hp : H p = none) : RS K cl args G (upd H p o) σ env :=
  rs.move (rs.ex.mut (rs.ex.free hp)) (Ex.refl G) fun a h _ e n => by
    rw [upd_ne (ne_of_none e hp)]; exact ⟨e, n⟩
theorem RS.notOwn (rs : RS K cl args G H σ env) {a : Addr} (h : Own σ env a) : H a ≠ none ∧ G a = none := by
  obtain ⟨i, o, c, h1, h2⟩ := h
  obtain ⟨b, u, q1, q2, q3, _⟩ := rs.slot i _ h1
  rw [h2] at q1
  have e : a = b := by injection q1 with q1; injection q1 with q1; injection q1
  subst e
  exact ⟨by rw [q3]; simp, q2⟩
/-- a new thing goes to what waits for it -/
theorem wE_new {Q : VK} {s : S} (rs : RS K cl args G H σ env) (h : wE K cl args σ Q G H (Own σ env) s env) : ∀ v G' H', Nw K cl G H s v G' H' → Q v H' := by
  intro v G' H' n
  cases n with
  | same q => exact h v G H rs (Stp.refl.less fun a z => by
      rcases z with z | ⟨c, z, _⟩
      · exact z
      · cases z) q
  | tup q hp =>
    refine h _ _ _ (rs.known hp) ((Stp.new rs.ex hp).less fun a z => ?_) (rep_tup.mpr ⟨_, _, rfl, upd_same, q.mono (Ex.new (rs.ex.free hp))⟩)
    rcases z with z | ⟨c, z, _⟩
    · exact z
    · cases z
  | cell q hp =>
    refine h _ _ _ (rs.cell hp) ((Stp.cell hp).less fun a z => ?_) ⟨_, _, rfl, rs.ex.free hp, upd_same, q, fun z => (rs.notOwn z).1 hp⟩
    rcases z with z | ⟨c, _, z⟩
    · exact .inl z
    · injection z with z; exact .inr z.symm
/-- a new cell may be frozen -/
theorem RepR.frz {A : Addr → Prop} (rs : RS K cl args G' H' σ env') (st : Stp G H A G' H' (fun a => Own σ env' a ∨ OwnR v r a)) (x : RepR K cl G' H' (Own σ env') v r) (hd : Ya.frz r = some d) :
    ∃ G2, RS K cl args G2 H' σ env' ∧ Stp G H A G2 H' (Own σ env') ∧ Rep K cl G2 d v := by
  have main : ∀ (a : Addr) (h : HO) (c : C), r = .own none c → v = .ref a → G' a = none → H' a = some h → ¬ Own σ env' a → ∃ G2, RS K cl args G2 H' σ env' ∧ Stp G H A G2 H' (Own σ env') ∧ G2 = upd G' a h := by
    intro a h c er ev hg hh hn
    refine ⟨upd G' a h, rs.move (rs.ex.at hh) (Ex.new hg) (fun b u ob eb nb => ⟨eb, ?_⟩), st.trans ⟨Ex.new hg, fun _ _ _ e => e, fun b nb eb gb => ?_, fun b z => .inl (.inl z)⟩, rfl⟩
    · have ne : b ≠ a := fun z => hn (z ▸ ob)
      rw [upd_ne ne]; exact nb
    · have ne : b ≠ a := fun z => nb (.inr ⟨c, er, by rw [z]; exact ev⟩)
      rw [upd_ne ne]; exact gb
  cases r with
  | und => exact x.elim
  | val d' =>
    have e : d' = d := by injection hd
    subst e
    exact ⟨G', rs, st.less fun a z => .inl z, x⟩
  | own o c =>
    cases o with
    | some k => exact x.elim
    | none =>
      obtain ⟨a, h, ev, hg, hh, hc, hn⟩ := x
      obtain ⟨G2, rs2, st2, e2⟩ := main a h c rfl ev hg hh hn
      refine ⟨G2, rs2, st2, ?_⟩
      have ex : Ex G' G2 := by rw [e2]; exact Ex.new hg
      have at2 : G2 a = some h := by rw [e2]; exact upd_same
      cases c with
      | lst xs =>
        have e : D.lst xs = d := by injection hd
        subst e
        obtain ⟨vs, eh, rl⟩ := hc
        exact rep_lst.mpr ⟨a, vs, ev, by rw [at2, eh], rl.mono ex⟩
      | dk m => cases hd
      | dt m => cases hd
      | obj c ns ds =>
        have e : D.ins c ns ds = d := by injection hd
        subst e
        obtain ⟨dx, vs, eh, hl, rl⟩ := hc
        exact rep_ins.mpr ⟨a, dx, vs, ev, by rw [at2, eh], hl, rl.mono ex⟩
/-- an expression for data, then the rest -/
theorem tE_data {β : Type} {w : Wnt β} {f : Xp} {k : D → En → Res β} {P : VK} (lat : Lat w) (rs : RS K cl args G H σ env) (h : Post K cl args W w G H (Own σ env) ((f env).data k))
    (hk : ∀ d x env1 G1 H1, RS K cl args G1 H1 σ env1 → Ex G G1 → Rep K cl G1 d x → Post K cl args W w G1 H1 (Own σ env1) (k d env1) → P x H1) : tE K cl W f σ H P := by
  refine ⟨args, G, env, rs, ?_⟩
  cases hf : f env with
  | bad => rw [hf] at h; exact h
  | exc c ns ds e => rw [hf] at h; exact h
  | ok r e =>
    rw [hf] at h
    intro v G' H' rs' st x
    cases hz : frz r with
    | none =>
      have q : (Res.ok r e).data k = .bad := by unfold Res.data; simp only [hz]
      rw [q] at h; exact h.elim
    | some d =>
      have q : (Res.ok r e).data k = k d e := by unfold Res.data; simp only [hz]
      rw [q] at h
      obtain ⟨G2, rs2, st2, rep⟩ := RepR.frz rs' st x hz
      exact hk d v e G2 H' rs2 st2.g rep (h.later lat st2)
/-- an expression for what it is, then the rest -/
theorem tE_any {β : Type} {w : Wnt β} {f : Xp} {k : S → En → Res β} {P : VK} (rs : RS K cl args G H σ env) (h : Post K cl args W w G H (Own σ env) ((f env).bind k))
    (hk : ∀ r x env1 G1 H1, RS K cl args G1 H1 σ env1 → Stp G H (Own σ env) G1 H1 (fun a => Own σ env1 a ∨ OwnR x r a) → RepR K cl G1 H1 (Own σ env1) x r → Post K cl args W w G H (Own σ env) (k r env1) → P x H1) : tE K cl W f σ H P := by
  refine ⟨args, G, env, rs, ?_⟩
  cases hf : f env with
  | bad => rw [hf] at h; exact h
  | exc c ns ds e => rw [hf] at h; exact h
  | ok r e =>
    rw [hf] at h
    exact fun v G' H' rs' st x => hk r v e G' H' rs' st x h
theorem tT_bind {β : Type} {w : Wnt β} {f : Xt} {k : Bool → En → Res β} {P : Bool → Hp → Prop} (lat : Lat w) (rs : RS K cl args G H σ env) (h : Post K cl args W w G H (Own σ env) ((f env).bind k))
    (hk : ∀ b env1 G1 H1, RS K cl args G1 H1 σ env1 → Stp G H (Own σ env) G1 H1 (Own σ env1) → Post K cl args W w G1 H1 (Own σ env1) (k b env1) → P b H1) : tT K cl W f σ H P := by
  refine ⟨args, G, env, rs, ?_⟩
  cases hf : f env with
  | bad => rw [hf] at h; exact h
  | exc c ns ds e => rw [hf] at h; exact h
  | ok b e =>
    rw [hf] at h
    exact fun G' H' rs' st => hk b e G' H' rs' st (h.later lat st)
theorem tA_bind {β : Type} {w : Wnt β} {f : Xa} {k : List D → En → Res β} {P : List V → Hp → Prop} (lat : Lat w) (rs : RS K cl args G H σ env) (h : Post K cl args W w G H (Own σ env) ((f env).bind k))
    (hk : ∀ ds vs env1 G1 H1, RS K cl args G1 H1 σ env1 → Ex G G1 → RepL K cl G1 ds vs → Post K cl args W w G1 H1 (Own σ env1) (k ds env1) → P vs H1) : tA K cl W f σ H P := by
  refine ⟨args, G, env, rs, ?_⟩
  cases hf : f env with
  | bad => rw [hf] at h; exact h
  | exc c ns ds e => rw [hf] at h; exact h
  | ok b e =>
    rw [hf] at h
    exact fun vs G' H' rs' st x => hk b vs e G' H' rs' st.g x (h.later lat st)
end
end Ya

set_option maxHeartbeats 4000000
namespace Ya
open PySem PySem.Spec PyProof.Rows L2

/-! ### what a piece of syntax does, by a function of data -/
def SE (cl : Str → Addr) (X : Cx) (e : Expr) (f : Xp) : Prop := ∀ W, Takes X W → PE X e (tE X.K cl W f)
def ST (cl : Str → Addr) (X : Cx) (e : Expr) (f : Xt) : Prop := ∀ W, Takes X W → PT X e (tT X.K cl W f)
def SW (cl : Str → Addr) (X : Cx) (e : Expr) (f : Xt) : Prop := ∀ W, Takes X W → PW X e (tT X.K cl W f)
def SA (cl : Str → Addr) (X : Cx) (es : List Expr) (f : Xa) : Prop := ∀ W, Takes X W → PA X es (tA X.K cl W f)
def SS (cl : Str → Addr) (X : Cx) (st : Stmt) (f : Xs) : Prop := ∀ W, Takes X W → PS X st (tS X.K cl W f)
def SB (cl : Str → Addr) (X : Cx) (sts : List Stmt) (f : Xs) : Prop := ∀ W, Takes X W → PSs X sts (tS X.K cl W f)

section
variable {X : Cx} {e : Expr} {es : List Expr} {st : Stmt} {sts : List Stmt}
theorem _root_.L2.PE.impY {t t' : TE} (h : PE X e t) (q : ∀ σ H Q, t' σ H Q → t σ H Q) : PE X e t' := ⟨fun pins s σ H Q I z => h.run pins s σ H Q I (q _ _ _ z)⟩
theorem _root_.L2.PT.impY {t t' : TT} (h : PT X e t) (q : ∀ σ H Q, t' σ H Q → t σ H Q) : PT X e t' := ⟨fun pins s σ H Q I z => h.run pins s σ H Q I (q _ _ _ z)⟩
theorem _root_.L2.PW.impY {t t' : TT} (h : PW X e t) (q : ∀ σ H Q, t' σ H Q → t σ H Q) : PW X e t' := ⟨fun wh pins s σ H Q I z => h.run wh pins s σ H Q I (q _ _ _ z)⟩
theorem _root_.L2.PA.impY {t t' : TA} (h : PA X es t) (q : ∀ σ H Q, t' σ H Q → t σ H Q) : PA X es t' := ⟨fun p pins s σ H Q I z => h.run p pins s σ H Q I (q _ _ _ z)⟩
theorem _root_.L2.PS.impY {t t' : TS} (h : PS X st t) (q : ∀ D σ H, t' D σ H → t D σ H) : PS X st t' := ⟨fun pins s σ H D I z => h.run pins s σ H D I (q _ _ _ z)⟩
theorem _root_.L2.PSs.impY {t t' : TS} (h : PSs X sts t) (q : ∀ D σ H, t' D σ H → t D σ H) : PSs X sts t' := ⟨fun pins s σ H D I z => h.run pins s σ H D I (q _ _ _ z)⟩
end

/-! ### functions of data -/
def xVar (i : Nat) : Xp := fun env => match env[i]? with | some (.val d) => .ok (.val d) env | _ => .bad
def xMove (i : Nat) : Xp := fun env => match env[i]? with | some (.own none c) => .ok (.own none c) (env.set i .und) | _ => .bad
def xC (d : D) : Xp := fun env => .ok (.val d) env
def x1 (g : D → Option S) (fa : Xp) : Xp := fun env => (fa env).data fun a e1 => .opt (g a) e1
def x2 (g : D → D → Option S) (fa fb : Xp) : Xp := fun env => (fa env).data fun a e1 => (fb e1).data fun b e2 => .opt (g a b) e2
def aNil : Xa := fun env => .ok [] env
def aCons (f : Xp) (r : Xa) : Xa := fun env => (f env).data fun d e1 => (r e1).bind fun ds e2 => .ok (d :: ds) e2
def xN (g : List D → Option S) (fa : Xa) : Xp := fun env => (fa env).bind fun ds e1 => .opt (g ds) e1
def uTst (f : Xp) : Xt := fun env => (f env).data fun d e => match d with | .bl b => .ok b e | _ => .bad
def uNot (f : Xt) : Xt := fun env => (f env).bind fun b e => .ok (!b) e
def uAnd (f g : Xt) : Xt := fun env => (f env).bind fun b e => if b = true then g e else .ok false e
def uOr (f g : Xt) : Xt := fun env => (f env).bind fun b e => if b = true then .ok true e else g e
def xIf (t : Xt) (f g : Xp) : Xp := fun env => (t env).bind fun b e => if b = true then f e else g e
def xAndB (f g : Xp) : Xp := fun env => (f env).data fun d e => match d with | .bl true => g e | .bl false => .ok (.val (.bl false)) e | _ => .bad
def xOrB (f g : Xp) : Xp := fun env => (f env).data fun d e => match d with | .bl true => .ok (.val (.bl true)) e | .bl false => g e | _ => .bad
def xNotB (f : Xp) : Xp := fun env => (f env).data fun d e => match d with | .bl b => .ok (.val (.bl (!b))) e | _ => .bad

section
variable {cl : Str → Addr} {X : Cx} {a b c e : Expr} {es : List Expr} {pos : Pos} {fa fb fc : Xp}
theorem xVar_ok {i : Nat} {env : En} {K : PySem.W.Frag} {args : List V} {W : WX} {σ : L2.St} {G H : Hp} {Q : VK} (rs : RS K cl args G H σ env) (h : Post K cl args W (wE K cl args σ Q) G H (Own σ env) (xVar i env)) : tVar i σ H Q := by
  unfold xVar at h
  split at h
  · rename_i d hd
    obtain ⟨v, h1, h2⟩ := rs.val hd
    exact ⟨v, h1, wE_new rs h _ _ _ (.same h2)⟩
  · exact h.elim
theorem se_var (i : Nat) {x : Str} (h : PE X (.Name x pos) (tVar i)) : SE cl X (.Name x pos) (xVar i) := fun W _ => h.impY fun σ H Q ⟨args, G, env, rs, q⟩ => xVar_ok rs q
theorem RS.drop {K : PySem.W.Frag} {args : List V} {σ : L2.St} {G H : Hp} {env : En} (i : Nat) (rs : RS K cl args G H σ env) : RS K cl args G H σ (env.set i .und) := by
  have back : ∀ (j : Nat) (o : Option Nat) (c : C), (env.set i S.und)[j]? = some (.own o c) → env[j]? = some (.own o c) := fun j o c e => by
    rw [List.getElem?_set] at e
    split at e
    · split at e <;> cases e
    · exact e
  refine ⟨rs.ex, by rw [List.length_set]; exact rs.len, fun j s h => ?_, fun j k o o' c c' b h1 h2 h3 h4 => rs.sep j k o o' c c' b (back j o c h1) (back k o' c' h2) h3 h4⟩
  rw [List.getElem?_set] at h
  split at h
  · split at h
    · injection h with h; subst h; trivial
    · cases h
  · exact rs.slot j s h
theorem own_drop {σ : L2.St} {env : En} {i : Nat} {b : Addr} (h : Own σ (env.set i .und) b) : Own σ env b ∧ ∃ j, j ≠ i ∧ σ[j]? = some (some (V.ref b)) ∧ ∃ o c, env[j]? = some (.own o c) := by
  obtain ⟨j, o, c, h1, h2⟩ := h
  rw [List.getElem?_set] at h1
  split at h1
  · split at h1 <;> cases h1
  · rename_i n
    exact ⟨⟨j, o, c, h1, h2⟩, j, fun z => n z.symm, h2, o, c, h1⟩
theorem se_move (i : Nat) {x : Str} (h : PE X (.Name x pos) (tVar i)) : SE cl X (.Name x pos) (xMove i) := fun W _ => h.impY fun σ H Q ⟨args, G, env, rs, q⟩ => by
  unfold xMove at q
  split at q
  · rename_i c hc
    obtain ⟨p, u, h1, h2, h3, h4, _⟩ := rs.slot i _ hc
    refine ⟨.ref p, h1, q (.ref p) G H (rs.drop i) (Stp.refl.less fun b z => ?_) ⟨p, u, rfl, h2, h3, h4, fun z => ?_⟩⟩
    · rcases z with z | ⟨c', _, z⟩
      · exact (own_drop z).1
      · injection z with z; subst z; exact ⟨i, none, c, hc, h1⟩
    · obtain ⟨_, j, hj, hs, o, c', he⟩ := own_drop z
      exact hj (rs.sep j i o none c' c p he hc hs h1)
  · exact q.elim
theorem se_con {d : D} {v : V} (h : PE X e (tC v)) (r : ∀ K cl G, Rep K cl G d v) : SE cl X e (xC d) := fun W _ => h.impY fun σ H Q ⟨args, G, env, rs, q⟩ => wE_new rs q _ _ _ (.same (r _ _ _))
theorem se_int {i j} : SE cl X (.Constant (.int i) j pos) (xC (.int i)) := se_con pe_int fun _ _ _ => rep_int.mpr rfl
theorem se_bl {k j} : SE cl X (.Constant (.bool k) j pos) (xC (.bl k)) := se_con pe_bl fun _ _ _ => rep_bl.mpr rfl
theorem se_non {j} : SE cl X (.Constant .none j pos) (xC .non) := se_con pe_non fun _ _ _ => rep_non.mpr rfl
theorem se_str {x j} : SE cl X (.Constant (.str x) j pos) (xC (.str x)) := se_con pe_str fun _ _ _ => rep_str.mpr rfl
theorem se_gint {x : Str} {i : Int} {u : Value} (hg : Gl X x) (hm : X.mg x = some u) (r : RelV (.int i) u) (hd : (x == ("__debug__" : Str)) = false := by decide) : SE cl X (.Name x pos) (xC (.int i)) := se_con (pe_glob hg hm r hd) fun _ _ _ => rep_int.mpr rfl

/-- a two-place operation does g -/
def R2Ok (K : PySem.W.Frag) (cl : Str → Addr) (r : R2) (g : D → D → Option S) : Prop := ∀ {G H : Hp} {x y : V} {dx dy : D} {s : S} {Q : VK}, Ex G H → Rep K cl G dx x → Rep K cl G dy y → g dx dy = some s → (∀ v G' H', Nw K cl G H s v G' H' → Q v H') → r x y H Q
def R1Ok (K : PySem.W.Frag) (cl : Str → Addr) (r : V → Hp → VK → Prop) (g : D → Option S) : Prop := ∀ {G H : Hp} {x : V} {dx : D} {s : S} {Q : VK}, Ex G H → Rep K cl G dx x → g dx = some s → (∀ v G' H', Nw K cl G H s v G' H' → Q v H') → r x H Q
def RNOk (K : PySem.W.Frag) (cl : Str → Addr) (r : List V → Hp → VK → Prop) (g : List D → Option S) : Prop := ∀ {G H : Hp} {xs : List V} {ds : List D} {s : S} {Q : VK}, Ex G H → RepL K cl G ds xs → g ds = some s → (∀ v G' H', Nw K cl G H s v G' H' → Q v H') → r xs H Q
theorem opt_ok {K : PySem.W.Frag} {args : List V} {W : WX} {σ : L2.St} {G H : Hp} {env : En} {Q : VK} {o : Option S} (rs : RS K cl args G H σ env) (h : Post K cl args W (wE K cl args σ Q) G H (Own σ env) (.opt o env)) :
    ∃ s, o = some s ∧ ∀ v G' H', Nw K cl G H s v G' H' → Q v H' := by
  cases o with
  | none => exact h.elim
  | some s => exact ⟨s, rfl, wE_new rs h⟩
theorem se_op {op : Operator} {r : R2} {g : D → D → Option S} (ho : OpR X (binaryOp op) r) (hr : R2Ok X.K cl r g) (ha : SE cl X a fa) (hb : SE cl X b fb) : SE cl X (.BinOp a op b pos) (x2 g fa fb) := fun W tk =>
  (pe_op ho (ha W tk) (hb W tk)).impY fun σ H Q ⟨args, G, env, rs, q⟩ => tE_data wE_lat rs q fun dx x env1 G1 H1 rs1 ex1 rx q1 => tE_data wE_lat rs1 q1 fun dy y env2 G2 H2 rs2 ex2 ry q2 => by
    obtain ⟨s, e, k⟩ := opt_ok rs2 q2
    exact hr rs2.ex (rx.mono ex2) ry e k
theorem se_cmp {op : CmpOp} {r : R2} {g : D → D → Option S} (ho : OpR X (compareOp op) r) (hr : R2Ok X.K cl r g) (ha : SE cl X a fa) (hb : SE cl X b fb) (hm : behindInMarks op b = false) : SE cl X (.Compare a [op] [b] pos) (x2 g fa fb) := fun W tk =>
  (pe_cmpR ho (ha W tk) (hb W tk) hm).impY fun σ H Q ⟨args, G, env, rs, q⟩ => tE_data wE_lat rs q fun dx x env1 G1 H1 rs1 ex1 rx q1 => tE_data wE_lat rs1 q1 fun dy y env2 G2 H2 rs2 ex2 ry q2 => by
    obtain ⟨s, e, k⟩ := opt_ok rs2 q2
    exact hr rs2.ex (rx.mono ex2) ry e k
theorem se_un {op : UnaryOp} {r : V → Hp → VK → Prop} {g : D → Option S} (ho : UnR X (unaryOp op) r) (hr : R1Ok X.K cl r g) (ha : SE cl X a fa) : SE cl X (.UnaryOp op a pos) (x1 g fa) := fun W tk =>
  (pe_un ho (ha W tk)).impY fun σ H Q ⟨args, G, env, rs, q⟩ => tE_data wE_lat rs q fun dx x env1 G1 H1 rs1 ex1 rx q1 => by
    obtain ⟨s, e, k⟩ := opt_ok rs1 q1
    exact hr rs1.ex rx e k
theorem se_ix {r : R2} {g : D → D → Option S} (ho : IxR X r) (hr : R2Ok X.K cl r g) (ha : SE cl X a fa) (hb : SE cl X b fb) (hs : PlainIx b) : SE cl X (.Subscript a b pos) (x2 g fa fb) := fun W tk =>
  (pe_ix ho (ha W tk) (hb W tk) hs).impY fun σ H Q ⟨args, G, env, rs, q⟩ => tE_data wE_lat rs q fun dx x env1 G1 H1 rs1 ex1 rx q1 => tE_data wE_lat rs1 q1 fun dy y env2 G2 H2 rs2 ex2 ry q2 => by
    obtain ⟨s, e, k⟩ := opt_ok rs2 q2
    exact hr rs2.ex (rx.mono ex2) ry e k
/-! tests -/
theorem tE_tst {f : Xp} {K : PySem.W.Frag} {args : List V} {W : WX} {σ : L2.St} {G H : Hp} {env : En} {Q : Bool → Hp → Prop} (rs : RS K cl args G H σ env) (q : Post K cl args W (wT K cl args σ Q) G H (Own σ env) (uTst f env)) :
    tE K cl W f σ H fun x H1 => ∃ c, x = .bl c ∧ Q c H1 := tE_data wT_lat rs q fun dx x env1 G1 H1 rs1 ex1 rx q1 => by
  split at q1
  · exact ⟨_, rep_bl.mp rx, q1 _ _ rs1 .refl⟩
  · exact q1.elim
theorem st_val {f : Xp} (h : SE cl X e f) (he : ∀ whole, isTrue e X.env whole = (do let v ← whole; standAt e.pos; holding [v] (truthy v)) := by intro _; rfl) : ST cl X e (uTst f) := fun W tk =>
  (pt_val (h W tk) he).impY fun σ H Q ⟨args, G, env, rs, q⟩ => tE_tst rs q
theorem st_cmp {op : CmpOp} {r : R2} {g : D → D → Option S} (ho : OpR X (compareOp op) r) (hr : R2Ok X.K cl r g) (ha : SE cl X a fa) (hb : SE cl X b fb) (hm : behindInMarks op b = false) : ST cl X (.Compare a [op] [b] pos) (uTst (x2 g fa fb)) := fun W tk =>
  (pt_cmpR ho (ha W tk) (hb W tk) hm).impY fun σ H Q ⟨args, G, env, rs, q⟩ => by
    have key : ∀ σ H Q, tE X.K cl W (x2 g fa fb) σ H Q → tOp r (tE X.K cl W fa) (tE X.K cl W fb) σ H Q := fun σ H Q ⟨args, G, env, rs, q⟩ => tE_data wE_lat rs q fun dx x env1 G1 H1 rs1 ex1 rx q1 => tE_data wE_lat rs1 q1 fun dy y env2 G2 H2 rs2 ex2 ry q2 => by
      obtain ⟨s, e, k⟩ := opt_ok rs2 q2
      exact hr rs2.ex (rx.mono ex2) ry e k
    exact key _ _ _ (tE_tst rs q)
theorem st_not {f : Xt} (h : ST cl X a f) : ST cl X (.UnaryOp .Not a pos) (uNot f) := fun W tk =>
  (pt_not (h W tk)).impY fun σ H Q ⟨args, G, env, rs, q⟩ => tT_bind wT_lat rs q fun b env1 G1 H1 rs1 st q1 => q1 _ _ rs1 .refl
theorem sw_pt {f : Xt} (h : SW cl X a f) : ST cl X a f := fun W tk => (h W tk).pt
theorem sw_and1 {f : Xt} (h : ST cl X a f) : SW cl X (.BoolOp .And [a] pos) f := fun W tk => pw_and1 (h W tk)
theorem sw_or1 {f : Xt} (h : ST cl X a f) : SW cl X (.BoolOp .Or [a] pos) f := fun W tk => pw_or1 (h W tk)
theorem sw_and {f g : Xt} {rest : List Expr} (ha : ST cl X a f) (hb : SW cl X (.BoolOp .And (b :: rest) pos) g) : SW cl X (.BoolOp .And (a :: b :: rest) pos) (uAnd f g) := fun W tk =>
  (pw_and (ha W tk) (hb W tk)).impY fun σ H Q ⟨args, G, env, rs, q⟩ => tT_bind wT_lat rs q fun b env1 G1 H1 rs1 st q1 => by
    cases b with
    | true => rw [if_pos rfl] at q1 ⊢; exact ⟨args, G1, env1, rs1, q1⟩
    | false => rw [if_neg Bool.false_ne_true] at q1 ⊢; exact q1 _ _ rs1 .refl
theorem sw_or {f g : Xt} {rest : List Expr} (ha : ST cl X a f) (hb : SW cl X (.BoolOp .Or (b :: rest) pos) g) : SW cl X (.BoolOp .Or (a :: b :: rest) pos) (uOr f g) := fun W tk =>
  (pw_or (ha W tk) (hb W tk)).impY fun σ H Q ⟨args, G, env, rs, q⟩ => tT_bind wT_lat rs q fun b env1 G1 H1 rs1 st q1 => by
    cases b with
    | true => rw [if_pos rfl] at q1 ⊢; exact q1 _ _ rs1 .refl
    | false => rw [if_neg Bool.false_ne_true] at q1 ⊢; exact ⟨args, G1, env1, rs1, q1⟩
theorem se_if {f : Xt} (hc : ST cl X c f) (ha : SE cl X a fa) (hb : SE cl X b fb) : SE cl X (.IfExp c a b pos) (xIf f fa fb) := fun W tk =>
  (pe_ifExp (hc W tk) (ha W tk) (hb W tk)).impY fun σ H Q ⟨args, G, env, rs, q⟩ => tT_bind wE_lat rs q fun b env1 G1 H1 rs1 st q1 => by
    cases b with
    | true => rw [if_pos rfl] at q1 ⊢; exact ⟨args, G1, env1, rs1, q1⟩
    | false => rw [if_neg Bool.false_ne_true] at q1 ⊢; exact ⟨args, G1, env1, rs1, q1⟩
theorem se_one {op} (h : SE cl X a fa) : SE cl X (.BoolOp op [a] pos) fa := fun W tk => pe_one (h W tk)
theorem se_and {rest : List Expr} (ha : SE cl X a fa) (hb : SE cl X (.BoolOp .And (b :: rest) pos) fb) : SE cl X (.BoolOp .And (a :: b :: rest) pos) (xAndB fa fb) := fun W tk =>
  (pe_and (ha W tk) (hb W tk)).impY fun σ H Q ⟨args, G, env, rs, q⟩ => tE_data wE_lat rs q fun dx x env1 G1 H1 rs1 ex1 rx q1 => by
    split at q1
    · exact ⟨true, rep_bl.mp rx, by rw [if_pos rfl]; exact ⟨args, G1, env1, rs1, q1⟩⟩
    · exact ⟨false, rep_bl.mp rx, by rw [if_neg Bool.false_ne_true]; exact wE_new rs1 q1 _ _ _ (.same (rep_bl.mpr rfl))⟩
    · exact q1.elim
theorem se_or {rest : List Expr} (ha : SE cl X a fa) (hb : SE cl X (.BoolOp .Or (b :: rest) pos) fb) : SE cl X (.BoolOp .Or (a :: b :: rest) pos) (xOrB fa fb) := fun W tk =>
  (pe_or (ha W tk) (hb W tk)).impY fun σ H Q ⟨args, G, env, rs, q⟩ => tE_data wE_lat rs q fun dx x env1 G1 H1 rs1 ex1 rx q1 => by
    split at q1
    · exact ⟨true, rep_bl.mp rx, by rw [if_pos rfl]; exact wE_new rs1 q1 _ _ _ (.same (rep_bl.mpr rfl))⟩
    · exact ⟨false, rep_bl.mp rx, by rw [if_neg Bool.false_ne_true]; exact ⟨args, G1, env1, rs1, q1⟩⟩
    · exact q1.elim
theorem se_notB (ha : SE cl X a fa) : SE cl X (.UnaryOp .Not a pos) (xNotB fa) := fun W tk =>
  (pe_not (ha W tk)).impY fun σ H Q ⟨args, G, env, rs, q⟩ => tE_data wE_lat rs q fun dx x env1 G1 H1 rs1 ex1 rx q1 => by
    split at q1
    · exact ⟨_, rep_bl.mp rx, wE_new rs1 q1 _ _ _ (.same (rep_bl.mpr rfl))⟩
    · exact q1.elim
/-! argument lists, displays, calls of what the language brings -/
theorem sa_nil : SA cl X [] aNil := fun W _ => pa_nil.impY fun σ H Q ⟨args, G, env, rs, q⟩ => q [] G H rs .refl (repL_nil.mpr rfl)
theorem sa_cons {r : Xa} (ha : SE cl X e fa) (hr : SA cl X es r) (hs : starEach (e :: es) X.env = (false, eval e X.env) :: starEach es X.env := by rfl) : SA cl X (e :: es) (aCons fa r) := fun W tk =>
  (pa_cons (ha W tk) (hr W tk) hs).impY fun σ H Q ⟨args, G, env, rs, q⟩ => tE_data wA_lat rs q fun dx x env1 G1 H1 rs1 ex1 rx q1 => tA_bind wA_lat rs1 q1 fun ds xs env2 G2 H2 rs2 ex2 rxs q2 =>
    q2 (x :: xs) G2 H2 rs2 .refl (repL_cons.mpr ⟨x, xs, rfl, rx.mono ex2, rxs⟩)
def gTup (ds : List D) : Option S := if ds.length ≤ 1000 then some (.val (.tup ds)) else none
def gLst (ds : List D) : Option S := if ds.length ≤ 1000 then some (.own none (.lst ds)) else none
theorem le_line {n m : Nat} (h : n ≤ m) (hm : m ≤ 16777216 := by decide) : n ≤ sizeLine := Nat.le_trans h (by rw [sizeLine_eq]; exact hm)
theorem se_tup {x1} {f : Xa} (h : SA cl X es f) : SE cl X (.Tuple es x1 pos) (xN gTup f) := fun W tk =>
  (pe_tup (h W tk)).impY fun σ H Q ⟨args, G, env, rs, q⟩ => tA_bind wE_lat rs q fun ds xs env1 G1 H1 rs1 ex1 rx q1 => by
    obtain ⟨s, e, k⟩ := opt_ok rs1 q1
    unfold gTup at e
    split at e
    · rename_i hl
      injection e with e; subst e
      exact ⟨by rw [← rx.len]; exact le_line hl, fun p hp => k _ _ _ (.tup rx hp)⟩
    · cases e
theorem se_lst {f : Xa} (h : SA cl X es f) : SE cl X (.List es pos) (xN gLst f) := fun W tk =>
  (pe_lst (h W tk)).impY fun σ H Q ⟨args, G, env, rs, q⟩ => tA_bind wE_lat rs q fun ds xs env1 G1 H1 rs1 ex1 rx q1 => by
    obtain ⟨s, e, k⟩ := opt_ok rs1 q1
    unfold gLst at e
    split at e
    · rename_i hl
      injection e with e; subst e
      exact ⟨by rw [← rx.len]; exact le_line hl, fun p hp => k _ _ _ (.cell ⟨xs, rfl, rx⟩ hp)⟩
    · cases e
theorem se_callB {id : String} {r : List V → Hp → VK → Prop} {g : List D → Option S} {f : Xa} {x : Str} {p : Pos} (hc : CallR X (.builtin id) r) (hr : RNOk X.K cl r g) (hg : Gl X x) (hm : X.mg x = none) (hv : bootBuiltins x = some (.builtin id)) (ha : SA cl X (e :: es) f)
    (hn : x ≠ "__name__" := by decide) (hdb : (x == ("__debug__" : Str)) = false := by decide) (he : starEach (e :: es) X.env = (false, eval e X.env) :: starEach es X.env := by rfl) (hpl : (backTo pos (starEach es X.env)).any (·.1) = false := by rfl) :
    SE cl X (.Call (.Name x p) (e :: es) [] pos) (xN g f) := fun W tk =>
  (pe_callB hc hg hm hv (ha W tk) hn hdb he hpl).impY fun σ H Q ⟨args, G, env, rs, q⟩ => tA_bind wE_lat rs q fun ds xs env1 G1 H1 rs1 ex1 rx q1 => by
    obtain ⟨s, e, k⟩ := opt_ok rs1 q1
    exact hr rs1.ex rx e k
theorem se_callTy {T : String} {r : List V → Hp → VK → Prop} {g : List D → Option S} {f : Xa} {x : Str} {p : Pos} (hc : CallR X (.type T) r) (hr : RNOk X.K cl r g) (hg : Gl X x) (hm : X.mg x = none) (hv : bootBuiltins x = some (.type T)) (ha : SA cl X (e :: es) f)
    (hn : x ≠ "__name__" := by decide) (hdb : (x == ("__debug__" : Str)) = false := by decide) (he : starEach (e :: es) X.env = (false, eval e X.env) :: starEach es X.env := by rfl) (hpl : (backTo pos (starEach es X.env)).any (·.1) = false := by rfl) :
    SE cl X (.Call (.Name x p) (e :: es) [] pos) (xN g f) := fun W tk =>
  (pe_callTy hc hg hm hv (ha W tk) hn hdb he hpl).impY fun σ H Q ⟨args, G, env, rs, q⟩ => tA_bind wE_lat rs q fun ds xs env1 G1 H1 rs1 ex1 rx q1 => by
    obtain ⟨s, e, k⟩ := opt_ok rs1 q1
    exact hr rs1.ex rx e k
end
end Ya

set_option maxHeartbeats 4000000
namespace Ya
open PySem PySem.Spec PyProof.Rows L2

/-! ### operators on data -/
def gI (k : Int → Int → Int) : D → D → Option S | .int i, .int j => some (.val (.int (k i j))) | _, _ => none
def gIc (c : Int → Int → Bool) (k : Int → Int → Int) : D → D → Option S | .int i, .int j => if c i j = true then some (.val (.int (k i j))) else none | _, _ => none
def gB (k : Int → Int → Bool) : D → D → Option S | .int i, .int j => some (.val (.bl (k i j))) | _, _ => none
section
variable {K : PySem.W.Frag} {cl : Str → Addr}
theorem ok_I {k : Int → Int → Int} : R2Ok K cl (rI0 fun i j => .int (k i j)) (gI k) := by
  intro G H x y dx dy s Q ex rx ry e q
  unfold gI at e
  split at e
  · injection e with e; subst e
    exact ⟨_, _, rep_int.mp rx, rep_int.mp ry, q _ _ _ (.same (rep_int.mpr rfl))⟩
  · cases e
theorem ok_B {k : Int → Int → Bool} : R2Ok K cl (rI0 fun i j => .bl (k i j)) (gB k) := by
  intro G H x y dx dy s Q ex rx ry e q
  unfold gB at e
  split at e
  · injection e with e; subst e
    exact ⟨_, _, rep_int.mp rx, rep_int.mp ry, q _ _ _ (.same (rep_bl.mpr rfl))⟩
  · cases e
theorem ok_Ic {P : Int → Int → Prop} {c : Int → Int → Bool} {k : Int → Int → Int} (h : ∀ i j, c i j = true → P i j) : R2Ok K cl (rI P fun i j => .int (k i j)) (gIc c k) := by
  intro G H x y dx dy s Q ex rx ry e q
  unfold gIc at e
  split at e
  · split at e
    · rename_i hc
      injection e with e; subst e
      exact ⟨_, _, rep_int.mp rx, rep_int.mp ry, h _ _ hc, q _ _ _ (.same (rep_int.mpr rfl))⟩
    · cases e
  · cases e
end
def cMul (i j : Int) : Bool := (decide (-(2 ^ 64) < i) && decide (i < 2 ^ 64)) || (decide (-(2 ^ 64) < j) && decide (j < 2 ^ 64))
def cDiv (_ j : Int) : Bool := decide (0 < j) && decide (j < 1073741824)
def cMod (_ j : Int) : Bool := decide (0 < j)
def cPow (i j : Int) : Bool := decide (0 ≤ j) && decide (j ≤ 1000000) && decide (i.natAbs < 2 ^ 64)
def cShr (_ j : Int) : Bool := decide (0 ≤ j)
theorem cMul_ok (i j : Int) (h : cMul i j = true) : CMul i j := by
  unfold cMul at h
  simp only [Bool.or_eq_true, Bool.and_eq_true, decide_eq_true_eq] at h
  exact h
theorem cDiv_ok (i j : Int) (h : cDiv i j = true) : CDiv i j := by
  unfold cDiv at h
  simp only [Bool.and_eq_true, decide_eq_true_eq] at h
  exact h
theorem cMod_ok (i j : Int) (h : cMod i j = true) : 0 < j := by unfold cMod at h; simpa using h
theorem cPow_ok (i j : Int) (h : cPow i j = true) : CPow i j := by
  unfold cPow at h
  simp only [Bool.and_eq_true, decide_eq_true_eq] at h
  exact ⟨h.1.1, h.1.2, h.2⟩
theorem cShr_ok (i j : Int) (h : cShr i j = true) : 0 ≤ j := by unfold cShr at h; simpa using h
abbrev gAdd := gI fun i j => i + j
abbrev gSub := gI fun i j => i - j
abbrev gMul := gIc cMul fun i j => i * j
abbrev gDiv := gIc cDiv fun i j => i / j
abbrev gMod := gIc cMod fun i j => i % j
abbrev gPow := gIc cPow fun i j => i ^ j.toNat
abbrev gShl := gIc cPow fun i j => i * 2 ^ j.toNat
abbrev gShr := gIc cShr fun i j => i / 2 ^ j.toNat
abbrev gAnd := gI Builtin.bitAnd
abbrev gOr := gI Builtin.bitOr
abbrev gXor := gI Builtin.bitXor
abbrev gLt := gB fun i j => decide (i < j)
abbrev gLe := gB fun i j => decide (i ≤ j)
abbrev gGt := gB fun i j => decide (j < i)
abbrev gGe := gB fun i j => decide (j ≤ i)

/-! equality of data -/
mutual
def deq : D → D → Bool
  | .non, .non => true
  | .bl a, .bl b => a == b
  | .bl a, .int j => (if a then 1 else 0) == j
  | .int i, .bl b => i == (if b then 1 else 0)
  | .int i, .int j => i == j
  | .str x, .str y => x == y
  | .lst xs, .lst ys => deqL xs ys
  | .tup xs, .tup ys => deqL xs ys
  | _, _ => false
def deqL : List D → List D → Bool
  | [], [] => true
  | x :: xs, y :: ys => deq x y && deqL xs ys
  | _, _ => false
end
/-- data that == may compare: no objects; not too deep -/
def dsh : Nat → D → Bool
  | _, .non => true
  | _, .bl _ => true
  | _, .int _ => true
  | _, .str x => PyData.strOk x
  | n + 1, .lst xs => xs.attach.all fun x => dsh n x.1
  | n + 1, .tup xs => xs.attach.all fun x => dsh n x.1
  | _, _ => false
mutual
def toP : D → PyData
  | .non => .none
  | .bl b => .bool b
  | .int i => .int i
  | .str x => .str x
  | .lst xs => .list (toPL xs)
  | .tup xs => .tuple (toPL xs)
  | _ => .none
def toPL : List D → List PyData
  | [] => []
  | d :: ds => toP d :: toPL ds
end
theorem dsh_lst {n : Nat} {xs : List D} : dsh (n + 1) (.lst xs) = xs.all (dsh n) := by simp [dsh]
theorem dsh_tup {n : Nat} {xs : List D} : dsh (n + 1) (.tup xs) = xs.all (dsh n) := by simp [dsh]
mutual
theorem canLay_of : ∀ (n : Nat) (d : D), dsh n d = true → (toP d).canLay0 = true ∧ (toP d).depth ≤ n
  | n, .non, _ => by simp [toP, PyData.canLay0, PyData.depth]
  | n, .bl _, _ => by simp [toP, PyData.canLay0, PyData.depth]
  | n, .int _, _ => by simp [toP, PyData.canLay0, PyData.depth]
  | n, .str x, h => by
    have h' : PyData.strOk x = true := by cases n <;> simpa [dsh] using h
    simp [toP, PyData.canLay0, PyData.depth, h']
  | 0, .lst xs, h => by simp [dsh] at h
  | n + 1, .lst xs, h => by
    rw [dsh_lst] at h
    obtain ⟨h1, h2⟩ := canLayL_of n xs h
    simp only [toP, PyData.canLay0, PyData.depth]
    exact ⟨h1, by omega⟩
  | 0, .tup xs, h => by simp [dsh] at h
  | n + 1, .tup xs, h => by
    rw [dsh_tup] at h
    obtain ⟨h1, h2⟩ := canLayL_of n xs h
    simp only [toP, PyData.canLay0, PyData.depth]
    exact ⟨h1, by omega⟩
  | n, .ins _ _ _, h => by cases n <;> simp [dsh] at h
  | n, .scr _, h => by cases n <;> simp [dsh] at h
  | n, .cls _, h => by cases n <;> simp [dsh] at h
theorem canLayL_of : ∀ (n : Nat) (ds : List D), ds.all (dsh n) = true → PyData.canLayAll0 (toPL ds) = true ∧ PyData.depthAll (toPL ds) ≤ n
  | n, [], _ => by simp [toPL, PyData.canLayAll0, PyData.depthAll]
  | n, d :: ds, h => by
    rw [List.all_cons, Bool.and_eq_true] at h
    obtain ⟨h1, h2⟩ := canLay_of n d h.1
    obtain ⟨h3, h4⟩ := canLayL_of n ds h.2
    simp only [toPL, PyData.canLayAll0, PyData.depthAll, Bool.and_eq_true]
    exact ⟨⟨h1, h3⟩, by omega⟩
end
mutual
theorem deq_eqv : ∀ (n : Nat) (a b : D), dsh n a = true → dsh n b = true → PyData.eqv (toP a) (toP b) = deq a b
  | n, .ins _ _ _, _, h, _ => by cases n <;> simp [dsh] at h
  | n, .scr _, _, h, _ => by cases n <;> simp [dsh] at h
  | n, _, .ins _ _ _, _, h => by cases n <;> simp [dsh] at h
  | n, _, .scr _, _, h => by cases n <;> simp [dsh] at h
  | n, .cls _, _, h, _ => by cases n <;> simp [dsh] at h
  | n, _, .cls _, _, h => by cases n <;> simp [dsh] at h
  | 0, .lst _, _, h, _ => by simp [dsh] at h
  | 0, .tup _, _, h, _ => by simp [dsh] at h
  | 0, _, .lst _, _, h => by simp [dsh] at h
  | 0, _, .tup _, _, h => by simp [dsh] at h
  | n + 1, .lst xs, .lst ys, h1, h2 => by
    simp only [toP, PyData.eqv, deq]
    exact deqL_eqv n xs ys (by rw [← dsh_lst]; exact h1) (by rw [← dsh_lst]; exact h2)
  | n + 1, .tup xs, .tup ys, h1, h2 => by
    simp only [toP, PyData.eqv, deq]
    exact deqL_eqv n xs ys (by rw [← dsh_tup]; exact h1) (by rw [← dsh_tup]; exact h2)
  | n + 1, .lst _, .tup _, _, _ => by simp only [toP, PyData.eqv, deq]
  | n + 1, .tup _, .lst _, _, _ => by simp only [toP, PyData.eqv, deq]
  | _, .non, .non, _, _ => by simp only [toP, PyData.eqv, deq]
  | _, .non, .bl _, _, _ => by simp only [toP, PyData.eqv, deq]
  | _, .non, .int _, _, _ => by simp only [toP, PyData.eqv, deq]
  | _, .non, .str _, _, _ => by simp only [toP, PyData.eqv, deq]
  | _, .bl _, .non, _, _ => by simp only [toP, PyData.eqv, deq]
  | _, .bl _, .bl _, _, _ => by simp only [toP, PyData.eqv, deq]
  | _, .bl _, .int _, _, _ => by simp only [toP, PyData.eqv, deq]
  | _, .bl _, .str _, _, _ => by simp only [toP, PyData.eqv, deq]
  | _, .int _, .non, _, _ => by simp only [toP, PyData.eqv, deq]
  | _, .int _, .bl _, _, _ => by simp only [toP, PyData.eqv, deq]
  | _, .int _, .int _, _, _ => by simp only [toP, PyData.eqv, deq]
  | _, .int _, .str _, _, _ => by simp only [toP, PyData.eqv, deq]
  | _, .str _, .non, _, _ => by simp only [toP, PyData.eqv, deq]
  | _, .str _, .bl _, _, _ => by simp only [toP, PyData.eqv, deq]
  | _, .str _, .int _, _, _ => by simp only [toP, PyData.eqv, deq]
  | _, .str _, .str _, _, _ => by simp only [toP, PyData.eqv, deq]
  | _ + 1, .non, .lst _, _, _ => by simp only [toP, PyData.eqv, deq]
  | _ + 1, .non, .tup _, _, _ => by simp only [toP, PyData.eqv, deq]
  | _ + 1, .bl _, .lst _, _, _ => by simp only [toP, PyData.eqv, deq]
  | _ + 1, .bl _, .tup _, _, _ => by simp only [toP, PyData.eqv, deq]
  | _ + 1, .int _, .lst _, _, _ => by simp only [toP, PyData.eqv, deq]
  | _ + 1, .int _, .tup _, _, _ => by simp only [toP, PyData.eqv, deq]
  | _ + 1, .str _, .lst _, _, _ => by simp only [toP, PyData.eqv, deq]
  | _ + 1, .str _, .tup _, _, _ => by simp only [toP, PyData.eqv, deq]
  | _ + 1, .lst _, .non, _, _ => by simp only [toP, PyData.eqv, deq]
  | _ + 1, .lst _, .bl _, _, _ => by simp only [toP, PyData.eqv, deq]
  | _ + 1, .lst _, .int _, _, _ => by simp only [toP, PyData.eqv, deq]
  | _ + 1, .lst _, .str _, _, _ => by simp only [toP, PyData.eqv, deq]
  | _ + 1, .tup _, .non, _, _ => by simp only [toP, PyData.eqv, deq]
  | _ + 1, .tup _, .bl _, _, _ => by simp only [toP, PyData.eqv, deq]
  | _ + 1, .tup _, .int _, _, _ => by simp only [toP, PyData.eqv, deq]
  | _ + 1, .tup _, .str _, _, _ => by simp only [toP, PyData.eqv, deq]
theorem deqL_eqv : ∀ (n : Nat) (a b : List D), a.all (dsh n) = true → b.all (dsh n) = true → PyData.eqvAll (toPL a) (toPL b) = deqL a b
  | n, [], [], _, _ => by simp only [toPL, PyData.eqvAll, deqL]
  | n, [], _ :: _, _, _ => by simp only [toPL, PyData.eqvAll, deqL]
  | n, _ :: _, [], _, _ => by simp only [toPL, PyData.eqvAll, deqL]
  | n, x :: xs, y :: ys, h1, h2 => by
    rw [List.all_cons, Bool.and_eq_true] at h1 h2
    simp only [toPL, PyData.eqvAll, deqL]
    rw [deq_eqv n x y h1.1 h2.1, deqL_eqv n xs ys h1.2 h2.2]
end
section
variable {K : PySem.W.Frag} {cl : Str → Addr} {G H : Hp}
mutual
theorem dp_of (ex : Ex G H) : ∀ (n : Nat) (d : D) (v : V), dsh n d = true → Rep K cl G d v → Dp K H v (toP d)
  | _, .non, v, _, r => by rw [rep_non.mp r]; simp only [toP]; exact .non
  | _, .bl b, v, _, r => by rw [rep_bl.mp r]; simp only [toP]; exact .bl b
  | _, .int i, v, _, r => by rw [rep_int.mp r]; simp only [toP]; exact .int i
  | _, .str x, v, _, r => by rw [rep_str.mp r]; simp only [toP]; exact .str x
  | 0, .lst _, _, h, _ => by simp [dsh] at h
  | 0, .tup _, _, h, _ => by simp [dsh] at h
  | n + 1, .lst xs, v, h, r => by
    obtain ⟨a, vs, rfl, h1, h2⟩ := rep_lst.mp r
    rw [dsh_lst] at h
    simp only [toP]
    exact .lst (SqL.of (ex _ _ h1)) (dpL_of ex n xs vs h h2)
  | n + 1, .tup xs, v, h, r => by
    obtain ⟨a, vs, rfl, h1, h2⟩ := rep_tup.mp r
    rw [dsh_tup] at h
    simp only [toP]
    exact .tup (SqT.of (ex _ _ h1)) (dpL_of ex n xs vs h h2)
  | n, .ins _ _ _, _, h, _ => by cases n <;> simp [dsh] at h
  | n, .scr _, _, h, _ => by cases n <;> simp [dsh] at h
  | n, .cls _, _, h, _ => by cases n <;> simp [dsh] at h
theorem dpL_of (ex : Ex G H) : ∀ (n : Nat) (ds : List D) (vs : List V), ds.all (dsh n) = true → RepL K cl G ds vs → DpAll K H vs (toPL ds)
  | _, [], vs, _, r => by rw [repL_nil.mp r]; simp only [toPL]; exact .nil
  | n, d :: ds, vs, h, r => by
    obtain ⟨v, q, rfl, h1, h2⟩ := repL_cons.mp r
    rw [List.all_cons, Bool.and_eq_true] at h
    simp only [toPL]
    exact .cons (dp_of ex n d v h.1 h1) (dpL_of ex n ds q h.2 h2)
end
def gEq (a b : D) : Option S := if dsh 64 a = true ∧ dsh 64 b = true then some (.val (.bl (deq a b))) else none
def gNe (a b : D) : Option S := if dsh 64 a = true ∧ dsh 64 b = true then some (.val (.bl (!deq a b))) else none
theorem shaped_of {d : D} (h : dsh 64 d = true) : SeqAt.shaped (toP d) = true := by
  obtain ⟨h1, h2⟩ := canLay_of 64 d h
  unfold SeqAt.shaped
  simp [h1, h2]
theorem ok_Eq : R2Ok K cl (rEqD K) gEq := by
  intro G H x y dx dy s Q ex rx ry e q
  unfold gEq at e
  split at e
  · rename_i h
    injection e with e; subst e
    refine ⟨toP dx, toP dy, dp_of ex 64 dx x h.1 rx, dp_of ex 64 dy y h.2 ry, shaped_of h.1, shaped_of h.2, ?_⟩
    rw [deq_eqv 64 dx dy h.1 h.2]
    exact q _ _ _ (.same (rep_bl.mpr rfl))
  · cases e
theorem ok_Ne : R2Ok K cl (rNeD K) gNe := by
  intro G H x y dx dy s Q ex rx ry e q
  unfold gNe at e
  split at e
  · rename_i h
    injection e with e; subst e
    refine ⟨toP dx, toP dy, dp_of ex 64 dx x h.1 rx, dp_of ex 64 dy y h.2 ry, shaped_of h.1, shaped_of h.2, ?_⟩
    rw [deq_eqv 64 dx dy h.1 h.2]
    exact q _ _ _ (.same (rep_bl.mpr rfl))
  · cases e
/-! is None -/
def isN : D → Bool | .non => true | _ => false
theorem isN_ok {d : D} {v : V} (r : Rep K cl G d v) : decide (v = .non) = isN d := by
  cases d with
  | non => rw [rep_non.mp r]; rfl
  | bl b => rw [rep_bl.mp r]; rfl
  | int b => rw [rep_int.mp r]; rfl
  | str b => rw [rep_str.mp r]; rfl
  | lst xs => obtain ⟨a, vs, rfl, _⟩ := rep_lst.mp r; rfl
  | tup xs => obtain ⟨a, vs, rfl, _⟩ := rep_tup.mp r; rfl
  | ins c ns ds => obtain ⟨a, dx, vs, rfl, _⟩ := rep_ins.mp r; rfl
  | scr ns => obtain ⟨a, rfl, _⟩ := rep_scr.mp r; rfl
  | cls c => rw [rep_cls.mp r]; rfl
def gIs (a b : D) : Option S := if isN b = true then some (.val (.bl (isN a))) else none
def gNis (a b : D) : Option S := if isN b = true then some (.val (.bl (!isN a))) else none
theorem ok_Is : R2Ok K cl (fun x y H Q => y = .non ∧ Q (.bl (decide (x = .non))) H) gIs := by
  intro G H x y dx dy s Q ex rx ry e q
  unfold gIs at e
  split at e
  · rename_i h
    injection e with e; subst e
    have hy : y = .non := by rw [← isN_ok ry] at h; exact of_decide_eq_true h
    exact ⟨hy, by rw [isN_ok rx]; exact q _ _ _ (.same (rep_bl.mpr rfl))⟩
  · cases e
theorem ok_Nis : R2Ok K cl (fun x y H Q => y = .non ∧ Q (.bl (!decide (x = .non))) H) gNis := by
  intro G H x y dx dy s Q ex rx ry e q
  unfold gNis at e
  split at e
  · rename_i h
    injection e with e; subst e
    have hy : y = .non := by rw [← isN_ok ry] at h; exact of_decide_eq_true h
    exact ⟨hy, by rw [isN_ok rx]; exact q _ _ _ (.same (rep_bl.mpr rfl))⟩
  · cases e
/-! an item -/
def gIxL : D → D → Option S
  | .lst xs, .int i => (atI xs i).map S.val
  | .scr ns, .int i => (atI ns i).map fun n => .val (.int n)
  | _, _ => none
def gIxT : D → D → Option S
  | .tup xs, .int i => (atI xs i).map S.val
  | _, _ => none
def gIx : D → D → Option S
  | .tup xs, .int i => (atI xs i).map S.val
  | .lst xs, .int i => (atI xs i).map S.val
  | .scr ns, .int i => (atI ns i).map fun n => .val (.int n)
  | _, _ => none
theorem atI_rep {xs : List D} {vs : List V} {i : Int} {d : D} (r : RepL K cl G xs vs) (h : atI xs i = some d) : ∃ v, atI vs i = some v ∧ Rep K cl G d v := by
  unfold atI at h ⊢
  rw [← r.len]
  cases q : ixN xs.length i with
  | none => rw [q] at h; cases h
  | some j => rw [q] at h; exact r.get h
theorem atI_int {ns : List Int} {i n : Int} (h : atI ns i = some n) : atI (ns.map V.int) i = some (V.int n) := by
  unfold atI at h ⊢
  rw [List.length_map]
  cases q : ixN ns.length i with
  | none => rw [q] at h; cases h
  | some j =>
    rw [q] at h
    show (ns.map V.int)[j]? = some (V.int n)
    rw [List.getElem?_map, show ns[j]? = some n from h]; rfl
theorem ok_IxL : R2Ok K cl (rIxL K) gIxL := by
  intro G H x y dx dy s Q ex rx ry e q
  unfold gIxL at e
  split at e
  · obtain ⟨a, vs, rfl, h1, h2⟩ := rep_lst.mp rx
    rename_i xs i
    cases z : atI xs i with
    | none => rw [z] at e; cases e
    | some d =>
      rw [z] at e; injection e with e; subst e
      obtain ⟨v, h3, h4⟩ := atI_rep h2 z
      exact ⟨a, vs, i, v, rfl, rep_int.mp ry, SqL.of (ex _ _ h1), h3, q _ _ _ (.same h4)⟩
  · obtain ⟨a, rfl, h1⟩ := rep_scr.mp rx
    rename_i ns i
    cases z : atI ns i with
    | none => rw [z] at e; cases e
    | some n =>
      rw [z] at e; injection e with e; subst e
      exact ⟨a, _, i, _, rfl, rep_int.mp ry, ex.seqL h1, atI_int z, q _ _ _ (.same (rep_int.mpr rfl))⟩
  · cases e
theorem ok_IxT : R2Ok K cl (rIxT K) gIxT := by
  intro G H x y dx dy s Q ex rx ry e q
  unfold gIxT at e
  split at e
  · obtain ⟨a, vs, rfl, h1, h2⟩ := rep_tup.mp rx
    rename_i xs i
    cases z : atI xs i with
    | none => rw [z] at e; cases e
    | some d =>
      rw [z] at e; injection e with e; subst e
      obtain ⟨v, h3, h4⟩ := atI_rep h2 z
      exact ⟨a, vs, i, v, rfl, rep_int.mp ry, SqT.of (ex _ _ h1), h3, q _ _ _ (.same h4)⟩
  · cases e
theorem ok_Ix : R2Ok K cl (rIx K) gIx := by
  intro G H x y dx dy s Q ex rx ry e q
  unfold gIx at e
  split at e
  · exact .inr (.inl (ok_IxT ex rx ry (by unfold gIxT; exact e) q))
  · exact .inl (ok_IxL ex rx ry (by unfold gIxL; exact e) q)
  · exact .inl (ok_IxL ex rx ry (by unfold gIxL; exact e) q)
  · cases e
/-! in, not in: flat things -/
def dflat : D → Bool | .non => true | .bl _ => true | .int _ => true | .str _ => true | _ => false
theorem flat_ok {d : D} {v : V} (r : Rep K cl G d v) : flatV v = dflat d := by
  cases d with
  | non => rw [rep_non.mp r]; rfl
  | bl b => rw [rep_bl.mp r]; rfl
  | int b => rw [rep_int.mp r]; rfl
  | str b => rw [rep_str.mp r]; rfl
  | lst xs => obtain ⟨a, vs, rfl, _⟩ := rep_lst.mp r; rfl
  | tup xs => obtain ⟨a, vs, rfl, _⟩ := rep_tup.mp r; rfl
  | ins c ns ds => obtain ⟨a, dx, vs, rfl, _⟩ := rep_ins.mp r; rfl
  | scr ns => obtain ⟨a, rfl, _⟩ := rep_scr.mp r; rfl
  | cls c => rw [rep_cls.mp r]; rfl
theorem flats_ok : ∀ {ds : List D} {vs : List V}, RepL K cl G ds vs → vs.all flatV = ds.all dflat
  | [], _, r => by rw [repL_nil.mp r]; rfl
  | d :: ds, vs, r => by
    obtain ⟨v, q, rfl, h1, h2⟩ := repL_cons.mp r
    rw [List.all_cons, List.all_cons, flat_ok h1, flats_ok h2]
theorem eqV_ok {a b : D} {x y : V} (ra : Rep K cl G a x) (rb : Rep K cl G b y) (ha : dflat a = true) (hb : dflat b = true) : eqV x y = deq a b := by
  cases a <;> first | cases ha | skip
  all_goals (cases b <;> first | cases hb | skip)
  all_goals (first | rw [rep_non.mp ra] | rw [rep_bl.mp ra] | rw [rep_int.mp ra] | rw [rep_str.mp ra])
  all_goals (first | rw [rep_non.mp rb] | rw [rep_bl.mp rb] | rw [rep_int.mp rb] | rw [rep_str.mp rb])
  all_goals first | rfl | simp only [eqV, deq]
theorem inV_ok {d : D} {x : V} (rx : Rep K cl G d x) (hd : dflat d = true) : ∀ {ds : List D} {vs : List V}, RepL K cl G ds vs → ds.all dflat = true → inV x vs = ds.any fun y => deq y d
  | [], _, r, _ => by rw [repL_nil.mp r]; rfl
  | e :: ds, vs, r, h => by
    obtain ⟨v, q, rfl, h1, h2⟩ := repL_cons.mp r
    rw [List.all_cons, Bool.and_eq_true] at h
    have ih := inV_ok rx hd h2 h.2
    unfold inV at ih ⊢
    rw [List.any_cons, List.any_cons, ih, eqV_ok h1 rx h.1 hd]
def gInN (neg : Bool) : D → D → Option S
  | d, .lst ds => if dflat d = true ∧ ds.all dflat = true then some (.val (.bl (if neg then !(ds.any fun y => deq y d) else ds.any fun y => deq y d))) else none
  | d, .tup ds => if dflat d = true ∧ ds.all dflat = true then some (.val (.bl (if neg then !(ds.any fun y => deq y d) else ds.any fun y => deq y d))) else none
  | _, _ => none
abbrev gIn := gInN false
abbrev gNin := gInN true
theorem ok_In {neg : Bool} : R2Ok K cl (rIn K neg) (gInN neg) := by
  intro G H x y dx dy s Q ex rx ry e q
  unfold gInN at e
  split at e
  · split at e
    · rename_i h
      injection e with e; subst e
      obtain ⟨a, vs, rfl, h1, h2⟩ := rep_lst.mp ry
      refine ⟨a, vs, rfl, .inl (SqL.of (ex _ _ h1)), by rw [flat_ok rx]; exact h.1, by rw [flats_ok h2]; exact h.2, ?_⟩
      rw [inV_ok rx h.1 h2 h.2]
      exact q _ _ _ (.same (rep_bl.mpr rfl))
    · cases e
  · split at e
    · rename_i h
      injection e with e; subst e
      obtain ⟨a, vs, rfl, h1, h2⟩ := rep_tup.mp ry
      refine ⟨a, vs, rfl, .inr (SqT.of (ex _ _ h1)), by rw [flat_ok rx]; exact h.1, by rw [flats_ok h2]; exact h.2, ?_⟩
      rw [inV_ok rx h.1 h2 h.2]
      exact q _ _ _ (.same (rep_bl.mpr rfl))
    · cases e
  · cases e
/-! lists put together -/
def gCat : D → D → Option S
  | .lst xs, .lst ys => if xs.length + ys.length ≤ 1000000 then some (.own none (.lst (xs ++ ys))) else none
  | _, _ => none
theorem ok_Cat : R2Ok K cl rCat gCat := by
  intro G H x y dx dy s Q ex rx ry e q
  unfold gCat at e
  split at e
  · split at e
    · rename_i h
      injection e with e; subst e
      obtain ⟨a, vs, rfl, h1, h2⟩ := rep_lst.mp rx
      obtain ⟨b, us, rfl, h3, h4⟩ := rep_lst.mp ry
      exact ⟨a, b, vs, us, rfl, rfl, ex _ _ h1, ex _ _ h3, by rw [← h2.len, ← h4.len]; exact le_line h, fun p hp => q _ _ _ (.cell ⟨_, rfl, h2.app h4⟩ hp)⟩
    · cases e
  · cases e
def gRep : D → D → Option S
  | .lst xs, .int k => if 0 ≤ k ∧ k ≤ 1000000 ∧ xs.length * k.toNat ≤ 1000000 then some (.own none (.lst (List.replicate k.toNat xs).flatten)) else none
  | _, _ => none
theorem RepL.flat {n : Nat} {xs : List D} {vs : List V} (r : RepL K cl G xs vs) : RepL K cl G (List.replicate n xs).flatten (List.replicate n vs).flatten := by
  induction n with
  | zero => exact repL_nil.mpr rfl
  | succ n ih => rw [List.replicate_succ, List.replicate_succ, List.flatten_cons, List.flatten_cons]; exact r.app ih
theorem ok_Rep : R2Ok K cl rRep gRep := by
  intro G H x y dx dy s Q ex rx ry e q
  unfold gRep at e
  split at e
  · split at e
    · rename_i h
      injection e with e; subst e
      obtain ⟨a, vs, rfl, h1, h2⟩ := rep_lst.mp rx
      exact ⟨a, _, vs, rfl, rep_int.mp ry, ex _ _ h1, by omega, by omega, by rw [← h2.len]; exact le_line h.2.2, fun p hp => q _ _ _ (.cell ⟨_, rfl, h2.flat⟩ hp)⟩
    · cases e
  · cases e
/-! ### calls of what the language brings -/
theorem repL_one {d : D} {vs : List V} : RepL K cl G [d] vs ↔ ∃ v, vs = [v] ∧ Rep K cl G d v := by
  rw [repL_cons]
  constructor
  · rintro ⟨v, r, rfl, h, h2⟩; rw [repL_nil.mp h2]; exact ⟨v, rfl, h⟩
  · rintro ⟨v, rfl, h⟩; exact ⟨v, [], rfl, h, repL_nil.mpr rfl⟩
theorem repL_two {d e : D} {vs : List V} : RepL K cl G [d, e] vs ↔ ∃ v w, vs = [v, w] ∧ Rep K cl G d v ∧ Rep K cl G e w := by
  rw [repL_cons]
  constructor
  · rintro ⟨v, r, rfl, h, h2⟩
    obtain ⟨w, rfl, h3⟩ := repL_one.mp h2
    exact ⟨v, w, rfl, h, h3⟩
  · rintro ⟨v, w, rfl, h, h2⟩; exact ⟨v, [w], rfl, h, repL_one.mpr ⟨w, rfl, h2⟩⟩
def gLen : List D → Option S
  | [.lst xs] => some (.val (.int xs.length))
  | [.tup xs] => some (.val (.int xs.length))
  | [.scr ns] => some (.val (.int ns.length))
  | _ => none
theorem ok_Len {K' : PySem.W.Frag} (hK : K' = K) : RNOk K cl (fun xs H Q => ∃ p ys, xs = [.ref p] ∧ (SqL K' H p ys ∨ SqT K' H p ys) ∧ Q (.int ys.length) H) gLen := by
  subst hK
  intro G H xs ds s Q ex r e q
  unfold gLen at e
  split at e
  · injection e with e; subst e
    obtain ⟨v, rfl, h⟩ := repL_one.mp r
    obtain ⟨a, vs, rfl, h1, h2⟩ := rep_lst.mp h
    exact ⟨a, vs, rfl, .inl (SqL.of (ex _ _ h1)), by rw [← h2.len]; exact q _ _ _ (.same (rep_int.mpr rfl))⟩
  · injection e with e; subst e
    obtain ⟨v, rfl, h⟩ := repL_one.mp r
    obtain ⟨a, vs, rfl, h1, h2⟩ := rep_tup.mp h
    exact ⟨a, vs, rfl, .inr (SqT.of (ex _ _ h1)), by rw [← h2.len]; exact q _ _ _ (.same (rep_int.mpr rfl))⟩
  · injection e with e; subst e
    obtain ⟨v, rfl, h⟩ := repL_one.mp r
    obtain ⟨a, rfl, h1⟩ := rep_scr.mp h
    refine ⟨a, _, rfl, .inl (ex.seqL h1), ?_⟩
    rw [List.length_map]
    exact q _ _ _ (.same (rep_int.mpr rfl))
  · cases e
def gInt : List D → Option S
  | [.int i] => some (.val (.int i))
  | [.bl b] => some (.val (.int (if b then 1 else 0)))
  | _ => none
theorem ok_Int : RNOk K cl (fun xs H Q => (∃ i, xs = [.int i] ∧ Q (.int i) H) ∨ ∃ k, xs = [.bl k] ∧ Q (.int (if k then 1 else 0)) H) gInt := by
  intro G H xs ds s Q ex r e q
  unfold gInt at e
  split at e
  · injection e with e; subst e
    obtain ⟨v, rfl, h⟩ := repL_one.mp r
    exact .inl ⟨_, by rw [rep_int.mp h], q _ _ _ (.same (rep_int.mpr rfl))⟩
  · injection e with e; subst e
    obtain ⟨v, rfl, h⟩ := repL_one.mp r
    exact .inr ⟨_, by rw [rep_bl.mp h], q _ _ _ (.same (rep_int.mpr rfl))⟩
  · cases e
def gAbs : List D → Option S | [.int i] => some (.val (.int (if i < 0 then -i else i))) | _ => none
theorem ok_Abs : RNOk K cl (fun xs H Q => ∃ i, xs = [.int i] ∧ Q (.int (if i < 0 then -i else i)) H) gAbs := by
  intro G H xs ds s Q ex r e q
  unfold gAbs at e
  split at e
  · injection e with e; subst e
    obtain ⟨v, rfl, h⟩ := repL_one.mp r
    exact ⟨_, by rw [rep_int.mp h], q _ _ _ (.same (rep_int.mpr rfl))⟩
  · cases e
def gII (k : Int → Int → Int) : List D → Option S | [.int i, .int j] => some (.val (.int (k i j))) | _ => none
theorem ok_II {k : Int → Int → Int} : RNOk K cl (fun xs H Q => ∃ i j, xs = [.int i, .int j] ∧ Q (.int (k i j)) H) (gII k) := by
  intro G H xs ds s Q ex r e q
  unfold gII at e
  split at e
  · injection e with e; subst e
    obtain ⟨v, w, rfl, h, h2⟩ := repL_two.mp r
    exact ⟨_, _, by rw [rep_int.mp h, rep_int.mp h2], q _ _ _ (.same (rep_int.mpr rfl))⟩
  · cases e
abbrev gMax2 := gII fun i j => if j > i then j else i
abbrev gMin2 := gII fun i j => if j < i then j else i
/-- the ints of a list -/
def intsOf : List D → Option (List Int)
  | [] => some []
  | .int i :: r => (intsOf r).map (i :: ·)
  | _ => none
theorem intsOf_ok : ∀ {ds : List D} {ns : List Int}, intsOf ds = some ns → ds = ns.map D.int
  | [], ns, h => by injection h with h; subst h; rfl
  | .int i :: r, ns, h => by
    unfold intsOf at h
    cases q : intsOf r with
    | none => rw [q] at h; cases h
    | some ms => rw [q] at h; injection h with h; subst h; rw [intsOf_ok q]; rfl
  | .non :: _, _, h => by cases h
  | .bl _ :: _, _, h => by cases h
  | .str _ :: _, _, h => by cases h
  | .lst _ :: _, _, h => by cases h
  | .tup _ :: _, _, h => by cases h
  | .ins _ _ _ :: _, _, h => by cases h
  | .scr _ :: _, _, h => by cases h
  | .cls _ :: _, _, h => by cases h
theorem intsOf_map (ns : List Int) : intsOf (ns.map D.int) = some ns := by
  induction ns with
  | nil => rfl
  | cons n ns ih => rw [List.map_cons]; unfold intsOf; rw [ih]; rfl
def blsOf : List D → Option (List Bool)
  | [] => some []
  | .bl i :: r => (blsOf r).map (i :: ·)
  | _ => none
theorem blsOf_ok : ∀ {ds : List D} {ns : List Bool}, blsOf ds = some ns → ds = ns.map D.bl
  | [], ns, h => by injection h with h; subst h; rfl
  | .bl i :: r, ns, h => by
    unfold blsOf at h
    cases q : blsOf r with
    | none => rw [q] at h; cases h
    | some ms => rw [q] at h; injection h with h; subst h; rw [blsOf_ok q]; rfl
  | .non :: _, _, h => by cases h
  | .int _ :: _, _, h => by cases h
  | .str _ :: _, _, h => by cases h
  | .lst _ :: _, _, h => by cases h
  | .tup _ :: _, _, h => by cases h
  | .ins _ _ _ :: _, _, h => by cases h
  | .scr _ :: _, _, h => by cases h
  | .cls _ :: _, _, h => by cases h
theorem blsOf_map (ns : List Bool) : blsOf (ns.map D.bl) = some ns := by
  induction ns with
  | nil => rfl
  | cons n ns ih => rw [List.map_cons]; unfold blsOf; rw [ih]; rfl
/-- the greatest, the least of a list that is not empty -/
def greatI : List Int → Int
  | [] => 0
  | n :: ns => ns.foldl max n
def leastI : List Int → Int
  | [] => 0
  | n :: ns => ns.foldl min n
theorem foldl_max_ge : ∀ (ns : List Int) (a : Int), a ≤ ns.foldl max a ∧ ∀ y ∈ ns, y ≤ ns.foldl max a
  | [], a => ⟨Int.le_refl _, fun _ h => by cases h⟩
  | n :: ns, a => by
    obtain ⟨h1, h2⟩ := foldl_max_ge ns (max a n)
    refine ⟨Int.le_trans (Int.le_max_left _ _) h1, fun y hy => ?_⟩
    rcases List.mem_cons.mp hy with q | q
    · subst q; exact Int.le_trans (Int.le_max_right _ _) h1
    · exact h2 y q
theorem foldl_max_mem : ∀ (ns : List Int) (a : Int), ns.foldl max a = a ∨ ns.foldl max a ∈ ns
  | [], a => .inl rfl
  | n :: ns, a => by
    rcases foldl_max_mem ns (max a n) with h | h
    · rw [List.foldl_cons, h]
      rcases Int.le_total a n with q | q
      · rw [Int.max_eq_right q]; exact .inr List.mem_cons_self
      · rw [Int.max_eq_left q]; exact .inl rfl
    · exact .inr (List.mem_cons_of_mem _ h)
theorem foldl_min_le : ∀ (ns : List Int) (a : Int), ns.foldl min a ≤ a ∧ ∀ y ∈ ns, ns.foldl min a ≤ y
  | [], a => ⟨Int.le_refl _, fun _ h => by cases h⟩
  | n :: ns, a => by
    obtain ⟨h1, h2⟩ := foldl_min_le ns (min a n)
    refine ⟨Int.le_trans h1 (Int.min_le_left _ _), fun y hy => ?_⟩
    rcases List.mem_cons.mp hy with q | q
    · subst q; exact Int.le_trans h1 (Int.min_le_right _ _)
    · exact h2 y q
theorem foldl_min_mem : ∀ (ns : List Int) (a : Int), ns.foldl min a = a ∨ ns.foldl min a ∈ ns
  | [], a => .inl rfl
  | n :: ns, a => by
    rcases foldl_min_mem ns (min a n) with h | h
    · rw [List.foldl_cons, h]
      rcases Int.le_total a n with q | q
      · rw [Int.min_eq_left q]; exact .inl rfl
      · rw [Int.min_eq_right q]; exact .inr List.mem_cons_self
    · exact .inr (List.mem_cons_of_mem _ h)
theorem greatI_mem {ns : List Int} (h : 0 < ns.length) : greatI ns ∈ ns := by
  cases ns with
  | nil => cases h
  | cons n ns =>
    rcases foldl_max_mem ns n with q | q
    · show ns.foldl max n ∈ _
      rw [q]; exact List.mem_cons_self
    · exact List.mem_cons_of_mem _ q
theorem greatI_ge {ns : List Int} {y : Int} (h : y ∈ ns) : y ≤ greatI ns := by
  cases ns with
  | nil => cases h
  | cons n ns =>
    obtain ⟨h1, h2⟩ := foldl_max_ge ns n
    rcases List.mem_cons.mp h with q | q
    · subst q; exact h1
    · exact h2 y q
theorem leastI_mem {ns : List Int} (h : 0 < ns.length) : leastI ns ∈ ns := by
  cases ns with
  | nil => cases h
  | cons n ns =>
    rcases foldl_min_mem ns n with q | q
    · show ns.foldl min n ∈ _
      rw [q]; exact List.mem_cons_self
    · exact List.mem_cons_of_mem _ q
theorem leastI_le {ns : List Int} {y : Int} (h : y ∈ ns) : leastI ns ≤ y := by
  cases ns with
  | nil => cases h
  | cons n ns =>
    obtain ⟨h1, h2⟩ := foldl_min_le ns n
    rcases List.mem_cons.mp h with q | q
    · subst q; exact h1
    · exact h2 y q
def gSum : List D → Option S | [.lst ds] => (intsOf ds).map fun ns => .val (.int ns.sum) | [.tup ds] => (intsOf ds).map fun ns => .val (.int ns.sum) | _ => none
def gMaxL : List D → Option S | [.lst ds] => (match intsOf ds with | some ns => if 0 < ns.length then some (.val (.int (greatI ns))) else none | none => none) | _ => none
def gMinL : List D → Option S | [.lst ds] => (match intsOf ds with | some ns => if 0 < ns.length then some (.val (.int (leastI ns))) else none | none => none) | _ => none
def gAllL : List D → Option S | [.lst ds] => (blsOf ds).map fun bs => .val (.bl (bs.all id)) | _ => none
def gAnyL : List D → Option S | [.lst ds] => (blsOf ds).map fun bs => .val (.bl (bs.any id)) | _ => none
theorem sum_rawT {prog : Program} {w : World} {A : Around} {E : Value → Shared → Prop} {s : Shared} {l : Addr} {its : List Value} {ns : List Int} {Q : Value → Shared → Prop} (hh : A.handled = none) (hl : s.heap.IsTuple l its.toArray) (hi : IntsAre its ns)
    (h : ∀ h' tk t', (∀ b o, s.heap.get? b = some o → h'.get? b = some o) → Q (.int ns.sum t') { s with heap := h', toks := tk }) : wpAny (PySem.model prog w) A (call (.builtin "sum") [.ref l]) Q E s := by
  obtain ⟨xs, e⟩ := hi.allInts.items
  have hn : numsOf (intItems xs).toList = ns := by rw [← e]; exact hi.numsOf
  rw [nums_intItems] at hn
  rw [e] at hl
  refine PySem.W.ktm_sumG hh hl fun h' tk t' hk => ?_
  have := h h' tk t' hk
  rw [preSum_eq, List.take_of_length_le (by simp), hn]; exact this
/-- sum of a list or of a tuple of ints -/
def rSum2 (K : PySem.W.Frag) : List V → Hp → VK → Prop := fun vs H Q => ∃ (a : Addr) (ns : List Int), vs = [V.ref a] ∧ (SqL K H a (ns.map V.int) ∨ SqT K H a (ns.map V.int)) ∧ Q (.int ns.sum) H
theorem cr_sum2 {X : Cx} (hc : X.calm = true) : CallR X (.builtin "sum") (rSum2 X.K) := by
  intro pins s σ H vs us Q I r h
  obtain ⟨a, ns, rfl, hs, q⟩ := h
  rw [Vals.ref1 r]
  rcases hs with hs | hs
  · obtain ⟨its, rv, hl, _⟩ := I.list hs
    exact sum_raw (I.ok.hd hc) hl.isList rv.ints fun h' tk t' hk => ⟨.int _, H, I.kept hk, ⟨_, rfl⟩, q⟩
  · obtain ⟨its, rv, hl, _⟩ := I.tuple hs
    exact sum_rawT (I.ok.hd hc) hl rv.ints fun h' tk t' hk => ⟨.int _, H, I.kept hk, ⟨_, rfl⟩, q⟩
theorem ok_Sum : RNOk K cl (rSum2 K) gSum := by
  intro G H xs ds s Q ex r e q
  unfold gSum at e
  split at e
  · obtain ⟨v, rfl, h⟩ := repL_one.mp r
    obtain ⟨a, vs, rfl, h1, h2⟩ := rep_lst.mp h
    rename_i es
    cases z : intsOf es with
    | none => rw [z] at e; cases e
    | some ns =>
      rw [z] at e; injection e with e; subst e
      rw [intsOf_ok z] at h2
      exact ⟨a, ns, rfl, .inl (SqL.of (ex _ _ (by rw [h1, RepL.ints.mp h2]))), q _ _ _ (.same (rep_int.mpr rfl))⟩
  · obtain ⟨v, rfl, h⟩ := repL_one.mp r
    obtain ⟨a, vs, rfl, h1, h2⟩ := rep_tup.mp h
    rename_i es
    cases z : intsOf es with
    | none => rw [z] at e; cases e
    | some ns =>
      rw [z] at e; injection e with e; subst e
      rw [intsOf_ok z] at h2
      exact ⟨a, ns, rfl, .inr (SqT.of (ex _ _ (by rw [h1, RepL.ints.mp h2]))), q _ _ _ (.same (rep_int.mpr rfl))⟩
  · cases e
theorem ok_MaxL : RNOk K cl (rMax K) gMaxL := by
  intro G H xs ds s Q ex r e q
  unfold gMaxL at e
  split at e
  · obtain ⟨v, rfl, h⟩ := repL_one.mp r
    obtain ⟨a, vs, rfl, h1, h2⟩ := rep_lst.mp h
    split at e
    · rename_i es ns z
      split at e
      · rename_i hp
        injection e with e; subst e
        rw [intsOf_ok z] at h2
        refine ⟨a, ns, rfl, SqL.of (ex _ _ (by rw [h1, RepL.ints.mp h2])), hp, fun m hm hle => ?_⟩
        have em : m = greatI ns := Int.le_antisymm (greatI_ge hm) (hle _ (greatI_mem hp))
        rw [em]
        exact q _ _ _ (.same (rep_int.mpr rfl))
      · cases e
    · cases e
  · cases e
theorem ok_MinL : RNOk K cl (rMin K) gMinL := by
  intro G H xs ds s Q ex r e q
  unfold gMinL at e
  split at e
  · obtain ⟨v, rfl, h⟩ := repL_one.mp r
    obtain ⟨a, vs, rfl, h1, h2⟩ := rep_lst.mp h
    split at e
    · rename_i es ns z
      split at e
      · rename_i hp
        injection e with e; subst e
        rw [intsOf_ok z] at h2
        refine ⟨a, ns, rfl, SqL.of (ex _ _ (by rw [h1, RepL.ints.mp h2])), hp, fun m hm hle => ?_⟩
        have em : m = leastI ns := Int.le_antisymm (hle _ (leastI_mem hp)) (leastI_le hm)
        rw [em]
        exact q _ _ _ (.same (rep_int.mpr rfl))
      · cases e
    · cases e
  · cases e
theorem ok_AllL : RNOk K cl (rAll K) gAllL := by
  intro G H xs ds s Q ex r e q
  unfold gAllL at e
  split at e
  · obtain ⟨v, rfl, h⟩ := repL_one.mp r
    obtain ⟨a, vs, rfl, h1, h2⟩ := rep_lst.mp h
    rename_i es
    cases z : blsOf es with
    | none => rw [z] at e; cases e
    | some ns =>
      rw [z] at e; injection e with e; subst e
      rw [blsOf_ok z] at h2
      exact ⟨a, ns, rfl, SqL.of (ex _ _ (by rw [h1, RepL.bls.mp h2])), q _ _ _ (.same (rep_bl.mpr rfl))⟩
  · cases e
theorem ok_AnyL : RNOk K cl (rAny K) gAnyL := by
  intro G H xs ds s Q ex r e q
  unfold gAnyL at e
  split at e
  · obtain ⟨v, rfl, h⟩ := repL_one.mp r
    obtain ⟨a, vs, rfl, h1, h2⟩ := rep_lst.mp h
    rename_i es
    cases z : blsOf es with
    | none => rw [z] at e; cases e
    | some ns =>
      rw [z] at e; injection e with e; subst e
      rw [blsOf_ok z] at h2
      exact ⟨a, ns, rfl, SqL.of (ex _ _ (by rw [h1, RepL.bls.mp h2])), q _ _ _ (.same (rep_bl.mpr rfl))⟩
  · cases e
def gTuple : List D → Option S
  | [.lst xs] => some (.val (.tup xs))
  | [.tup xs] => some (.val (.tup xs))
  | _ => none
theorem ok_Tuple : RNOk K cl (fun xs H Q => ∃ p ys, xs = [.ref p] ∧ ((SqL K H p ys ∧ ∀ l, H l = none → Q (.ref l) (upd H l (.tup ys))) ∨ (SqT K H p ys ∧ Q (.ref p) H))) gTuple := by
  intro G H xs ds s Q ex r e q
  unfold gTuple at e
  split at e
  · injection e with e; subst e
    obtain ⟨v, rfl, h⟩ := repL_one.mp r
    obtain ⟨a, vs, rfl, h1, h2⟩ := rep_lst.mp h
    exact ⟨a, vs, rfl, .inl ⟨SqL.of (ex _ _ h1), fun l hl => q _ _ _ (.tup h2 hl)⟩⟩
  · injection e with e; subst e
    obtain ⟨v, rfl, h⟩ := repL_one.mp r
    obtain ⟨a, vs, rfl, h1, h2⟩ := rep_tup.mp h
    exact ⟨a, vs, rfl, .inr ⟨SqT.of (ex _ _ h1), q _ _ _ (.same (rep_tup.mpr ⟨a, vs, rfl, h1, h2⟩))⟩⟩
  · cases e
def gList : List D → Option S
  | [.lst xs] => some (.own none (.lst xs))
  | [.tup xs] => some (.own none (.lst xs))
  | _ => none
theorem ok_List : RNOk K cl (fun xs H Q => ∃ p ys, xs = [.ref p] ∧ (SqL K H p ys ∨ SqT K H p ys) ∧ ∀ l, H l = none → Q (.ref l) (upd H l (.lst ys))) gList := by
  intro G H xs ds s Q ex r e q
  unfold gList at e
  split at e
  · injection e with e; subst e
    obtain ⟨v, rfl, h⟩ := repL_one.mp r
    obtain ⟨a, vs, rfl, h1, h2⟩ := rep_lst.mp h
    exact ⟨a, vs, rfl, .inl (SqL.of (ex _ _ h1)), fun l hl => q _ _ _ (.cell ⟨vs, rfl, h2⟩ hl)⟩
  · injection e with e; subst e
    obtain ⟨v, rfl, h⟩ := repL_one.mp r
    obtain ⟨a, vs, rfl, h1, h2⟩ := rep_tup.mp h
    exact ⟨a, vs, rfl, .inr (SqT.of (ex _ _ h1)), fun l hl => q _ _ _ (.cell ⟨vs, rfl, h2⟩ hl)⟩
  · cases e
end
end Ya

set_option maxHeartbeats 4000000
namespace Ya
open PySem PySem.Spec PyProof.Rows L2

/-! ### statements -/
def sSeq (f g : Xs) : Xs := fun env => (f env).bind fun l e => match l with | .nx => g e | l => .ok l e
def sNil : Xs := fun env => .ok .nx env
def sRet (f : Xp) : Xs := fun env => (f env).bind fun r e => .ok (.rt r) e
def sRetN : Xs := fun env => .ok (.rt (.val .non)) env
def sIf (t : Xt) (f g : Xs) : Xs := fun env => (t env).bind fun b e => if b = true then f e else g e
def sExpr (f : Xp) : Xs := fun env => (f env).bind fun _ e => .ok .nx e
def sNever : Xs := fun _ => .bad
def sBrk : Xs := fun env => .ok .bk env
def sCnt : Xs := fun env => .ok .ct env
/-- a slot is given a value -/
def putS (e : En) (i : Nat) (r : S) : Res Fl := match r with
  | .val d => .ok .nx (e.set i (.val d))
  | .own none c => .ok .nx (e.set i (.own none c))
  | _ => .bad
def sSet (i : Nat) (f : Xp) : Xs := fun env => (f env).bind fun r e => putS e i r
/-- a slot's cell is frozen -/
def frzE (i : Nat) (env : En) : En := match env[i]? with
  | some (.own none c) => (match frz (.own none c) with | some d => env.set i (.val d) | none => env)
  | _ => env
def sFrz (i : Nat) (f : Xs) : Xs := fun env => f (frzE i env)
def sAug (i : Nat) (g : D → D → Option S) (f : Xp) : Xs := fun env => match env[i]? with
  | some (.val dx) => (f env).data fun dy e => (match g dx dy with | some (.val d) => .ok .nx (e.set i (.val d)) | _ => .bad)
  | _ => .bad

section
variable {cl : Str → Addr} {X : Cx} {e : Expr} {st : Stmt} {sts : List Stmt} {pos : Pos} {f g : Xs} {fe : Xp}
variable {K : PySem.W.Frag} {args : List V} {σ : L2.St} {G H : Hp} {env : En} {W : WX}
theorem sb_nil : SB cl X [] sNil := fun W _ => pss_nil.impY fun D σ H ⟨args, G, env, rs, q⟩ => q σ G H rs .refl
theorem sb_cons (h1 : SS cl X st f) (h2 : SB cl X sts g) : SB cl X (st :: sts) (sSeq f g) := fun W tk =>
  (pss_cons (h1 W tk) (h2 W tk)).impY fun D σ H ⟨args, G, env, rs, q⟩ => by
    refine ⟨args, G, env, rs, ?_⟩
    unfold sSeq at q
    cases hf : f env with
    | bad => rw [hf] at q; exact q
    | exc c ns ds e => rw [hf] at q; exact q
    | ok l e =>
      rw [hf] at q
      cases l with
      | nx => exact fun σ' G' H' rs' st' => ⟨args, G', e, rs', Post.later wS_lat st' q⟩
      | rt r => exact q
      | bk => exact q
      | ct => exact q
theorem sb_one (h : SS cl X st f) : SB cl X [st] f := fun W tk => pss_one (h W tk)
theorem sb_never : SB cl X sts sNever := fun W _ => pss_never.impY fun D σ H ⟨args, G, env, rs, q⟩ => q
theorem ss_never : SS cl X st sNever := fun W _ => ps_never.impY fun D σ H ⟨args, G, env, rs, q⟩ => q
theorem ss_pass : SS cl X (.Pass pos) sNil := fun W _ => ps_pass.impY fun D σ H ⟨args, G, env, rs, q⟩ => q σ G H rs .refl
theorem ss_break : SS cl X (.Break pos) sBrk := fun W _ => ps_break.impY fun D σ H ⟨args, G, env, rs, q⟩ => q σ G H rs .refl
theorem ss_cont : SS cl X (.Continue pos) sCnt := fun W _ => ps_continue.impY fun D σ H ⟨args, G, env, rs, q⟩ => q σ G H rs .refl
theorem ss_ret (h : SE cl X e fe) : SS cl X (.Return (some e) pos) (sRet fe) := fun W tk =>
  (ps_ret (h W tk)).impY fun D σ H ⟨args, G, env, rs, q⟩ => tE_any rs q fun r x env1 G1 H1 rs1 st1 x1 q1 => q1 x σ G1 H1 rs1 st1 x1
theorem ss_retN : SS cl X (.Return none pos) sRetN := fun W _ => ps_retN.impY fun D σ H ⟨args, G, env, rs, q⟩ => q _ σ G H rs (Stp.refl.less fun a z => by
    rcases z with z | ⟨c, z, _⟩
    · exact z
    · cases z) ((rep_non (K := X.K) (cl := cl) (G := G)).mpr rfl)
theorem ss_expr (h : SE cl X e fe) (hs : swapsWith e none pos.line X.env = pure false := by rfl) : SS cl X (.Expr e pos) (sExpr fe) := fun W tk =>
  (ps_expr (h W tk) hs).impY fun D σ H ⟨args, G, env, rs, q⟩ => tE_any rs q fun r x env1 G1 H1 rs1 st1 x1 q1 => q1 σ G1 H1 rs1 (st1.less fun a z => .inl z)
theorem ss_if {c : Expr} {a b : List Stmt} {t : Xt} (hc : ST cl X c t) (ha : SB cl X a f) (hb : SB cl X b g) : SS cl X (.If c a b pos) (sIf t f g) := fun W tk =>
  (ps_if (hc W tk) (ha W tk) (hb W tk)).impY fun D σ H ⟨args, G, env, rs, q⟩ => tT_bind wS_lat rs q fun b env1 G1 H1 rs1 st1 q1 => by
    cases b with
    | true => rw [if_pos rfl] at q1 ⊢; exact ⟨args, G1, env1, rs1, q1⟩
    | false => rw [if_neg Bool.false_ne_true] at q1 ⊢; exact ⟨args, G1, env1, rs1, q1⟩
/-- storing what has come -/
theorem RS.put (i : Nat) {v : V} {r : S} (rs : RS K cl args G H σ env) (x : RepR K cl G H (Own σ env) v r) : RS K cl args G H (σ.set i (some v)) (env.set i r) := by
  have key : ∀ (j : Nat) (o : Option Nat) (c : C) (a : Addr), (env.set i r)[j]? = some (.own o c) → (σ.set i (some v))[j]? = some (some (V.ref a)) → (j ≠ i ∧ env[j]? = some (.own o c) ∧ σ[j]? = some (some (V.ref a))) ∨ (j = i ∧ ¬ Own σ env a) := by
    intro j o c a h1 h2
    rw [List.getElem?_set] at h1 h2
    by_cases z : i = j
    · rw [if_pos z] at h1 h2
      split at h1
      · split at h2
        · injection h1 with h1; injection h2 with h2; injection h2 with h2
          subst h1 h2
          cases o with
          | some k => exact x.elim
          | none =>
            obtain ⟨b, h, eb, _, _, _, hn⟩ := x
            injection eb with eb; subst eb
            exact .inr ⟨z.symm, hn⟩
        · cases h2
      · cases h1
    · rw [if_neg z] at h1 h2
      exact .inl ⟨fun y => z y.symm, h1, h2⟩
  refine ⟨rs.ex, by rw [List.length_set, List.length_set]; exact rs.len, fun j s h => ?_, fun j k o o' c c' a h1 h2 h3 h4 => ?_⟩
  · rw [List.getElem?_set] at h ⊢
    by_cases z : i = j
    · rw [if_pos z] at h ⊢
      split at h
      · rename_i hi
        injection h with h; subst h
        rw [if_pos (by rw [rs.len]; exact hi)]
        cases r with
        | und => trivial
        | val d => exact ⟨v, rfl, x⟩
        | own o c =>
          cases o with
          | some k => exact x.elim
          | none =>
            obtain ⟨b, u, eb, h1, h2, h3, _⟩ := x
            exact ⟨b, u, by rw [eb], h1, h2, h3, fun k z => by cases z⟩
      · cases h
    · rw [if_neg z] at h ⊢
      exact rs.slot j s h
  · rcases key j o c a h1 h3 with ⟨n1, e1, s1⟩ | ⟨e1, n1⟩
    · rcases key k o' c' a h2 h4 with ⟨n2, e2, s2⟩ | ⟨e2, n2⟩
      · exact rs.sep j k o o' c c' a e1 e2 s1 s2
      · exact absurd ⟨j, o, c, e1, s1⟩ n2
    · rcases key k o' c' a h2 h4 with ⟨n2, e2, s2⟩ | ⟨e2, n2⟩
      · exact absurd ⟨k, o', c', e2, s2⟩ n1
      · rw [e1, e2]
theorem own_put {i : Nat} {v : V} {r : S} {a : Addr} (h : Own (σ.set i (some v)) (env.set i r) a) : Own σ env a ∨ (∃ o c, r = .own o c ∧ v = .ref a) := by
  obtain ⟨j, o, c, h1, h2⟩ := h
  rw [List.getElem?_set] at h1 h2
  by_cases z : i = j
  · rw [if_pos z] at h1 h2
    split at h1
    · split at h2
      · injection h1 with h1; injection h2 with h2; injection h2 with h2
        exact .inr ⟨o, c, h1, h2⟩
      · cases h2
    · cases h1
  · rw [if_neg z] at h1 h2
    exact .inl ⟨j, o, c, h1, h2⟩
theorem put_ok {i : Nat} {v : V} {r : S} {D : Ends} {G0 H0 : Hp} {A0 : Addr → Prop} (rs : RS K cl args G H σ env) (st : Stp G0 H0 A0 G H (fun a => Own σ env a ∨ OwnR v r a)) (x : RepR K cl G H (Own σ env) v r) (q : Post K cl args W (wS K cl args D) G0 H0 A0 (putS env i r)) : D.nx (σ.set i (some v)) H := by
  have own : ∀ a, Own (σ.set i (some v)) (env.set i r) a → Own σ env a ∨ OwnR v r a := fun a h => by
    rcases own_put h with z | ⟨o, c, z1, z2⟩
    · exact .inl z
    · subst z1
      cases o with
      | some k => exact x.elim
      | none => exact .inr ⟨c, rfl, z2⟩
  have rs' := rs.put i x
  unfold putS at q
  split at q
  · exact q _ _ _ rs' (st.less own)
  · exact q _ _ _ rs' (st.less own)
  · exact q.elim
theorem ss_set {i : Nat} {x : Str} {pos' : Pos} (hN : X.N.Nodup) (hi : X.N[i]? = some x) (hx : Loc X.env.scope x) (h : SE cl X e fe) (hs : swapsWith e (some (.Name x pos')) pos.line X.env = pure false := by rfl) (hf : X.fn x = true ∨ X.env.scope.names.lookup x = some .local := by first | exact Or.inl rfl | exact Or.inr rfl) :
    SS cl X (.Assign [.Name x pos'] e pos) (sSet i fe) := fun W tk =>
  (ps_set hN hi hx (h W tk) hs hf).impY fun D σ H ⟨args, G, env, rs, q⟩ => tE_any rs q fun r v env1 G1 H1 rs1 st1 x1 q1 => put_ok rs1 st1 x1 q1
theorem frzE_ok (i : Nat) (rs : RS K cl args G H σ env) : ∃ G2, RS K cl args G2 H σ (frzE i env) ∧ Stp G H (Own σ env) G2 H (Own σ (frzE i env)) := by
  unfold frzE
  split
  · rename_i c hc
    split
    · rename_i d hd
      obtain ⟨a, u, h1, h2, h3, h4, _⟩ := rs.slot i _ hc
      have rs1 := rs.drop i
      have st1 : Stp G H (Own σ env) G H (fun b => Own σ (env.set i .und) b ∨ OwnR (.ref a) (.own none c) b) := Stp.refl.less fun b z => by
        rcases z with z | ⟨c', _, z⟩
        · exact (own_drop z).1
        · injection z with z; subst z; exact ⟨i, none, c, hc, h1⟩
      have x1 : RepR K cl G H (Own σ (env.set i .und)) (.ref a) (.own none c) := ⟨a, u, rfl, h2, h3, h4, fun z => by
        obtain ⟨_, j, hj, hs, o, c', he⟩ := own_drop z
        exact hj (rs.sep j i o none c' c a he hc hs h1)⟩
      obtain ⟨G2, rs2, st2, rep⟩ := RepR.frz rs1 st1 x1 hd
      have sg : σ.set i (some (V.ref a)) = σ := by
        apply List.ext_getElem?
        intro j
        rw [List.getElem?_set]
        by_cases z : i = j
        · rw [if_pos z]
          have hl : i < σ.length := (List.getElem?_eq_some_iff.mp h1).1
          rw [if_pos hl, ← z, h1]
        · rw [if_neg z]
      have ev : (env.set i S.und).set i (S.val d) = env.set i (.val d) := by rw [List.set_set]
      have rs3 : RS K cl args G2 H (σ.set i (some (V.ref a))) ((env.set i S.und).set i (S.val d)) := rs2.put i (v := .ref a) (r := .val d) rep
      rw [sg, ev] at rs3
      refine ⟨G2, rs3, st2.less fun b z => ?_⟩
      obtain ⟨j, o, c', q1, q2⟩ := z
      rw [← ev, List.getElem?_set] at q1
      by_cases z : i = j
      · rw [if_pos z] at q1
        split at q1 <;> cases q1
      · rw [if_neg z] at q1
        exact ⟨j, o, c', q1, q2⟩
    · exact ⟨G, rs, .refl⟩
  · exact ⟨G, rs, .refl⟩
theorem ss_frz (i : Nat) (h : SS cl X st f) : SS cl X st (sFrz i f) := fun W tk => (h W tk).impY fun D σ H ⟨args, G, env, rs, q⟩ => by
  obtain ⟨G2, rs2, st2⟩ := frzE_ok i rs
  exact ⟨args, G2, _, rs2, q.later wS_lat st2⟩
theorem sb_frz (i : Nat) (h : SB cl X sts f) : SB cl X sts (sFrz i f) := fun W tk => (h W tk).impY fun D σ H ⟨args, G, env, rs, q⟩ => by
  obtain ⟨G2, rs2, st2⟩ := frzE_ok i rs
  exact ⟨args, G2, _, rs2, q.later wS_lat st2⟩
theorem ss_aug {i : Nat} {x : Str} {op : Operator} {k : Int → Int → Int} {pos' : Pos} (hN : X.N.Nodup) (hi : X.N[i]? = some x) (hx : Loc X.env.scope x) (h : SE cl X e fe) (ho : PIp X op (ipI k)) (hf : X.fn x = true ∨ X.env.scope.names.lookup x = some .local := by first | exact Or.inl rfl | exact Or.inr rfl) :
    SS cl X (.AugAssign (.Name x pos') op e pos) (sAug i (gI k) fe) := fun W tk =>
  (ps_aug hN hi hx (h W tk) ho hf).impY fun D σ H ⟨args, G, env, rs, q⟩ => by
    unfold sAug at q
    split at q
    · rename_i dx hd
      obtain ⟨v, h1, h2⟩ := rs.val hd
      refine ⟨v, h1, tE_data wS_lat rs q fun dy y env1 G1 H1 rs1 ex1 ry q1 => ?_⟩
      cases hg : gI k dx dy with
      | none => rw [hg] at q1; exact q1.elim
      | some s =>
        rw [hg] at q1
        unfold gI at hg
        split at hg
        · injection hg with hg; subst hg
          refine ⟨_, _, rep_int.mp h2, rep_int.mp ry, ?_⟩
          exact put_ok (D := D) (r := .val (.int _)) rs1 (Stp.refl.less fun a z => by
            rcases z with z | ⟨c, z, _⟩
            · exact z
            · cases z) ((rep_int (K := X.K) (cl := cl) (G := G1)).mpr rfl) (W := W) (i := i) (by unfold putS; exact q1)
        · cases hg
    · exact q.elim
end
end Ya

set_option maxHeartbeats 4000000
namespace Ya
open PySem PySem.Spec PyProof.Rows L2

/-! ### defs as functions of data -/
inductive FR where
  | ret (r : S) (ss : List S)
  | exc (c : Str) (ns : List Str) (ds : List D) (ss : List S)
  | bad
abbrev Fn := List S → FR
abbrev Ag := D ⊕ Nat
abbrev Xr := En → Res (List Ag)
section
variable (K : PySem.W.Frag) (cl : Str → Addr)
def fPost (vs : List V) (G H : Hp) (ss : List S) (Q : VK) (E : XK) : FR → Prop
  | .ret r ss' => ∀ v G' H', RS K cl vs G' H' (vs.map some) ss' → Stp G H (Own (vs.map some) ss) G' H' (fun a => Own (vs.map some) ss' a ∨ OwnR v r a) → RepR K cl G' H' (Own (vs.map some) ss') v r → Q v H'
  | .exc c ns ds ss' => ∀ x d G' H', RS K cl vs G' H' (vs.map some) ss' → Stp G H (Own (vs.map some) ss) G' H' (Own (vs.map some) ss') → ExcAt K cl G' c ns ds x d → E x d H'
  | .bad => False
/-- a def of n parameters that does F -/
def spF (n : Nat) (F : Fn) : Sp := fun vs H Q E => vs.length = n ∧ ∃ G ss, RS K cl vs G H (vs.map some) ss ∧ fPost K cl vs G H ss Q E (F ss)
def RepAr (G : Hp) (σ : L2.St) : List Ag → List V → Prop
  | [], vs => vs = []
  | .inl d :: r, vs => ∃ v q, vs = v :: q ∧ Rep K cl G d v ∧ RepAr G σ r q
  | .inr i :: r, vs => ∃ v q, vs = v :: q ∧ σ[i]? = some (some v) ∧ RepAr G σ r q
def wR (args : List V) (σ : L2.St) (Q : List V → Hp → Prop) : Wnt (List Ag) := fun G H A xs e => ∀ vs G' H', RS K cl args G' H' σ e → Stp G H A G' H' (Own σ e) → RepAr K cl G' σ xs vs → Q vs H'
def tR (W : WX) (f : Xr) : TA := fun σ H Q => ∃ args G env, RS K cl args G H σ env ∧ Post K cl args W (wR K cl args σ Q) G H (Own σ env) (f env)
end
def SR (cl : Str → Addr) (X : Cx) (es : List Expr) (f : Xr) : Prop := ∀ W, Takes X W → PA X es (tR X.K cl W f)
def rNil : Xr := fun env => .ok [] env
def rCons (f : Xp) (r : Xr) : Xr := fun env => (f env).data fun d e => (r e).bind fun xs e2 => .ok (.inl d :: xs) e2
def rIo (i : Nat) (r : Xr) : Xr := fun env => match env[i]? with | some (.own _ _) => (r env).bind fun xs e2 => .ok (.inr i :: xs) e2 | _ => .bad
def agS (e : En) (k : Nat) : Ag → S
  | .inl d => .val d
  | .inr i => match e[i]? with | some (.own _ c) => .own (some k) c | _ => .und
def ios (xs : List Ag) : List Nat := xs.filterMap fun x => match x with | .inr i => some i | .inl _ => none
def isOwn : Option S → Bool | some (.own _ _) => true | _ => false
def ioOk (e : En) (xs : List Ag) : Bool := (ios xs).all (fun i => isOwn e[i]?) && decide (ios xs).Nodup
def restore : S → S → S
  | .own o _, .own _ c => .own o c
  | .own _ _, _ => .und
  | s, _ => s
def isIo (j : Nat) : Ag → Bool | .inr i => i == j | .inl _ => false
def backE (e : En) (xs : List Ag) (ss : List S) : En := e.mapIdx fun j s => match xs.findIdx? (isIo j) with | some k => restore s (ss.getD k .und) | none => s
def xCall (F : Fn) (fa : Xr) : Xp := fun env => (fa env).bind fun xs e => if ioOk e xs = true then (match F (xs.mapIdx (agS e)) with
  | .ret r ss => .ok r (backE e xs ss)
  | .exc c ns ds ss => .exc c ns ds (backE e xs ss)
  | .bad => .bad) else .bad

section
variable {K : PySem.W.Frag} {cl : Str → Addr} {args vs : List V} {σ : L2.St} {G H G' H' : Hp} {e : En} {xs : List Ag} {ss : List S}
theorem wR_lat {Q : List V → Hp → Prop} : Lat (wR K cl args σ Q) := fun _ _ _ _ _ _ _ _ st h v G' H' rs s2 x => h v G' H' rs (st.trans s2) x
theorem RepAr.mono (ex : Ex G G') : ∀ {xs : List Ag} {vs : List V}, RepAr K cl G σ xs vs → RepAr K cl G' σ xs vs
  | [], _, h => h
  | .inl d :: r, vs, h => by obtain ⟨v, q, h1, h2, h3⟩ := h; exact ⟨v, q, h1, h2.mono ex, RepAr.mono ex h3⟩
  | .inr d :: r, vs, h => by obtain ⟨v, q, h1, h2, h3⟩ := h; exact ⟨v, q, h1, h2, RepAr.mono ex h3⟩
theorem RepAr.len : ∀ {xs : List Ag} {vs : List V}, RepAr K cl G σ xs vs → xs.length = vs.length
  | [], vs, h => by rw [show vs = [] from h]; rfl
  | .inl d :: r, vs, h => by obtain ⟨v, q, rfl, _, h3⟩ := h; simp [RepAr.len h3]
  | .inr d :: r, vs, h => by obtain ⟨v, q, rfl, _, h3⟩ := h; simp [RepAr.len h3]
theorem RepAr.get : ∀ {xs : List Ag} {vs : List V} {k : Nat} {x : Ag}, RepAr K cl G σ xs vs → xs[k]? = some x → ∃ v, vs[k]? = some v ∧ (match x with | .inl d => Rep K cl G d v | .inr i => σ[i]? = some (some v))
  | [], _, _, _, _, h => by simp at h
  | .inl d :: r, vs, k, x, h, e => by
    obtain ⟨v, q, rfl, h2, h3⟩ := h
    cases k with
    | zero => simp at e; subst e; exact ⟨v, by simp, h2⟩
    | succ k => obtain ⟨u, q1, q2⟩ := RepAr.get (k := k) h3 (by simpa using e); exact ⟨u, by simpa using q1, q2⟩
  | .inr d :: r, vs, k, x, h, e => by
    obtain ⟨v, q, rfl, h2, h3⟩ := h
    cases k with
    | zero => simp at e; subst e; exact ⟨v, by simp, h2⟩
    | succ k => obtain ⟨u, q1, q2⟩ := RepAr.get (k := k) h3 (by simpa using e); exact ⟨u, by simpa using q1, q2⟩
theorem ios_mem {i k : Nat} (h : xs[k]? = some (.inr i)) : i ∈ ios xs := List.mem_filterMap.mpr ⟨.inr i, List.mem_of_getElem? h, rfl⟩
theorem ios_one : ∀ {xs : List Ag} {i j k : Nat}, (ios xs).Nodup → xs[j]? = some (.inr i) → xs[k]? = some (.inr i) → j = k
  | [], _, _, _, _, h, _ => by simp at h
  | x :: r, i, j, k, hn, h1, h2 => by
    have tl : (ios r).Nodup := by
      unfold ios at hn ⊢
      rw [List.filterMap_cons] at hn
      split at hn
      · exact hn
      · exact (List.nodup_cons.mp hn).2
    have hd : x = .inr i → i ∉ ios r := fun z m => by
      subst z
      unfold ios at hn m
      rw [List.filterMap_cons] at hn
      exact (List.nodup_cons.mp hn).1 m
    cases j with
    | zero =>
      cases k with
      | zero => rfl
      | succ k =>
        simp at h1 h2
        exact absurd (ios_mem (xs := r) (k := k) h2) (hd h1)
    | succ j =>
      cases k with
      | zero =>
        simp at h1 h2
        exact absurd (ios_mem (xs := r) (k := j) h1) (hd h2)
      | succ k =>
        simp at h1 h2
        rw [ios_one tl h1 h2]
theorem ioOk_own (h : ioOk e xs = true) {i k : Nat} (hk : xs[k]? = some (.inr i)) : ∃ o c, e[i]? = some (.own o c) := by
  unfold ioOk at h
  rw [Bool.and_eq_true, List.all_eq_true] at h
  have q := h.1 i (ios_mem hk)
  unfold isOwn at q
  split at q
  · exact ⟨_, _, by assumption⟩
  · cases q
theorem ioOk_nd (h : ioOk e xs = true) : (ios xs).Nodup := by
  unfold ioOk at h
  rw [Bool.and_eq_true] at h
  exact of_decide_eq_true h.2
theorem own_arg (rs : RS K cl args G H σ e) (ra : RepAr K cl G σ xs vs) (ok : ioOk e xs = true) {a : Addr} (h : Own (vs.map some) (xs.mapIdx (agS e)) a) :
    ∃ (k i : Nat) (o : Option Nat) (c : C), xs[k]? = some (Sum.inr i) ∧ e[i]? = some (S.own o c) ∧ σ[i]? = some (some (V.ref a)) := by
  obtain ⟨k, o, c, h1, h2⟩ := h
  rw [List.getElem?_mapIdx] at h1
  cases q : xs[k]? with
  | none => rw [q] at h1; cases h1
  | some x =>
    rw [q] at h1
    obtain ⟨v, hv, hx⟩ := ra.get q
    rw [List.getElem?_map, hv] at h2
    injection h2 with h2; injection h2 with h2; subst h2
    cases x with
    | inl d => injection h1 with h1; cases h1
    | inr i =>
      obtain ⟨o', c', he⟩ := ioOk_own ok q
      exact ⟨k, i, o', c', q, he, hx⟩
/-- what a def is handed -/
theorem RS.handed (rs : RS K cl args G H σ e) (ra : RepAr K cl G σ xs vs) (ok : ioOk e xs = true) : RS K cl vs G H (vs.map some) (xs.mapIdx (agS e)) := by
  refine ⟨rs.ex, by rw [List.length_map, List.length_mapIdx, ra.len], fun k s h => ?_, fun j k o o' c c' a h1 h2 h3 h4 => ?_⟩
  · rw [List.getElem?_mapIdx] at h
    cases q : xs[k]? with
    | none => rw [q] at h; cases h
    | some x =>
      rw [q] at h
      injection h with h; subst h
      obtain ⟨v, hv, hx⟩ := ra.get q
      cases x with
      | inl d => exact ⟨v, by rw [List.getElem?_map, hv]; rfl, hx⟩
      | inr i =>
        obtain ⟨o, c, he⟩ := ioOk_own ok q
        obtain ⟨a, u, q1, q2, q3, q4, q5⟩ := rs.slot i _ he
        have ev : v = .ref a := by
          have := hx.symm.trans q1
          injection this with this; injection this
        subst ev
        have es : agS e k (.inr i) = .own (some k) c := by unfold agS; simp only [he]
        rw [es]
        exact ⟨a, u, by rw [List.getElem?_map, hv]; rfl, q2, q3, q4, fun k' z => by injection z with z; subst z; exact hv⟩
  · have key : ∀ (j : Nat) (o : Option Nat) (c : C), (xs.mapIdx (agS e))[j]? = some (.own o c) → (vs.map some)[j]? = some (some (V.ref a)) → ∃ (i : Nat) (o : Option Nat) (c : C), xs[j]? = some (Sum.inr i) ∧ e[i]? = some (S.own o c) ∧ σ[i]? = some (some (V.ref a)) := by
      intro j o c h1 h2
      rw [List.getElem?_mapIdx] at h1
      cases q : xs[j]? with
      | none => rw [q] at h1; cases h1
      | some x =>
        rw [q] at h1
        obtain ⟨v, hv, hx⟩ := ra.get q
        rw [List.getElem?_map, hv] at h2
        injection h2 with h2; injection h2 with h2; subst h2
        cases x with
        | inl d => injection h1 with h1; cases h1
        | inr i =>
          obtain ⟨o', c', he⟩ := ioOk_own ok q
          exact ⟨i, o', c', rfl, he, hx⟩
    obtain ⟨i, o1, c1, x1, e1, s1⟩ := key j o c h1 h3
    obtain ⟨i', o2, c2, x2, e2, s2⟩ := key k o' c' h2 h4
    have ei := rs.sep i i' _ _ _ _ a e1 e2 s1 s2
    subst ei
    exact ios_one (ioOk_nd ok) x1 x2
theorem back_get {j : Nat} : (backE e xs ss)[j]? = (e[j]?).map fun s => match xs.findIdx? (isIo j) with | some k => restore s (ss.getD k .und) | none => s := by
  unfold backE
  rw [List.getElem?_mapIdx]
theorem isIo_eq {j : Nat} {x : Ag} (h : isIo j x = true) : x = .inr j := by
  cases x with
  | inl d => cases h
  | inr i => rw [eq_of_beq (show (i == j) = true from h)]
theorem find_io {j k : Nat} (h : xs.findIdx? (isIo j) = some k) : xs[k]? = some (.inr j) := by
  obtain ⟨hk, h2, _⟩ := List.findIdx?_eq_some_iff_getElem.mp h
  rw [List.getElem?_eq_getElem hk, isIo_eq h2]
theorem find_no {j k : Nat} (h : xs.findIdx? (isIo j) = none) (hk : xs[k]? = some (.inr j)) : False := by
  have q := List.findIdx?_eq_none_iff.mp h _ (List.mem_of_getElem? hk)
  simp [isIo] at q
/-- an owned slot behind a call was owned ahead of it -/
theorem back_own {j : Nat} {o : Option Nat} {c : C} (h : (backE e xs ss)[j]? = some (.own o c)) : ∃ c0, e[j]? = some (.own o c0) ∧ ((xs.findIdx? (isIo j) = none ∧ c0 = c) ∨ ∃ k o', xs.findIdx? (isIo j) = some k ∧ ss[k]? = some (.own o' c)) := by
  rw [back_get] at h
  cases q : e[j]? with
  | none => rw [q] at h; cases h
  | some s =>
    rw [q] at h
    injection h with h
    split at h
    · rename_i k hk
      cases s with
      | und => cases h
      | val d => cases h
      | own o1 c1 =>
        cases z : ss[k]? with
        | none =>
          have z' : ss.getD k .und = .und := by rw [List.getD_eq_getElem?_getD, z]; rfl
          rw [z'] at h; cases h
        | some t =>
          have z' : ss.getD k .und = t := by rw [List.getD_eq_getElem?_getD, z]; rfl
          rw [z'] at h
          cases t with
          | und => cases h
          | val d => cases h
          | own o2 c2 =>
            have h' : S.own o1 c2 = .own o c := h
            injection h' with h1 h2
            subst h1 h2
            exact ⟨c1, rfl, .inr ⟨k, o2, hk, z⟩⟩
    · rename_i hk
      subst h
      exact ⟨c, rfl, .inl ⟨hk, rfl⟩⟩
theorem back_own1 {a : Addr} (h : Own σ (backE e xs ss) a) : Own σ e a := by
  obtain ⟨j, o, c, h1, h2⟩ := h
  obtain ⟨c0, h3, _⟩ := back_own h1
  exact ⟨j, o, c0, h3, h2⟩
/-- behind a call -/
theorem RS.back (rs : RS K cl args G H σ e) (ra : RepAr K cl G σ xs vs) (ok : ioOk e xs = true) {B : Addr → Prop} (st : Stp G H (Own (vs.map some) (xs.mapIdx (agS e))) G' H' B) (rs' : RS K cl vs G' H' (vs.map some) ss) : RS K cl args G' H' σ (backE e xs ss) := by
  refine ⟨rs'.ex, by rw [rs.len]; unfold backE; rw [List.length_mapIdx], fun j s h => ?_, fun j k o o' c c' a h1 h2 h3 h4 => ?_⟩
  · cases s with
    | und => trivial
    | val d =>
      rw [back_get] at h
      cases q : e[j]? with
      | none => rw [q] at h; cases h
      | some s =>
        rw [q] at h
        injection h with h
        have es : s = .val d := by
          split at h
          · cases s with
            | und => cases h
            | val d' => exact h
            | own o c =>
              rename_i k hk
              cases z : ss.getD k .und <;> rw [z] at h <;> cases h
          · exact h
        subst es
        obtain ⟨v, h1, h2⟩ := rs.val q
        exact ⟨v, h1, h2.mono st.g⟩
    | own o c =>
      obtain ⟨c0, h1, h2⟩ := back_own h
      obtain ⟨a, u, q1, q2, q3, q4, q5⟩ := rs.slot j _ h1
      rcases h2 with ⟨hk, rfl⟩ | ⟨k, o', hk, hs⟩
      · have na : ¬ Own (vs.map some) (xs.mapIdx (agS e)) a := fun z => by
          obtain ⟨k, i, o1, c1, z1, z2, z3⟩ := own_arg rs ra ok z
          have ei := rs.sep i j _ _ _ _ a z2 h1 z3 q1
          subst ei
          exact find_no hk z1
        exact ⟨a, u, q1, st.n a na (by rw [q3]; simp) q2, st.h a u na q3, q4.mono st.g, q5⟩
      · obtain ⟨b, w, p1, p2, p3, p4, _⟩ := rs'.slot k _ hs
        obtain ⟨v, hv, hx⟩ := ra.get (find_io hk)
        rw [List.getElem?_map, hv] at p1
        injection p1 with p1; injection p1 with p1; subst p1
        have eab : b = a := by
          have := hx.symm.trans q1
          injection this with this; injection this with this; injection this
        subst eab
        exact ⟨b, w, q1, p2, p3, p4, q5⟩
  · obtain ⟨c1, e1, _⟩ := back_own h1
    obtain ⟨c2, e2, _⟩ := back_own h2
    exact rs.sep j k _ _ _ _ a e1 e2 h3 h4
theorem Stp.back (rs : RS K cl args G H σ e) (ra : RepAr K cl G σ xs vs) (ok : ioOk e xs = true) {B : Addr → Prop} (st : Stp G H (Own (vs.map some) (xs.mapIdx (agS e))) G' H' B) {B' : Addr → Prop} (hB : ∀ a, B' a → Own σ (backE e xs ss) a ∨ B a) : Stp G H (Own σ e) G' H' B' :=
  st.more (fun a z => by
    obtain ⟨k, i, o, c, _, z2, z3⟩ := own_arg rs ra ok z
    exact ⟨i, o, c, z2, z3⟩) fun a z => by
    rcases hB a z with q | q
    · exact .inr (back_own1 q)
    · exact .inl q
theorem RepR.back {v : V} {r : S} (rs : RS K cl args G H σ e) (ra : RepAr K cl G σ xs vs) (ok : ioOk e xs = true) (st : Stp G H (Own (vs.map some) (xs.mapIdx (agS e))) G' H' (fun a => Own (vs.map some) ss a ∨ OwnR v r a)) (rs' : RS K cl vs G' H' (vs.map some) ss)
    (x : RepR K cl G' H' (Own (vs.map some) ss) v r) : RepR K cl G' H' (Own σ (backE e xs ss)) v r := by
  cases r with
  | und => exact x
  | val d => exact x
  | own o c =>
    cases o with
    | some k => exact x
    | none =>
      obtain ⟨a, u, ev, h1, h2, h3, h4⟩ := x
      refine ⟨a, u, ev, h1, h2, h3, fun z => ?_⟩
      obtain ⟨j, o, c', q1, q2⟩ := z
      obtain ⟨c0, e1, hh⟩ := back_own q1
      rcases hh with ⟨hk, rfl⟩ | ⟨k, o', hk, hs⟩
      · obtain ⟨b, w, p1, p2, p3, _⟩ := rs.slot j _ e1
        have eab : b = a := by
          have := p1.symm.trans q2
          injection this with this; injection this with this; injection this
        subst eab
        rcases st.o b (.inr ⟨c, rfl, ev⟩) with y | y
        · obtain ⟨k, i, o1, c1, z1, z2, z3⟩ := own_arg rs ra ok y
          have ei := rs.sep i j _ _ _ _ b z2 e1 z3 q2
          subst ei
          exact find_no hk z1
        · rw [p3] at y; cases y
      · obtain ⟨v', hv, hx⟩ := ra.get (find_io hk)
        have ev' : v' = .ref a := by
          have := hx.symm.trans q2
          injection this with this; injection this
        subst ev'
        exact h4 ⟨k, o', c', hs, by rw [List.getElem?_map, hv]; rfl⟩
end

section
variable {cl : Str → Addr} {X : Cx} {e : Expr} {es : List Expr} {pos : Pos}
theorem sr_nil : SR cl X [] rNil := fun W _ => pa_nil.impY fun σ H Q ⟨args, G, env, rs, q⟩ => q [] G H rs .refl rfl
theorem tR_bind {K : PySem.W.Frag} {args : List V} {W : WX} {σ : L2.St} {G H : Hp} {env : En} {β : Type} {w : Wnt β} {f : Xr} {k : List Ag → En → Res β} {P : List V → Hp → Prop} (lat : Lat w) (rs : RS K cl args G H σ env) (h : Post K cl args W w G H (Own σ env) ((f env).bind k))
    (hk : ∀ xs vs env1 G1 H1, RS K cl args G1 H1 σ env1 → Ex G G1 → RepAr K cl G1 σ xs vs → Post K cl args W w G1 H1 (Own σ env1) (k xs env1) → P vs H1) : tR K cl W f σ H P := by
  refine ⟨args, G, env, rs, ?_⟩
  cases hf : f env with
  | bad => rw [hf] at h; exact h
  | exc c ns ds e => rw [hf] at h; exact h
  | ok b e =>
    rw [hf] at h
    exact fun vs G' H' rs' st x => hk b vs e G' H' rs' st.g x (h.later lat st)
theorem sr_cons {fe : Xp} {r : Xr} (ha : SE cl X e fe) (hr : SR cl X es r) (hs : starEach (e :: es) X.env = (false, eval e X.env) :: starEach es X.env := by rfl) : SR cl X (e :: es) (rCons fe r) := fun W tk =>
  (pa_cons (ha W tk) (hr W tk) hs).impY fun σ H Q ⟨args, G, env, rs, q⟩ => tE_data wR_lat rs q fun dx x env1 G1 H1 rs1 ex1 rx q1 => tR_bind wR_lat rs1 q1 fun xs vs env2 G2 H2 rs2 ex2 rxs q2 =>
    q2 (x :: vs) G2 H2 rs2 .refl ⟨x, vs, rfl, rx.mono ex2, rxs⟩
theorem sr_io (i : Nat) {r : Xr} {x : Str} {p : Pos} (h : PE X (.Name x p) (tVar i)) (hr : SR cl X es r) (hs : starEach (.Name x p :: es) X.env = (false, eval (.Name x p) X.env) :: starEach es X.env := by rfl) : SR cl X (.Name x p :: es) (rIo i r) := fun W tk =>
  (pa_cons h (hr W tk) hs).impY fun σ H Q ⟨args, G, env, rs, q⟩ => by
    unfold rIo at q
    split at q
    · rename_i o c hc
      obtain ⟨a, u, h1, _⟩ := rs.slot i _ hc
      exact ⟨.ref a, h1, tR_bind wR_lat rs q fun xs vs env2 G2 H2 rs2 ex2 rxs q2 => q2 (.ref a :: vs) G2 H2 rs2 .refl ⟨.ref a, vs, rfl, h1, rxs⟩⟩
    · exact q.elim
/-- from what a def does to what its call does -/
theorem call_post {K : PySem.W.Frag} {args vs : List V} {W : WX} {σ : L2.St} {G H : Hp} {env : En} {xs : List Ag} {Q : VK} {F : Fn} (rs : RS K cl args G H σ env) (ra : RepAr K cl G σ xs vs)
    (q : Post K cl args W (wE K cl args σ Q) G H (Own σ env) (if ioOk env xs = true then (match F (xs.mapIdx (agS env)) with
      | .ret r ss => .ok r (backE env xs ss)
      | .exc c ns ds ss => .exc c ns ds (backE env xs ss)
      | .bad => .bad) else .bad)) : spF K cl xs.length F vs H Q (WE W σ) := by
  by_cases ok : ioOk env xs = true
  · rw [if_pos ok] at q
    refine ⟨ra.len.symm, G, _, rs.handed ra ok, ?_⟩
    split at q
    · rename_i r ss hF
      rw [hF]
      exact fun v G' H' rs' st x => q v G' H' (rs.back ra ok st rs') (Stp.back (ss := ss) rs ra ok st fun a z => by
        rcases z with z | z
        · exact .inl z
        · exact .inr (.inr z)) (RepR.back rs ra ok st rs' x)
    · rename_i c ns ds ss hF
      rw [hF]
      exact fun x d G' H' rs' st y => q x d σ G' H' (rs.back ra ok st rs') (Stp.back (ss := ss) rs ra ok st fun a z => .inl z) y
    · exact q.elim
  · rw [if_neg ok] at q
    exact q.elim
/-- f(e, ..) -/
theorem se_call {f : Addr} {fd : FuncData} {ps : List Str} {k : Nat} {F : Fn} {x : Str} {p : Pos} {n : Nat} {fa : Xr} (hF : FnOk X.prog X.w X.K X.mg X.base (L2.CX X.prog X.w) k f fd ps (spF X.K cl n F)) (hr : Room k X.A) (hg : Gl X x) (hm : X.mg x = some (.ref f)) (hk : PySem.W.keepIn X.K (.ref f) = true) (hb : Binds X.K fd ps [])
    (ha : SR cl X (e :: es) fa) (hl : (e :: es).length = n) (hla : ∀ env xs e', fa env = .ok xs e' → xs.length = n) (hdb : (x == ("__debug__" : Str)) = false := by decide) (he : starEach (e :: es) X.env = (false, eval e X.env) :: starEach es X.env := by rfl) (hpl : (backTo pos (starEach es X.env)).any (·.1) = false := by rfl) :
    SE cl X (.Call (.Name x p) (e :: es) [] pos) (xCall F fa) := fun W tk =>
  (pe_callS hF hr hg hm hk hb (fun σ => passAt tk σ) (ha W tk) hdb he hpl).impY fun σ H Q ⟨args, G, env, rs, q⟩ => by
    unfold xCall at q
    refine ⟨args, G, env, rs, ?_⟩
    cases hf : fa env with
    | bad => rw [hf] at q; exact q
    | exc c ns ds e => rw [hf] at q; exact q
    | ok xs e1 =>
      rw [hf] at q
      exact fun vs G' H' rs' st x => by
        have z := call_post rs' x (Post.later wE_lat st q)
        rw [hla env xs e1 hf] at z
        exact z

/-! ### a def's own text -/
/-- what is left of the arguments -/
def endsE (ss : List S) (e : En) : List S := ss.mapIdx fun k s => match s with
  | .own _ _ => (match e[k]? with | some (.own (some k') c) => if k' = k then .own (some k) c else .und | _ => .und)
  | s => s
def fnD (n N : Nat) (b : Xs) : Fn := fun ss => if ss.length = n then (match b (ss ++ List.replicate (N - n) .und) with
  | .ok .nx e => .ret (.val .non) (endsE ss e)
  | .ok (.rt r) e => .ret r (endsE ss e)
  | .exc c ns ds e => .exc c ns ds (endsE ss e)
  | _ => .bad) else .bad
end
section
variable {K : PySem.W.Frag} {cl : Str → Addr} {vs : List V} {σ : L2.St} {G H G' H' : Hp} {e : En} {ss : List S}
theorem ends_get {k : Nat} {o : Option Nat} {c : C} (h : (endsE ss e)[k]? = some (.own o c)) : o = some k ∧ e[k]? = some (.own (some k) c) := by
  unfold endsE at h
  rw [List.getElem?_mapIdx] at h
  cases q : ss[k]? with
  | none => rw [q] at h; cases h
  | some s =>
    rw [q] at h
    injection h with h
    cases s with
    | und => cases h
    | val d => cases h
    | own o1 c1 =>
      dsimp only at h
      split at h
      · rename_i k' c' hk
        split at h
        · rename_i ek
          injection h with h1 h2
          subst ek h1 h2
          exact ⟨rfl, hk⟩
        · cases h
      · cases h
theorem ends_own (rs : RS K cl vs G H σ e) {a : Addr} (h : Own (vs.map some) (endsE ss e) a) : Own σ e a := by
  obtain ⟨k, o, c, h1, h2⟩ := h
  obtain ⟨_, h3⟩ := ends_get h1
  obtain ⟨b, u, q1, _, _, _, q5⟩ := rs.slot k _ h3
  have q6 := q5 k rfl
  rw [List.getElem?_map, q6] at h2
  injection h2 with h2; injection h2 with h2; injection h2 with h2
  subst h2
  exact ⟨k, _, c, h3, q1⟩
theorem RS.ends (rs0 : RS K cl vs G H (vs.map some) ss) (rs : RS K cl vs G' H' σ e) (ex : Ex G G') : RS K cl vs G' H' (vs.map some) (endsE ss e) := by
  refine ⟨rs.ex, by rw [rs0.len]; unfold endsE; rw [List.length_mapIdx], fun k s h => ?_, fun j k o o' c c' a h1 h2 h3 h4 => ?_⟩
  · cases s with
    | und => trivial
    | val d =>
      unfold endsE at h
      rw [List.getElem?_mapIdx] at h
      cases q : ss[k]? with
      | none => rw [q] at h; cases h
      | some s =>
        rw [q] at h
        injection h with h
        cases s with
        | und => cases h
        | val d' =>
          have h' : S.val d' = .val d := h
          injection h' with h'; subst h'
          obtain ⟨v, h1, h2⟩ := rs0.val q
          exact ⟨v, h1, h2.mono ex⟩
        | own o1 c1 =>
          dsimp only at h
          split at h
          · split at h <;> cases h
          · cases h
    | own o c =>
      obtain ⟨ho, h3⟩ := ends_get h
      obtain ⟨b, u, q1, q2, q3, q4, q5⟩ := rs.slot k _ h3
      subst ho
      exact ⟨b, u, by rw [List.getElem?_map, q5 k rfl]; rfl, q2, q3, q4, q5⟩
  · obtain ⟨_, e1⟩ := ends_get h1
    obtain ⟨_, e2⟩ := ends_get h2
    obtain ⟨b, u, q1, _, _, _, q5⟩ := rs.slot j _ e1
    obtain ⟨b', u', p1, _, _, _, p5⟩ := rs.slot k _ e2
    rw [List.getElem?_map, q5 j rfl] at h3
    rw [List.getElem?_map, p5 k rfl] at h4
    injection h3 with h3; injection h3 with h3; injection h3 with h3
    injection h4 with h4; injection h4 with h4; injection h4 with h4
    subst h3 h4
    exact rs.sep j k _ _ _ _ b' e1 e2 q1 p1
theorem RS.start {N : List Str} {n : Nat} (rs : RS K cl vs G H (vs.map some) ss) (hn : vs.length = n) (hN : n ≤ N.length) : RS K cl vs G H (L2.start N vs) (ss ++ List.replicate (N.length - n) .und) ∧ ∀ a, Own (L2.start N vs) (ss ++ List.replicate (N.length - n) .und) a ↔ Own (vs.map some) ss a := by
  have hl := rs.len
  rw [List.length_map] at hl
  have key : ∀ (j : Nat) (o : Option Nat) (c : C), (ss ++ List.replicate (N.length - n) S.und)[j]? = some (.own o c) → ss[j]? = some (.own o c) ∧ (L2.start N vs)[j]? = (vs.map some)[j]? := by
    intro j o c h
    by_cases z : j < ss.length
    · rw [List.getElem?_append_left z] at h
      refine ⟨h, ?_⟩
      unfold L2.start
      rw [List.getElem?_append_left (by rw [List.length_map]; omega)]
    · rw [List.getElem?_append_right (by omega), List.getElem?_replicate] at h
      split at h <;> cases h
  refine ⟨⟨rs.ex, ?_, fun j s h => ?_, fun j k o o' c c' a h1 h2 h3 h4 => ?_⟩, fun a => ⟨fun ⟨j, o, c, h1, h2⟩ => ?_, fun ⟨j, o, c, h1, h2⟩ => ?_⟩⟩
  · unfold L2.start
    rw [List.length_append, List.length_append, List.length_map, List.length_replicate, List.length_replicate]
    omega
  · by_cases z : j < ss.length
    · rw [List.getElem?_append_left z] at h
      unfold L2.start
      rw [List.getElem?_append_left (by rw [List.length_map]; omega)]
      exact rs.slot j s h
    · rw [List.getElem?_append_right (by omega), List.getElem?_replicate] at h
      split at h
      · injection h with h; subst h; trivial
      · cases h
  · obtain ⟨e1, s1⟩ := key j o c h1
    obtain ⟨e2, s2⟩ := key k o' c' h2
    exact rs.sep j k o o' c c' a e1 e2 (s1 ▸ h3) (s2 ▸ h4)
  · obtain ⟨e1, s1⟩ := key j o c h1
    exact ⟨j, o, c, e1, s1 ▸ h2⟩
  · have z : j < ss.length := (List.getElem?_eq_some_iff.mp h1).1
    refine ⟨j, o, c, by rw [List.getElem?_append_left z]; exact h1, ?_⟩
    unfold L2.start
    rw [List.getElem?_append_left (by rw [List.length_map]; omega)]
    exact h2
/-- the body's doing is the def's -/
theorem body_post {N : List Str} {n : Nat} {b : Xs} {Q : VK} {E : XK} {W : WX} (hW : W = fun c d _ H => E c d H) (rs : RS K cl vs G H (vs.map some) ss) (hn : vs.length = n) (hN : n ≤ N.length) (q : fPost K cl vs G H ss Q E (fnD n N.length b ss)) :
    tS K cl W b { nx := fun _ H' => Q .non H', rt := Q } (L2.start N vs) H := by
  obtain ⟨rs1, own1⟩ := rs.start (N := N) hn hN
  have e1 : Own (L2.start N vs) (ss ++ List.replicate (N.length - n) .und) = Own (vs.map some) ss := funext fun a => propext (own1 a)
  have hl : ss.length = n := by rw [← rs.len, List.length_map]; exact hn
  refine ⟨vs, G, _, rs1, ?_⟩
  rw [e1]
  unfold fnD at q
  rw [if_pos hl] at q
  split at q
  · rename_i e he
    rw [he]
    exact fun σ' G' H' rs' st => q .non G' H' (rs.ends rs' st.g) (st.less fun a z => by
      rcases z with z | ⟨c, z, _⟩
      · exact ends_own rs' z
      · cases z) ((rep_non (K := K) (cl := cl) (G := G')).mpr rfl)
  · rename_i r e he
    rw [he]
    intro v σ' G' H' rs' st x
    refine q v G' H' (rs.ends rs' st.g) (st.less fun a z => ?_) ?_
    · rcases z with z | z
      · exact .inl (ends_own rs' z)
      · exact .inr z
    · cases r with
      | und => exact x
      | val d => exact x
      | own o c =>
        cases o with
        | some k => exact x
        | none =>
          obtain ⟨a, u, ev, h1, h2, h3, h4⟩ := x
          exact ⟨a, u, ev, h1, h2, h3, fun z => h4 (ends_own rs' z)⟩
  · rename_i c ns ds e he
    rw [he]
    intro x d σ' G' H' rs' st y
    rw [hW]
    exact q x d G' H' (rs.ends rs' st.g) (st.less fun a z => ends_own rs' z) y
  · exact q.elim
variable {P : Program} {w : World} {mg : Str → Option Value} {base : Heap}
/-- THE RULE for a def -/
theorem fn_ok {x qual : Str} {st : Stmt} {f : Addr} {fd : FuncData} {N ps : List Str} {k : Nat} {b : Xs} (F : Fun K x qual st f fd) (Sc : FnScope N ps (defScope st)) (hN : ps.length ≤ N.length)
    (hb : ∀ (cdv : Value) (A : Around) (outer : List Env) (s : Shared) (H : Hp) (E : XK), Room k (A.deeper (envOfC qual (defScope st) s.heap.objs.size f cdv)) → SB cl (cxOf (L2.CX P w) P w K mg base N qual (defScope st) f cdv A outer s H E) (defBody st) b) :
    FnOk P w K mg base (L2.CX P w) (k + 1) f fd ps (spF K cl ps.length (fnD ps.length N.length b)) := by
  refine F.okX Sc (fun vs H Q E h => h.1) fun cdv A outer s H vs Q E hr h => ?_
  obtain ⟨hn, G, ss, rs, q⟩ := h
  exact ⟨_, hb cdv A outer s H E hr (fun c d _ H => E c d H) (takes_of rfl rfl rfl rfl), body_post rfl rs hn hN q⟩
end
end Ya

set_option maxHeartbeats 4000000
namespace Ya
open PySem PySem.Spec PyProof.Rows L2

/-! ### own cells changed -/
section
variable {K : PySem.W.Frag} {cl : Str → Addr} {args : List V} {σ : L2.St} {G H : Hp} {env : En} {i : Nat} {o : Option Nat} {c c' : C} {a : Addr} {h' : HO}
theorem own_poke (he : env[i]? = some (.own o c)) (b : Addr) : Own σ (env.set i (.own o c')) b ↔ Own σ env b := by
  constructor
  · rintro ⟨j, o1, c1, h1, h2⟩
    rw [List.getElem?_set] at h1
    split at h1
    · rename_i z
      split at h1
      · subst z; exact ⟨i, o, c, he, h2⟩
      · cases h1
    · exact ⟨j, o1, c1, h1, h2⟩
  · rintro ⟨j, o1, c1, h1, h2⟩
    by_cases z : i = j
    · subst z
      have hl : i < env.length := (List.getElem?_eq_some_iff.mp he).1
      exact ⟨i, o, c', by rw [List.getElem?_set, if_pos rfl, if_pos hl], h2⟩
    · exact ⟨j, o1, c1, by rw [List.getElem?_set, if_neg z]; exact h1, h2⟩
theorem RS.poke (rs : RS K cl args G H σ env) (he : env[i]? = some (.own o c)) (hs : σ[i]? = some (some (V.ref a))) (hc : CellAt K cl G c' h') : RS K cl args G (upd H a h') σ (env.set i (.own o c')) := by
  obtain ⟨a', u, q1, q2, q3, q4, q5⟩ := rs.slot i _ he
  have ea : a' = a := by
    have := hs.symm.trans q1
    injection this with this; injection this with this; injection this with this; exact this.symm
  subst ea
  refine ⟨rs.ex.mut q2, by rw [List.length_set]; exact rs.len, fun j s h => ?_, fun j k o1 o2 c1 c2 b h1 h2 h3 h4 => ?_⟩
  · rw [List.getElem?_set] at h
    by_cases z : i = j
    · rw [if_pos z] at h
      split at h
      · injection h with h; subst h z
        exact ⟨a', h', q1, q2, upd_same, hc, q5⟩
      · cases h
    · rw [if_neg z] at h
      have q := rs.slot j s h
      cases s with
      | und => trivial
      | val d => exact q
      | own o1 c1 =>
        obtain ⟨b, w, p1, p2, p3, p4, p5⟩ := q
        have ne : b ≠ a' := fun y => by
          subst y
          exact z (rs.sep i j _ _ _ _ b he h q1 p1)
        exact ⟨b, w, p1, p2, by rw [upd_ne ne]; exact p3, p4, p5⟩
  · have back : ∀ (j : Nat) (o1 : Option Nat) (c1 : C), (env.set i (.own o c'))[j]? = some (S.own o1 c1) → ∃ o2 c2, env[j]? = some (S.own o2 c2) := fun j o1 c1 h => by
      rw [List.getElem?_set] at h
      split at h
      · rename_i z; subst z; exact ⟨_, _, he⟩
      · exact ⟨_, _, h⟩
    obtain ⟨o3, c3, e1⟩ := back j o1 c1 h1
    obtain ⟨o4, c4, e2⟩ := back k o2 c2 h2
    exact rs.sep j k _ _ _ _ b e1 e2 h3 h4
theorem Stp.poke (rs : RS K cl args G H σ env) (he : env[i]? = some (.own o c)) (hs : σ[i]? = some (some (V.ref a))) : Stp G H (Own σ env) G (upd H a h') (Own σ (env.set i (.own o c'))) := by
  have oa : Own σ env a := ⟨i, o, c, he, hs⟩
  refine ⟨Ex.refl G, fun b u n e => ?_, fun b _ _ z => z, fun b z => .inl ((own_poke he b).mp z)⟩
  have ne : b ≠ a := fun y => by subst y; exact n oa
  rw [upd_ne ne]; exact e
/-- the cell in a slot -/
theorem RS.own (rs : RS K cl args G H σ env) (he : env[i]? = some (.own o c)) : ∃ a h, σ[i]? = some (some (V.ref a)) ∧ H a = some h ∧ CellAt K cl G c h := by
  obtain ⟨a, u, q1, q2, q3, q4, q5⟩ := rs.slot i _ he
  exact ⟨a, u, q1, q3, q4⟩
end

def isLst : Option S → Bool | some (.own _ (.lst _)) => true | _ => false
def xApp (i : Nat) (f : Xp) : Xp := fun env => if isLst env[i]? = true then (f env).data fun d e => (match e[i]? with
  | some (.own o (.lst ys)) => if ys.length < 1000000 then .ok (.val .non) (e.set i (.own o (.lst (ys ++ [d])))) else .bad
  | _ => .bad) else .bad
def xPop (i : Nat) : Xp := fun e => match e[i]? with
  | some (.own o (.lst ys)) => (match ys[ys.length - 1]? with | some d => .ok (.val d) (e.set i (.own o (.lst ys.dropLast))) | none => .bad)
  | _ => .bad
def xRev (i : Nat) : Xp := fun e => match e[i]? with
  | some (.own o (.lst ys)) => .ok (.val .non) (e.set i (.own o (.lst ys.reverse)))
  | _ => .bad
def xLenO (i : Nat) : Xp := fun e => match e[i]? with
  | some (.own _ (.lst ys)) => .ok (.val (.int ys.length)) e
  | _ => .bad
def xIxO (i : Nat) (fb : Xp) : Xp := fun env => if isLst env[i]? = true then (fb env).data fun k e => (match e[i]?, k with
  | some (.own _ (.lst ys)), .int j => .opt ((atI ys j).map S.val) e
  | _, _ => .bad) else .bad
/-- x[k] = v, x an own list -/
def sPutIx (i : Nat) (fk fv : Xp) : Xs := fun env => (fv env).data fun d e1 => if isLst e1[i]? = true then (fk e1).data fun k e => (match e[i]?, k with
  | some (.own o (.lst ys)), .int j => (match ixN ys.length j with | some n => .ok .nx (e.set i (.own o (.lst (ys.set n d)))) | none => .bad)
  | _, _ => .bad) else .bad
section
variable {cl : Str → Addr} {X : Cx} {e b : Expr} {es : List Expr} {pos p p' : Pos} {fa fb : Xp} {x : Str} {i : Nat}
theorem cellLst {K : PySem.W.Frag} {G : Hp} {xs : List D} {vs : List V} (r : RepL K cl G xs vs) : CellAt K cl G (.lst xs) (.lst vs) := ⟨vs, rfl, r⟩
theorem isLst_at {env : En} (h : isLst env[i]? = true) : ∃ o ys, env[i]? = some (.own o (.lst ys)) := by
  unfold isLst at h
  split at h
  · exact ⟨_, _, by assumption⟩
  · cases h
theorem RepL.last {K : PySem.W.Frag} {cl : Str → Addr} {G : Hp} {ds : List D} {vs : List V} (r : RepL K cl G ds vs) : RepL K cl G ds.dropLast vs.dropLast := by
  rw [List.dropLast_eq_take, List.dropLast_eq_take, r.len]; exact r.take _
theorem ref_same {σ : L2.St} {a b : Addr} (h : σ[i]? = some (some (V.ref a))) (h' : σ[i]? = some (some (V.ref b))) : a = b := by
  have := h.symm.trans h'
  injection this with this; injection this with this; injection this
theorem wE_poke {K : PySem.W.Frag} {args : List V} {σ : L2.St} {G H : Hp} {env : En} {o : Option Nat} {c c' : C} {a : Addr} {h' : HO} {Q : VK} {d : D} {v : V} (rs : RS K cl args G H σ env) (he : env[i]? = some (.own o c)) (hs : σ[i]? = some (some (V.ref a))) (hc : CellAt K cl G c' h')
    (r : Rep K cl G d v) (q : wE K cl args σ Q G H (Own σ env) (.val d) (env.set i (.own o c'))) : Q v (upd H a h') :=
  q v G _ (rs.poke he hs hc) ((Stp.poke rs he hs).less fun b z => by
    rcases z with z | ⟨c, z, _⟩
    · exact z
    · cases z) r
/-- x.append(e), x an own list -/
theorem se_app {apos cpos : Pos} (h : PE X (.Name x p) (tVar i)) (ha : SE cl X e fa)
    (ht : ∀ (te : TE), PE X e te → PE X (.Call (.Attribute (.Name x p) "append" apos) [e] [] cpos) (tBM X.K "list" rAppend (tVar i) (tCons te tNil))) : SE cl X (.Call (.Attribute (.Name x p) "append" apos) [e] [] cpos) (xApp i fa) := fun W tk =>
  (ht _ (ha W tk)).impY fun σ H Q ⟨args, G, env, rs, q⟩ => by
    unfold xApp at q
    split at q
    · rename_i ho
      obtain ⟨o, ys, he⟩ := isLst_at ho
      obtain ⟨a, u, h1, h2, vs, eu, h3⟩ := rs.own he
      refine ⟨.ref a, h1, .inl ⟨rfl, vs, SqL.of (by rw [h2, eu])⟩, ?_⟩
      refine tE_data wE_lat rs q fun dx y env1 G1 H1 rs1 ex1 ry q1 => ?_
      split at q1
      · rename_i o1 zs he1
        split at q1
        · rename_i hl
          obtain ⟨a1, u1, g1, g2, us, eu1, g3⟩ := rs1.own he1
          have ea := ref_same h1 g1
          subst ea
          exact ⟨a, us, y, rfl, rfl, by rw [g2, eu1], by rw [← g3.len]; exact Nat.lt_of_lt_of_le hl (le_line (Nat.le_refl _)), wE_poke rs1 he1 h1 (cellLst (g3.app (RepL.one ry))) ((rep_non (K := X.K) (cl := cl) (G := G1)).mpr rfl) q1⟩
        · exact q1.elim
      · exact q1.elim
    · exact q.elim
/-- x.pop() -/
theorem se_pop {f : Expr} (h : PE X f (tBM0 X.K "list" rPop (tVar i))) : SE cl X f (xPop i) := fun W tk =>
  h.impY fun σ H Q ⟨args, G, env, rs, q⟩ => by
    unfold xPop at q
    split at q
    · rename_i o ys he
      obtain ⟨a, u, h1, h2, vs, eu, h3⟩ := rs.own he
      split at q
      · rename_i d hd
        obtain ⟨v, hv, rv⟩ := h3.get hd
        exact ⟨.ref a, h1, .inl ⟨rfl, vs, SqL.of (by rw [h2, eu])⟩, a, vs, v, rfl, rfl, by rw [h2, eu], by rw [← h3.len]; exact hv, wE_poke rs he h1 (cellLst h3.last) rv q⟩
      · exact q.elim
    · exact q.elim
/-- x.reverse() -/
theorem se_rev {f : Expr} (h : PE X f (tBM0 X.K "list" rReverse (tVar i))) : SE cl X f (xRev i) := fun W tk =>
  h.impY fun σ H Q ⟨args, G, env, rs, q⟩ => by
    unfold xRev at q
    split at q
    · rename_i o ys he
      obtain ⟨a, u, h1, h2, vs, eu, h3⟩ := rs.own he
      exact ⟨.ref a, h1, .inl ⟨rfl, vs, SqL.of (by rw [h2, eu])⟩, a, vs, rfl, rfl, by rw [h2, eu], wE_poke rs he h1 (cellLst h3.rev) ((rep_non (K := X.K) (cl := cl) (G := G)).mpr rfl) q⟩
    · exact q.elim
/-- len(x), x an own list -/
theorem se_lenO {f : Expr} (h : PE X f (tCB (fun xs H Q => ∃ p ys, xs = [.ref p] ∧ (SqL X.K H p ys ∨ SqT X.K H p ys) ∧ Q (.int ys.length) H) (tCons (tVar i) tNil))) : SE cl X f (xLenO i) := fun W tk =>
  h.impY fun σ H Q ⟨args, G, env, rs, q⟩ => by
    unfold xLenO at q
    split at q
    · rename_i o ys he
      obtain ⟨a, u, h1, h2, vs, eu, h3⟩ := rs.own he
      exact ⟨.ref a, h1, a, vs, rfl, .inl (SqL.of (by rw [h2, eu])), by rw [← h3.len]; exact wE_new rs q _ _ _ (.same ((rep_int (K := X.K) (cl := cl) (G := G)).mpr rfl))⟩
    · exact q.elim
/-- x[k], x an own list -/
theorem se_ixO (h : PE X (.Name x p) (tVar i)) (hb : SE cl X b fb) (hs : PlainIx b) : SE cl X (.Subscript (.Name x p) b pos) (xIxO i fb) := fun W tk =>
  (pe_ix ix_list h (hb W tk) hs).impY fun σ H Q ⟨args, G, env, rs, q⟩ => by
    unfold xIxO at q
    split at q
    · rename_i ho
      obtain ⟨o, ys, he⟩ := isLst_at ho
      obtain ⟨a, u, h1, h2, vs, eu, h3⟩ := rs.own he
      refine ⟨.ref a, h1, tE_data wE_lat rs q fun dx y env1 G1 H1 rs1 ex1 ry q1 => ?_⟩
      split at q1
      · rename_i o1 zs j he1
        obtain ⟨a1, u1, g1, g2, us, eu1, g3⟩ := rs1.own he1
        have ea := ref_same h1 g1
        subst ea
        cases z : atI zs j with
        | none => rw [z] at q1; exact q1.elim
        | some d =>
          rw [z] at q1
          obtain ⟨v, p1, p2⟩ := atI_rep g3 z
          exact ⟨a, us, j, v, rfl, rep_int.mp ry, SqL.of (by rw [g2, eu1]), p1, wE_new rs1 q1 _ _ _ (.same p2)⟩
      · exact q1.elim
    · exact q.elim
theorem wS_poke {K : PySem.W.Frag} {args : List V} {σ : L2.St} {G H : Hp} {env : En} {o : Option Nat} {c c' : C} {a : Addr} {h' : HO} {D : Ends} (rs : RS K cl args G H σ env) (he : env[i]? = some (.own o c)) (hs : σ[i]? = some (some (V.ref a))) (hc : CellAt K cl G c' h')
    (q : wS K cl args D G H (Own σ env) .nx (env.set i (.own o c'))) : D.nx σ (upd H a h') := q σ G _ (rs.poke he hs hc) (Stp.poke rs he hs)
theorem ss_putIx {value : Expr} (h : PE X (.Name x p) (tVar i)) (hk : SE cl X b fb) (hv : SE cl X value fa)
    (ht : ∀ (ti tv : TE), PE X b ti → PE X value tv → PS X (.Assign [.Subscript (.Name x p) b p'] value pos) (tAsg tv (L2.gSub (tVar i) ti rSetL))) : SS cl X (.Assign [.Subscript (.Name x p) b p'] value pos) (sPutIx i fb fa) := fun W tk =>
  (ht _ _ (hk W tk) (hv W tk)).impY fun D σ H ⟨args, G, env, rs, q⟩ => by
    refine tE_data wS_lat rs q fun d v env1 G1 H1 rs1 ex1 rv q1 => ?_
    split at q1
    · rename_i ho
      obtain ⟨o, ys, he⟩ := isLst_at ho
      obtain ⟨a, u, h1, h2, vs, eu, h3⟩ := rs1.own he
      refine ⟨.ref a, h1, tE_data wS_lat rs1 q1 fun dk y env2 G2 H2 rs2 ex2 ry q2 => ?_⟩
      split at q2
      · rename_i o1 zs j he1
        obtain ⟨a1, u1, g1, g2, us, eu1, g3⟩ := rs2.own he1
        have ea := ref_same h1 g1
        subst ea
        split at q2
        · rename_i n hn
          exact ⟨a, us, j, n, rfl, rep_int.mp ry, by rw [g2, eu1], by rw [← g3.len]; exact hn, wS_poke rs2 he1 h1 (cellLst (g3.set n (rv.mono ex2))) q2⟩
        · exact q2.elim
      · exact q2.elim
    · exact q1.elim
end

/-! ### attributes, methods, new instances -/
def gAttr (c0 f : Str) : D → Option S
  | .ins c ns ds => if c = c0 then ((ns.zip ds).lookup f).map S.val else none
  | _ => none
theorem lookup_rep {K : PySem.W.Frag} {cl : Str → Addr} {G : Hp} {f : Str} {d : D} : ∀ {ns : List Str} {ds : List D} {vs : List V}, RepL K cl G ds vs → (ns.zip ds).lookup f = some d → ∃ v, (ns.zip vs).lookup f = some v ∧ Rep K cl G d v
  | [], _, _, _, h => by simp at h
  | n :: ns, [], _, _, h => by simp at h
  | n :: ns, e :: ds, vs, r, h => by
    obtain ⟨v, q, rfl, h1, h2⟩ := repL_cons.mp r
    rw [List.zip_cons_cons, List.lookup_cons] at h ⊢
    cases z : f == n with
    | true => rw [z] at h; injection h with h; subst h; exact ⟨v, rfl, h1⟩
    | false => rw [z] at h; exact lookup_rep h2 h
section
variable {cl : Str → Addr} {X : Cx} {e o value : Expr} {es : List Expr} {pos pos' : Pos} {fa fe : Xp} {f c0 : Str}
theorem se_attr (he : SE cl X e fa) (hc : Cls X.K (cl c0)) (hn : NoAttr X.K (cl c0) f) (hb : attributeBase e f X.env (eval e X.env) = eval e X.env := by rfl) : SE cl X (.Attribute e f pos) (x1 (gAttr c0 f) fa) := fun W tk =>
  (pe_fld (he W tk) hb).impY fun σ H Q ⟨args, G, env, rs, q⟩ => tE_data wE_lat rs q fun dx x env1 G1 H1 rs1 ex1 rx q1 => by
    obtain ⟨s, es, k⟩ := opt_ok rs1 q1
    unfold gAttr at es
    split at es
    · rename_i c ns ds
      split at es
      · rename_i ec
        subst ec
        obtain ⟨a, dx, vs, rfl, h1, h2, h3⟩ := rep_ins.mp rx
        cases z : (ns.zip ds).lookup f with
        | none => rw [z] at es; cases es
        | some d =>
          rw [z] at es; injection es with es; subst es
          obtain ⟨v, p1, p2⟩ := lookup_rep h3 z
          exact ⟨a, cl c, dx, _, v, rfl, rs1.ex _ _ h1, hc, hn, p1, k _ _ _ (.same p2)⟩
      · cases es
    · cases es
/-- x.f, x an own instance -/
def xAttrO (i : Nat) (c0 f : Str) : Xp := fun e => match e[i]? with
  | some (.own _ (.obj c ns ds)) => if c = c0 then .opt (((ns.zip ds).lookup f).map S.val) e else .bad
  | _ => .bad
theorem se_attrO {i : Nat} {x : Str} {p : Pos} (h : PE X (.Name x p) (tVar i)) (hc : Cls X.K (cl c0)) (hn : NoAttr X.K (cl c0) f) (hb : attributeBase (.Name x p) f X.env (eval (.Name x p) X.env) = eval (.Name x p) X.env := by rfl) : SE cl X (.Attribute (.Name x p) f pos) (xAttrO i c0 f) := fun W tk =>
  (pe_fld h hb).impY fun σ H Q ⟨args, G, env, rs, q⟩ => by
    unfold xAttrO at q
    split at q
    · rename_i ow c ns ds he
      split at q
      · rename_i ec
        subst ec
        obtain ⟨a, u, h1, h2, dx, vs, eu, h3, h4⟩ := rs.own he
        cases z : (ns.zip ds).lookup f with
        | none => rw [z] at q; exact q.elim
        | some d =>
          rw [z] at q
          obtain ⟨v, p1, p2⟩ := lookup_rep h4 z
          exact ⟨.ref a, h1, a, cl c, dx, _, v, rfl, by rw [h2, eu], hc, hn, p1, wE_new rs q _ _ _ (.same p2)⟩
      · exact q.elim
    · exact q.elim
/-- fields by name: put in its place, or at the end -/
def putN (f : Str) (d : D) : List Str → List D → List Str × List D
  | [], _ => ([f], [d])
  | n :: ns, [] => (n :: ns, [])
  | n :: ns, e :: ds => if n = f then (n :: ns, d :: ds) else (n :: (putN f d ns ds).1, e :: (putN f d ns ds).2)
theorem putN_len {f : Str} {d : D} : ∀ {ns : List Str} {ds : List D}, ns.length = ds.length → (putN f d ns ds).1.length = (putN f d ns ds).2.length
  | [], _, _ => rfl
  | n :: ns, [], h => by simp at h
  | n :: ns, e :: ds, h => by
    unfold putN
    split
    · simpa using h
    · simp [putN_len (f := f) (d := d) (ns := ns) (ds := ds) (by simpa using h)]
theorem putN_rep {K : PySem.W.Frag} {cl : Str → Addr} {G : Hp} {f : Str} {d : D} {v : V} (rv : Rep K cl G d v) : ∀ {ns : List Str} {ds : List D} {vs : List V}, ns.length = ds.length → RepL K cl G ds vs → ∃ us, putF f v (ns.zip vs) = (putN f d ns ds).1.zip us ∧ RepL K cl G (putN f d ns ds).2 us
  | [], [], vs, _, r => by rw [repL_nil.mp r]; exact ⟨[v], rfl, RepL.one rv⟩
  | [], _ :: _, _, h, _ => by simp at h
  | n :: ns, [], _, h, _ => by simp at h
  | n :: ns, e :: ds, vs, h, r => by
    obtain ⟨w, q, rfl, h1, h2⟩ := repL_cons.mp r
    rw [List.zip_cons_cons]
    unfold putN putF
    by_cases z : n = f
    · rw [if_pos z, if_pos z]
      exact ⟨v :: q, by rw [z]; rfl, repL_cons.mpr ⟨v, q, rfl, rv, h2⟩⟩
    · rw [if_neg z, if_neg z]
      obtain ⟨us, e1, e2⟩ := putN_rep rv (ns := ns) (ds := ds) (by simpa using h) h2
      exact ⟨w :: us, by rw [e1]; rfl, repL_cons.mpr ⟨w, us, rfl, h1, e2⟩⟩
def sAttr (i : Nat) (c0 f : Str) (fv : Xp) : Xs := fun env => (fv env).data fun d e => match e[i]? with
  | some (.own o (.obj c ns ds)) => if c = c0 ∧ ns.length = ds.length ∧ ns.length < 900 then .ok .nx (e.set i (.own o (.obj c (putN f d ns ds).1 (putN f d ns ds).2))) else .bad
  | _ => .bad
/-- self.f = e -/
theorem ss_attr {i : Nat} {x : Str} {p : Pos} (h : PE X (.Name x p) (tVar i)) (hv : SE cl X value fe) (hc : Cls X.K (cl c0)) (hn : NoAttr X.K (cl c0) f) (hs : swapsWith value (some (.Attribute (.Name x p) f pos')) pos.line X.env = pure false := by rfl) :
    SS cl X (.Assign [.Attribute (.Name x p) f pos'] value pos) (sAttr i c0 f fe) := fun W tk =>
  (ps_fld h (hv W tk) hs).impY fun D σ H ⟨args, G, env, rs, q⟩ => tE_data wS_lat rs q fun d v env1 G1 H1 rs1 ex1 rv q1 => by
    split at q1
    · rename_i ow c ns ds he
      split at q1
      · rename_i ec
        obtain ⟨ec, hl, hz⟩ := ec
        subst ec
        obtain ⟨a, u, h1, h2, dx, vs, eu, h3, h4⟩ := rs1.own he
        obtain ⟨us, p1, p2⟩ := putN_rep (f := f) rv hl h4
        refine ⟨.ref a, h1, a, cl c, dx, _, rfl, by rw [h2, eu], hc, hn, ?_, ?_⟩
        · rw [List.length_zip]; omega
        · rw [p1]
          exact wS_poke rs1 he h1 (show CellAt X.K cl G1 (.obj c (putN f d ns ds).1 (putN f d ns ds).2) _ from ⟨dx, us, rfl, putN_len hl, p2⟩) q1
      · exact q1.elim
    · exact q1.elim
end
end Ya

set_option maxHeartbeats 4000000
namespace Ya
open PySem PySem.Spec PyProof.Rows L2

/-! ### calls with data alone -/
def callF (F : Fn) (ds : List D) (e : En) : Res S := match F (ds.map .val) with
  | .ret r _ => .ok r e
  | .exc c ns xs _ => .exc c ns xs e
  | .bad => .bad
section
variable {K : PySem.W.Frag} {cl : Str → Addr} {args vs : List V} {σ : L2.St} {G H : Hp} {env : En} {W : WX}
theorem ios_inl : ∀ ds : List D, ios (ds.map Sum.inl) = []
  | [] => rfl
  | d :: ds => by
    have ih := ios_inl ds
    unfold ios at ih ⊢
    rw [List.map_cons, List.filterMap_cons]
    exact ih
theorem repAr_inl : ∀ {ds : List D} {vs : List V}, RepL K cl G ds vs → RepAr K cl G σ (ds.map Sum.inl) vs
  | [], _, h => repL_nil.mp h
  | d :: ds, _, h => by
    obtain ⟨v, r, rfl, h2, h3⟩ := repL_cons.mp h
    exact ⟨v, r, rfl, h2, repAr_inl h3⟩
theorem find_inl (j : Nat) : ∀ ds : List D, (ds.map (Sum.inl : D → Ag)).findIdx? (isIo j) = none := fun ds => by
  rw [List.findIdx?_eq_none_iff]
  intro x hx
  obtain ⟨d, _, rfl⟩ := List.mem_map.mp hx
  rfl
theorem back_inl (ds : List D) (ss : List S) : backE env (ds.map Sum.inl) ss = env := by
  apply List.ext_getElem?
  intro j
  rw [back_get, find_inl]
  simp
theorem ag_inl (ds : List D) : (ds.map (Sum.inl : D → Ag)).mapIdx (agS env) = ds.map S.val := by
  apply List.ext_getElem?
  intro j
  rw [List.getElem?_mapIdx, List.getElem?_map, List.getElem?_map]
  cases ds[j]? <;> rfl
theorem call_postD {Q : VK} {F : Fn} {ds : List D} (rs : RS K cl args G H σ env) (rl : RepL K cl G ds vs) (q : Post K cl args W (wE K cl args σ Q) G H (Own σ env) (callF F ds env)) : spF K cl ds.length F vs H Q (WE W σ) := by
  have z := call_post (F := F) (Q := Q) (W := W) rs (repAr_inl (σ := σ) rl) (by
    have ok : ioOk env (ds.map Sum.inl) = true := by unfold ioOk; rw [ios_inl]; rfl
    rw [if_pos ok, ag_inl]
    unfold callF at q
    split at q
    · rename_i hF; try rw [hF]
      try dsimp only
      rw [back_inl]; exact q
    · rename_i hF; try rw [hF]
      try dsimp only
      rw [back_inl]; exact q
    · rename_i hF; try rw [hF]
      exact q)
  rw [List.length_map] at z
  exact z
end

/-! ### methods -/
def tMethS (C : Addr) (m : Str) (sp : Sp) (E : L2.St → XK) (ta : TE) (t : TA) : TE := fun σ H Q => ta σ H fun x H1 => ∃ a dx fs, x = .ref a ∧ H1 a = some (.ins C dx fs) ∧ fs.lookup m = none ∧ t σ H1 fun vs H2 => sp (x :: vs) H2 Q (E σ)
section
variable {X : Cx} {CX : CXT} {k : Nat} {f C : Addr} {fd : FuncData} {ps : List Str} {sp : Sp} {E : L2.St → XK} {x m : Str} {p pos apos : Pos} {e o : Expr} {es : List Expr} {ta : TE} {t : TA}
theorem pe_methS {pl : Sem Bool} (he : PE X o ta) (c : Cls X.K C) (hm : Meth X.K C m f) (F : FnOk X.prog X.w X.K X.mg X.base CX k f fd ps sp) (hr : Room k X.A) (hb : Binds X.K fd ps []) (hx : ∀ σ, PassesAt CX X σ (E σ)) (ha : PA X (e :: es) t)
    (hst : starEach (e :: es) X.env = (false, eval e X.env) :: starEach es X.env := by rfl) (hpl : (backTo pos (starEach es X.env)).any (·.1) = false := by rfl)
    (ht : eval (.Call (.Attribute o m apos) (e :: es) [] pos) X.env = (do
      let ov ← eval o X.env
      standAt apos.atName
      let (f, first) ← holding [ov] (getMethod ov m pl)
      callWith pos f first (backTo pos (starEach (e :: es) X.env)) (backToKw pos (keywordEach [] X.env))) := by rfl) :
    PE X (.Call (.Attribute o m apos) (e :: es) [] pos) (tMethS C m sp E ta t) := by
  refine ⟨fun pins s σ H Q I h => ?_⟩
  refine PySem.W.methodCall_KW (pl := pl) (thn (he.run pins s σ H _ I h) fun u s1 ⟨x, H1, I1, rx, a, dx, fs, ex, ea, l, q⟩ => ?_) ht
  subst ex
  obtain rfl : u = Value.ref a := rx
  refine getmeth_ok I1 ea c hm l ?_
  refine PySem.W.callWith_K (first := [.ref a]) (h₀ := X.base) I.ok.mod.kin hm.kp (thn (ha.run pos pins s1 σ H1 _ I1 q) fun us s2 ⟨vs, H2, I2, r, q2⟩ => ⟨I2.kIn, ?_⟩) hst hpl
  exact run_fnS (us := .ref a :: us) (vs := .ref a :: vs) F hr hb (hx σ) I2 (.cons rfl r) q2
theorem pe_methS0 {pl : Sem Bool} (he : PE X o ta) (c : Cls X.K C) (hm : Meth X.K C m f) (F : FnOk X.prog X.w X.K X.mg X.base CX k f fd ps sp) (hr : Room k X.A) (hb : Binds X.K fd ps []) (hx : ∀ σ, PassesAt CX X σ (E σ))
    (ht : eval (.Call (.Attribute o m apos) [] [] pos) X.env = (do
      let ov ← eval o X.env
      standAt apos.atName
      let (f, first) ← holding [ov] (getMethod ov m pl)
      callWith pos f first (backTo pos (starEach [] X.env)) (backToKw pos (keywordEach [] X.env))) := by rfl) :
    PE X (.Call (.Attribute o m apos) [] [] pos) (tMethS C m sp E ta tNil) := by
  refine ⟨fun pins s σ H Q I h => ?_⟩
  refine PySem.W.methodCall_KW (pl := pl) (thn (he.run pins s σ H _ I h) fun u s1 ⟨x, H1, I1, rx, a, dx, fs, ex, ea, l, q⟩ => ?_) ht
  subst ex
  obtain rfl : u = Value.ref a := rx
  refine getmeth_ok I1 ea c hm l ?_
  exact PySem.W.callWith_K0 (first := [.ref a]) I1.kIn hm.kp (run_fnS (us := [.ref a]) (vs := [.ref a]) F hr hb (hx σ) I1 (.cons rfl .nil) q)
end
def xMeth (c0 m : Str) (F : Fn) (fo : Xp) (fa : Xa) : Xp := fun env => (fo env).data fun d e1 => match d with
  | .ins c ns ds => if c = c0 ∧ (ns.zip ds).lookup m = none ∧ ns.length = ds.length then (fa e1).bind fun xs e2 => callF F (.ins c ns ds :: xs) e2 else .bad
  | _ => .bad
theorem lookup_none {K : PySem.W.Frag} {cl : Str → Addr} {G : Hp} {f : Str} : ∀ {ns : List Str} {ds : List D} {vs : List V}, RepL K cl G ds vs → (ns.zip ds).lookup f = none → (ns.zip vs).lookup f = none
  | [], _, _, _, _ => by simp
  | n :: ns, [], vs, r, _ => by rw [repL_nil.mp r]; simp
  | n :: ns, e :: ds, vs, r, h => by
    obtain ⟨v, q, rfl, h1, h2⟩ := repL_cons.mp r
    rw [List.zip_cons_cons, List.lookup_cons] at h ⊢
    cases z : f == n with
    | true => rw [z] at h; cases h
    | false => rw [z] at h; exact lookup_none h2 h
section
variable {cl : Str → Addr} {X : Cx} {k : Nat} {f : Addr} {fd : FuncData} {ps : List Str} {F : Fn} {c0 m x : Str} {p pos apos : Pos} {e o : Expr} {es : List Expr} {fo fe : Xp} {fa : Xa}
theorem meth_core {W : WX} {σ : L2.St} {H : Hp} {Q : VK} {n : Nat} (hl : ∀ env xs e', fa env = .ok xs e' → xs.length = n) (h : tE X.K cl W (xMeth c0 m F fo fa) σ H Q) : tMethS (cl c0) m (spF X.K cl (n + 1) F) (fun σ => WE W σ) (tE X.K cl W fo) (tA X.K cl W fa) σ H Q := by
  obtain ⟨args, G, env, rs, q⟩ := h
  refine tE_data wE_lat rs q fun d x env1 G1 H1 rs1 ex1 rx q1 => ?_
  split at q1
  · rename_i c ns ds
    split at q1
    · rename_i hc
      obtain ⟨ec, hn, hlen⟩ := hc
      subst ec
      obtain ⟨a, dx, vs, ev, h1, h2, h3⟩ := rep_ins.mp rx
      refine ⟨a, dx, _, ev, rs1.ex _ _ h1, lookup_none h3 hn, args, G1, env1, rs1, ?_⟩
      cases hf : fa env1 with
      | bad => rw [hf] at q1; exact q1
      | exc c ns ds e => rw [hf] at q1; exact q1
      | ok xs e2 =>
        rw [hf] at q1
        intro us G2 H2 rs2 st2 rl
        have z := call_postD (F := F) rs2 (repL_cons.mpr ⟨x, us, rfl, rx.mono st2.g, rl⟩) (Post.later wE_lat st2 q1)
        rw [List.length_cons, hl env1 xs e2 hf] at z
        exact z
    · exact q1.elim
  · exact q1.elim
theorem se_meth {n : Nat} {pl : Sem Bool} (ho : SE cl X o fo) (hc : Cls X.K (cl c0)) (hm : Meth X.K (cl c0) m f) (hF : FnOk X.prog X.w X.K X.mg X.base (L2.CX X.prog X.w) k f fd ps (spF X.K cl (n + 1) F)) (hr : Room k X.A) (hb : Binds X.K fd ps []) (ha : SA cl X (e :: es) fa) (hl : ∀ env xs e', fa env = .ok xs e' → xs.length = n)
    (hst : starEach (e :: es) X.env = (false, eval e X.env) :: starEach es X.env := by rfl) (hpl : (backTo pos (starEach es X.env)).any (·.1) = false := by rfl)
    (ht : eval (.Call (.Attribute o m apos) (e :: es) [] pos) X.env = (do
      let ov ← eval o X.env
      standAt apos.atName
      let (f, first) ← holding [ov] (getMethod ov m pl)
      callWith pos f first (backTo pos (starEach (e :: es) X.env)) (backToKw pos (keywordEach [] X.env))) := by rfl) :
    SE cl X (.Call (.Attribute o m apos) (e :: es) [] pos) (xMeth c0 m F fo fa) := fun W tk =>
  (pe_methS (pl := pl) (ho W tk) hc hm hF hr hb (fun σ => passAt tk σ) (ha W tk) hst hpl ht).impY fun σ H Q h => meth_core hl h
theorem se_meth0 {pl : Sem Bool} (ho : SE cl X o fo) (hc : Cls X.K (cl c0)) (hm : Meth X.K (cl c0) m f) (hF : FnOk X.prog X.w X.K X.mg X.base (L2.CX X.prog X.w) k f fd ps (spF X.K cl 1 F)) (hr : Room k X.A) (hb : Binds X.K fd ps [])
    (ht : eval (.Call (.Attribute o m apos) [] [] pos) X.env = (do
      let ov ← eval o X.env
      standAt apos.atName
      let (f, first) ← holding [ov] (getMethod ov m pl)
      callWith pos f first (backTo pos (starEach [] X.env)) (backToKw pos (keywordEach [] X.env))) := by rfl) :
    SE cl X (.Call (.Attribute o m apos) [] [] pos) (xMeth c0 m F fo aNil) := fun W tk =>
  (pe_methS0 (pl := pl) (ho W tk) hc hm hF hr hb (fun σ => passAt tk σ) ht).impY fun σ H Q h => by
    obtain ⟨args, G, env, rs, q⟩ := h
    refine tE_data wE_lat rs q fun d x env1 G1 H1 rs1 ex1 rx q1 => ?_
    split at q1
    · rename_i c ns ds
      split at q1
      · rename_i hc
        obtain ⟨ec, hn, hlen⟩ := hc
        subst ec
        obtain ⟨a, dx, vs, ev, h1, h2, h3⟩ := rep_ins.mp rx
        exact ⟨a, dx, _, ev, rs1.ex _ _ h1, lookup_none h3 hn, call_postD (F := F) (ds := [.ins c ns ds]) rs1 (RepL.one rx) q1⟩
      · exact q1.elim
    · exact q1.elim
/-- o.f, a property that lets nothing out -/
def xProp (c0 : Str) (F : Fn) (fo : Xp) : Xp := fun env => (fo env).data fun d e1 => match d with
  | .ins c ns ds => if c = c0 then (match F [.val (.ins c ns ds)] with | .ret r _ => .ok r e1 | _ => .bad) else .bad
  | _ => .bad
theorem se_prop {pp : Addr} {nm : Str} (ho : SE cl X o fo) (hc : Cls X.K (cl c0)) (hp : PropOf X.K (cl c0) nm pp f) (hF : FnOk X.prog X.w X.K X.mg X.base (L2.CX X.prog X.w) k f fd ps (spF X.K cl 1 F)) (hr : Room (k + 1) X.A) (hb : Binds X.K fd ps [])
    (hab : attributeBase o nm X.env (eval o X.env) = eval o X.env := by rfl) : SE cl X (.Attribute o nm pos) (xProp c0 F fo) := fun W tk =>
  (pe_prop (ho W tk) hc hp hF hr hb .nil (E := E0) (fun _ _ _ _ _ _ _ h => by
    obtain ⟨_, _, _, _, _, _, _, _, _, _, _, _, z⟩ := h
    exact z.elim) hab).impY fun σ H Q ⟨args, G, env, rs, q⟩ => tE_data wE_lat rs q fun d x env1 G1 H1 rs1 ex1 rx q1 => by
    split at q1
    · rename_i c ns ds
      split at q1
      · rename_i ec
        subst ec
        obtain ⟨a, dx, vs, ev, h1, h2, h3⟩ := rep_ins.mp rx
        subst ev
        refine ⟨a, dx, _, rfl, rs1.ex _ _ h1, ?_⟩
        split at q1
        · rename_i r ss hF'
          have z := call_postD (F := F) (ds := [.ins c ns ds]) (Q := Q) (W := fun _ _ _ _ => False) rs1 (RepL.one rx) (by
            unfold callF
            rw [show ([D.ins c ns ds].map S.val) = [.val (.ins c ns ds)] from rfl, hF']
            exact q1)
          exact z
        · exact q1.elim
      · exact q1.elim
    · exact q1.elim
end

/-! ### new instances -/
def tMakeS (C : Addr) (sp : Sp) (E : L2.St → XK) (t : TA) : TE := fun σ H Q => t σ H fun vs H1 => ∀ x dx, H1 x = none → H1 dx = none → dx ≠ x →
  sp (.ref x :: vs) (upd (upd H1 dx (.own x)) x (.ins C dx [])) (fun v H2 => v = .non ∧ Q (.ref x) H2) (E σ)
section
variable {X : Cx} {CX : CXT} {k : Nat} {f C : Addr} {fd : FuncData} {ps : List Str} {sp : Sp} {E : L2.St → XK} {x m : Str} {p pos : Pos} {e : Expr} {es : List Expr} {t : TA}
theorem run_makeS {pins : List (Addr × Obj)} {σ : L2.St} {H : Hp} {s : Shared} {Q : VK} {us : List Value} {vs : List V} {E : XK} (M : Mk X.K C f) (F : FnOk X.prog X.w X.K X.mg X.base CX k f fd ps sp) (hr : Room (k + 1) X.A) (hb : Binds X.K fd ps [])
    (hx : PassesAt CX X σ E) (I : Inv X pins σ H s) (r : Vals vs us)
    (h : ∀ x dx, H x = none → H dx = none → dx ≠ x → sp (.ref x :: vs) (upd (upd H dx (.own x)) x (.ins C dx [])) (fun v H2 => v = .non ∧ Q (.ref x) H2) E) :
    wpAny (model X.prog X.w) X.A (call (.ref C) us) (EP X pins σ Q) X.xe s := by
  have hq := h (s.heap.objs.size + 1) s.heap.objs.size (I.hok.fresh (Nat.le_succ _)) (I.hok.fresh (Nat.le_refl _)) (Nat.ne_of_lt (Nat.lt_succ_self _))
  have I2 := Inv.made (C := C) I
  have r2 : Vals (V.ref (s.heap.objs.size + 1) :: vs) (Value.ref (s.heap.objs.size + 1) :: us) := .cons rfl r
  have hl : ((Value.ref (s.heap.objs.size + 1) :: us) ++ []).length = ps.length := by
    have e := r2.length
    rw [F.len _ _ _ _ hq] at e
    rw [List.append_nil]
    exact e.symm
  have hbb := hb _ (Value.ref (s.heap.objs.size + 1) :: us) I2.kIn hl
  rw [List.append_nil] at hbb
  refine wpAny_call (make_map (f := f) I.kIn M.makes M.init (beq_iff_eq.mp M.fn) (codeAny_mono (F.run _ X.stack _ _ ⟨Value.ref (s.heap.objs.size + 1) :: us, []⟩ (Value.ref (s.heap.objs.size + 1) :: us) _ _ E (hr.make C us [])
    (I2.env0.make C us []) hbb r2 hq) fun r s' hq' => ?_))
  cases r with
  | error e => exact hx pins _ _ e s' I2 hq'
  | ok fl =>
    cases fl with
    | ret u =>
      obtain ⟨v, H', I3, rv, ev, q3⟩ := I2.after hq'
      subst ev
      exact ⟨rv, ⟨V.ref (s.heap.objs.size + 1), H', I3, rfl, q3⟩⟩
    | next => exact False.elim hq'
    | brk => exact False.elim hq'
    | cont => exact False.elim hq'
theorem pe_makeS (M : Mk X.K C f) (F : FnOk X.prog X.w X.K X.mg X.base CX k f fd ps sp) (hr : Room (k + 1) X.A) (hg : Gl X x) (hm : X.mg x = some (.ref C)) (hb : Binds X.K fd ps []) (hx : ∀ σ, PassesAt CX X σ (E σ))
    (ha : PA X (e :: es) t) (hdb : (x == ("__debug__" : Str)) = false := by decide) (he : starEach (e :: es) X.env = (false, eval e X.env) :: starEach es X.env := by rfl) (hpl : (backTo pos (starEach es X.env)).any (·.1) = false := by rfl) :
    PE X (.Call (.Name x p) (e :: es) [] pos) (tMakeS C sp E t) := by
  refine ⟨fun pins s σ H Q I h => ?_⟩
  refine wpAny_Call_Name_kw (ld_glob I hg hm ?_ hdb)
  refine PySem.W.callWith_K (h₀ := X.base) I.ok.mod.kin M.kp (thn (ha.run pos pins s σ H _ I h) fun us s1 ⟨vs, H1, I1, r, q⟩ => ⟨I1.kIn, ?_⟩) he hpl
  exact run_makeS M F hr hb (hx σ) I1 r q
end
def makeF (c0 : Str) (F : Fn) (ds : List D) (e : En) : Res S := match F (.own (some 0) (.obj c0 [] []) :: ds.map .val) with
  | .ret (.val .non) (.own (some 0) (.obj c ns xs) :: _) => .ok (.own none (.obj c ns xs)) e
  | .exc c ns xs _ => .exc c ns xs e
  | _ => .bad
def xMake (c0 : Str) (F : Fn) (fa : Xa) : Xp := fun env => (fa env).bind fun ds e => makeF c0 F ds e
section
variable {K : PySem.W.Frag} {cl : Str → Addr} {args vs : List V} {σ : L2.St} {G H : Hp} {env : En} {W : WX}
theorem make_post {Q : VK} {F : Fn} {ds : List D} {c0 : Str} {x dx : Addr} (rs : RS K cl args G H σ env) (rl : RepL K cl G ds vs) (hx : H x = none) (hd : H dx = none) (hne : dx ≠ x) (q : Post K cl args W (wE K cl args σ Q) G H (Own σ env) (makeF c0 F ds env)) :
    spF K cl (ds.length + 1) F (.ref x :: vs) (upd (upd H dx (.own x)) x (.ins (cl c0) dx [])) (fun v H2 => v = .non ∧ Q (.ref x) H2) (WE W σ) := by
  have hG : G x = none := rs.ex.free hx
  have hGd : G dx = none := rs.ex.free hd
  have exH : Ex H (upd (upd H dx (.own x)) x (.ins (cl c0) dx [])) := fun a o e => by
    rw [upd_ne (ne_of_none e hx), upd_ne (ne_of_none e hd)]; exact e
  have keep : ∀ a o, H a = some o → (upd (upd H dx (.own x)) x (.ins (cl c0) dx [])) a = some o := exH
  have rsA : RS K cl (.ref x :: vs) G (upd (upd H dx (.own x)) x (.ins (cl c0) dx [])) ((V.ref x :: vs).map some) (.own (some 0) (.obj c0 [] []) :: ds.map .val) := by
    refine ⟨fun a o e => exH a o (rs.ex a o e), by simp [rl.len], fun i s h => ?_, fun i j o o' c c' a h1 h2 h3 h4 => ?_⟩
    · cases i with
      | zero =>
        simp at h; subst h
        exact ⟨x, _, by simp, hG, upd_same, ⟨dx, [], rfl, rfl, repL_nil.mpr rfl⟩, fun k z => by injection z with z; subst z; simp⟩
      | succ i =>
        rw [List.getElem?_cons_succ, List.getElem?_map] at h
        cases z : ds[i]? with
        | none => rw [z] at h; cases h
        | some d =>
          rw [z] at h; injection h with h; subst h
          obtain ⟨v, hv, rv⟩ := rl.get z
          exact ⟨v, by rw [List.map_cons, List.getElem?_cons_succ, List.getElem?_map, hv]; rfl, rv⟩
    · have only : ∀ (i : Nat) (o : Option Nat) (c : C), (S.own (some 0) (.obj c0 [] []) :: ds.map S.val)[i]? = some (.own o c) → i = 0 := fun i o c h => by
        cases i with
        | zero => rfl
        | succ i =>
          rw [List.getElem?_cons_succ, List.getElem?_map] at h
          cases z : ds[i]? with
          | none => rw [z] at h; cases h
          | some d => rw [z] at h; cases h
      rw [only i o c h1, only j o' c' h2]
  refine ⟨by simp [rl.len], G, _, rsA, ?_⟩
  have ownA : ∀ a, Own ((V.ref x :: vs).map some) (.own (some 0) (.obj c0 [] []) :: ds.map .val) a → a = x := fun a ⟨i, o, c, h1, h2⟩ => by
    cases i with
    | zero => simp at h2; exact h2.symm
    | succ i =>
      rw [List.getElem?_cons_succ, List.getElem?_map] at h1
      cases z : ds[i]? with
      | none => rw [z] at h1; cases h1
      | some d => rw [z] at h1; cases h1
  have stA : ∀ {G2 H2 : Hp} {B : Addr → Prop}, Stp G (upd (upd H dx (.own x)) x (.ins (cl c0) dx [])) (Own ((V.ref x :: vs).map some) (.own (some 0) (.obj c0 [] []) :: ds.map .val)) G2 H2 B → ∀ {B' : Addr → Prop}, (∀ a, B' a → Own σ env a ∨ a = x) → Stp G H (Own σ env) G2 H2 B' := fun {G2 H2 B} st {B'} hB => by
    have fresh : ∀ a o, H a = some o → a ≠ x := fun a o e => ne_of_none e hx
    refine ⟨st.g, fun a o n e => st.h a o (fun z => fresh a o e (ownA a z)) (keep a o e), fun a n e z => ?_, fun a z => ?_⟩
    · cases y : H a with
      | none => exact absurd y e
      | some o => exact st.n a (fun w => fresh a o y (ownA a w)) (by rw [keep a o y]; simp) z
    · rcases hB a z with w | w
      · exact .inl w
      · rw [w]; exact .inr hx
  have back : ∀ {G2 H2 : Hp} {B : Addr → Prop}, Ex G2 H2 → Stp G (upd (upd H dx (.own x)) x (.ins (cl c0) dx [])) (Own ((V.ref x :: vs).map some) (.own (some 0) (.obj c0 [] []) :: ds.map .val)) G2 H2 B → RS K cl args G2 H2 σ env := fun {G2 H2 B} ex st =>
    rs.move ex st.g fun a h oa e n => ⟨st.h a h (fun z => ne_of_none e hx (ownA a z)) (keep a h e), st.n a (fun z => ne_of_none e hx (ownA a z)) (by rw [keep a h e]; simp) n⟩
  unfold makeF at q
  split at q
  · rename_i c ns xs rest hF
    rw [hF]
    intro v G2 H2 rs2 st2 x2
    refine ⟨(rep_non (K := K) (cl := cl) (G := G2)).mp x2, ?_⟩
    obtain ⟨a, u, h1, h2, h3, h4, _⟩ := rs2.slot 0 _ rfl
    simp at h1; subst h1
    refine q (.ref x) G2 H2 (back rs2.ex st2) (stA st2 fun a z => ?_) ⟨x, u, rfl, h2, h3, h4, fun z => (rs.notOwn z).1 hx⟩
    rcases z with z | ⟨c', _, z⟩
    · exact .inl z
    · injection z with z; exact .inr z.symm
  · rename_i c ns xs ss hF
    rw [hF]
    exact fun y d G2 H2 rs2 st2 z => q y d σ G2 H2 (back rs2.ex st2) (stA st2 fun a w => .inl w) z
  · exact q.elim
end
section
variable {cl : Str → Addr} {X : Cx} {k n : Nat} {f : Addr} {fd : FuncData} {ps : List Str} {F : Fn} {c0 x : Str} {p pos : Pos} {e : Expr} {es : List Expr} {fa : Xa}
theorem se_make (M : Mk X.K (cl c0) f) (hF : FnOk X.prog X.w X.K X.mg X.base (L2.CX X.prog X.w) k f fd ps (spF X.K cl (n + 1) F)) (hr : Room (k + 1) X.A) (hg : Gl X x) (hm : X.mg x = some (.ref (cl c0))) (hb : Binds X.K fd ps []) (ha : SA cl X (e :: es) fa) (hl : ∀ env xs e', fa env = .ok xs e' → xs.length = n)
    (hdb : (x == ("__debug__" : Str)) = false := by decide) (he : starEach (e :: es) X.env = (false, eval e X.env) :: starEach es X.env := by rfl) (hpl : (backTo pos (starEach es X.env)).any (·.1) = false := by rfl) :
    SE cl X (.Call (.Name x p) (e :: es) [] pos) (xMake c0 F fa) := fun W tk =>
  (pe_makeS M hF hr hg hm hb (fun σ => passAt tk σ) (ha W tk) hdb he hpl).impY fun σ H Q ⟨args, G, env, rs, q⟩ => by
    refine ⟨args, G, env, rs, ?_⟩
    unfold xMake at q
    cases hf : fa env with
    | bad => rw [hf] at q; exact q
    | exc c ns ds e => rw [hf] at q; exact q
    | ok xs e2 =>
      rw [hf] at q
      intro us G2 H2 rs2 st2 rl x dx hx hd hne
      have z := make_post (F := F) (c0 := c0) rs2 rl hx hd hne (Post.later wE_lat st2 q)
      rw [hl env xs e2 hf] at z
      exact z
end
end Ya

set_option maxHeartbeats 4000000
namespace Ya
open PySem PySem.Spec PyProof.Rows L2

/-! ### what is walked -/
/-- an iterator that gives the data ds while what G0 knows stands -/
structure Yl (K : PySem.W.Frag) (cl : Str → Addr) (J : It) (G0 : Hp) (ds : List D) : Prop where
  go : ∀ i H, i < ds.length → Ex G0 H → J.go i H
  stop : ∀ H, Ex G0 H → J.stop ds.length H
  yld : ∀ i H x H' d G1, ds[i]? = some d → Ex G0 G1 → Ex G1 H → J.yld i H x H' → ∃ G2, Nw K cl G1 H (.val d) x G2 H'
abbrev Xi := En → Res (List D)
section
variable (K : PySem.W.Frag) (cl : Str → Addr)
def wI (args : List V) (σ : L2.St) (R : It → Hp → Prop) : Wnt (List D) := fun G H A ds e => ∀ J G' H', RS K cl args G' H' σ e → Stp G H A G' H' (Own σ e) → Yl K cl J G' ds → R J H'
def tI (W : WX) (f : Xi) : TI := fun σ H R => ∃ args G env, RS K cl args G H σ env ∧ Post K cl args W (wI K cl args σ R) G H (Own σ env) (f env)
def Near (js : List Nat) (σ σ' : L2.St) : Prop := σ'.length = σ.length ∧ ∀ i, i ∉ js → σ'[i]? = σ[i]?
abbrev Xg := D → En → Option En
def tG (js : List Nat) (gf : Xg) : TG := fun v σ H Q => ∃ args G env d env', RS K cl args G H σ env ∧ Rep K cl G d v ∧ gf d env = some env' ∧ ∀ σ', RS K cl args G H σ' env' → (∀ a, Own σ' env' a → Own σ env a) → Near js σ σ' → Q σ' H
end
theorem wI_lat {K : PySem.W.Frag} {cl : Str → Addr} {args : List V} {σ : L2.St} {R : It → Hp → Prop} : Lat (wI K cl args σ R) := fun _ _ _ _ _ _ _ _ st h J G' H' rs s2 y => h J G' H' rs (st.trans s2) y
def SI (cl : Str → Addr) (X : Cx) (tg e : Expr) (f : Xi) : Prop := ∀ W, Takes X W → PI X tg e (tI X.K cl W f)
def SG (cl : Str → Addr) (X : Cx) (tg : Expr) (js : List Nat) (gf : Xg) : Prop := PG X tg (tG X.K cl js gf)
section
variable {X : Cx} {tg e : Expr}
theorem _root_.L2.PI.impY {t t' : TI} (h : PI X tg e t) (q : ∀ σ H R, t' σ H R → t σ H R) : PI X tg e t' := ⟨fun pins s σ H R I z => h.run pins s σ H R I (q _ _ _ z)⟩
theorem _root_.L2.PG.impY {t t' : TG} (h : PG X tg t) (q : ∀ v σ H Q, t' v σ H Q → t v σ H Q) : PG X tg t' := ⟨fun pins s σ H v u Q I r z => h.run pins s σ H v u Q I r (q _ _ _ _ z)⟩
end
def gxName (j : Nat) : Xg := fun d e => some (e.set j (.val d))
def setsE : En → List Nat → List D → En
  | e, j :: js, d :: ds => setsE (e.set j (.val d)) js ds
  | e, _, _ => e
def gxTup (js : List Nat) : Xg := fun d e => match d with | .tup ds => if ds.length = js.length then some (setsE e js ds) else none | _ => none
section
variable {cl : Str → Addr} {X : Cx} {pos : Pos}
theorem RS.putVal {K : PySem.W.Frag} {args : List V} {σ : L2.St} {G H : Hp} {env : En} {d : D} {v : V} (j : Nat) (rs : RS K cl args G H σ env) (r : Rep K cl G d v) : RS K cl args G H (σ.set j (some v)) (env.set j (.val d)) ∧ (∀ a, Own (σ.set j (some v)) (env.set j (.val d)) a → Own σ env a) ∧ Near [j] σ (σ.set j (some v)) := by
  refine ⟨rs.put j (r := .val d) r, fun a z => ?_, List.length_set, fun i hi => ?_⟩
  · rcases own_put z with w | ⟨o, c, w, _⟩
    · exact w
    · cases w
  · rw [List.getElem?_set_ne]
    intro z; exact hi (by simp [z])
theorem sg_name {j : Nat} {x : Str} (hN : X.N.Nodup) (hi : X.N[j]? = some x) (hx : Loc X.env.scope x) (hf : X.fn x = true ∨ X.env.scope.names.lookup x = some .local := by first | exact .inl rfl | exact .inr rfl | assumption) : SG cl X (.Name x pos) [j] (gxName j) :=
  (pg_name hN hi hx hf).impY fun v σ H Q ⟨args, G, env, d, env', rs, r, eg, k⟩ => by
    unfold gxName at eg
    injection eg with eg; subst eg
    obtain ⟨h1, h2, h3⟩ := rs.putVal j r
    exact k _ h1 h2 h3
/-- several names -/
def SGs (cl : Str → Addr) (X : Cx) (ts : List Expr) (js : List Nat) : Prop := ∃ u, PGs X ts u ∧ ∀ vs ds σ G H args env Q, RS X.K cl args G H σ env → RepL X.K cl G ds vs → ds.length = js.length →
  (∀ σ', RS X.K cl args G H σ' (setsE env js ds) → (∀ a, Own σ' (setsE env js ds) a → Own σ env a) → Near js σ σ' → Q σ' H) → u vs σ H Q
theorem sgs_nil : SGs cl X [] [] := ⟨gNil, pgs_nil, fun vs ds σ G H args env Q rs rl hl k => by
  cases ds with
  | nil => exact ⟨repL_nil.mp rl, k σ rs (fun _ z => z) ⟨rfl, fun _ _ => rfl⟩⟩
  | cons d ds => simp at hl⟩
theorem sgs_cons {j : Nat} {js : List Nat} {x : Str} {ts : List Expr} (hN : X.N.Nodup) (hi : X.N[j]? = some x) (hx : Loc X.env.scope x) (h : SGs cl X ts js)
    (hf : X.fn x = true ∨ X.env.scope.names.lookup x = some .local := by first | exact .inl rfl | exact .inr rfl | assumption)
    (hs : (assignEach (.Name x pos :: ts) X.env).map (·.2) = assign (.Name x pos) X.env :: (assignEach ts X.env).map (·.2) := by rfl) : SGs cl X (.Name x pos :: ts) (j :: js) := by
  obtain ⟨u, h1, h2⟩ := h
  refine ⟨_, pgs_cons (pg_name hN hi hx hf) h1 hs, fun vs ds σ G H args env Q rs rl hl k => ?_⟩
  cases ds with
  | nil => simp at hl
  | cons d ds =>
    obtain ⟨v, r, rfl, r1, r2⟩ := repL_cons.mp rl
    obtain ⟨p1, p2, p3⟩ := rs.putVal j r1
    refine ⟨v, r, rfl, h2 r ds _ G H args _ Q p1 r2 (by simpa using hl) fun σ' q1 q2 q3 => k σ' q1 (fun a z => p2 a (q2 a z)) ⟨q3.1.trans p3.1, fun i hi => ?_⟩⟩
    rw [q3.2 i (fun z => hi (by simp [z])), p3.2 i (fun z => hi (by simp at z; simp [z]))]
theorem sg_tup {es : List Expr} {k : Nat} {js : List Nat} {n : Nat} (hc : X.calm = true) (h : SGs cl X es js) (hn : js.length = n := by rfl) (hn : (assignEach es X.env).length = n := by rfl) (hst : (assignEach es X.env).findIdx? (·.1) = none := by rfl) : SG cl X (.Tuple es k pos) js (gxTup js) := by
  obtain ⟨u, h1, h2⟩ := h
  refine (pg_tup hc h1 hn hst).impY fun v σ H Q ⟨args, G, env, d, env', rs, r, eg, kk⟩ => ?_
  unfold gxTup at eg
  split at eg
  · rename_i ds
    split at eg
    · rename_i hl
      injection eg with eg; subst eg
      obtain ⟨a, vs, rfl, g1, g2⟩ := rep_tup.mp r
      exact ⟨a, vs, rfl, SqT.of (rs.ex _ _ g1), by rw [← g2.len]; omega, h2 vs ds σ G H args env Q rs g2 hl kk⟩
    · cases eg
  · cases eg
end

/-! iterables -/
def iData (f : Xp) : Xi := fun env => (f env).data fun d e => match d with | .lst ds => .ok ds e | .scr ns => .ok (ns.map D.int) e | _ => .bad
def iDataT (f : Xp) : Xi := fun env => (f env).data fun d e => match d with | .tup ds => .ok ds e | _ => .bad
def small62 (j : Int) : Bool := decide (-(2 ^ 62) ≤ j) && decide (j < 2 ^ 62)
def rngD (lo : Int) (n : Nat) : List D := (List.range n).map fun i => .int (lo + (i : Nat))
def iRg1 (f : Xa) : Xi := fun env => (f env).bind fun ds e => match ds with | [.int j] => if small62 j = true then .ok (rngD 0 j.toNat) e else .bad | _ => .bad
def iRg2 (f : Xa) : Xi := fun env => (f env).bind fun ds e => match ds with | [.int i, .int j] => if small62 i = true ∧ small62 j = true then .ok (rngD i (j - i).toNat) e else .bad | _ => .bad
def enumD (ds : List D) : List D := ds.mapIdx fun i d => .tup [.int (i : Nat), d]
section
variable {K : PySem.W.Frag} {cl : Str → Addr} {G G0 H : Hp}
theorem yl_list {a : Addr} {ds : List D} {vs : List V} (h : SqL K G a vs) (r : RepL K cl G ds vs) : Yl K cl (Itl K a) G ds :=
  ⟨fun i H hi ex => by rw [r.len] at hi; exact walk_list.goes i H hi (ex.seqL h), fun H ex => by rw [r.len]; exact walk_list.stops H (ex.seqL h), fun i H x H' d G1 hd e1 e2 y => by
    have hi : i < vs.length := by rw [← r.len]; exact (List.getElem?_eq_some_iff.mp hd).1
    obtain ⟨eh, ex⟩ := walk_list.yields i H x H' hi ((e1.trans e2).seqL h) y
    obtain ⟨v, hv, rv⟩ := r.get hd
    rw [hv] at ex; injection ex with ex; subst ex eh
    exact ⟨G1, .same (rv.mono e1)⟩⟩
theorem yl_tup {a : Addr} {ds : List D} {vs : List V} (h : G a = some (.tup vs)) (r : RepL K cl G ds vs) : Yl K cl (Itt K a) G ds :=
  ⟨fun i H hi ex => by rw [r.len] at hi; exact walk_tup.goes i H hi (SqT.of (ex _ _ h)), fun H ex => by rw [r.len]; exact walk_tup.stops H (SqT.of (ex _ _ h)), fun i H x H' d G1 hd e1 e2 y => by
    have hi : i < vs.length := by rw [← r.len]; exact (List.getElem?_eq_some_iff.mp hd).1
    obtain ⟨eh, ex⟩ := walk_tup.yields i H x H' hi (SqT.of ((e1.trans e2) _ _ h)) y
    obtain ⟨v, hv, rv⟩ := r.get hd
    rw [hv] at ex; injection ex with ex; subst ex eh
    exact ⟨G1, .same (rv.mono e1)⟩⟩
theorem rngD_len {lo : Int} {n : Nat} : (rngD lo n).length = n := by simp [rngD]
theorem yl_range {lo : Int} {n : Nat} : Yl K cl (Itr lo n) G (rngD lo n) :=
  ⟨fun i H hi ex => by rw [rngD_len] at hi; exact walk_range.goes i H hi trivial, fun H ex => by rw [rngD_len]; exact walk_range.stops H trivial, fun i H x H' d G1 hd e1 e2 y => by
    have hi : i < n := by have := (List.getElem?_eq_some_iff.mp hd).1; rwa [rngD_len] at this
    obtain ⟨eh, ex⟩ := walk_range.yields i H x H' hi trivial y
    have ed : d = .int (lo + (i : Nat)) := by
      unfold rngD at hd
      rw [List.getElem?_map, List.getElem?_range hi] at hd
      injection hd with hd; exact hd.symm
    subst eh ex ed
    exact ⟨G1, .same (rep_int.mpr rfl)⟩⟩
theorem enumD_get {ds : List D} {i : Nat} {d : D} (h : (enumD ds)[i]? = some d) : ∃ x, ds[i]? = some x ∧ d = .tup [.int (i : Nat), x] := by
  unfold enumD at h
  rw [List.getElem?_mapIdx] at h
  cases z : ds[i]? with
  | none => rw [z] at h; cases h
  | some x => rw [z] at h; injection h with h; exact ⟨x, rfl, h.symm⟩
theorem nw_pair {i : Int} {d : D} {x : V} {T : Addr} (r : Rep K cl G d x) (hT : H T = none) : Nw K cl G H (.val (.tup [.int i, d])) (.ref T) (upd G T (.tup [.int i, x])) (upd H T (.tup [.int i, x])) :=
  .tup (repL_cons.mpr ⟨_, _, rfl, rep_int.mpr rfl, RepL.one r⟩) hT
theorem yl_enum {a : Addr} {ds : List D} {vs : List V} (h : SqL K G a vs) (r : RepL K cl G ds vs) : Yl K cl (Ite K a) G (enumD ds) := by
  have el : (enumD ds).length = vs.length := by rw [← r.len]; simp [enumD]
  exact ⟨fun i H hi ex => by rw [el] at hi; exact walk_enum.goes i H hi (ex.seqL h), fun H ex => by rw [el]; exact walk_enum.stops H (ex.seqL h), fun i H x H' d G1 hd e1 e2 y => by
    have hi : i < vs.length := by rw [← el]; exact (List.getElem?_eq_some_iff.mp hd).1
    obtain ⟨T, x1, y1, h1, h2, h3, h4, h5⟩ := walk_enum.yields i H x H' hi ((e1.trans e2).seqL h) y
    obtain ⟨xd, q1, q2⟩ := enumD_get hd
    obtain ⟨v, hv, rv⟩ := r.get q1
    simp only [hv] at h5 h4; injection h5 with h5; injection h4 with h4
    subst h1 h3 h5 h4 q2
    exact ⟨_, nw_pair (rv.mono e1) h2⟩⟩
end
section
variable {cl : Str → Addr} {X : Cx} {tg e a b : Expr} {pos p : Pos} {f : Xp} {fa : Xa}
theorem si_list (h : SE cl X e f) : SI cl X tg e (iData f) := fun W tk =>
  (pi_list (h W tk)).impY fun σ H R ⟨args, G, env, rs, q⟩ => tE_data wI_lat rs q fun d x env1 G1 H1 rs1 ex1 rx q1 => by
    split at q1
    · obtain ⟨a, vs, rfl, g1, g2⟩ := rep_lst.mp rx
      exact ⟨a, rfl, ⟨vs, SqL.of (rs1.ex _ _ g1)⟩, q1 _ G1 H1 rs1 .refl (yl_list (SqL.of g1) g2)⟩
    · obtain ⟨a, rfl, g1⟩ := rep_scr.mp rx
      exact ⟨a, rfl, ⟨_, rs1.ex.seqL g1⟩, q1 _ G1 H1 rs1 .refl (yl_list g1 (RepL.ints.mpr rfl))⟩
    · exact q1.elim
theorem si_tup (h : SE cl X e f) : SI cl X tg e (iDataT f) := fun W tk =>
  (pi_tup (h W tk)).impY fun σ H R ⟨args, G, env, rs, q⟩ => tE_data wI_lat rs q fun d x env1 G1 H1 rs1 ex1 rx q1 => by
    split at q1
    · obtain ⟨a, vs, rfl, g1, g2⟩ := rep_tup.mp rx
      exact ⟨a, rfl, ⟨vs, SqT.of (rs1.ex _ _ g1)⟩, q1 _ G1 H1 rs1 .refl (yl_tup g1 g2)⟩
    · exact q1.elim
theorem small62_ok {j : Int} (h : small62 j = true) : -(2 ^ 62) ≤ j ∧ j < 2 ^ 62 := by
  unfold small62 at h
  simp only [Bool.and_eq_true, decide_eq_true_eq] at h
  exact h
theorem si_range1 (hg : Gl X "range") (hm : X.mg "range" = none) (ha : SA cl X [a] fa) (hs : starEach [a] X.env = [(false, eval a X.env)] := by rfl) : SI cl X tg (.Call (.Name "range" p) [a] [] pos) (iRg1 fa) := fun W tk =>
  (pi_range1 hg hm (ha W tk) hs).impY fun σ H R ⟨args, G, env, rs, q⟩ => tA_bind wI_lat rs q fun ds xs env1 G1 H1 rs1 ex1 rx q1 => by
    split at q1
    · split at q1
      · rename_i j hj
        obtain ⟨v, rfl, rv⟩ := repL_one.mp rx
        exact ⟨j, by rw [rep_int.mp rv], (small62_ok hj).1, (small62_ok hj).2, q1 _ G1 H1 rs1 .refl yl_range⟩
      · exact q1.elim
    · exact q1.elim
theorem si_range2 (hg : Gl X "range") (hm : X.mg "range" = none) (ha : SA cl X [a, b] fa) (hs : starEach [a, b] X.env = [(false, eval a X.env), (false, eval b X.env)] := by rfl) (hs2 : starEach [b] X.env = [(false, eval b X.env)] := by rfl) : SI cl X tg (.Call (.Name "range" p) [a, b] [] pos) (iRg2 fa) := fun W tk =>
  (pi_range2 hg hm (ha W tk) hs hs2).impY fun σ H R ⟨args, G, env, rs, q⟩ => tA_bind wI_lat rs q fun ds xs env1 G1 H1 rs1 ex1 rx q1 => by
    split at q1
    · split at q1
      · rename_i i j hj
        obtain ⟨v, w, rfl, rv, rw'⟩ := repL_two.mp rx
        exact ⟨i, j, by rw [rep_int.mp rv, rep_int.mp rw'], ⟨(small62_ok hj.1).1, (small62_ok hj.1).2, (small62_ok hj.2).1, (small62_ok hj.2).2⟩, q1 _ G1 H1 rs1 .refl yl_range⟩
      · exact q1.elim
    · exact q1.elim
end

/-! ### for -/
def forS (gf : Xg) (f : Xs) : List D → En → Res Fl
  | [], env => .ok .nx env
  | d :: ds, env => match gf d env with
    | none => .bad
    | some e1 => match f e1 with
      | .ok .nx e2 => forS gf f ds e2
      | .ok .ct e2 => forS gf f ds e2
      | .ok .bk e2 => .ok .nx e2
      | .ok (.rt r) e2 => .ok (.rt r) e2
      | .exc c ns xs e2 => .exc c ns xs e2
      | .bad => .bad
def sFor (fi : Xi) (gf : Xg) (f : Xs) : Xs := fun env => (fi env).bind fun ds e => forS gf f ds e
section
variable {cl : Str → Addr} {X : Cx} {tg iter : Expr} {body : List Stmt} {pos : Pos} {fi : Xi} {gf : Xg} {js : List Nat} {f : Xs}
theorem Nw.rs {K : PySem.W.Frag} {args : List V} {σ : L2.St} {G H G' H' : Hp} {env : En} {d : D} {v : V} (rs : RS K cl args G H σ env) (n : Nw K cl G H (.val d) v G' H') : RS K cl args G' H' σ env ∧ Stp G H (Own σ env) G' H' (Own σ env) ∧ Rep K cl G' d v := by
  cases n with
  | same q => exact ⟨rs, .refl, q⟩
  | tup q hp => exact ⟨rs.known hp, Stp.new rs.ex hp, rep_tup.mpr ⟨_, _, rfl, upd_same, q.mono (Ex.new (rs.ex.free hp))⟩⟩
theorem ss_for (hp : PassesOwn (model X.prog X.w) X.A X.env X.xe) (hc : X.calm = true) (hi : SI cl X tg iter fi) (hg : SG cl X tg js gf) (hb : SB cl X body f)
    (hs : ∀ x, foldedSetIterable iter X.env x = pure x := by intro _; rfl) : SS cl X (.For tg iter body [] pos) (sFor fi gf f) := fun W tk =>
  (ps_for hp hc (hi W tk) hg (hb W tk) hs).impY fun D σ H ⟨args, G, env, rs, q⟩ => by
    refine ⟨args, G, env, rs, ?_⟩
    unfold sFor at q
    cases hf : fi env with
    | bad => rw [hf] at q; exact q
    | exc c ns ds e => rw [hf] at q; exact q
    | ok ds e =>
      rw [hf] at q
      intro J G0 H0 rs0 st0 yl
      have q0 : Post X.K cl args W (wS X.K cl args D) G0 H0 (Own σ e) (forS gf f ds e) := Post.later wS_lat st0 q
      refine ⟨fun i m σ H => m = ds.length - i ∧ i ≤ ds.length ∧ ∃ G env, RS X.K cl args G H σ env ∧ Ex G0 G ∧ Post X.K cl args W (wS X.K cl args D) G H (Own σ env) (forS gf f (ds.drop i) env), ⟨ds.length, by simp, Nat.zero_le _, G0, e, rs0, Ex.refl _, by simpa using q0⟩, ?_⟩
      rintro i m σ1 H1 ⟨rfl, hi, G1, env1, rs1, ex1, q1⟩
      by_cases hlt : i < ds.length
      · have hd : ds[i]? = some ds[i] := List.getElem?_eq_getElem hlt
        rw [List.drop_eq_getElem_cons hlt] at q1
        refine .inr ⟨yl.go i H1 hlt (ex1.trans rs1.ex), fun σ H => i + 1 ≤ ds.length ∧ ∃ G env, RS X.K cl args G H σ env ∧ Ex G0 G ∧ Post X.K cl args W (wS X.K cl args D) G H (Own σ env) (forS gf f (ds.drop (i + 1)) env), fun σ' H' h => ⟨ds.length - (i + 1), by omega, rfl, h.1, h.2⟩, fun x H2 y => ?_⟩
        obtain ⟨G2, nw⟩ := yl.yld i H1 x H2 _ G1 hd ex1 rs1.ex y
        obtain ⟨rs2, st2, r2⟩ := nw.rs rs1
        have q2 := Post.later wS_lat st2 q1
        unfold forS at q2
        split at q2
        · exact q2.elim
        · rename_i e1 he1
          refine ⟨args, G2, env1, _, e1, rs2, r2, he1, fun σ3 rs3 own3 _ => ⟨args, G2, e1, rs3, ?_⟩⟩
          have st3 : Stp G2 H2 (Own σ1 env1) G2 H2 (Own σ3 e1) := Stp.refl.less own3
          have q3 := Post.later wS_lat st3 q2
          have next : ∀ {e2 : En}, Post X.K cl args W (wS X.K cl args D) G2 H2 (Own σ3 e1) (forS gf f (ds.drop (i + 1)) e2) → ∀ σ' G' H', RS X.K cl args G' H' σ' e2 → Stp G2 H2 (Own σ3 e1) G' H' (Own σ' e2) → i + 1 ≤ ds.length ∧ ∃ G env, RS X.K cl args G H' σ' env ∧ Ex G0 G ∧ Post X.K cl args W (wS X.K cl args D) G H' (Own σ' env) (forS gf f (ds.drop (i + 1)) env) :=
            fun q σ' G' H' rs' st' => ⟨hlt, G', _, rs', (ex1.trans st2.g).trans st'.g, Post.later wS_lat st' q⟩
          cases hf1 : f e1 with
          | bad => rw [hf1] at q3; exact q3
          | exc c ns ds e => rw [hf1] at q3; exact q3
          | ok l e2 =>
            rw [hf1] at q3
            cases l with
            | nx => exact next q3
            | ct => exact next q3
            | bk => exact q3
            | rt r => exact q3
      · have e : i = ds.length := by omega
        subst e
        refine .inl ⟨yl.stop H1 (ex1.trans rs1.ex), ?_⟩
        rw [List.drop_length] at q1
        exact q1 σ1 G1 H1 rs1 .refl
end
end Ya

set_option maxHeartbeats 4000000
namespace Ya
open PySem PySem.Spec PyProof.Rows L2
open AutoSeq1 (wpAny_loadPart')

/-! ### enumerate of a tuple -/
theorem meets_enumerate_newT (l : Addr) (items : Array Value) :
    Meets (Builtin.«enumerate.__new__» ⟨[.type "enumerate", .ref l], []⟩) (fun _ R s => s.heap.IsTuple l items ∧
      R (.ok (.ret (.ref (s.heap.push { cls := .type "tuple_iterator", data := .fields #[.ref l, .int 0 0] }).objs.size)))
        { s with heap := (s.heap.push { cls := .type "tuple_iterator", data := .fields #[.ref l, .int 0 0] }).push { cls := .type "enumerate", data := .fields #[.none, .bool false, .ref s.heap.objs.size, rawInt 0, .none, .none] } }) :=
  .of_wp fun prog w A R s h => by
    obtain ⟨hp, g, d, tk, os⟩ := s; obtain ⟨hL, h⟩ := h
    have hsub := sub_enumerate
    have q1 : ∀ {A' : Around} {E : Value → Shared → Prop} {Q : Value → Shared → Prop}, Q (.ref hp.objs.size) ⟨hp.push { cls := .type "tuple_iterator", data := .fields #[.ref l, .int 0 0] }, g, d, tk, os⟩ → wpAny (model prog w) A' (pyIter (.ref l)) Q E ⟨hp, g, d, tk, os⟩ :=
      fun q => wpAny_pyIter_tuple (s := ⟨hp, g, d, tk, os⟩) hL q
    wp_walk using q1
    refine wpAny_stack_any fun st => wpAny_pure ?_
    split
    · rename_i c _ _ _ _ _
      cases (c == Value.type "enumerate")
      · wp_walk using q1
        exact ⟨_, rfl, h⟩
      · wp_walk using q1
        exact ⟨_, rfl, h⟩
    · wp_walk using q1
      exact ⟨_, rfl, h⟩
section
variable {prog : Program} {w : World} {A : Around} {E : Value → Shared → Prop} {s : Shared}
theorem call_enumerate_tuple {l : Addr} {items : Array Value} {Q : Value → Shared → Prop} (hL : s.heap.IsTuple l items)
    (h : ∀ h', IsEnum h' (s.heap.objs.size + 1) s.heap.objs.size 0 .none → h'.IsTupleIter s.heap.objs.size l 0 → h'.objs.size = s.heap.objs.size + 2 →
      (∀ b o, s.heap.get? b = some o → h'.get? b = some o) → Q (.ref (s.heap.objs.size + 1)) { s with heap := h' }) :
    wpAny (model prog w) A (call (.type "enumerate") [.ref l]) Q E s := by
  refine callType_new F.called_enumerate (by decide) (F.typeCall_enumerate_1 _) (F.newCall_enumerate_1 _) (fun obj => F.args_object_init_2 obj _) F.entry_enumerate_new
    (meets_enumerate_newT l items) ⟨hL, ?_⟩
  have hz : (s.heap.push { cls := .type "tuple_iterator", data := .fields #[.ref l, .int 0 0] }).objs.size = s.heap.objs.size + 1 := Heap.size_push ..
  show _ ∧ _
  rw [hz]
  have he : IsEnum ((s.heap.push { cls := .type "tuple_iterator", data := .fields #[.ref l, .int 0 0] }).push
      { cls := .type "enumerate", data := .fields #[.none, .bool false, .ref s.heap.objs.size, rawInt 0, .none, .none] }) (s.heap.objs.size + 1) s.heap.objs.size 0 .none := by
    have := Heap.get?_push_size (s.heap.push { cls := .type "tuple_iterator", data := .fields #[.ref l, .int 0 0] })
      (o := { cls := .type "enumerate", data := .fields #[.none, .bool false, .ref s.heap.objs.size, rawInt 0, .none, .none] }) rfl
    rw [hz] at this; exact this
  refine ⟨⟨_, he, rfl⟩, h _ he ⟨_, Heap.get?_push_of_some _ (Heap.get?_push_size _ rfl), rfl, rfl⟩ (by rw [Heap.size_push, hz]) fun b o x => Heap.get?_push_of_some _ (Heap.get?_push_of_some _ x)⟩
theorem enumT_end {e it l : Addr} {i : Nat} {items : Array Value} {c : Int} {old : Value} {Q : Option Value → Shared → Prop} (hh : A.handled = none)
    (he : IsEnum s.heap e it c old) (hit : s.heap.IsTupleIter it l i) (hl : s.heap.IsTuple l items) (hx : items[i]? = none)
    (hQ : ∀ h', Heap.ExtBut it s.heap h' → Q none { s with heap := h' }) : wpAny (model prog w) A (pyNext (.ref e)) Q E s := by
  have hT : s.TypeIs (.ref e) "enumerate" := ⟨_, he, rfl⟩
  unfold pyNext
  refine wpAny_bind (wpAny_attempt (wpAny_callSpecial?_slot (name := Str.ofString "__next__") hT F.slot_enumerate_next
    (wpAny_call_entry F.slot_enumerate_next hT F.entry_enumerate_next ?_ (F.args_enumerate_next_1 _))))
  show wpAny _ _ (field (.ref e) 2 >>= _) _ _ _
  refine wpAny_bind (wpAny_field he rfl (x := .ref it) rfl ?_)
  refine wpAny_bind (wpAny_nextOf_tuple_end hh hit hl hx fun h' x he' hx' => ?_)
  obtain ⟨o, ho, hc⟩ := hx'
  refine wpAny_bind (wpAny_isInstance (T := "StopIteration") (b := true) ⟨o, ho, hc⟩ isSubtype_stop ?_)
  exact wpAny_pure (hQ _ he')
end
def Iet (K : PySem.W.Frag) (a : Addr) : It :=
  ⟨fun i H => ∃ (xs : List V) (x : V), SqT K H a xs ∧ xs[i]? = some x, fun i H v H' => ∃ T x, v = .ref T ∧ H T = none ∧ H' = upd H T (.tup [.int (i : Nat), x]) ∧ ∀ xs, SqT K H a xs → xs[i]? = some x, fun i H => ∃ xs : List V, SqT K H a xs ∧ xs.length ≤ i⟩
theorem turn_enumT {P : Program} {w : World} {K : PySem.W.Frag} {elts : List Expr} {kk : Nat} {tpos : Pos} (a e it : Addr) :
    Turn P w K (.Tuple elts kk tpos) (Iet K a) [e, it] e (fun i h => (∃ old, IsEnum h e it ((i : Nat) : Int) old) ∧ h.IsTupleIter it a i ∧ e ≠ it ∧ e ≠ a ∧ it ≠ a) where
  mem := by simp
  obj := fun i h st b hb => by
    obtain ⟨⟨old, he⟩, ⟨o, ho, hc, hd⟩, _⟩ := st
    have e' : b = e ∨ b = it := by simpa using hb
    rcases e' with z | z
    · rw [z]; exact ⟨_, he, fun v q => nomatch q⟩
    · rw [z]; exact ⟨o, ho, fun v q => by rw [hd] at q; cases q⟩
  keep := fun i h h' st k => let ⟨⟨old, he⟩, hi, hne⟩ := st; ⟨⟨old, k e (by simp) _ he⟩, hi.at fun o q => k it (by simp) o q, hne⟩
  item := by
    intro X hP hw hK hc i pins s σ H E I hf st hg
    subst hP hw hK
    obtain ⟨⟨old, he⟩, hit, hne, hea, hia⟩ := st
    obtain ⟨xs, x, hq, hx⟩ := hg
    obtain ⟨its, rv, p, hz⟩ := I.tuple hq
    obtain ⟨u, hu, ru⟩ := rv.get hx
    have hel : e < s.heap.objs.size := Heap.lt_size he
    have hil : it < s.heap.objs.size := by obtain ⟨_, q, _⟩ := hit; exact Heap.lt_size q
    have hlt : i < its.toArray.size := by
      have := (List.getElem?_eq_some_iff.mp hu).1
      simpa using this
    refine wpAny_pyNext_enum_itemC (c := (i : Nat)) (Draws.tuple (A := X.A.in1) (I.ok.hd hc) it a (Ne.symm hia) its.toArray) he ⟨hit, (show s.heap.IsTuple a its.toArray from p)⟩ hlt hne (by simp [hne, hea]) fun x' h' tk hP ho hst' hT hsz hk => ?_
    have ex' : x' = u := by
      have q : its[i]? = some x' := by simpa using hP
      rw [hu] at q; injection q with q; exact q.symm
    subst ex'
    refine ⟨_, rfl, wpAny_letOwnedTupleGo_enum (s := { s with heap := h', toks := tk + 1 }) ho fun h'' he' sb => ?_⟩
    have hT2 : h''.get? s.heap.objs.size = some { cls := .type "tuple", data := .seq #[.int i tk, x'] } := (sb.2 _ (Nat.ne_of_gt hel)).trans hT
    have new : ObjOk X.prog X.w (upd H s.heap.objs.size (.tup [.int (i : Nat), x])) h'' s.heap.objs.size (.tup [.int (i : Nat), x]) :=
      ⟨by show 2 ≤ sizeLine; decide, [.int i tk, x'], .cons ⟨_, rfl⟩ (.cons ru .nil), ⟨_, hT2, rfl, _, rfl⟩⟩
    have I1 : Inv X pins σ (upd H s.heap.objs.size (.tup [.int (i : Nat), x])) { s with heap := h'', toks := tk + 1 } :=
      I.turnedNew (ch := [e, it]) (fun b ob hb q => (sb.2 b (fun z => hb (by simp [z]))).trans (hk b ob (fun z => hb (by simp [z])) (fun z => hb (by simp [z])) q)) hf (Nat.le_refl _) new
    refine ⟨.ref s.heap.objs.size, _, I1, rfl, ⟨_, x, rfl, I.hok.fresh (Nat.le_refl _), rfl, fun ys hy => ?_⟩, ⟨⟨x', ?_⟩, hst'.1.at fun o q => (sb.2 it (Ne.symm hne)).trans q, hne, hea, hia⟩, fun b hb => ?_⟩
    · rw [I.tuple_inj hy hq]; exact hx
    · have e1 : ((i + 1 : Nat) : Int) = (i : Int) + 1 := by omega
      rw [e1]; exact he'
    · have hb' : b < s.heap.objs.size := by
        have e' : b = e ∨ b = it := by simpa using hb
        rcases e' with z | z
        · rw [z]; exact hel
        · rw [z]; exact hil
      rw [upd_ne (Nat.ne_of_lt hb')]
      exact (hf b hb).1
  done := by
    intro X hP hw hK hc i pins s σ H E I hf st hg
    subst hP hw hK
    obtain ⟨⟨old, he⟩, hit, hne, hea, hia⟩ := st
    obtain ⟨xs, hq, hx⟩ := hg
    obtain ⟨its, rv, p, hz⟩ := I.tuple hq
    obtain ⟨f0, f1, f2, f3, f4, f5⟩ := hf it (by simp)
    have hl := rv.length
    exact enumT_end (I.ok.hd hc) he hit (show s.heap.IsTuple a its.toArray from p) (by simp; omega) fun h' eb => ⟨rfl, I.turned (t' := s.toks) (fun b o hb q => eb b o hb q) f0 f1 f3 f4 f5⟩
  self := fun A i s Q E st h => let ⟨⟨_, he⟩, _⟩ := st; wpAny_pyIter_enum he h
def iEnumT (K : PySem.W.Frag) (ta : TA) : TI := fun σ H R => ta σ H fun vs H1 => ∃ a xs, vs = [.ref a] ∧ SqT K H1 a xs ∧ R (Iet K a) H1
theorem pi_enumT {X : Cx} {e : Expr} {ta : TA} {p pos tpos : Pos} {elts : List Expr} {kk : Nat} (hg : Gl X "enumerate") (hm : X.mg "enumerate" = none) (ha : PA X [e] ta) (hs : starEach [e] X.env = [(false, eval e X.env)] := by rfl) :
    PI X (.Tuple elts kk tpos) (.Call (.Name "enumerate" p) [e] [] pos) (iEnumT X.K ta) := by
  refine ⟨fun pins s σ H R I h => ?_⟩
  refine Call_ (ld_blt I hg hm boot_enumerate (PyProof.Rows.callWith_type1 (thn (ha.run pos pins s σ H _ I h) fun us s1 ⟨vs, H1, I1, r1, q1⟩ => ?_) hs rfl))
  obtain ⟨a, xs, ex, hq, q⟩ := q1
  subst ex
  cases r1 with
  | cons r rr =>
    cases rr
    cases r
    obtain ⟨its, rv, p', hz⟩ := I1.tuple hq
    have hal : a < s1.heap.objs.size := by obtain ⟨_, q, _⟩ := p'; exact Heap.lt_size q
    refine call_enumerate_tuple (show s1.heap.IsTuple a its.toArray from p') fun h' he hit hsz hk => wpAny_pyIter_enum he ?_
    have I2 : Inv X pins σ H1 { s1 with heap := h' } := I1.kept (t' := s1.toks) hk
    refine ⟨s1.heap.objs.size + 1, [s1.heap.objs.size + 1, s1.heap.objs.size], _, _, H1, rfl, I2, turn_enumT a (s1.heap.objs.size + 1) s1.heap.objs.size, ⟨⟨.none, he⟩, hit, Nat.succ_ne_self _, Nat.ne_of_gt (Nat.lt_succ_of_lt hal), Nat.ne_of_gt hal⟩, fun b hb => ?_, q⟩
    have e' : b = s1.heap.objs.size + 1 ∨ b = s1.heap.objs.size := by simpa using hb
    have hle : s1.heap.objs.size ≤ b := by
      rcases e' with z | z
      · rw [z]; exact Nat.le_add_right _ _
      · rw [z]; exact Nat.le_refl _
    exact I1.fpOk hle (I1.hok.fresh hle)
theorem walk_enumT {K : PySem.W.Frag} {a : Addr} {xs : List V} : Walk (Iet K a) xs.length (fun H => SqT K H a xs) (YPair (fun i => some (.int (i : Nat))) (fun i => xs[i]?)) := by
  refine ⟨fun i _ hi q => ⟨xs, xs[i], q, by simp [hi]⟩, fun _ q => ⟨xs, q, Nat.le_refl _⟩, fun i H v H' _ q y => ?_⟩
  obtain ⟨T, x, h1, h2, h3, h4⟩ := y
  exact ⟨T, .int (i : Nat), x, h1, h2, h3, rfl, h4 xs q⟩
section
variable {K : PySem.W.Frag} {cl : Str → Addr} {G : Hp}
theorem yl_enumT {a : Addr} {ds : List D} {vs : List V} (h : G a = some (.tup vs)) (r : RepL K cl G ds vs) : Yl K cl (Iet K a) G (enumD ds) := by
  have el : (enumD ds).length = vs.length := by rw [← r.len]; simp [enumD]
  exact ⟨fun i H hi ex => by rw [el] at hi; exact walk_enumT.goes i H hi (SqT.of (ex _ _ h)), fun H ex => by rw [el]; exact walk_enumT.stops H (SqT.of (ex _ _ h)), fun i H x H' d G1 hd e1 e2 y => by
    have hi : i < vs.length := by rw [← el]; exact (List.getElem?_eq_some_iff.mp hd).1
    obtain ⟨T, x1, y1, h1, h2, h3, h4, h5⟩ := walk_enumT.yields i H x H' hi (SqT.of ((e1.trans e2) _ _ h)) y
    obtain ⟨xd, q1, q2⟩ := enumD_get hd
    obtain ⟨v, hv, rv⟩ := r.get q1
    simp only [hv] at h5 h4; injection h5 with h5; injection h4 with h4
    subst h1 h3 h5 h4 q2
    exact ⟨_, nw_pair (rv.mono e1) h2⟩⟩
end
def iEnmT (f : Xa) : Xi := fun env => (f env).bind fun ds e => match ds with | [.tup xs] => .ok (enumD xs) e | _ => .bad
def iEnmL (f : Xa) : Xi := fun env => (f env).bind fun ds e => match ds with | [.lst xs] => .ok (enumD xs) e | _ => .bad
section
variable {cl : Str → Addr} {X : Cx} {a : Expr} {pos p tpos : Pos} {elts : List Expr} {kk : Nat} {fa : Xa}
theorem si_enumT (hg : Gl X "enumerate") (hm : X.mg "enumerate" = none) (ha : SA cl X [a] fa) (hs : starEach [a] X.env = [(false, eval a X.env)] := by rfl) : SI cl X (.Tuple elts kk tpos) (.Call (.Name "enumerate" p) [a] [] pos) (iEnmT fa) := fun W tk =>
  (pi_enumT hg hm (ha W tk) hs).impY fun σ H R ⟨args, G, env, rs, q⟩ => tA_bind wI_lat rs q fun ds xs env1 G1 H1 rs1 ex1 rx q1 => by
    split at q1
    · rename_i ys
      obtain ⟨v, rfl, rv⟩ := repL_one.mp rx
      obtain ⟨a, vs, rfl, g1, g2⟩ := rep_tup.mp rv
      exact ⟨a, vs, rfl, SqT.of (rs1.ex _ _ g1), q1 _ G1 H1 rs1 .refl (yl_enumT g1 g2)⟩
    · exact q1.elim
theorem si_enumL (hg : Gl X "enumerate") (hm : X.mg "enumerate" = none) (ha : SA cl X [a] fa) (hs : starEach [a] X.env = [(false, eval a X.env)] := by rfl) : SI cl X (.Tuple elts kk tpos) (.Call (.Name "enumerate" p) [a] [] pos) (iEnmL fa) := fun W tk =>
  (pi_enum hg hm (ha W tk) hs).impY fun σ H R ⟨args, G, env, rs, q⟩ => tA_bind wI_lat rs q fun ds xs env1 G1 H1 rs1 ex1 rx q1 => by
    split at q1
    · rename_i ys
      obtain ⟨v, rfl, rv⟩ := repL_one.mp rx
      obtain ⟨a, vs, rfl, g1, g2⟩ := rep_lst.mp rv
      exact ⟨a, vs, rfl, SqL.of (rs1.ex _ _ g1), q1 _ G1 H1 rs1 .refl (yl_enum (SqL.of g1) g2)⟩
    · exact q1.elim
end
end Ya

set_option maxHeartbeats 4000000
namespace Ya
open PySem PySem.Spec PyProof.Rows L2

/-! ### list comprehensions -/
def wipeE (e : En) : List Nat → En
  | [] => e
  | v :: vs => (wipeE e vs).set v .und
def lcS (vs : List Nat) (gf : Xg) (t : Xt) (f : Xp) : List D → En → List D → Option (List D × En)
  | [], env, acc => some (acc, env)
  | d :: ds, env, acc => match gf d env with
    | none => none
    | some e1 => match t e1 with
      | .ok true e2 => (match (f e2).data fun y e3 => .ok y e3 with
        | .ok y e3 => lcS vs gf t f ds (wipeE e3 vs) (acc ++ [y])
        | _ => none)
      | .ok false e2 => lcS vs gf t f ds (wipeE e2 vs) acc
      | _ => none
def xLc (vs : List Nat) (fi : Xi) (gf : Xg) (t : Xt) (f : Xp) : Xp := fun env => (fi env).bind fun ds e => if ds.length ≤ 1000000 then (match lcS vs gf t f ds (wipeE e vs) [] with | some (out, e') => .ok (.own none (.lst out)) e' | none => .bad) else .bad
def uYes : Xt := fun env => .ok true env
theorem wipe_get {σ : L2.St} {i : Nat} : ∀ {vs : List Nat}, (wipe σ vs)[i]? = if i ∈ vs then (σ[i]?).map (fun _ => none) else σ[i]?
  | [] => by simp [wipe]
  | v :: vs => by
    unfold wipe
    rw [List.getElem?_set]
    by_cases h : v = i
    · subst h
      rw [if_pos rfl, wipe_length]
      simp only [List.mem_cons, true_or, if_true]
      by_cases hl : v < σ.length
      · rw [if_pos hl, List.getElem?_eq_getElem hl]; rfl
      · rw [if_neg hl, List.getElem?_eq_none (by omega)]; rfl
    · rw [if_neg h, wipe_get (vs := vs)]
      have e : (i ∈ v :: vs) = (i ∈ vs) := by simp only [List.mem_cons, eq_iff_iff]; exact ⟨fun z => z.elim (fun z => absurd z.symm h) id, .inr⟩
      simp only [e]
theorem wipeE_len {e : En} : ∀ {vs : List Nat}, (wipeE e vs).length = e.length
  | [] => rfl
  | v :: vs => by unfold wipeE; rw [List.length_set, wipeE_len]
theorem wipeE_get {e : En} {i : Nat} : ∀ {vs : List Nat}, (wipeE e vs)[i]? = if i ∈ vs then (e[i]?).map (fun _ => S.und) else e[i]?
  | [] => by simp [wipeE]
  | v :: vs => by
    unfold wipeE
    rw [List.getElem?_set]
    by_cases h : v = i
    · subst h
      rw [if_pos rfl, wipeE_len]
      simp only [List.mem_cons, true_or, if_true]
      by_cases hl : v < e.length
      · rw [if_pos hl, List.getElem?_eq_getElem hl]; rfl
      · rw [if_neg hl, List.getElem?_eq_none (by omega)]; rfl
    · rw [if_neg h, wipeE_get (vs := vs)]
      have e : (i ∈ v :: vs) = (i ∈ vs) := by simp only [List.mem_cons, eq_iff_iff]; exact ⟨fun z => z.elim (fun z => absurd z.symm h) id, .inr⟩
      simp only [e]
theorem wipe_near {js vs : List Nat} {σ σ' : L2.St} (h : Near js σ σ') (hj : ∀ j ∈ js, j ∈ vs) : wipe σ' vs = wipe σ vs := by
  apply List.ext_getElem?
  intro i
  rw [wipe_get, wipe_get]
  by_cases hi : i ∈ vs
  · rw [if_pos hi, if_pos hi]
    by_cases hl : i < σ.length
    · rw [List.getElem?_eq_getElem hl, List.getElem?_eq_getElem (by rw [h.1]; exact hl)]; rfl
    · rw [List.getElem?_eq_none (by rw [h.1]; omega), List.getElem?_eq_none (by omega)]
  · rw [if_neg hi, if_neg hi, h.2 i fun z => hi (hj i z)]
theorem wipe_wipe {σ : L2.St} {vs : List Nat} : wipe (wipe σ vs) vs = wipe σ vs := by
  apply List.ext_getElem?
  intro i
  rw [wipe_get, wipe_get]
  by_cases hi : i ∈ vs
  · rw [if_pos hi, if_pos hi]; cases σ[i]? <;> rfl
  · rw [if_neg hi, if_neg hi]
section
variable {K : PySem.W.Frag} {cl : Str → Addr} {args : List V} {σ σ' : L2.St} {G H : Hp} {env : En} {vs : List Nat}
theorem wiped_own {i : Nat} {o : Option Nat} {c : C} (h : (wipeE env vs)[i]? = some (.own o c)) : i ∉ vs ∧ env[i]? = some (.own o c) := by
  rw [wipeE_get] at h
  by_cases hi : i ∈ vs
  · rw [if_pos hi] at h
    cases z : env[i]? with
    | none => rw [z] at h; cases h
    | some s => rw [z] at h; cases h
  · rw [if_neg hi] at h; exact ⟨hi, h⟩
/-- only the slots outside vs matter -/
theorem RS.wiped (rs : RS K cl args G H σ env) (e : wipe σ' vs = wipe σ vs) : RS K cl args G H σ' (wipeE env vs) := by
  have same : ∀ i, i ∉ vs → σ'[i]? = σ[i]? := fun i hi => by
    have q := congrArg (·[i]?) e
    simp only [wipe_get, if_neg hi] at q
    exact q
  have len : σ'.length = σ.length := by
    have q := congrArg List.length e
    rw [wipe_length, wipe_length] at q; exact q
  refine ⟨rs.ex, by rw [wipeE_len, len]; exact rs.len, fun i s h => ?_, fun i j o o' c c' a h1 h2 h3 h4 => ?_⟩
  · by_cases hi : i ∈ vs
    · rw [wipeE_get, if_pos hi] at h
      cases z : env[i]? with
      | none => rw [z] at h; cases h
      | some t => rw [z] at h; injection h with h; subst h; trivial
    · rw [wipeE_get, if_neg hi] at h
      have q := rs.slot i s h
      rw [same i hi]; exact q
  · obtain ⟨n1, e1⟩ := wiped_own h1
    obtain ⟨n2, e2⟩ := wiped_own h2
    rw [same i n1] at h3
    rw [same j n2] at h4
    exact rs.sep i j o o' c c' a e1 e2 h3 h4
theorem own_wiped {a : Addr} (e : wipe σ' vs = wipe σ vs) (h : Own σ' (wipeE env vs) a) : Own σ env a := by
  obtain ⟨i, o, c, h1, h2⟩ := h
  obtain ⟨n, e1⟩ := wiped_own h1
  have q := congrArg (·[i]?) e
  simp only [wipe_get, if_neg n] at q
  exact ⟨i, o, c, e1, by rw [← q]; exact h2⟩
end
structure BlkSE (cl : Str → Addr) (X : Cx) (scope : Scope) (elt : Expr) (f : Xp) : Prop where
  run : ∀ (s : Shared) (H : Hp) (C : Addr) (cls : List (Str × Addr)) (fp : List Addr), SE cl (X.blk s H scope (compEnvC scope cls C X.env) fp) elt f
def BlkSG (cl : Str → Addr) (X : Cx) (scope : Scope) (tg : Expr) (js : List Nat) (gf : Xg) : Prop := ∀ (s : Shared) (H : Hp) (C : Addr) (cls : List (Str × Addr)) (fp : List Addr), SG cl (X.blk s H scope (compEnvC scope cls C X.env) fp) tg js gf
def BlkST (cl : Str → Addr) (X : Cx) (scope : Scope) (ifs : List Expr) (t : Xt) : Prop := ∀ (s : Shared) (H : Hp) (C : Addr) (cls : List (Str × Addr)) (fp : List Addr), PTs (X.blk s H scope (compEnvC scope cls C X.env) fp) ifs (tT X.K cl (fun _ _ _ _ => False) t)
section
variable {cl : Str → Addr} {X : Cx} {scope : Scope} {elt tg iter : Expr} {ifs : List Expr} {own : List (Str × Nat)} {pos spos py : Pos} {fi : Xi} {gf : Xg} {js : List Nat} {t : Xt} {f : Xp}
theorem blkST_nil : BlkST cl X scope [] uYes := fun s H C cls fp => ⟨fun pins s σ H Q I h => pts_nil.run pins s σ H Q I (by
  obtain ⟨args, G, env, rs, q⟩ := h
  exact q G H rs .refl)⟩
theorem blkST_one {c : Expr} (h : ∀ (s : Shared) (H : Hp) (C : Addr) (cls : List (Str × Addr)) (fp : List Addr), ST cl (X.blk s H scope (compEnvC scope cls C X.env) fp) c t) : BlkST cl X scope [c] t := fun s H C cls fp => pts_one (h s H C cls fp _ takes0)
/-- what the comprehension wants, met -/
theorem lc_meets {W : WX} {wi : TI} {σ : L2.St} {H : Hp} {Q : VK} (hj : ∀ j ∈ js, j ∈ own.map (·.2)) (hw : ∀ R, tI X.K cl W fi σ H R → wi σ H R) (h : tE X.K cl W (xLc (own.map (·.2)) fi gf t f) σ H Q) :
    tLc wi (tG X.K cl js gf) (tT X.K cl (fun _ _ _ _ => False) t) (tE X.K cl (fun _ _ _ _ => False) f) (own.map (·.2)) σ H Q := by
  generalize own.map (·.2) = vs at *
  obtain ⟨args, G, env, rs, q⟩ := h
  refine hw _ ⟨args, G, env, rs, ?_⟩
  unfold xLc at q
  cases hf : fi env with
  | bad => rw [hf] at q; exact q
  | exc c ns ds e => rw [hf] at q; exact q
  | ok ds e =>
    rw [hf] at q
    intro J G0 H0 rs0 st0 yl Dn hD
    replace q : Post X.K cl args W (wE X.K cl args σ Q) G H (Own σ env) (if ds.length ≤ 1000000 then (match lcS vs gf t f ds (wipeE e vs) [] with | some (out, e') => Res.ok (S.own none (.lst out)) e' | none => .bad) else .bad) := q
    split at q
    · rename_i hlen
      have hDG : G0 Dn = none := rs0.ex.free hD
      -- the state at each turn
      let Pv : Nat → Hp → Prop := fun i H => ∃ G1 env1 acc accv out e', RS X.K cl args G1 H (wipe σ vs) env1 ∧ wipeE env1 vs = env1 ∧ Ex G0 G1 ∧ H Dn = some (.lst accv) ∧ G1 Dn = none ∧ RepL X.K cl G1 acc accv ∧ acc.length ≤ i ∧ ¬ Own (wipe σ vs) env1 Dn ∧
        Stp G0 H0 (Own σ e) G1 H (fun a => Own (wipe σ vs) env1 a ∨ a = Dn) ∧ lcS vs gf t f (ds.drop i) env1 acc = some (out, e') ∧ ∀ v G' H', RS X.K cl args G' H' σ e' → Stp G0 H0 (Own σ e) G' H' (fun a => Own σ e' a ∨ OwnR v (.own none (.lst out)) a) → RepR X.K cl G' H' (Own σ e') v (.own none (.lst out)) → Q v H'
      have ww : wipe (wipe σ vs) vs = wipe σ vs := wipe_wipe
      have eww : ∀ e : En, wipeE (wipeE e vs) vs = wipeE e vs := fun e => by
        apply List.ext_getElem?
        intro i
        rw [wipeE_get, wipeE_get]
        by_cases hi : i ∈ vs
        · rw [if_pos hi, if_pos hi]; cases e[i]? <;> rfl
        · rw [if_neg hi, if_neg hi]
      have p0 : Pv 0 (upd H0 Dn (.lst [])) := by
        cases hl : lcS vs gf t f ds (wipeE e vs) [] with
        | none => rw [hl] at q; exact q.elim
        | some oe =>
          obtain ⟨out, e'⟩ := oe
          rw [hl] at q
          have rsw : RS X.K cl args G0 H0 (wipe σ vs) (wipeE e vs) := rs0.wiped ww
          refine ⟨G0, wipeE e vs, [], [], out, e', rsw.cell hD, eww e, Ex.refl _, upd_same, hDG, repL_nil.mpr rfl, Nat.zero_le _, fun z => (rsw.notOwn z).1 hD, ?_, by simpa using hl, fun v G' H' r s x => q v G' H' r (st0.trans s) x⟩
          exact (Stp.cell hD).less fun a z => z.elim (fun z => .inl (own_wiped ww z)) .inr
      refine ⟨fun i m H => m = ds.length - i ∧ i ≤ ds.length ∧ Pv i H, ⟨ds.length, by simp, Nat.zero_le _, p0⟩, ?_⟩
      rintro i m H1 ⟨rfl, hi, G1, env1, acc, accv, out, e', rs1, we1, ex1, hD1, hDG1, racc, hacc, nown, st1, hlc, fin⟩
      by_cases hlt : i < ds.length
      · have hd : ds[i]? = some ds[i] := List.getElem?_eq_getElem hlt
        rw [List.drop_eq_getElem_cons hlt] at hlc
        refine .inr ⟨yl.go i H1 hlt (ex1.trans rs1.ex), fun H => i + 1 ≤ ds.length ∧ Pv (i + 1) H, fun H' h => ⟨ds.length - (i + 1), by omega, rfl, h.1, h.2⟩, fun x H2 y => ?_⟩
        obtain ⟨G2, nw⟩ := yl.yld i H1 x H2 _ G1 hd ex1 rs1.ex y
        obtain ⟨rs2, st2, r2⟩ := nw.rs rs1
        unfold lcS at hlc
        split at hlc
        · cases hlc
        · rename_i ea hea
          refine ⟨args, G2, env1, _, ea, rs2, r2, hea, fun σ3 rs3 own3 near3 => ?_⟩
          have hw3 : wipe σ3 vs = wipe σ vs := (wipe_near near3 hj).trans ww
          refine ⟨hw3.trans (by rw [← hw3]), args, G2, ea, rs3, ?_⟩
          -- a turn's end: from the state after the tests (and the element)
          have stA : Stp G1 H1 (Own (wipe σ vs) env1) G2 H2 (Own σ3 ea) := st2.less own3
          have close : ∀ {G4 H4 : Hp} {e3 : En}, RS X.K cl args G4 H4 σ3 e3 → Stp G2 H2 (Own σ3 ea) G4 H4 (Own σ3 e3) → RS X.K cl args G4 H4 (wipe σ vs) (wipeE e3 vs) ∧ H4 Dn = some (.lst accv) ∧ G4 Dn = none ∧ Ex G1 G4 ∧ ¬ Own (wipe σ vs) (wipeE e3 vs) Dn ∧
              Stp G0 H0 (Own σ e) G4 H4 (fun a => Own (wipe σ vs) (wipeE e3 vs) a ∨ a = Dn) := fun {G4 H4 e3} rs4 st4 => by
            have stB := stA.trans st4
            have ow : ∀ a, Own (wipe σ vs) (wipeE e3 vs) a → Own σ3 e3 a := fun a z => own_wiped (ww.trans hw3.symm) z
            have nD : ¬ Own σ3 e3 Dn := fun z => by
              rcases stB.o Dn z with w | w
              · exact nown w
              · rw [hD1] at w; cases w
            refine ⟨rs4.wiped (ww.trans hw3.symm), stB.h Dn _ nown hD1, stB.n Dn nown (by rw [hD1]; simp) hDG1, stB.g, fun z => nD (ow _ z), st1.trans (stB.more (B := fun a => Own (wipe σ vs) env1 a ∨ a = Dn) (fun a z => .inl z) fun a z => ?_)⟩
            rcases z with z | z
            · exact .inl (ow a z)
            · exact .inr (.inr z)
          cases ht : t ea with
          | bad => rw [ht] at hlc; cases hlc
          | exc c ns xs e2 => rw [ht] at hlc; cases hlc
          | ok b e2 =>
            rw [ht] at hlc
            intro G3 H3 rs4 st4
            cases b with
            | false =>
              rw [if_neg Bool.false_ne_true]
              obtain ⟨c1, c2, c3, c4, c5, c6⟩ := close rs4 st4
              exact ⟨hlt, G3, _, acc, accv, out, e', c1, eww _, ex1.trans c4, c2, c3, racc.mono c4, Nat.le_succ_of_le hacc, c5, c6, hlc, fin⟩
            | true =>
              rw [if_pos rfl]
              replace hlc : (match (f e2).data fun y e3 => Res.ok y e3 with | .ok y e3 => lcS vs gf t f (ds.drop (i + 1)) (wipeE e3 vs) (acc ++ [y]) | _ => none) = some (out, e') := hlc
              cases hfd : ((f e2).data fun y e3 => Res.ok y e3 : Res D) with
              | bad => rw [hfd] at hlc; cases hlc
              | exc c ns xs e3 => rw [hfd] at hlc; cases hlc
              | ok y e3 =>
                rw [hfd] at hlc
                have q0 : Post X.K cl args (fun _ _ _ _ => False) (fun G4 H4 A y' e3' => Stp G2 H2 (Own σ3 ea) G4 H4 A ∧ y' = y ∧ e3' = e3) G3 H3 (Own σ3 e2) ((f e2).data fun y e3 => Res.ok y e3) := by
                  rw [hfd]; exact ⟨st4, rfl, rfl⟩
                refine tE_data (fun _ _ _ _ _ _ _ _ st h => ⟨h.1.trans st, h.2⟩) rs4 q0 fun y' v e3' G5 H5 rs5 ex5 rv5 q5 => ?_
                obtain ⟨st5, ey, ee⟩ := q5
                subst ey ee
                obtain ⟨c1, c2, c3, c4, c5, c6⟩ := close rs5 st5
                refine ⟨accv, c2, Nat.lt_of_le_of_lt (by rw [← racc.len]; exact hacc) (Nat.lt_of_lt_of_le hlt (le_line hlen)), hlt, G5, _, acc ++ [y'], accv ++ [v], out, e', ?_, eww _, ex1.trans c4, upd_same, c3, (racc.mono c4).app (RepL.one rv5), by simpa using Nat.succ_le_succ hacc, c5, ?_, hlc, fin⟩
                · exact c1.move (c1.ex.mut c3) (Ex.refl _) fun a h oa ha na => ⟨by
                    rw [upd_ne (fun z => c5 (by rw [← z]; exact oa))]; exact ha, na⟩
                · exact c6.trans ⟨Ex.refl _, fun a o n z => by rw [upd_ne (fun w => n (.inr w))]; exact z, fun a _ _ z => z, fun a z => .inl z⟩
      · have e1 : i = ds.length := by omega
        subst e1
        rw [List.drop_length] at hlc
        unfold lcS at hlc
        injection hlc with hlc; injection hlc with h1 h2; subst h1 h2
        refine .inl ⟨yl.stop H1 (ex1.trans rs1.ex), fin (.ref Dn) G1 H1 ?_ (st1.less fun a z => ?_) ⟨Dn, _, rfl, hDG1, hD1, ⟨accv, rfl, racc⟩, fun z => ?_⟩⟩
        · have := rs1.wiped (σ' := σ) (vs := vs) ww.symm
          rwa [we1] at this
        · rcases z with z | ⟨c, z1, z2⟩
          · rw [← we1] at z
            exact .inl (own_wiped (σ := wipe σ vs) ww.symm z)
          · injection z2 with z2; exact .inr z2.symm
        · rw [← we1] at z
          exact nown (own_wiped (σ := wipe σ vs) ww.symm z)
    · exact q.elim
theorem se_lc (hc : X.calm = true) (hN : X.N.Nodup) (hi : SI cl X tg iter fi) (ok : BlkOk X.N X.env.scope scope own) (hj : ∀ j ∈ js, j ∈ own.map (·.2)) (hg : BlkSG cl X scope tg js gf) (ht : BlkST cl X scope ifs t) (he : BlkSE cl X scope elt f)
    (hs : ∀ x, foldedSetIterable iter X.env x = pure x := by intro _; rfl) : SE cl X (.ListComp elt [⟨tg, iter, ifs, 0⟩] scope pos) (xLc (own.map (·.2)) fi gf t f) := fun W tk =>
  (pe_lc (wi := tI X.K cl W fi) (g := tG X.K cl js gf) (tt := tT X.K cl (fun _ _ _ _ => False) t) (te := tE X.K cl (fun _ _ _ _ => False) f) hc hN (hi W tk) ok (fun s H C cls fp => hg s H C cls fp) (fun s H C cls fp => ht s H C cls fp) (fun s H C cls fp => he.run s H C cls fp _ takes0) hs).impY fun σ H Q h => lc_meets hj (fun _ h => h) h
theorem ss_setLc {i : Nat} {y : Str} (hc : X.calm = true) (hN : X.N.Nodup) (hy : X.N[i]? = some y) (hyl : X.env.scope.names.lookup y = some .local)
    (hsw : swapsWith (.ListComp elt [⟨tg, iter, ifs, 0⟩] scope pos) (some (.Name y py)) spos.line X.env = pure true) (hi : SI cl X tg iter fi) (ok : BlkOk X.N X.env.scope scope own) (hj : ∀ j ∈ js, j ∈ own.map (·.2)) (hg : BlkSG cl X scope tg js gf) (ht : BlkST cl X scope ifs t) (he : BlkSE cl X scope elt f)
    (hs : ∀ x, foldedSetIterable iter X.env x = pure x := by intro _; rfl) : SS cl X (.Assign [.Name y py] (.ListComp elt [⟨tg, iter, ifs, 0⟩] scope pos) spos) (sSet i (xLc (own.map (·.2)) fi gf t f)) := fun W tk =>
  (ps_setLc (wi := tI X.K cl W fi) (g := tG X.K cl js gf) (tt := tT X.K cl (fun _ _ _ _ => False) t) (te := tE X.K cl (fun _ _ _ _ => False) f) hc hN hy hyl hsw (hi W tk) ok (fun s H C cls fp => hg s H C cls fp) (fun s H C cls fp => ht s H C cls fp) (fun s H C cls fp => he.run s H C cls fp _ takes0) hs).impY fun D σ H ⟨args, G, env, rs, q⟩ => by
    exact lc_meets hj (fun _ h => h) (tE_any (W := W) (P := fun v H1 => gName i v σ H1 D.nx) rs q fun r v env1 G1 H1 rs1 st1 x1 q1 => put_ok rs1 st1 x1 q1)
end
end Ya

set_option maxHeartbeats 4000000
/-! own errors over Exception, each with one field -/
namespace Yx
open PySem PySem.W PySem.Calls PyProof.Rows PySem.HandSPX Builtin Builtin.ObjectAttr
abbrev exTail : List Value := [.type "Exception", .type "BaseException", .type "object"]
def refsE : List Value → Bool
  | .ref _ :: r => refsE r
  | l => l == exTail
theorem refsE_cases : ∀ l : List Value, refsE l = true → (∃ c r, l = .ref c :: r ∧ refsE r = true) ∨ l = exTail
  | [], e => .inr (beq_iff_eq.mp e)
  | .ref c :: r, e => .inl ⟨c, r, rfl, e⟩
  | .none :: _, e => .inr (beq_iff_eq.mp e)
  | .ellipsis :: _, e => .inr (beq_iff_eq.mp e)
  | .notImplemented :: _, e => .inr (beq_iff_eq.mp e)
  | .bool _ :: _, e => .inr (beq_iff_eq.mp e)
  | .int _ _ :: _, e => .inr (beq_iff_eq.mp e)
  | .float _ _ :: _, e => .inr (beq_iff_eq.mp e)
  | .str _ _ :: _, e => .inr (beq_iff_eq.mp e)
  | .bytes _ _ :: _, e => .inr (beq_iff_eq.mp e)
  | .type _ :: _, e => .inr (beq_iff_eq.mp e)
  | .builtin _ :: _, e => .inr (beq_iff_eq.mp e)
theorem refsE_pass (self : Value) : ∀ l : List Value, refsE l = true → refuseLoop self "__setattr__" l = pure () := by
  intro l
  induction l with
  | nil => intro e; exact absurd e (by decide)
  | cons a r ih =>
    intro e
    rcases refsE_cases (a :: r) e with ⟨c, r', q, h⟩ | q
    · obtain ⟨rfl, rfl⟩ := List.cons.inj q
      rw [refuseLoop_ref]; exact ih h
    · rw [q]; exact F.store_Exception.passes self
theorem refsE_contains (X : String) : ∀ l : List Value, refsE l = true → l.contains (.type X) = exTail.contains (.type X) := by
  intro l
  induction l with
  | nil => intro e; exact absurd e (by decide)
  | cons a r ih =>
    intro e
    rcases refsE_cases (a :: r) e with ⟨c, r', q, h⟩ | q
    · obtain ⟨rfl, rfl⟩ := List.cons.inj q
      rw [List.contains_cons, ih h]; rfl
    · rw [q]
theorem refsE_ne {l : List Value} (e : refsE l = true) : l.isEmpty = false := by
  cases l with
  | nil => exact absurd e (by decide)
  | cons _ _ => rfl
section
variable {prog : Program} {w : World} {A : Around} {E : Value → Shared → Prop} {R : Result → Shared → Prop} {hp : Heap} {g : Array GenState} {d : Drawn} {t : Nat} {os : OsState}
theorem excE_osa {K : W.Frag} {name : Str} {tk : Tok} {v : Value} {x C : Addr} {fv : Array Value} {cd : ClassData}
    (X : K.In hp) (hx : hp.get? x = some { cls := .ref C, data := .fields fv }) (hcd : W.clsIn K C = some cd) (hm : refsE cd.mro = true) (hh : cd.hasDict = true) (ha : W.findIn K (.ref C) name = some none)
    (hq : ∀ h' tk' dx, (∀ b o, b ≠ x → hp.get? b = some o → h'.get? b = some o) → hp.objs.size ≤ dx → dx ≠ x → h'.get? x = some { cls := .ref C, dict := some dx, data := .fields fv } →
      h'.Ns1 dx (fun y => if y = name then some v else none) → R (.ok (.ret .none)) ⟨h', g, d, tk', os⟩) :
    codeAny (model prog w) A (.call (.builtin "object.__setattr__") ⟨[.ref x, .str name tk, v], []⟩) R ⟨hp, g, d, t, os⟩ := by
  have I : W.InstAt hp x { cls := .ref C, data := .fields fv } C none := ⟨hx, rfl, rfl, trivial⟩
  have SF := F.store_object
  have ne := refsE_ne hm
  have hob : cd.mro.contains (.type "object") = true := (refsE_contains "object" _ hm).trans (by decide +kernel)
  have hxs : x ≠ hp.objs.size := Nat.ne_of_lt (Heap.lt_size hx)
  have sub : W.Looks (model prog w) hp (isInstance (.ref x) (.type "object")) true := I.type.andThen (W.looks_mroIn X (by unfold W.mroIn; rw [hcd, Option.bind_some, if_neg (by rw [ne]; decide), hob]))
  refine codeAny_call_builtin SF.slot.plain SF.entry (@W.check_slot (model prog w) _ _ ⟨hp, g, d, t, os⟩ "object.__setattr__" "object" "__setattr__" (.ref x) [.str name tk, v] [] _ SF.kind SF.split sub (SF.args (.ref x) (.str name tk) v) ?_)
  have hmr : W.Looks (model prog w) hp (mroOf (.ref C)) cd.mro := (W.looks_clsIn X hcd).andThen .now
  have L3 : W.Looks (model prog w) hp (storeTaker? none) none := .now
  have hcls : W.Looks (model prog w) hp (classData C) cd := W.looks_clsIn X hcd
  rw [W.osa_eq, refuse_eq]
  refine wpAny_bind (wpAny_bind (I.type.at (wpAny_bind (hmr.at ?_))))
  rw [refsE_pass _ _ hm]
  refine wpAny_pure (wpAny_bind (I.type.at (wpAny_bind ((W.looks_findIn X ha).at (wpAny_bind (L3.at ?_))))))
  show wpAny _ _ (storeInOwnDict (.ref x) (.ref C) (.str name tk) name v false) _ _ _
  obtain ⟨nm, bs, mro, ns, qn, hd, sn, sb, ab, col, del⟩ := cd
  dsimp only at hh
  subst hh
  unfold storeInOwnDict ownDictForStores
  repeat (first | with_reducible refine store_in_new ?_ ?_ | with_reducible refine wpAny_loadPart_at hx ?_ | with_reducible refine hcls.at ?_ | wp_step)
  · exact ⟨_, #[], _, (Heap.get?_update_ne _ _ _ _ hxs.symm).trans (Heap.get?_push_at rfl rfl), rfl, fun e he => absurd he (by simp), fun _ => rfl⟩
  · intro h' tk' hn' hs
    have hx₁ : (hp.push { cls := .type "dict", data := .dict #[] }).get? x = some { cls := .ref C, data := .fields fv } := Heap.get?_push_of_some _ hx
    refine hq h' tk' hp.objs.size (fun b o hb ho => ?_) (Nat.le_refl _) hxs.symm ?_ hn'
    · exact (hs.2 b (Nat.ne_of_lt (Heap.lt_size ho))).trans ((Heap.get?_update_ne _ _ _ _ hb).trans (Heap.get?_push_of_some _ ho))
    · exact (hs.2 x hxs).trans (Heap.get?_update_self _ hx₁ rfl)
end
/-- what the written part says of the class xn, at C, its __init__ at fI, its one field f -/
structure OwnTxt (K : Frag) (mg : Str → Option Value) (xn : Str) (C fI : Addr) (f : Str) : Prop where
  gC : mg xn = some (.ref C)
  cls : ∃ nm q N bs bm sn sub ab col dd k0 k1 k2 k3 k5, K.lookup C = some (excClassObj nm q C N bs bm true sn sub ab col dd k0 k1 k2 k3 k5 "Exception.__new__") ∧ refsE bm = true
  sa : findIn K (.ref C) "__setattr__" = some (some (.builtin "object.__setattr__"))
  noN : findIn K (.ref C) f = some none
  iC : findIn K (.ref C) "__init__" = some (some (.ref fI))
  tC : typeIn K (.ref fI) = some (.type "function")
  kC : keepIn K (.ref C) = true
  exC : subIn K (.ref C) (.type "BaseException") = some true
  tyC : typeIn K (.ref C) = some (.type "type")
theorem one_size (v : Value) : [v].length ≤ sizeLine := by
  rw [sizeLine_eq]
  exact (by decide : 1 ≤ 16777216)
theorem ldC {M : Model} {s : Shared} {name : Str} {scope : Scope} {L a : Addr} {cd : Value} {m : Str → Option Value} {x : Str} {pos : Pos} {v : Value} {Q : Value → Shared → Prop} {A : Around} {E : Value → Shared → Prop} (hn : s.heap.Ns L m) (hv : m x = some v) (h : Q v s)
    (hk : scope.kind = .function := by rfl) (hl : (envOfC name scope L a cd).kindOf x = some .local := by rfl) (hd : (x == ("__debug__" : Str)) = false := by decide) :
    wpAny M A (eval (.Name x pos) (envOfC name scope L a cd)) Q E s := wpAny_Name (wpAny_loadName_local hk hl hn hv h) hd
structure InitEnd (h h' : Heap) (x C dx t1 : Addr) (f : Str) (v : Value) : Prop where
  keep : ∀ b o, b ≠ x → h.get? b = some o → h'.get? b = some o
  obj : h'.get? x = some { cls := .ref C, dict := some dx, data := .fields #[.ref t1, .none, .none, .none, .bool false, .none] }
  dbig : h.objs.size ≤ dx
  dne : dx ≠ x
  ns : h'.Ns1 dx (fun y => if y = f then some v else none)
structure OwnMade (h h' : Heap) (e C d : Addr) (f : Str) (v : Value) : Prop where
  keep : ∀ b o, h.get? b = some o → h'.get? b = some o
  new : h.objs.size ≤ e
  obj : ∃ oe vs, h'.get? e = some oe ∧ oe.cls = .ref C ∧ oe.dict = some d ∧ oe.data = .fields vs ∧ vs[1]? = some .none
  dbig : h.objs.size ≤ d
  dne : d ≠ e
  ns : h'.Ns1 d (fun y => if y = f then some v else none)
/-- what __init__ does -/
def InitDoes (K : Frag) (C fI : Addr) (f : Str) : Prop := ∀ {prog : Program} {w : World} {A : Around} {R : Result → Shared → Prop} {s : Shared} {x t0 : Addr} {v : Value}, K.In s.heap → s.heap.NoLimit → s.heap.get? x = some (excO C t0) → K.lookup x = none → A.depth < recursionLimit →
    (∀ h' tk dx, InitEnd s.heap h' x C dx t0 f v → R (.ok (.ret .none)) { s with heap := h', toks := tk }) → codeAny (model prog w) A (.call (.ref fI) ⟨[.ref x, v], []⟩) R s
theorem own_made {prog : Program} {w : World} {A : Around} {R : Result → Shared → Prop} {s : Shared} {K : Frag} {mg : Str → Option Value} {C fI : Addr} {xn f : Str} (T : OwnTxt K mg xn C fI f) (hI : InitDoes K C fI f) {v : Value} (X : K.In s.heap) (hlim : s.heap.NoLimit) (hroom : A.depth + 1 < recursionLimit)
    (hq : ∀ h' tk e d, OwnMade s.heap h' e C d f v → R (.ok (.ret (.ref e))) { s with heap := h', toks := tk }) :
    codeAny (model prog w) A (.call (.ref C) ⟨[v], []⟩) R s := by
  obtain ⟨nm, q, N, bs, bm, sn, sub, ab, col, dd, k0, k1, k2, k3, k5, hC, hbm⟩ := T.cls
  obtain ⟨hp, g, dr, tk, os⟩ := s
  have k : ∀ b o, hp.get? b = some o → ((hp.push (kdv_tup [v])).push (excO C hp.objs.size)).get? b = some o := fun b o e => Heap.get?_push_of_some _ (Heap.get?_push_of_some _ e)
  have hget : ((hp.push (kdv_tup [v])).push (excO C hp.objs.size)).get? (hp.objs.size + 1) = some (excO C hp.objs.size) := by heap_get
  have hnx : K.lookup (hp.objs.size + 1) = none := by
    cases e : K.lookup (hp.objs.size + 1) with
    | none => rfl
    | some o =>
      have z : hp.get? (hp.objs.size + 1) = some o := X _ _ e
      exact absurd (Nat.lt_of_succ_lt (Heap.lt_size z)) (Nat.lt_irrefl _)
  refine call_own F.excBase_Exception (fun X => refsE_contains X bm hbm) (X _ _ hC) (looks_findIn X T.iC) (fun self => bind_fn X self T.tC) (one_size v) ?_
  refine hI (s := ⟨(hp.push (kdv_tup [v])).push (excO C hp.objs.size), g, dr, tk, os⟩) (X.keeps k) (hlim.keeps k) hget hnx ?_ fun h' tk' dx ⟨k', hx, dn, dne, hns⟩ => ?_
  · show A.depth + 1 < recursionLimit
    exact hroom
  · have old : ∀ b o, hp.get? b = some o → h'.get? b = some o := fun b o e => k' b o (Nat.ne_of_lt (Nat.lt_succ_of_lt (Heap.lt_size e))) (k b o e)
    have z : hp.objs.size + 1 + 1 ≤ dx := by
      first
        | (simpa only [Heap.size_push] using dn)
        | exact dn
        | (have q := dn; rw [Heap.size_push, Heap.size_push] at q; exact q)
    exact ⟨rfl, hq h' tk' (hp.objs.size + 1) dx ⟨old, Nat.le_succ _, ⟨_, _, hx, rfl, rfl, rfl, rfl⟩, Nat.le_trans (Nat.le_trans (Nat.le_succ _) (Nat.le_succ _)) z, dne, hns⟩⟩


/-! an own error with the field place -/
def iA_place (p1 p2 : Pos) : Arguments := { posonlyargs := [], args := [{ arg := "self", annotation := none, pos := p1 }, { arg := "place", annotation := none, pos := p2 }], vararg := none, kwonlyargs := [], kw_defaults := [], kwarg := none, defaults := [] }
def iB_place (q1 q2 q3 q4 : Pos) : List Stmt := [.Assign [.Attribute (.Name "self" q1) "place" q2] (.Name "place" q3) q4]
def iS_place : Scope := { kind := .function, names := [(PySem.Str.ofString "self", .local), (PySem.Str.ofString "place", .local)], isGenerator := false, isCoroutine := false, more := [] }
structure Fn_place (K : Frag) (qual : Str) (fI : Addr) : Prop where
  fn : ∃ (oc : Value) (od : Option Addr) (kV doc pm : Value) (an : Option Addr) (cdv ct : Value) (osl : Array (Option Value)) (p1 p2 q1 q2 q3 q4 : Pos),
    K.lookup fI = some ⟨oc, od, .func (fnOf "__init__" qual (iA_place p1 p2) (iB_place q1 q2 q3 q4) iS_place .none kV doc pm an cdv ct), osl⟩ ∧ codeIn K cdv qual = true
theorem init_place {prog : Program} {w : World} {A : Around} {R : Result → Shared → Prop} {s : Shared} {K : Frag} {mg : Str → Option Value} {C fI : Addr} {xn qual : Str} (T : OwnTxt K mg xn C fI "place") (F : Fn_place K qual fI) {x t0 : Addr} {v : Value} (X : K.In s.heap) (hlim : s.heap.NoLimit) (hx : s.heap.get? x = some (excO C t0)) (hnx : K.lookup x = none) (hroom : A.depth < recursionLimit)
    (hq : ∀ h' tk dx, InitEnd s.heap h' x C dx t0 "place" v → R (.ok (.ret .none)) { s with heap := h', toks := tk }) :
    codeAny (model prog w) A (.call (.ref fI) ⟨[.ref x, v], []⟩) R s := by
  obtain ⟨oc, od, kV, doc, pm, an, cdv, ct, osl, p1, p2, q1, q2, q3, q4, ho, hcd⟩ := F.fn
  obtain ⟨nm, q, N, bs, bm, sn, sub, ab, col, dd, k0, k1, k2, k3, k5, hC, hbm⟩ := T.cls
  have hcl : clsIn K C = some { name := nm, bases := bs, mro := .ref C :: bm, ns := N, qualname := q, hasDict := true, slotNames := sn, subclasses := sub, abstract := ab, collection := col, hasDel := false } := by unfold clsIn; rw [hC] <;> rfl
  refine Att.call_fn (binds := [("self", .ref x), ("place", v)]) X hlim ho hcd hroom (BindsTo.of_eq (by first | rfl | with_unfolding_all rfl)) (by first | rfl | decide | with_unfolding_all rfl) (fun s₁ IC => ?_) rfl rfl rfl
  obtain ⟨h₁, tk₁, rfl⟩ := IC.toInCall.same
  have k : ∀ b o, s.heap.get? b = some o → h₁.get? b = some o := IC.toInCall.keep
  have hn := IC.toInCall.ns
  have hxL : s.heap.objs.size ≠ x := Nat.ne_of_gt (Heap.lt_size hx)
  have X₁ : K.In h₁ := X.keeps k
  have hx₁ := k _ _ hx
  show wpAny _ _ (execs _ _) _ _ _
  refine wpAny_execs_cons (plainObj_wpAny_Assign_Attribute ?_)
  refine ldC (v := v) hn (by first | rfl | with_unfolding_all rfl | kernel_rfl) (ldC (v := .ref x) hn (by first | rfl | with_unfolding_all rfl | kernel_rfl) ?_)
  refine set_plain X₁ (ox := excO C t0) (od := none) ⟨hx₁, rfl, rfl, trivial⟩ T.sa ?_
  refine excE_osa X₁ hx₁ hcl (show refsE (.ref C :: bm) = true from hbm) rfl T.noN (fun h₃ tk₃ dx k₃ dn dne hx₃ hn₃ => ?_)
  show wpAny _ _ (execs _ _) _ _ _
  have z : s.heap.objs.size < h₁.objs.size := hn.lt
  exact wpAny_execs_nil (hq h₃ tk₃ dx ⟨fun b o hb e => k₃ b o hb (k b o e), hx₃, Nat.le_of_lt (Nat.lt_of_lt_of_le z dn), dne, hn₃⟩)
theorem does_place {K : Frag} {mg : Str → Option Value} {C fI : Addr} {xn qual : Str} (T : OwnTxt K mg xn C fI "place") (F : Fn_place K qual fI) : InitDoes K C fI "place" := fun X hlim hx hnx hroom hq => init_place T F X hlim hx hnx hroom hq

/-! an own error with the field limit -/
def iA_limit (p1 p2 : Pos) : Arguments := { posonlyargs := [], args := [{ arg := "self", annotation := none, pos := p1 }, { arg := "limit", annotation := none, pos := p2 }], vararg := none, kwonlyargs := [], kw_defaults := [], kwarg := none, defaults := [] }
def iB_limit (q1 q2 q3 q4 : Pos) : List Stmt := [.Assign [.Attribute (.Name "self" q1) "limit" q2] (.Name "limit" q3) q4]
def iS_limit : Scope := { kind := .function, names := [(PySem.Str.ofString "self", .local), (PySem.Str.ofString "limit", .local)], isGenerator := false, isCoroutine := false, more := [] }
structure Fn_limit (K : Frag) (qual : Str) (fI : Addr) : Prop where
  fn : ∃ (oc : Value) (od : Option Addr) (kV doc pm : Value) (an : Option Addr) (cdv ct : Value) (osl : Array (Option Value)) (p1 p2 q1 q2 q3 q4 : Pos),
    K.lookup fI = some ⟨oc, od, .func (fnOf "__init__" qual (iA_limit p1 p2) (iB_limit q1 q2 q3 q4) iS_limit .none kV doc pm an cdv ct), osl⟩ ∧ codeIn K cdv qual = true
theorem init_limit {prog : Program} {w : World} {A : Around} {R : Result → Shared → Prop} {s : Shared} {K : Frag} {mg : Str → Option Value} {C fI : Addr} {xn qual : Str} (T : OwnTxt K mg xn C fI "limit") (F : Fn_limit K qual fI) {x t0 : Addr} {v : Value} (X : K.In s.heap) (hlim : s.heap.NoLimit) (hx : s.heap.get? x = some (excO C t0)) (hnx : K.lookup x = none) (hroom : A.depth < recursionLimit)
    (hq : ∀ h' tk dx, InitEnd s.heap h' x C dx t0 "limit" v → R (.ok (.ret .none)) { s with heap := h', toks := tk }) :
    codeAny (model prog w) A (.call (.ref fI) ⟨[.ref x, v], []⟩) R s := by
  obtain ⟨oc, od, kV, doc, pm, an, cdv, ct, osl, p1, p2, q1, q2, q3, q4, ho, hcd⟩ := F.fn
  obtain ⟨nm, q, N, bs, bm, sn, sub, ab, col, dd, k0, k1, k2, k3, k5, hC, hbm⟩ := T.cls
  have hcl : clsIn K C = some { name := nm, bases := bs, mro := .ref C :: bm, ns := N, qualname := q, hasDict := true, slotNames := sn, subclasses := sub, abstract := ab, collection := col, hasDel := false } := by unfold clsIn; rw [hC] <;> rfl
  refine Att.call_fn (binds := [("self", .ref x), ("limit", v)]) X hlim ho hcd hroom (BindsTo.of_eq (by first | rfl | with_unfolding_all rfl)) (by first | rfl | decide | with_unfolding_all rfl) (fun s₁ IC => ?_) rfl rfl rfl
  obtain ⟨h₁, tk₁, rfl⟩ := IC.toInCall.same
  have k : ∀ b o, s.heap.get? b = some o → h₁.get? b = some o := IC.toInCall.keep
  have hn := IC.toInCall.ns
  have hxL : s.heap.objs.size ≠ x := Nat.ne_of_gt (Heap.lt_size hx)
  have X₁ : K.In h₁ := X.keeps k
  have hx₁ := k _ _ hx
  show wpAny _ _ (execs _ _) _ _ _
  refine wpAny_execs_cons (plainObj_wpAny_Assign_Attribute ?_)
  refine ldC (v := v) hn (by first | rfl | with_unfolding_all rfl | kernel_rfl) (ldC (v := .ref x) hn (by first | rfl | with_unfolding_all rfl | kernel_rfl) ?_)
  refine set_plain X₁ (ox := excO C t0) (od := none) ⟨hx₁, rfl, rfl, trivial⟩ T.sa ?_
  refine excE_osa X₁ hx₁ hcl (show refsE (.ref C :: bm) = true from hbm) rfl T.noN (fun h₃ tk₃ dx k₃ dn dne hx₃ hn₃ => ?_)
  show wpAny _ _ (execs _ _) _ _ _
  have z : s.heap.objs.size < h₁.objs.size := hn.lt
  exact wpAny_execs_nil (hq h₃ tk₃ dx ⟨fun b o hb e => k₃ b o hb (k b o e), hx₃, Nat.le_of_lt (Nat.lt_of_lt_of_le z dn), dne, hn₃⟩)
theorem does_limit {K : Frag} {mg : Str → Option Value} {C fI : Addr} {xn qual : Str} (T : OwnTxt K mg xn C fI "limit") (F : Fn_limit K qual fI) : InitDoes K C fI "limit" := fun X hlim hx hnx hroom hq => init_limit T F X hlim hx hnx hroom hq

/-! an own error with the field size -/
def iA_size (p1 p2 : Pos) : Arguments := { posonlyargs := [], args := [{ arg := "self", annotation := none, pos := p1 }, { arg := "size", annotation := none, pos := p2 }], vararg := none, kwonlyargs := [], kw_defaults := [], kwarg := none, defaults := [] }
def iB_size (q1 q2 q3 q4 : Pos) : List Stmt := [.Assign [.Attribute (.Name "self" q1) "size" q2] (.Name "size" q3) q4]
def iS_size : Scope := { kind := .function, names := [(PySem.Str.ofString "self", .local), (PySem.Str.ofString "size", .local)], isGenerator := false, isCoroutine := false, more := [] }
structure Fn_size (K : Frag) (qual : Str) (fI : Addr) : Prop where
  fn : ∃ (oc : Value) (od : Option Addr) (kV doc pm : Value) (an : Option Addr) (cdv ct : Value) (osl : Array (Option Value)) (p1 p2 q1 q2 q3 q4 : Pos),
    K.lookup fI = some ⟨oc, od, .func (fnOf "__init__" qual (iA_size p1 p2) (iB_size q1 q2 q3 q4) iS_size .none kV doc pm an cdv ct), osl⟩ ∧ codeIn K cdv qual = true
theorem init_size {prog : Program} {w : World} {A : Around} {R : Result → Shared → Prop} {s : Shared} {K : Frag} {mg : Str → Option Value} {C fI : Addr} {xn qual : Str} (T : OwnTxt K mg xn C fI "size") (F : Fn_size K qual fI) {x t0 : Addr} {v : Value} (X : K.In s.heap) (hlim : s.heap.NoLimit) (hx : s.heap.get? x = some (excO C t0)) (hnx : K.lookup x = none) (hroom : A.depth < recursionLimit)
    (hq : ∀ h' tk dx, InitEnd s.heap h' x C dx t0 "size" v → R (.ok (.ret .none)) { s with heap := h', toks := tk }) :
    codeAny (model prog w) A (.call (.ref fI) ⟨[.ref x, v], []⟩) R s := by
  obtain ⟨oc, od, kV, doc, pm, an, cdv, ct, osl, p1, p2, q1, q2, q3, q4, ho, hcd⟩ := F.fn
  obtain ⟨nm, q, N, bs, bm, sn, sub, ab, col, dd, k0, k1, k2, k3, k5, hC, hbm⟩ := T.cls
  have hcl : clsIn K C = some { name := nm, bases := bs, mro := .ref C :: bm, ns := N, qualname := q, hasDict := true, slotNames := sn, subclasses := sub, abstract := ab, collection := col, hasDel := false } := by unfold clsIn; rw [hC] <;> rfl
  refine Att.call_fn (binds := [("self", .ref x), ("size", v)]) X hlim ho hcd hroom (BindsTo.of_eq (by first | rfl | with_unfolding_all rfl)) (by first | rfl | decide | with_unfolding_all rfl) (fun s₁ IC => ?_) rfl rfl rfl
  obtain ⟨h₁, tk₁, rfl⟩ := IC.toInCall.same
  have k : ∀ b o, s.heap.get? b = some o → h₁.get? b = some o := IC.toInCall.keep
  have hn := IC.toInCall.ns
  have hxL : s.heap.objs.size ≠ x := Nat.ne_of_gt (Heap.lt_size hx)
  have X₁ : K.In h₁ := X.keeps k
  have hx₁ := k _ _ hx
  show wpAny _ _ (execs _ _) _ _ _
  refine wpAny_execs_cons (plainObj_wpAny_Assign_Attribute ?_)
  refine ldC (v := v) hn (by first | rfl | with_unfolding_all rfl | kernel_rfl) (ldC (v := .ref x) hn (by first | rfl | with_unfolding_all rfl | kernel_rfl) ?_)
  refine set_plain X₁ (ox := excO C t0) (od := none) ⟨hx₁, rfl, rfl, trivial⟩ T.sa ?_
  refine excE_osa X₁ hx₁ hcl (show refsE (.ref C :: bm) = true from hbm) rfl T.noN (fun h₃ tk₃ dx k₃ dn dne hx₃ hn₃ => ?_)
  show wpAny _ _ (execs _ _) _ _ _
  have z : s.heap.objs.size < h₁.objs.size := hn.lt
  exact wpAny_execs_nil (hq h₃ tk₃ dx ⟨fun b o hb e => k₃ b o hb (k b o e), hx₃, Nat.le_of_lt (Nat.lt_of_lt_of_le z dn), dne, hn₃⟩)
theorem does_size {K : Frag} {mg : Str → Option Value} {C fI : Addr} {xn qual : Str} (T : OwnTxt K mg xn C fI "size") (F : Fn_size K qual fI) : InitDoes K C fI "size" := fun X hlim hx hnx hroom hq => init_size T F X hlim hx hnx hroom hq

/-! an own error with the field entry -/
def iA_entry (p1 p2 : Pos) : Arguments := { posonlyargs := [], args := [{ arg := "self", annotation := none, pos := p1 }, { arg := "entry", annotation := none, pos := p2 }], vararg := none, kwonlyargs := [], kw_defaults := [], kwarg := none, defaults := [] }
def iB_entry (q1 q2 q3 q4 : Pos) : List Stmt := [.Assign [.Attribute (.Name "self" q1) "entry" q2] (.Name "entry" q3) q4]
def iS_entry : Scope := { kind := .function, names := [(PySem.Str.ofString "self", .local), (PySem.Str.ofString "entry", .local)], isGenerator := false, isCoroutine := false, more := [] }
structure Fn_entry (K : Frag) (qual : Str) (fI : Addr) : Prop where
  fn : ∃ (oc : Value) (od : Option Addr) (kV doc pm : Value) (an : Option Addr) (cdv ct : Value) (osl : Array (Option Value)) (p1 p2 q1 q2 q3 q4 : Pos),
    K.lookup fI = some ⟨oc, od, .func (fnOf "__init__" qual (iA_entry p1 p2) (iB_entry q1 q2 q3 q4) iS_entry .none kV doc pm an cdv ct), osl⟩ ∧ codeIn K cdv qual = true
theorem init_entry {prog : Program} {w : World} {A : Around} {R : Result → Shared → Prop} {s : Shared} {K : Frag} {mg : Str → Option Value} {C fI : Addr} {xn qual : Str} (T : OwnTxt K mg xn C fI "entry") (F : Fn_entry K qual fI) {x t0 : Addr} {v : Value} (X : K.In s.heap) (hlim : s.heap.NoLimit) (hx : s.heap.get? x = some (excO C t0)) (hnx : K.lookup x = none) (hroom : A.depth < recursionLimit)
    (hq : ∀ h' tk dx, InitEnd s.heap h' x C dx t0 "entry" v → R (.ok (.ret .none)) { s with heap := h', toks := tk }) :
    codeAny (model prog w) A (.call (.ref fI) ⟨[.ref x, v], []⟩) R s := by
  obtain ⟨oc, od, kV, doc, pm, an, cdv, ct, osl, p1, p2, q1, q2, q3, q4, ho, hcd⟩ := F.fn
  obtain ⟨nm, q, N, bs, bm, sn, sub, ab, col, dd, k0, k1, k2, k3, k5, hC, hbm⟩ := T.cls
  have hcl : clsIn K C = some { name := nm, bases := bs, mro := .ref C :: bm, ns := N, qualname := q, hasDict := true, slotNames := sn, subclasses := sub, abstract := ab, collection := col, hasDel := false } := by unfold clsIn; rw [hC] <;> rfl
  refine Att.call_fn (binds := [("self", .ref x), ("entry", v)]) X hlim ho hcd hroom (BindsTo.of_eq (by first | rfl | with_unfolding_all rfl)) (by first | rfl | decide | with_unfolding_all rfl) (fun s₁ IC => ?_) rfl rfl rfl
  obtain ⟨h₁, tk₁, rfl⟩ := IC.toInCall.same
  have k : ∀ b o, s.heap.get? b = some o → h₁.get? b = some o := IC.toInCall.keep
  have hn := IC.toInCall.ns
  have hxL : s.heap.objs.size ≠ x := Nat.ne_of_gt (Heap.lt_size hx)
  have X₁ : K.In h₁ := X.keeps k
  have hx₁ := k _ _ hx
  show wpAny _ _ (execs _ _) _ _ _
  refine wpAny_execs_cons (plainObj_wpAny_Assign_Attribute ?_)
  refine ldC (v := v) hn (by first | rfl | with_unfolding_all rfl | kernel_rfl) (ldC (v := .ref x) hn (by first | rfl | with_unfolding_all rfl | kernel_rfl) ?_)
  refine set_plain X₁ (ox := excO C t0) (od := none) ⟨hx₁, rfl, rfl, trivial⟩ T.sa ?_
  refine excE_osa X₁ hx₁ hcl (show refsE (.ref C :: bm) = true from hbm) rfl T.noN (fun h₃ tk₃ dx k₃ dn dne hx₃ hn₃ => ?_)
  show wpAny _ _ (execs _ _) _ _ _
  have z : s.heap.objs.size < h₁.objs.size := hn.lt
  exact wpAny_execs_nil (hq h₃ tk₃ dx ⟨fun b o hb e => k₃ b o hb (k b o e), hx₃, Nat.le_of_lt (Nat.lt_of_lt_of_le z dn), dne, hn₃⟩)
theorem does_entry {K : Frag} {mg : Str → Option Value} {C fI : Addr} {xn qual : Str} (T : OwnTxt K mg xn C fI "entry") (F : Fn_entry K qual fI) : InitDoes K C fI "entry" := fun X hlim hx hnx hroom hq => init_entry T F X hlim hx hnx hroom hq

/-! an own error with the field switch -/
def iA_switch (p1 p2 : Pos) : Arguments := { posonlyargs := [], args := [{ arg := "self", annotation := none, pos := p1 }, { arg := "switch", annotation := none, pos := p2 }], vararg := none, kwonlyargs := [], kw_defaults := [], kwarg := none, defaults := [] }
def iB_switch (q1 q2 q3 q4 : Pos) : List Stmt := [.Assign [.Attribute (.Name "self" q1) "switch" q2] (.Name "switch" q3) q4]
def iS_switch : Scope := { kind := .function, names := [(PySem.Str.ofString "self", .local), (PySem.Str.ofString "switch", .local)], isGenerator := false, isCoroutine := false, more := [] }
structure Fn_switch (K : Frag) (qual : Str) (fI : Addr) : Prop where
  fn : ∃ (oc : Value) (od : Option Addr) (kV doc pm : Value) (an : Option Addr) (cdv ct : Value) (osl : Array (Option Value)) (p1 p2 q1 q2 q3 q4 : Pos),
    K.lookup fI = some ⟨oc, od, .func (fnOf "__init__" qual (iA_switch p1 p2) (iB_switch q1 q2 q3 q4) iS_switch .none kV doc pm an cdv ct), osl⟩ ∧ codeIn K cdv qual = true
theorem init_switch {prog : Program} {w : World} {A : Around} {R : Result → Shared → Prop} {s : Shared} {K : Frag} {mg : Str → Option Value} {C fI : Addr} {xn qual : Str} (T : OwnTxt K mg xn C fI "switch") (F : Fn_switch K qual fI) {x t0 : Addr} {v : Value} (X : K.In s.heap) (hlim : s.heap.NoLimit) (hx : s.heap.get? x = some (excO C t0)) (hnx : K.lookup x = none) (hroom : A.depth < recursionLimit)
    (hq : ∀ h' tk dx, InitEnd s.heap h' x C dx t0 "switch" v → R (.ok (.ret .none)) { s with heap := h', toks := tk }) :
    codeAny (model prog w) A (.call (.ref fI) ⟨[.ref x, v], []⟩) R s := by
  obtain ⟨oc, od, kV, doc, pm, an, cdv, ct, osl, p1, p2, q1, q2, q3, q4, ho, hcd⟩ := F.fn
  obtain ⟨nm, q, N, bs, bm, sn, sub, ab, col, dd, k0, k1, k2, k3, k5, hC, hbm⟩ := T.cls
  have hcl : clsIn K C = some { name := nm, bases := bs, mro := .ref C :: bm, ns := N, qualname := q, hasDict := true, slotNames := sn, subclasses := sub, abstract := ab, collection := col, hasDel := false } := by unfold clsIn; rw [hC] <;> rfl
  refine Att.call_fn (binds := [("self", .ref x), ("switch", v)]) X hlim ho hcd hroom (BindsTo.of_eq (by first | rfl | with_unfolding_all rfl)) (by first | rfl | decide | with_unfolding_all rfl) (fun s₁ IC => ?_) rfl rfl rfl
  obtain ⟨h₁, tk₁, rfl⟩ := IC.toInCall.same
  have k : ∀ b o, s.heap.get? b = some o → h₁.get? b = some o := IC.toInCall.keep
  have hn := IC.toInCall.ns
  have hxL : s.heap.objs.size ≠ x := Nat.ne_of_gt (Heap.lt_size hx)
  have X₁ : K.In h₁ := X.keeps k
  have hx₁ := k _ _ hx
  show wpAny _ _ (execs _ _) _ _ _
  refine wpAny_execs_cons (plainObj_wpAny_Assign_Attribute ?_)
  refine ldC (v := v) hn (by first | rfl | with_unfolding_all rfl | kernel_rfl) (ldC (v := .ref x) hn (by first | rfl | with_unfolding_all rfl | kernel_rfl) ?_)
  refine set_plain X₁ (ox := excO C t0) (od := none) ⟨hx₁, rfl, rfl, trivial⟩ T.sa ?_
  refine excE_osa X₁ hx₁ hcl (show refsE (.ref C :: bm) = true from hbm) rfl T.noN (fun h₃ tk₃ dx k₃ dn dne hx₃ hn₃ => ?_)
  show wpAny _ _ (execs _ _) _ _ _
  have z : s.heap.objs.size < h₁.objs.size := hn.lt
  exact wpAny_execs_nil (hq h₃ tk₃ dx ⟨fun b o hb e => k₃ b o hb (k b o e), hx₃, Nat.le_of_lt (Nat.lt_of_lt_of_le z dn), dne, hn₃⟩)
theorem does_switch {K : Frag} {mg : Str → Option Value} {C fI : Addr} {xn qual : Str} (T : OwnTxt K mg xn C fI "switch") (F : Fn_switch K qual fI) : InitDoes K C fI "switch" := fun X hlim hx hnx hroom hq => init_switch T F X hlim hx hnx hroom hq

/-! an own error with the field word -/
def iA_word (p1 p2 : Pos) : Arguments := { posonlyargs := [], args := [{ arg := "self", annotation := none, pos := p1 }, { arg := "word", annotation := none, pos := p2 }], vararg := none, kwonlyargs := [], kw_defaults := [], kwarg := none, defaults := [] }
def iB_word (q1 q2 q3 q4 : Pos) : List Stmt := [.Assign [.Attribute (.Name "self" q1) "word" q2] (.Name "word" q3) q4]
def iS_word : Scope := { kind := .function, names := [(PySem.Str.ofString "self", .local), (PySem.Str.ofString "word", .local)], isGenerator := false, isCoroutine := false, more := [] }
structure Fn_word (K : Frag) (qual : Str) (fI : Addr) : Prop where
  fn : ∃ (oc : Value) (od : Option Addr) (kV doc pm : Value) (an : Option Addr) (cdv ct : Value) (osl : Array (Option Value)) (p1 p2 q1 q2 q3 q4 : Pos),
    K.lookup fI = some ⟨oc, od, .func (fnOf "__init__" qual (iA_word p1 p2) (iB_word q1 q2 q3 q4) iS_word .none kV doc pm an cdv ct), osl⟩ ∧ codeIn K cdv qual = true
theorem init_word {prog : Program} {w : World} {A : Around} {R : Result → Shared → Prop} {s : Shared} {K : Frag} {mg : Str → Option Value} {C fI : Addr} {xn qual : Str} (T : OwnTxt K mg xn C fI "word") (F : Fn_word K qual fI) {x t0 : Addr} {v : Value} (X : K.In s.heap) (hlim : s.heap.NoLimit) (hx : s.heap.get? x = some (excO C t0)) (hnx : K.lookup x = none) (hroom : A.depth < recursionLimit)
    (hq : ∀ h' tk dx, InitEnd s.heap h' x C dx t0 "word" v → R (.ok (.ret .none)) { s with heap := h', toks := tk }) :
    codeAny (model prog w) A (.call (.ref fI) ⟨[.ref x, v], []⟩) R s := by
  obtain ⟨oc, od, kV, doc, pm, an, cdv, ct, osl, p1, p2, q1, q2, q3, q4, ho, hcd⟩ := F.fn
  obtain ⟨nm, q, N, bs, bm, sn, sub, ab, col, dd, k0, k1, k2, k3, k5, hC, hbm⟩ := T.cls
  have hcl : clsIn K C = some { name := nm, bases := bs, mro := .ref C :: bm, ns := N, qualname := q, hasDict := true, slotNames := sn, subclasses := sub, abstract := ab, collection := col, hasDel := false } := by unfold clsIn; rw [hC] <;> rfl
  refine Att.call_fn (binds := [("self", .ref x), ("word", v)]) X hlim ho hcd hroom (BindsTo.of_eq (by first | rfl | with_unfolding_all rfl)) (by first | rfl | decide | with_unfolding_all rfl) (fun s₁ IC => ?_) rfl rfl rfl
  obtain ⟨h₁, tk₁, rfl⟩ := IC.toInCall.same
  have k : ∀ b o, s.heap.get? b = some o → h₁.get? b = some o := IC.toInCall.keep
  have hn := IC.toInCall.ns
  have hxL : s.heap.objs.size ≠ x := Nat.ne_of_gt (Heap.lt_size hx)
  have X₁ : K.In h₁ := X.keeps k
  have hx₁ := k _ _ hx
  show wpAny _ _ (execs _ _) _ _ _
  refine wpAny_execs_cons (plainObj_wpAny_Assign_Attribute ?_)
  refine ldC (v := v) hn (by first | rfl | with_unfolding_all rfl | kernel_rfl) (ldC (v := .ref x) hn (by first | rfl | with_unfolding_all rfl | kernel_rfl) ?_)
  refine set_plain X₁ (ox := excO C t0) (od := none) ⟨hx₁, rfl, rfl, trivial⟩ T.sa ?_
  refine excE_osa X₁ hx₁ hcl (show refsE (.ref C :: bm) = true from hbm) rfl T.noN (fun h₃ tk₃ dx k₃ dn dne hx₃ hn₃ => ?_)
  show wpAny _ _ (execs _ _) _ _ _
  have z : s.heap.objs.size < h₁.objs.size := hn.lt
  exact wpAny_execs_nil (hq h₃ tk₃ dx ⟨fun b o hb e => k₃ b o hb (k b o e), hx₃, Nat.le_of_lt (Nat.lt_of_lt_of_le z dn), dne, hn₃⟩)
theorem does_word {K : Frag} {mg : Str → Option Value} {C fI : Addr} {xn qual : Str} (T : OwnTxt K mg xn C fI "word") (F : Fn_word K qual fI) : InitDoes K C fI "word" := fun X hlim hx hnx hroom hq => init_word T F X hlim hx hnx hroom hq

theorem fn_place_of {K : Frag} {qual : Str} {st : Stmt} {fI : Addr} {fd : FuncData} {p1 p2 q1 q2 q3 q4 : Pos} (F : L2.Fun K "__init__" qual st fI fd) (h1 : L2.defArgs st = iA_place p1 p2) (h2 : L2.defBody st = iB_place q1 q2 q3 q4) (h3 : L2.defScope st = iS_place) : Fn_place K qual fI := by
  obtain ⟨oc, od, kV, doc, pm, an, cdv, ct, osl, rfl, lk, hcd⟩ := F.ex
  rw [h1, h2, h3] at lk
  exact ⟨oc, od, kV, doc, pm, an, cdv, ct, osl, p1, p2, q1, q2, q3, q4, lk, hcd⟩
theorem fn_limit_of {K : Frag} {qual : Str} {st : Stmt} {fI : Addr} {fd : FuncData} {p1 p2 q1 q2 q3 q4 : Pos} (F : L2.Fun K "__init__" qual st fI fd) (h1 : L2.defArgs st = iA_limit p1 p2) (h2 : L2.defBody st = iB_limit q1 q2 q3 q4) (h3 : L2.defScope st = iS_limit) : Fn_limit K qual fI := by
  obtain ⟨oc, od, kV, doc, pm, an, cdv, ct, osl, rfl, lk, hcd⟩ := F.ex
  rw [h1, h2, h3] at lk
  exact ⟨oc, od, kV, doc, pm, an, cdv, ct, osl, p1, p2, q1, q2, q3, q4, lk, hcd⟩
theorem fn_size_of {K : Frag} {qual : Str} {st : Stmt} {fI : Addr} {fd : FuncData} {p1 p2 q1 q2 q3 q4 : Pos} (F : L2.Fun K "__init__" qual st fI fd) (h1 : L2.defArgs st = iA_size p1 p2) (h2 : L2.defBody st = iB_size q1 q2 q3 q4) (h3 : L2.defScope st = iS_size) : Fn_size K qual fI := by
  obtain ⟨oc, od, kV, doc, pm, an, cdv, ct, osl, rfl, lk, hcd⟩ := F.ex
  rw [h1, h2, h3] at lk
  exact ⟨oc, od, kV, doc, pm, an, cdv, ct, osl, p1, p2, q1, q2, q3, q4, lk, hcd⟩
theorem fn_entry_of {K : Frag} {qual : Str} {st : Stmt} {fI : Addr} {fd : FuncData} {p1 p2 q1 q2 q3 q4 : Pos} (F : L2.Fun K "__init__" qual st fI fd) (h1 : L2.defArgs st = iA_entry p1 p2) (h2 : L2.defBody st = iB_entry q1 q2 q3 q4) (h3 : L2.defScope st = iS_entry) : Fn_entry K qual fI := by
  obtain ⟨oc, od, kV, doc, pm, an, cdv, ct, osl, rfl, lk, hcd⟩ := F.ex
  rw [h1, h2, h3] at lk
  exact ⟨oc, od, kV, doc, pm, an, cdv, ct, osl, p1, p2, q1, q2, q3, q4, lk, hcd⟩
theorem fn_switch_of {K : Frag} {qual : Str} {st : Stmt} {fI : Addr} {fd : FuncData} {p1 p2 q1 q2 q3 q4 : Pos} (F : L2.Fun K "__init__" qual st fI fd) (h1 : L2.defArgs st = iA_switch p1 p2) (h2 : L2.defBody st = iB_switch q1 q2 q3 q4) (h3 : L2.defScope st = iS_switch) : Fn_switch K qual fI := by
  obtain ⟨oc, od, kV, doc, pm, an, cdv, ct, osl, rfl, lk, hcd⟩ := F.ex
  rw [h1, h2, h3] at lk
  exact ⟨oc, od, kV, doc, pm, an, cdv, ct, osl, p1, p2, q1, q2, q3, q4, lk, hcd⟩
theorem fn_word_of {K : Frag} {qual : Str} {st : Stmt} {fI : Addr} {fd : FuncData} {p1 p2 q1 q2 q3 q4 : Pos} (F : L2.Fun K "__init__" qual st fI fd) (h1 : L2.defArgs st = iA_word p1 p2) (h2 : L2.defBody st = iB_word q1 q2 q3 q4) (h3 : L2.defScope st = iS_word) : Fn_word K qual fI := by
  obtain ⟨oc, od, kV, doc, pm, an, cdv, ct, osl, rfl, lk, hcd⟩ := F.ex
  rw [h1, h2, h3] at lk
  exact ⟨oc, od, kV, doc, pm, an, cdv, ct, osl, p1, p2, q1, q2, q3, q4, lk, hcd⟩
end Yx
namespace Ya
open PySem PySem.Spec PyProof.Rows L2
theorem relO_own {v : V} {v' : Value} {n : Str} (r : RelV v v') (f : Str) : RelO (List.lookup f [(n, v)]) (if f = n then some v' else none) := by
  by_cases hw : f = n
  · subst hw
    rw [if_pos rfl]
    have q : List.lookup f [(f, v)] = some v := by simp [List.lookup]
    rw [q]
    exact r
  · rw [if_neg hw]
    have qw : (f == n) = false := by simpa using hw
    have q2 : List.lookup f [(n, v)] = none := by simp [List.lookup, qw]
    rw [q2]
    trivial
section
variable {X : Cx} {C fI : Addr} {xn f : Str}
def tMkOwn (C : Addr) (f : Str) (ta : TA) : L2.St → Hp → XK → Prop := fun σ H Q => ta σ H fun vs H1 => ∃ v, vs = [v] ∧ ∀ d, H1 d = none → Q (.ref C) (some d) (upd H1 d (.xd [(f, v)]))
theorem pmk_ownE {a : Expr} {ta : TA} {p pos : Pos} {k : Nat} (T : Yx.OwnTxt X.K X.mg xn C fI f) (hI : Yx.InitDoes X.K C fI f) (hr : Room k X.A) (ha : PA X [a] ta) (hg : Gl X xn) (hdb : (xn == ("__debug__" : Str)) = false := by decide)
    (he : starEach (a :: []) X.env = (false, eval a X.env) :: starEach [] X.env := by rfl) (hpl : (backTo pos (starEach [] X.env)).any (·.1) = false := by rfl) :
    PMk X (.Call (.Name xn p) [a] [] pos) (tMkOwn C f ta) := by
  intro pins s σ H Q I h
  refine wpAny_Call_Name_kw (ld_glob I hg T.gC ?_ hdb)
  refine PySem.W.callWith_K (h₀ := X.base) I.ok.mod.kin T.kC (thn (ha.run pos pins s σ H _ I h) fun us s1 hh => ?_) he hpl
  obtain ⟨vs, H1, I1, r1, v, ev, q1⟩ := hh
  subst ev
  refine ⟨I1.kIn, ?_⟩
  cases r1 with
  | cons rv rn =>
    rename_i v' us'
    cases rn
    show wpAny _ _ (call (.ref C) [v']) _ _ _
    have hlim := I1.nolimit
    obtain ⟨hp, g, dr, tk, os⟩ := s1
    refine wpAny_call (Yx.own_made T hI I1.kIn hlim (by have := hr.dp; omega) fun h' tk' e d M => ?_)
    show MkP X pins σ Q (.ref e) ⟨h', g, dr, tk', os⟩
    obtain ⟨oe, fv, hoe, hc, hd, hdat, h1⟩ := M.obj
    have hns := M.ns
    obtain ⟨G', g1, g2⟩ := restrict h' fun b => decide (b ≠ e)
    have gk : ∀ b, b ≠ e → G'.get? b = h'.get? b := fun b hb => g1 b (decide_eq_true hb)
    have ge : G'.get? e = none := g2 e (by simp)
    have old : ∀ b o, hp.get? b = some o → G'.get? b = some o := fun b o q => (gk b (Nat.ne_of_lt (Nat.lt_of_lt_of_le (Heap.lt_size q) M.new))).trans (M.keep b o q)
    have ob : ObjOk X.prog X.w (upd H1 d (.xd [(f, v)])) G' d (.xd [(f, v)]) :=
      ⟨_, hns.at (fun o q => (gk d M.dne).trans q), fun f => relO_own rv f⟩
    have J : Inv X pins σ (upd H1 d (.xd [(f, v)])) ⟨G', g, dr, tk', os⟩ := I1.laid (t' := tk') old M.dbig ob
    refine ⟨e, oe, fv, ⟨G', g, dr, tk', os⟩, _, .ref C, some d, rfl, J, fun b o q => ?_, ge, hoe, ⟨hc, hd⟩, hdat, h1, ?_, rfl, I1.bare, raises_own T.exC T.tyC, q1 d (I1.hok.fresh M.dbig)⟩
    · by_cases hb : b = e
      · have q' : G'.get? b = some o := q
        rw [hb, ge] at q'; cases q'
      · exact (gk b hb).symm.trans q
    · rw [upd_ne (Ne.symm M.dne)]
      exact I1.hok.fresh M.new
end
/-! ### raise -/
def sRaise (c f : Str) (fa : Xa) : Xs := fun env => (fa env).bind fun ds e => match ds with | [d] => .exc c [f] [d] e | _ => .bad
section
variable {cl : Str → Addr} {X : Cx} {fI : Addr} {c xn f : Str} {fa : Xa} {a : Expr} {p pos pos2 : Pos} {k : Nat}
theorem ss_raise (hc : X.calm = true) (T : Yx.OwnTxt X.K X.mg xn (cl c) fI f) (hI : Yx.InitDoes X.K (cl c) fI f) (hr : Room k X.A) (ha : SA cl X [a] fa) (hg : Gl X xn) (hdb : (xn == ("__debug__" : Str)) = false := by decide)
    (he : starEach (a :: []) X.env = (false, eval a X.env) :: starEach [] X.env := by rfl) (hpl : (backTo pos (starEach [] X.env)).any (·.1) = false := by rfl) :
    SS cl X (.Raise (some (.Call (.Name xn p) [a] [] pos)) none pos2) (sRaise c f fa) := fun W tk =>
  (ps_raise hc tk (pmk_ownE T hI hr (ha W tk) hg hdb he hpl)).impY fun D σ H ⟨args, G, env, rs, q⟩ => tA_bind (w := wS X.K cl args D) wS_lat rs q fun ds vs env1 G1 H1 rs1 ex1 rx q1 => by
    split at q1
    · rename_i d
      obtain ⟨v, rfl, rv⟩ := repL_one.mp rx
      refine ⟨v, rfl, fun dx hd => q1 (.ref (cl c)) (some dx) σ _ _ (rs1.known hd) (Stp.new rs1.ex hd) ⟨rfl, rfl, [v], RepL.one (rv.mono (Ex.new (rs1.ex.free hd))), .inl ⟨dx, rfl, upd_same⟩⟩⟩
    · exact q1.elim
end
end Ya

set_option maxHeartbeats 4000000
namespace Ya
open PySem PySem.Spec PyProof.Rows L2

/-! ### try with several clauses, each with a name or without -/
abbrev Hdl := Value × Option Nat × (Addr → Value → Option Addr → TS)
def wEnd (D : Ends) (i : Nat) : Ends := { nx := fun σ' H' => D.nx (σ'.set i none) H', rt := D.rt, bk := fun σ' H' => D.bk (σ'.set i none) H', ct := fun σ' H' => D.ct (σ'.set i none) H' }
def wMany2 (K : PySem.W.Frag) (Wout : WX) (D : Ends) : List Hdl → WX
  | [] => Wout
  | (c, oi, ts) :: r => fun cls d σ H => ∃ b, PySem.W.exmOne K cls c = some b ∧ (b = true → ∀ a, H a = none → match oi with
      | none => ts a cls d D σ H
      | some i => ts a cls d (wEnd D i) (σ.set i (some (.ref a))) H) ∧ (b = false → wMany2 K Wout D r cls d σ H)
inductive HdsOk2 (X : Cx) : List ExceptHandler → List Hdl → Prop
  | nil : HdsOk2 X [] []
  | bare {x : Str} {c : Value} {ts : Addr → Value → Option Addr → TS} {b₀ : Stmt} {suite : List Stmt} {np pos' : Pos} {hds : List ExceptHandler} {l : List Hdl} (hc : Names X x c)
      (hsu : ∀ (a : Addr) (oe : Obj) (cls : Value) (d : Option Addr) (pn : List (Addr × Obj)), Zc cls d oe → (∃ vs, oe.data = .fields vs) → PSs (X.suite a ((a, oe) :: pn)) (b₀ :: suite) (ts a cls d)) (r : HdsOk2 X hds l) :
      HdsOk2 X (.ExceptHandler (some (.Name x np)) none (b₀ :: suite) pos' :: hds) ((c, none, ts) :: l)
  | named {x n : Str} {i : Nat} {c : Value} {ts : Addr → Value → Option Addr → TS} {b₀ : Stmt} {suite : List Stmt} {np pos' : Pos} {hds : List ExceptHandler} {l : List Hdl} (hc : Names X x c) (hi : X.N[i]? = some n) (hln : X.env.kindOf n = some .local)
      (hsu : ∀ (a : Addr) (oe : Obj) (cls : Value) (d : Option Addr) (pn : List (Addr × Obj)), Zc cls d oe → (∃ vs, oe.data = .fields vs) → PSs (X.suite a ((a, oe) :: pn)) (b₀ :: suite) (ts a cls d)) (r : HdsOk2 X hds l) :
      HdsOk2 X (.ExceptHandler (some (.Name x np)) (some n) (b₀ :: suite) pos' :: hds) ((c, some i, ts) :: l)
section
variable {X : Cx} {body : List Stmt} {h₀ : ExceptHandler} {hds : List ExceptHandler} {l : List Hdl} {pos : Pos} {tb : WX → TS} {Wout : WX}
theorem ps_try_many2 (hN : X.N.Nodup) (hs : X.stack = X.env :: X.outer) (hf : X.env.frame = some X.env.locals) (tk : Takes X Wout)
    (hb : ∀ (W : WX) (pn : List (Addr × Obj)) (xe : Value → Shared → Prop), Takes (X.tr pn xe) W → PassesOwn (model X.prog X.w) X.A X.env xe → PSs (X.tr pn xe) body (tb W))
    (hh : HdsOk2 X (h₀ :: hds) l) : PS X (.Try body (h₀ :: hds) [] [] pos) (fun D σ H => tb (wMany2 X.K Wout D l) D σ H) := by
  refine ⟨fun pins s σ H D I h => ?_⟩
  have ok := I.ok
  have hfr : X.A.frames = some (X.env :: X.outer) := by rw [ok.frames, hs]
  refine wpAny_Try_except ?_
  refine wpAny_mono ((hb (wMany2 X.K Wout D l) (X.pn ++ pins) (fun e s₁ => wpAny (model X.prog X.w) X.A (noteFrame e X.env) (fun _ s₂ => wpAny (model X.prog X.w) X.A (setFlight e none) (fun _ s₃ =>
    wpAny (model X.prog X.w) X.A (handleBy e X.env (h₀ :: hds)) (SP X pins D) X.xe s₃) X.xe s₂) X.xe s₁) (fun u s' xx => ?_) PassesOwn.looking).run [] s σ H D (I.toTry _) h) (fun f s1 hsp => ?_) (fun e s1 he => he)
  · obtain ⟨a, B, sI, pins', σ', H', cls, d, rfl, J', nb, up, sky, na, os, ag, w⟩ := xx
    have J : Inv X pins σ' H' sI := J'.ofTry ok
    have sky' : Sky B (X.env :: X.outer) a (Zc cls d) X.env.locals s'.heap := by rw [← hs]; exact sky
    show wpAny (model X.prog X.w) X.A (noteFrame (.ref a) X.env) _ _ _
    refine Sky.land Zc.steady hfr hf sky' fun h3 fl3 up3 => ?_
    have J3 : Inv X pins σ' H' { s' with heap := h3 } := J.landed nb fl3.1 (up.trans up3) os ag
    obtain ⟨oe3, vs3, he3, hz3, hd3⟩ := fl3.there
    have notFr : ∀ {h : Heap} {o : Obj} {vs : Array Value}, h.FunFrames B (X.env :: X.outer) → h.get? a = some o → o.data = .fields vs → a ∉ frs (X.env :: X.outer) := fun {h o vs} ff e dd hm => by
      obtain ⟨_, o', e', hnf⟩ := ff.mem hm
      rw [e] at e'; cases e'
      exact hnf _ dd
    have nfr := notFr fl3.2.2.1 he3 hd3
    have nL : a ≠ X.env.locals := fun z => nfr (List.mem_filterMap.mpr ⟨X.env, List.mem_cons_self, by rw [hf, z]⟩)
    have nF : a ∉ X.fs := fun hm => by
      obtain ⟨e, he, q⟩ := List.mem_filterMap.mp hm
      exact nfr (List.mem_filterMap.mpr ⟨e, List.mem_cons_of_mem _ he, q⟩)
    have S3 := J3.suite he3 hd3 na nL nF
    have go : ∀ {hds' : List ExceptHandler} {l' : List Hdl}, HdsOk2 X hds' l' → wMany2 X.K Wout D l' cls d σ' H' →
        wpAny (model X.prog X.w) X.A (handleBy (.ref a) X.env hds') (SP X pins D) X.xe { s' with heap := h3 } := by
      intro hds' l' hk
      induction hk with
      | nil =>
        intro w
        refine wpAny_handleBy_nil ?_
        obtain ⟨k1, k2, k3, oe, vs, T, oT, ts', he, hz, hd, h1, hr⟩ := id fl3
        unfold PySem.passOn
        refine wpAny_bind (wpAny_field he hd h1 ?_)
        rw [if_neg (show ¬ ((Value.ref T == Value.none) = true) from by simp)]
        have fin : wpAny (model X.prog X.w) X.A (setFlight (.ref a) X.env.frame) (fun _ s4 => wpAny (model X.prog X.w) X.A (throw (.ref a) : Sem Flow) (SP X pins D) X.xe s4) X.xe { s' with heap := h3 } := by
          rw [hf]
          refine HandSPX.setFlight_upZ fl3 fun h4 hh4 up4 => wpAny_throw (tk _ _ ?_)
          exact ⟨a, B, sI, pins, σ', H', cls, d, rfl, J, nb, (up.trans up3).trans up4, .inr (.inr (by rw [hs]; exact hh4)), na, os, ag, w⟩
        first
          | exact wpAny_bind (wpAny_pure (wpAny_bind fin))
          | exact wpAny_bind fin
      | @bare x c ts b₀ suite np pos' hds2 l2 hc hsu r ih =>
        intro w
        obtain ⟨b, hb1, hyes, hno⟩ := w
        refine wpAny_handleBy_cons (codeAny_handlers_test ?_) (by intro q; cases q)
        have LT : PySem.W.Looks (model X.prog X.w) h3 (typeOf (.ref a)) cls := fun A Q E s k q => wpAny_typeOf_ref (k _ _ he3) (by rw [hz3.1]; exact q)
        have LM := PySem.W.exm_one (M := model X.prog X.w) (J3.kIn) LT hb1
        have test : ∀ {Q : Value → Shared → Prop} {E : Value → Shared → Prop}, Q c { s' with heap := h3 } → wpAny (model X.prog X.w) (X.A.mark (some (.ref a))) (eval (.Name x np) X.env) Q E { s' with heap := h3 } := fun {Q E} q => by
          obtain ⟨hg, hdbg, hm | ⟨hm, hv, hnn⟩⟩ := hc
          · exact ld_glob (X := X.suite a ((a, oe3) :: (X.pn ++ pins))) S3 hg hm q hdbg
          · exact ld_blt (X := X.suite a ((a, oe3) :: (X.pn ++ pins))) S3 hg hm hv q hnn hdbg
        refine test (LM.here ?_)
        cases b with
        | true =>
          refine codeAny_handlers_suite ?_
          refine HandSPX.lands_againZ fl3 fun h4 fl4 up4 => ?_
          have J4 : Inv X pins σ' H' { s' with heap := h4 } := J.landed nb fl4.1 ((up.trans up3).trans up4) os ag
          obtain ⟨oe4, vs4, he4, hz4, hd4⟩ := fl4.there
          have S4 := J4.suite he4 hd4 na nL nF
          refine wpAny_mono ((hsu a oe4 cls d (X.pn ++ pins) hz4 ⟨_, hd4⟩).run [] _ _ H' _ S4 (hyes rfl a na)) (fun f s6 hsp => ?_) (fun _ _ z => False.elim z)
          cases f with
          | next =>
            obtain ⟨σ6, H6, S6, q6⟩ := hsp
            exact ⟨_, _, S6.unsuite ok, q6⟩
          | brk =>
            obtain ⟨σ6, H6, S6, q6⟩ := hsp
            exact ⟨_, _, S6.unsuite ok, q6⟩
          | cont =>
            obtain ⟨σ6, H6, S6, q6⟩ := hsp
            exact ⟨_, _, S6.unsuite ok, q6⟩
          | ret u =>
            obtain ⟨v6, σ6, H6, S6, r6, q6⟩ := hsp
            exact ⟨_, _, _, S6.unsuite ok, r6, q6⟩
        | false =>
          show wpAny _ X.A (handleBy (.ref a) X.env hds2) _ _ _
          exact ih (hno rfl)
      | @named x n i c ts b₀ suite np pos' hds2 l2 hc hi hln hsu r ih =>
        intro w
        obtain ⟨b, hb1, hyes, hno⟩ := w
        have hloc : Loc X.env.scope n := .inl hln
        refine wpAny_handleBy_cons (codeAny_handlers_test ?_) (by intro q; cases q)
        have LT : PySem.W.Looks (model X.prog X.w) h3 (typeOf (.ref a)) cls := fun A Q E s k q => wpAny_typeOf_ref (k _ _ he3) (by rw [hz3.1]; exact q)
        have LM := PySem.W.exm_one (M := model X.prog X.w) (J3.kIn) LT hb1
        have test : ∀ {Q : Value → Shared → Prop} {E : Value → Shared → Prop}, Q c { s' with heap := h3 } → wpAny (model X.prog X.w) (X.A.mark (some (.ref a))) (eval (.Name x np) X.env) Q E { s' with heap := h3 } := fun {Q E} q => by
          obtain ⟨hg, hdbg, hm | ⟨hm, hv, hnn⟩⟩ := hc
          · exact ld_glob (X := X.suite a ((a, oe3) :: (X.pn ++ pins))) S3 hg hm q hdbg
          · exact ld_blt (X := X.suite a ((a, oe3) :: (X.pn ++ pins))) S3 hg hm hv q hnn hdbg
        refine test (LM.here ?_)
        cases b with
        | true =>
          refine codeAny_handlers_suite_as ?_
          refine HandSPX.lands_againZ fl3 fun h4 fl4 up4 => ?_
          have J4 : Inv X pins σ' H' { s' with heap := h4 } := J.landed nb fl4.1 ((up.trans up3).trans up4) os ag
          obtain ⟨oe4, vs4, he4, hz4, hd4⟩ := fl4.there
          have S4 := J4.suite he4 hd4 na nL nF
          refine store_ok (X := X.suite a ((a, oe4) :: (X.pn ++ pins))) (v := .ref a) S4 hN hi hloc rfl (fun s5 S5 => ?_) (.inr hln)
          refine wpAny_mono ((hsu a oe4 cls d (X.pn ++ pins) hz4 ⟨_, hd4⟩).run [] s5 _ H' _ S5 (hyes rfl a na)) (fun f s6 hsp => ?_) (fun _ _ z => False.elim z)
          have end_ : ∀ {σ6 : L2.St} {H6 : Hp} {Q : Shared → Prop}, Inv (X.suite a ((a, oe4) :: (X.pn ++ pins))) [] σ6 H6 s6 → (∀ s7, Inv X pins (σ6.set i none) H6 s7 → Q s7) →
              wpAny (model X.prog X.w) X.A (do bindName X.env n .none; unbindBehindTheSuite X.env n pos') (fun _ s7 => Q s7) X.xe s6 := fun {σ6 H6 Q} S6 hq => gone_ok (S6.unsuite ok) hN hi hln hq
          cases f with
          | next =>
            obtain ⟨σ6, H6, S6, q6⟩ := hsp
            exact end_ S6 fun s7 J7 => ⟨_, _, J7, q6⟩
          | brk =>
            obtain ⟨σ6, H6, S6, q6⟩ := hsp
            exact end_ S6 fun s7 J7 => ⟨_, _, J7, q6⟩
          | cont =>
            obtain ⟨σ6, H6, S6, q6⟩ := hsp
            exact end_ S6 fun s7 J7 => ⟨_, _, J7, q6⟩
          | ret u =>
            obtain ⟨v6, σ6, H6, S6, r6, q6⟩ := hsp
            exact end_ S6 fun s7 J7 => ⟨_, _, _, J7, r6, q6⟩
        | false =>
          show wpAny _ X.A (handleBy (.ref a) X.env hds2) _ _ _
          exact ih (hno rfl)
    exact go hh w
  · cases f with
    | next =>
      obtain ⟨σ', H', J', q⟩ := hsp
      exact wpAny_execs_nil ⟨σ', H', J'.ofTry ok, q⟩
    | brk =>
      obtain ⟨σ', H', J', q⟩ := hsp
      exact ⟨σ', H', J'.ofTry ok, q⟩
    | cont =>
      obtain ⟨σ', H', J', q⟩ := hsp
      exact ⟨σ', H', J'.ofTry ok, q⟩
    | ret u =>
      obtain ⟨v, σ', H', J', r, q⟩ := hsp
      exact ⟨v, σ', H', J'.ofTry ok, r, q⟩
end

/-! the clauses as functions of data -/
structure HF where
  c : Str
  oi : Option Nat
  m : Str → Option Bool
  run : List Str → List D → Xs
def clr (oi : Option Nat) (r : Res Fl) : Res Fl := match r with
  | .ok l e => (match oi with | none => .ok l e | some i => .ok l (e.set i .und))
  | _ => .bad
def inH (oi : Option Nat) (e : En) : Option En := match oi with
  | none => some e
  | some i => if i < e.length then some (e.set i .und) else none
def runH : List HF → Str → List Str → List D → Xs
  | [], c, ns, ds => fun e => .exc c ns ds e
  | h :: r, c, ns, ds => fun e => match h.m c with
    | some true => (match inH h.oi e with | some e1 => clr h.oi (h.run ns ds e1) | none => .bad)
    | some false => runH r c ns ds e
    | none => .bad
def sTry (f : Xs) (hs : List HF) : Xs := fun env => match f env with
  | .exc c ns ds e => runH hs c ns ds e
  | r => r
/-- what a clause's suite does: a the caught exception, d its dict -/
def SuOk (K : PySem.W.Frag) (cl : Str → Addr) (oi : Option Nat) (m : Str → Option Bool) (run : List Str → List D → Xs) (ts : Addr → Value → Option Addr → TS) : Prop :=
  ∀ (a : Addr) (c : Str) (ns : List Str) (ds : List D) (d : Option Addr) (args : List V) (G H : Hp) (σ : L2.St) (e : En) (E : Ends), m c = some true → RS K cl args G H σ e → ExcAt K cl G c ns ds (.ref (cl c)) d → (∀ i, oi = some i → σ[i]? = some (some (.ref a)) ∧ e[i]? = some .und) →
    Post K cl args (fun _ _ _ _ => False) (wS K cl args E) G H (Own σ e) (run ns ds e) → ts a (.ref (cl c)) d E σ H
inductive HsOk (cl : Str → Addr) (X : Cx) : List HF → List Hdl → Prop
  | nil : HsOk cl X [] []
  | cons {h : HF} {C : Addr} {ts : Addr → Value → Option Addr → TS} {hs : List HF} {l : List Hdl} (hm : ∀ c b, h.m c = some b → PySem.W.exmOne X.K (.ref (cl c)) (.ref C) = some b) (hr : SuOk X.K cl h.oi h.m h.run ts) (r : HsOk cl X hs l) :
      HsOk cl X (h :: hs) ((.ref C, h.oi, ts) :: l)
section
variable {K : PySem.W.Frag} {cl : Str → Addr} {args : List V} {σ : L2.St} {G H : Hp} {env : En} {i : Nat} {x : Option V}
theorem RS.und (rs : RS K cl args G H σ env) : RS K cl args G H (σ.set i x) (env.set i .und) := by
  have r := rs.drop i
  refine ⟨rs.ex, by rw [List.length_set, List.length_set]; exact rs.len, fun j s h => ?_, fun j k o o' c c' a h1 h2 h3 h4 => ?_⟩
  · by_cases z : i = j
    · subst z
      rw [List.getElem?_set, if_pos rfl] at h
      split at h
      · injection h with h; subst h; trivial
      · cases h
    · rw [List.getElem?_set_ne z]
      exact r.slot j s h
  · have ne : ∀ (j : Nat) (o : Option Nat) (c : C), (env.set i S.und)[j]? = some (.own o c) → i ≠ j := fun j o c h z => by
      subst z
      rw [List.getElem?_set, if_pos rfl] at h
      split at h <;> cases h
    rw [List.getElem?_set_ne (ne j _ _ h1)] at h3
    rw [List.getElem?_set_ne (ne k _ _ h2)] at h4
    exact r.sep j k o o' c c' a h1 h2 h3 h4
theorem own_und {a : Addr} (h : Own (σ.set i x) (env.set i .und) a) : Own σ env a := by
  obtain ⟨j, o, c, h1, h2⟩ := h
  have ne : i ≠ j := fun z => by
    subst z
    rw [List.getElem?_set, if_pos rfl] at h1
    split at h1 <;> cases h1
  rw [List.getElem?_set_ne ne] at h1 h2
  exact ⟨j, o, c, h1, h2⟩
theorem RepR.less {A B : Addr → Prop} {v : V} {r : S} (h : RepR K cl G H A v r) (ab : ∀ a, B a → A a) : RepR K cl G H B v r := by
  cases r with
  | und => exact h
  | val d => exact h
  | own o c =>
    cases o with
    | some k => exact h
    | none => obtain ⟨a, u, h1, h2, h3, h4, h5⟩ := h; exact ⟨a, u, h1, h2, h3, h4, fun z => h5 (ab a z)⟩
end
section
variable {cl : Str → Addr} {X : Cx} {body : List Stmt} {h₀ : ExceptHandler} {hds : List ExceptHandler} {l : List Hdl} {pos : Pos} {f : Xs} {hs : List HF}
theorem hs_ok {W : WX} {args : List V} {E : Ends} (hk : HsOk cl X hs l) {G H : Hp} {σ : L2.St} {e : En} {c : Str} {ns : List Str} {ds : List D} {d : Option Addr} (rs : RS X.K cl args G H σ e) (ea : ExcAt X.K cl G c ns ds (.ref (cl c)) d)
    (q : Post X.K cl args W (wS X.K cl args E) G H (Own σ e) (runH hs c ns ds e)) : wMany2 X.K W E l (.ref (cl c)) d σ H := by
  induction hk with
  | nil => exact q _ d σ G H rs .refl ea
  | @cons h C ts hs l hm hr r ih =>
    unfold runH at q
    cases hmc : h.m c with
    | none => rw [hmc] at q; exact q.elim
    | some b =>
      rw [hmc] at q
      refine ⟨b, hm c b hmc, fun hb a ha => ?_, fun hb => ?_⟩
      · subst hb
        replace q : Post X.K cl args W (wS X.K cl args E) G H (Own σ e) (match inH h.oi e with | some e1 => clr h.oi (h.run ns ds e1) | none => .bad) := q
        cases ho : h.oi with
        | none =>
          rw [ho] at q
          refine hr a c ns ds d args G H σ e E hmc rs ea (fun i z => by rw [ho] at z; cases z) ?_
          replace q : Post X.K cl args W (wS X.K cl args E) G H (Own σ e) (clr none (h.run ns ds e)) := q
          cases hrun : h.run ns ds e with
          | bad => rw [hrun] at q; exact q
          | exc c' ns' ds' e' => rw [hrun] at q; exact q.elim
          | ok fl e' => rw [hrun] at q; exact q
        | some i =>
          rw [ho] at q
          unfold inH at q
          by_cases hi : i < e.length
          · simp only [if_pos hi] at q
            have own1 : ∀ b, Own (σ.set i (some (.ref a))) (e.set i .und) b → Own σ e b := fun b z => own_und z
            refine hr a c ns ds d args G H _ (e.set i .und) (wEnd E i) hmc rs.und ea (fun j z => ?_) ?_
            · rw [ho] at z
              injection z with z; subst z
              exact ⟨by rw [List.getElem?_set, if_pos rfl, if_pos (by rw [rs.len]; exact hi)], by rw [List.getElem?_set, if_pos rfl, if_pos hi]⟩
            · replace q := Post.later wS_lat (Stp.refl.less own1) q
              cases hrun : h.run ns ds (e.set i .und) with
              | bad => rw [hrun] at q; exact q.elim
              | exc c' ns' ds' e' => rw [hrun] at q; exact q.elim
              | ok fl e' =>
                rw [hrun] at q
                cases fl with
                | nx => exact fun σ' G' H' rs' st' => q _ G' H' rs'.und (st'.less fun b z => own_und z)
                | bk => exact fun σ' G' H' rs' st' => q _ G' H' rs'.und (st'.less fun b z => own_und z)
                | ct => exact fun σ' G' H' rs' st' => q _ G' H' rs'.und (st'.less fun b z => own_und z)
                | rt r => exact fun v σ' G' H' rs' st' x => q v _ G' H' (rs'.und (x := none)) (st'.less fun b z => z.elim (fun z => .inl (own_und z)) .inr) (x.less fun b z => own_und z)
          · simp only [if_neg hi] at q
            exact q.elim
      · subst hb
        exact ih q
theorem ss_try (hN : X.N.Nodup) (hst : X.stack = X.env :: X.outer) (hf : X.env.frame = some X.env.locals) (hb : ∀ (pn : List (Addr × Obj)) (xe : Value → Shared → Prop), PassesOwn (model X.prog X.w) X.A X.env xe → SB cl (X.tr pn xe) body f)
    (hh : HdsOk2 X (h₀ :: hds) l) (hk : HsOk cl X hs l) : SS cl X (.Try body (h₀ :: hds) [] [] pos) (sTry f hs) := fun W tk =>
  (ps_try_many2 hN hst hf tk (tb := fun W => tS X.K cl W f) (fun W pn xe tkW po => hb pn xe po W tkW) hh).impY fun D σ H ⟨args, G, env, rs, q⟩ => by
    refine ⟨args, G, env, rs, ?_⟩
    unfold sTry at q
    cases hf : f env with
    | bad => rw [hf] at q; exact q
    | ok l e => rw [hf] at q; exact q
    | exc c ns ds e =>
      rw [hf] at q
      intro x d σ' G' H' rs' st' ea
      have ex := ea.1
      subst ex
      exact hs_ok hk rs' ea (Post.later wS_lat st' q)
end
/-! suites -/
/-- y = [w, n.f], n the caught exception -/
def suLst (j : Nat) (w f : Str) : List Str → List D → Xs := fun ns ds e => match (ns.zip ds).lookup f with | some d => putS e j (.own none (.lst [.str w, d])) | none => .bad
section
variable {cl : Str → Addr} {X : Cx} {C : Str} {i j : Nat} {w f y n : Str} {p0 p1 p2 p3 p4 p5 : Pos} {k0 : Option Str}
def onlyC (C c : Str) : Option Bool := if c = C then some true else none
def tSuLst (K : PySem.W.Frag) (i j : Nat) (w f : Str) (a : Addr) (cls : Value) (d : Option Addr) (C : Addr) : TS := tAsg (tLst (tCons (tC (.str w)) (tCons (tXf a cls d C f (tVar i)) tNil))) (gName j)
theorem su_lst {m : Str → Option Bool} (hmC : ∀ c, m c = some true → c = C) : SuOk X.K cl (some i) m (suLst j w f) (fun a cls d => tSuLst X.K i j w f a cls d (cl C)) := by
  intro a c ns ds d args G H σ e E hm rs ea hi q
  obtain ⟨hs, he⟩ := hi i rfl
  have ec := hmC c hm
  subst ec
  obtain ⟨_, hlen, vs, rl, hd⟩ := ea
  unfold suLst at q
  cases hl : (ns.zip ds).lookup f with
  | none => rw [hl] at q; exact q.elim
  | some dd =>
    rw [hl] at q
    obtain ⟨v, hv, rv⟩ := lookup_rep rl hl
    rcases hd with ⟨da, hda, hG⟩ | ⟨hn, _⟩
    · refine ⟨V.ref a, hs, rfl, rfl, da, _, v, hda, rs.ex _ _ hG, hv, ?_⟩
      refine ⟨by show 2 ≤ sizeLine; decide, fun p hp => ?_⟩
      have key := wE_new (Q := fun v H' => E.nx (σ.set j (some v)) H') (s := .own none (.lst [.str w, dd])) rs (fun v' G' H' rs' st' x' => put_ok (D := E) (W := fun _ _ _ _ => False) rs' st' x' q)
      exact key _ _ _ (.cell ⟨_, rfl, repL_cons.mpr ⟨_, _, rfl, rep_str.mpr rfl, RepL.one rv⟩⟩ hp)
    · subst hn; simp at hl
end
end Ya

set_option maxHeartbeats 4000000
namespace Ya
open PySem PySem.Spec PyProof.Rows L2

/-! ### a name read, its own cell frozen -/
def xVarF (i : Nat) : Xp := fun env => xVar i (frzE i env)
section
variable {cl : Str → Addr} {X : Cx} {a b c e : Expr} {es : List Expr} {pos : Pos} {fa fb fc : Xp}
theorem se_varF (i : Nat) {x : Str} (h : PE X (.Name x pos) (tVar i)) : SE cl X (.Name x pos) (xVarF i) := fun W _ => h.impY fun σ H Q ⟨args, G, env, rs, q⟩ => by
  obtain ⟨G2, rs2, st2⟩ := frzE_ok i rs
  exact xVar_ok rs2 (Post.later wE_lat st2 q)
/-! ### chains -/
def xChain (g g' : D → D → Option S) (fa fb fc : Xp) : Xp := fun env => (fa env).data fun a e1 => (fb e1).data fun b e2 => match g a b with
  | some (.val (.bl true)) => (fc e2).data fun c e3 => .opt (g' b c) e3
  | some (.val (.bl false)) => .ok (.val (.bl false)) e2
  | _ => .bad
theorem chain_core {K : PySem.W.Frag} {r r' : R2} {g g' : D → D → Option S} (hr : R2Ok K cl r g) (hr' : R2Ok K cl r' g') {W : WX} {σ : L2.St} {H : Hp} {Q : VK} (h : tE K cl W (xChain g g' fa fb fc) σ H Q) : tChain r r' (tE K cl W fa) (tE K cl W fb) (tE K cl W fc) σ H Q := by
  obtain ⟨args, G, env, rs, q⟩ := h
  refine tE_data wE_lat rs q fun da x env1 G1 H1 rs1 ex1 rx q1 => tE_data wE_lat rs1 q1 fun db y env2 G2 H2 rs2 ex2 ry q2 => ?_
  split at q2
  · rename_i hg
    refine hr rs2.ex (rx.mono ex2) ry hg fun v G' H' nw => ?_
    obtain ⟨rs3, st3, r3⟩ := nw.rs rs2
    refine ⟨true, rep_bl.mp r3, ?_⟩
    rw [if_pos rfl]
    exact tE_data wE_lat rs3 (Post.later wE_lat st3 q2) fun dc z env4 G4 H4 rs4 ex4 rz q4 => by
      obtain ⟨s, es, k⟩ := opt_ok rs4 q4
      exact hr' rs4.ex ((ry.mono st3.g).mono ex4) rz es k
  · rename_i hg
    refine hr rs2.ex (rx.mono ex2) ry hg fun v G' H' nw => ?_
    obtain ⟨rs3, st3, r3⟩ := nw.rs rs2
    refine ⟨false, rep_bl.mp r3, ?_⟩
    rw [if_neg Bool.false_ne_true]
    exact wE_new rs3 (wE_lat _ _ _ _ _ _ _ _ st3 q2) _ _ _ (.same (rep_bl.mpr rfl))
  · exact q2.elim
theorem se_chain {op op' : CmpOp} {r r' : R2} {g g' : D → D → Option S} (ho : OpR X (compareOp op) r) (ho' : OpR X (compareOp op') r') (hr : R2Ok X.K cl r g) (hr' : R2Ok X.K cl r' g') (ha : SE cl X a fa) (hb : SE cl X b fb) (hc : SE cl X c fc)
    (hm : lastMarks [op, op'] [b, c] = false := by with_unfolding_all rfl) : SE cl X (.Compare a [op, op'] [b, c] pos) (xChain g g' fa fb fc) := fun W tk =>
  (pe_chain ho ho' (ha W tk) (hb W tk) (hc W tk) hm).impY fun σ H Q h => chain_core hr hr' h
theorem st_chain {op op' : CmpOp} {r r' : R2} {g g' : D → D → Option S} (ho : OpR X (compareOp op) r) (ho' : OpR X (compareOp op') r') (hr : R2Ok X.K cl r g) (hr' : R2Ok X.K cl r' g') (ha : SE cl X a fa) (hb : SE cl X b fb) (hc : SE cl X c fc)
    (hm : lastMarks [op, op'] [b, c] = false := by with_unfolding_all rfl) : ST cl X (.Compare a [op, op'] [b, c] pos) (uTst (xChain g g' fa fb fc)) := fun W tk =>
  (pt_chain ho ho' (ha W tk) (hb W tk) (hc W tk) hm).impY fun σ H Q ⟨args, G, env, rs, q⟩ => chain_core hr hr' (tE_tst rs q)
/-! ### truth of any data -/
def truD : D → Option Bool
  | .non => some false
  | .bl b => some b
  | .int i => some (i != 0)
  | .str x => if x.length ≤ 1000000 then some ((x.length : Int) != 0) else none
  | .lst xs => some (!xs.isEmpty)
  | .tup xs => some (!xs.isEmpty)
  | _ => none
def uTru (f : Xp) : Xt := fun env => (f env).data fun d e => .opt (truD d) e
theorem empty_ok {K : PySem.W.Frag} {G : Hp} {ds : List D} {vs : List V} (r : RepL K cl G ds vs) : ds.isEmpty = vs.isEmpty := by
  have := r.len
  cases ds <;> cases vs <;> simp_all
theorem st_tru {f : Xp} (h : SE cl X e f) (he : ∀ whole, isTrue e X.env whole = (do let v ← whole; standAt e.pos; holding [v] (truthy v)) := by intro _; rfl) : ST cl X e (uTru f) := fun W tk =>
  (pt_truth (h W tk) he).impY fun σ H Q ⟨args, G, env, rs, q⟩ => tE_data wT_lat rs q fun d x env1 G1 H1 rs1 ex1 rx q1 => by
    cases ht : truD d with
    | none => rw [ht] at q1; exact q1.elim
    | some k =>
      rw [ht] at q1
      refine ⟨k, ?_, q1 _ _ rs1 .refl⟩
      cases d with
      | non => rw [rep_non.mp rx]; injection ht with ht; exact ht.symm
      | bl b => rw [rep_bl.mp rx]; injection ht with ht; exact ht.symm
      | int i => rw [rep_int.mp rx]; injection ht with ht; exact ht.symm
      | str z =>
        simp only [truD] at ht
        split at ht
        · rename_i hl
          rw [rep_str.mp rx]; injection ht with ht
          exact ⟨le_line hl, ht.symm⟩
        · cases ht
      | lst xs =>
        obtain ⟨p, vs, rfl, g1, g2⟩ := rep_lst.mp rx
        injection ht with ht
        exact .inl ⟨vs, SqL.of (rs1.ex _ _ g1), by rw [← empty_ok g2]; exact ht.symm⟩
      | tup xs =>
        obtain ⟨p, vs, rfl, g1, g2⟩ := rep_tup.mp rx
        injection ht with ht
        exact .inr (.inl ⟨vs, SqT.of (rs1.ex _ _ g1), by rw [← empty_ok g2]; exact ht.symm⟩)
      | ins c ns ds => cases ht
      | scr ns => cases ht
      | cls c => cases ht
end
/-! ### isinstance -/
def tyN : D → Option String
  | .non => some "NoneType"
  | .bl _ => some "bool"
  | .int _ => some "int"
  | .str _ => some "str"
  | .lst _ => some "list"
  | .tup _ => some "tuple"
  | _ => none
def isB (t T : String) : Bool := t == T || (t == "bool" && T == "int")
theorem kit_int : ∀ t ∈ ["NoneType", "bool", "int", "str", "list", "tuple"], kitB t "int" = some (isB t "int") := by decide +kernel
theorem kit_bool : ∀ t ∈ ["NoneType", "bool", "int", "str", "list", "tuple"], kitB t "bool" = some (isB t "bool") := by decide +kernel
theorem kit_list : ∀ t ∈ ["NoneType", "bool", "int", "str", "list", "tuple"], kitB t "list" = some (isB t "list") := by decide +kernel
theorem kit_tuple : ∀ t ∈ ["NoneType", "bool", "int", "str", "list", "tuple"], kitB t "tuple" = some (isB t "tuple") := by decide +kernel
theorem kit_str : ∀ t ∈ ["NoneType", "bool", "int", "str", "list", "tuple"], kitB t "str" = some (isB t "str") := by decide +kernel
theorem tyN_mem {d : D} {t : String} (h : tyN d = some t) : t ∈ ["NoneType", "bool", "int", "str", "list", "tuple"] := by
  cases d <;> simp [tyN] at h <;> subst h <;> simp
section
variable {K : PySem.W.Frag} {cl : Str → Addr} {G H : Hp}
theorem ty_ok {d : D} {v : V} {t : String} (ex : Ex G H) (r : Rep K cl G d v) (h : tyN d = some t) : TyX K H v (.type t) := by
  cases d with
  | non => rw [rep_non.mp r]; injection h with h; subst h; exact .base .non
  | bl b => rw [rep_bl.mp r]; injection h with h; subst h; exact .base (.bl b)
  | int i => rw [rep_int.mp r]; injection h with h; subst h; exact .base (.int i)
  | str x => rw [rep_str.mp r]; injection h with h; subst h; exact .base (.str x)
  | lst xs => obtain ⟨a, vs, rfl, g1, _⟩ := rep_lst.mp r; injection h with h; subst h; exact .base (.lst (ex _ _ g1))
  | tup xs => obtain ⟨a, vs, rfl, g1, _⟩ := rep_tup.mp r; injection h with h; subst h; exact .base (.tup (ex _ _ g1))
  | ins c ns ds => cases h
  | scr ns => cases h
  | cls c => cases h
end
def gIsi (T : String) : D → Option S := fun d => (tyN d).map fun t => .val (.bl (isB t T))
def gIsiLT : D → Option S := fun d => (tyN d).map fun t => .val (.bl (isB t "list" || isB t "tuple"))
def gIsiC (c0 : Str) : D → Option S
  | .ins c _ _ => if c = c0 then some (.val (.bl true)) else none
  | d => (tyN d).map fun _ => .val (.bl false)
/-- what isinstance asks of an own class -/
structure IsiC (K : PySem.W.Frag) (C : Addr) : Prop where
  cl : Cls K C
  ha : PySem.W.findIn K (.ref C) "__class__" = some (some (.builtin "object.__class__"))
  hn : PySem.W.specialIn K (.builtin "object.__class__") "__get__" = some (some (.builtin "getset_descriptor.__get__"))
  htk : PySem.W.takesIn K (.builtin "object.__class__") = some true
  hm : PySem.W.mroIn K C (.type "object") = some true
  no : ∀ t ∈ ["NoneType", "bool", "int", "str", "list", "tuple"], PySem.W.kitOne K (.type t) (.ref C) = some false
section
variable {cl : Str → Addr} {X : Cx} {a : Expr} {x T : Str} {pos p q q1 q2 q3 q4 : Pos} {kk : Nat} {fa : Xp}
theorem kit_self {K : PySem.W.Frag} {c : Value} : PySem.W.kitOne K c c = some true := by
  unfold PySem.W.kitOne
  rw [if_pos (beq_self_eq_true c)]
theorem se_isi {T : String} (hT : ∀ t ∈ ["NoneType", "bool", "int", "str", "list", "tuple"], kitB t T = some (isB t T)) (hg : Gl X "isinstance") (hm : X.mg "isinstance" = none) (hgx : Gl X x) (hmx : X.mg x = none) (hv : bootBuiltins x = some (.type T)) (hn : x ≠ "__name__") (hd : (x == ("__debug__" : Str)) = false) (ha : SE cl X a fa)
    (hv2 : bootBuiltins "isinstance" = some (.builtin "isinstance") := by rfl)
    (he : starEach (a :: [.Name x q]) X.env = (false, eval a X.env) :: starEach [.Name x q] X.env := by rfl) (hpl : (backTo pos (starEach [.Name x q] X.env)).any (·.1) = false := by rfl) :
    SE cl X (.Call (.Name "isinstance" p) [a, .Name x q] [] pos) (x1 (gIsi T) fa) := fun W tk =>
  (pe_callB call_isi hg hm hv2 (pa_cons (ha W tk) (pa_cons (pe_bltn (v := .ty T) hgx hmx hv rfl hn hd) pa_nil) he) (by decide) (by decide) he hpl).impY fun σ H Q ⟨args, G, env, rs, q⟩ => tE_data wE_lat rs q fun d v env1 G1 H1 rs1 ex1 rv q1 => by
    obtain ⟨s, es, k⟩ := opt_ok rs1 q1
    unfold gIsi at es
    cases ht : tyN d with
    | none => rw [ht] at es; cases es
    | some t =>
      rw [ht] at es; injection es with es; subst es
      exact ⟨v, .ty T, .type t, .type T, isB t T, rfl, .ty T, ty_ok rs1.ex rv ht, kit_ty (hT t (tyN_mem ht)), k _ _ _ (.same (rep_bl.mpr rfl))⟩
theorem se_isiLT (hg : Gl X "isinstance") (hm : X.mg "isinstance" = none) (hgl : Gl X "list") (hml : X.mg "list" = none) (hgt : Gl X "tuple") (hmt : X.mg "tuple" = none) (ha : SE cl X a fa)
    (hv2 : bootBuiltins "isinstance" = some (.builtin "isinstance") := by rfl) (hvl : bootBuiltins "list" = some (.type "list") := by rfl) (hvt : bootBuiltins "tuple" = some (.type "tuple") := by rfl)
    (he : starEach (a :: [.Tuple [.Name "list" q1, .Name "tuple" q2] kk q]) X.env = (false, eval a X.env) :: starEach [.Tuple [.Name "list" q1, .Name "tuple" q2] kk q] X.env := by rfl) (hpl : (backTo pos (starEach [.Tuple [.Name "list" q1, .Name "tuple" q2] kk q] X.env)).any (·.1) = false := by rfl) :
    SE cl X (.Call (.Name "isinstance" p) [a, .Tuple [.Name "list" q1, .Name "tuple" q2] kk q] [] pos) (x1 gIsiLT fa) := fun W tk =>
  (pe_callB call_isiT hg hm hv2 (pa_cons (ha W tk) (pa_cons (pe_tup (pa_cons (pe_bltn (v := .ty "list") hgl hml hvl rfl) (pa_cons (pe_bltn (v := .ty "tuple") hgt hmt hvt rfl) pa_nil))) pa_nil) he) (by decide) (by decide) he hpl).impY fun σ H Q ⟨args, G, env, rs, q⟩ => tE_data wE_lat rs q fun d v env1 G1 H1 rs1 ex1 rv q1 => by
    refine ⟨by show 2 ≤ sizeLine; decide, fun p hp => ?_⟩
    have rs2 := rs1.cell (o := .tup [V.ty "list", V.ty "tuple"]) hp
    have q2 := Post.later wE_lat ((Stp.cell (A := Own σ env1) (G := G1) (o := .tup [V.ty "list", V.ty "tuple"]) hp).less fun a z => .inl z) q1
    obtain ⟨s, es, k⟩ := opt_ok rs2 q2
    unfold gIsiLT at es
    cases ht : tyN d with
    | none => rw [ht] at es; cases es
    | some t =>
      rw [ht] at es; injection es with es; subst es
      refine ⟨v, p, [V.ty "list", V.ty "tuple"], .type t, [.type "list", .type "tuple"], isB t "list" || isB t "tuple", rfl, upd_same, .cons (.ty _) (.cons (.ty _) .nil), ty_ok rs2.ex rv ht, ?_, k _ _ _ (.same (rep_bl.mpr rfl))⟩
      refine kitAny_cons (kit_ty (kit_list t (tyN_mem ht))) (fun e1 => kitAny_cons (kit_ty (kit_tuple t (tyN_mem ht))) (fun e2 => ?_) (fun e2 => ?_)) (fun e1 => ?_)
      · rw [e1, e2]; rfl
      · rw [e1, e2]; rfl
      · rw [e1]; rfl
theorem se_isiC {c0 : Str} (K0 : IsiC X.K (cl c0)) (hg : Gl X "isinstance") (hm : X.mg "isinstance" = none) (hgx : Gl X x) (hmx : X.mg x = some (.ref (cl c0))) (hd : (x == ("__debug__" : Str)) = false) (ha : SE cl X a fa)
    (hv2 : bootBuiltins "isinstance" = some (.builtin "isinstance") := by rfl)
    (he : starEach (a :: [.Name x q]) X.env = (false, eval a X.env) :: starEach [.Name x q] X.env := by rfl) (hpl : (backTo pos (starEach [.Name x q] X.env)).any (·.1) = false := by rfl) :
    SE cl X (.Call (.Name "isinstance" p) [a, .Name x q] [] pos) (x1 (gIsiC c0) fa) := fun W tk =>
  (pe_callB call_isi hg hm hv2 (pa_cons (ha W tk) (pa_cons (pe_glob (v := .ref (cl c0)) hgx hmx rfl hd) pa_nil) he) (by decide) (by decide) he hpl).impY fun σ H Q ⟨args, G, env, rs, q⟩ => tE_data wE_lat rs q fun d v env1 G1 H1 rs1 ex1 rv q1 => by
    obtain ⟨s, es, k⟩ := opt_ok rs1 q1
    show rIsi X.K [v, .ref (cl c0)] H1 Q
    have main : ∀ t, tyN d = some t → s = .val (.bl false) → rIsi X.K [v, .ref (cl c0)] H1 Q := fun t ht e => by
      subst e
      exact ⟨v, .ref (cl c0), .type t, .ref (cl c0), false, rfl, .own _, ty_ok rs1.ex rv ht, K0.no t (tyN_mem ht), k _ _ _ (.same (rep_bl.mpr rfl))⟩
    cases d with
    | ins c ns ds =>
      simp only [gIsiC] at es
      split at es
      · rename_i ec
        subst ec
        injection es with es; subst es
        obtain ⟨a, dx, vs, rfl, g1, g2, g3⟩ := rep_ins.mp rv
        exact ⟨_, .ref (cl c), .ref (cl c), .ref (cl c), true, rfl, .own _, .base (.ins (rs1.ex _ _ g1) K0.cl K0.ha K0.hn K0.htk K0.hm), kit_self, k _ _ _ (.same (rep_bl.mpr rfl))⟩
      · cases es
    | scr ns => cases es
    | cls c => cases es
    | non => exact main _ rfl (by injection es with es; exact es.symm)
    | bl b => exact main _ rfl (by injection es with es; exact es.symm)
    | int i => exact main _ rfl (by injection es with es; exact es.symm)
    | str z => exact main _ rfl (by injection es with es; exact es.symm)
    | lst xs => exact main _ rfl (by injection es with es; exact es.symm)
    | tup xs => exact main _ rfl (by injection es with es; exact es.symm)
end

/-! ### dicts with tuples for keys, owned -/
def keyD : D → Option Key
  | .int i => some (.inl i)
  | .str x => some (.inr x)
  | _ => none
def keysD : List D → Option (List Key)
  | [] => some []
  | d :: ds => match keyD d, keysD ds with | some k, some ks => some (k :: ks) | _, _ => none
def keyT : D → Option (List Key) | .tup ds => keysD ds | _ => none
def valD (m : List (List Key × D)) (k : List Key) : Option D := (m.find? fun kv => decide (kv.1 = k)).map (·.2)
def putD (m : List (List Key × D)) (k : List Key) (d : D) : List (List Key × D) :=
  if (m.any fun kv => decide (kv.1 = k)) = true then m.map (fun kv => if kv.1 = k then (kv.1, d) else kv) else m ++ [(k, d)]
section
variable {K : PySem.W.Frag} {cl : Str → Addr} {G : Hp}
theorem key_rep {d : D} {v : V} {k : Key} (r : Rep K cl G d v) (h : keyD d = some k) : v = kV k := by
  cases d with
  | int i => injection h with h; subst h; exact rep_int.mp r
  | str x => injection h with h; subst h; exact rep_str.mp r
  | non => cases h
  | bl b => cases h
  | lst xs => cases h
  | tup xs => cases h
  | ins c ns ds => cases h
  | scr ns => cases h
  | cls c => cases h
theorem keys_rep : ∀ {ds : List D} {vs : List V} {ks : List Key}, RepL K cl G ds vs → keysD ds = some ks → vs = ks.map kV
  | [], vs, ks, r, h => by
    injection h with h; subst h; exact repL_nil.mp r
  | d :: ds, vs, ks, r, h => by
    obtain ⟨v, q, rfl, h1, h2⟩ := repL_cons.mp r
    unfold keysD at h
    split at h
    · rename_i k ks' hk hks
      injection h with h; subst h
      rw [List.map_cons, key_rep h1 hk, keys_rep h2 hks]
    · cases h
def KR (K : PySem.W.Frag) (cl : Str → Addr) (G : Hp) (m : List (List Key × D)) (kvs : List (List Key × V)) : Prop := m.map (·.1) = kvs.map (·.1) ∧ RepL K cl G (m.map (·.2)) (kvs.map (·.2))
theorem kr_nil {kvs : List (List Key × V)} (h : KR K cl G [] kvs) : kvs = [] := by
  have := h.1
  cases kvs with
  | nil => rfl
  | cons p q => simp at this
theorem kr_cons {p : List Key × D} {m : List (List Key × D)} {kvs : List (List Key × V)} (h : KR K cl G (p :: m) kvs) : ∃ v r, kvs = (p.1, v) :: r ∧ Rep K cl G p.2 v ∧ KR K cl G m r := by
  obtain ⟨h1, h2⟩ := h
  cases kvs with
  | nil => simp at h1
  | cons q r =>
    obtain ⟨qk, qv⟩ := q
    simp only [List.map_cons, List.cons.injEq] at h1
    obtain ⟨v, vs, e, r1, r2⟩ := repL_cons.mp h2
    simp only [List.map_cons, List.cons.injEq] at e
    obtain ⟨e1, e2⟩ := e
    subst e1 e2
    exact ⟨qv, r, by rw [h1.1], r1, h1.2, r2⟩
theorem KR.cons {k : List Key} {d : D} {v : V} {m : List (List Key × D)} {kvs : List (List Key × V)} (r : Rep K cl G d v) (h : KR K cl G m kvs) : KR K cl G ((k, d) :: m) ((k, v) :: kvs) :=
  ⟨by rw [List.map_cons, List.map_cons, h.1], repL_cons.mpr ⟨v, _, rfl, r, h.2⟩⟩
theorem valD_rep : ∀ {m : List (List Key × D)} {kvs : List (List Key × V)} {k : List Key} {d : D}, KR K cl G m kvs → valD m k = some d → ∃ v, valV kvs k = some v ∧ Rep K cl G d v
  | [], _, _, _, _, h => by simp [valD] at h
  | p :: m, kvs, k, d, r, h => by
    obtain ⟨v, q, rfl, r1, r2⟩ := kr_cons r
    by_cases e : p.1 = k
    · have ed : p.2 = d := by simpa [valD, e] using h
      subst ed
      exact ⟨v, valV_pos (p := (p.1, v)) e, r1⟩
    · have h' : valD m k = some d := by simpa [valD, e] using h
      obtain ⟨u, h1, h2⟩ := valD_rep r2 h'
      exact ⟨u, by rw [valV_neg (p := (p.1, v)) e]; exact h1, h2⟩
theorem any_rep : ∀ {m : List (List Key × D)} {kvs : List (List Key × V)} (k : List Key), KR K cl G m kvs → (m.any fun kv => decide (kv.1 = k)) = kvs.any fun kv => decide (kv.1 = k)
  | [], kvs, k, h => by rw [kr_nil h]; rfl
  | p :: m, kvs, k, h => by
    obtain ⟨v, q, rfl, r1, r2⟩ := kr_cons h
    rw [List.any_cons, List.any_cons, any_rep k r2]
theorem map_rep : ∀ {m : List (List Key × D)} {kvs : List (List Key × V)} {k : List Key} {d : D} {v : V}, KR K cl G m kvs → Rep K cl G d v → KR K cl G (m.map fun kv => if kv.1 = k then (kv.1, d) else kv) (kvs.map fun kv => if kv.1 = k then (kv.1, v) else kv)
  | [], kvs, k, d, v, h, r => by rw [kr_nil h]; exact ⟨rfl, repL_nil.mpr rfl⟩
  | p :: m, kvs, k, d, v, h, r => by
    obtain ⟨u, q, rfl, r1, r2⟩ := kr_cons h
    rw [List.map_cons, List.map_cons]
    by_cases e : p.1 = k
    · rw [if_pos e, if_pos e]; exact (map_rep r2 r).cons r
    · rw [if_neg e, if_neg e]; exact (map_rep r2 r).cons r1
theorem app_rep : ∀ {m : List (List Key × D)} {kvs : List (List Key × V)} {k : List Key} {d : D} {v : V}, KR K cl G m kvs → Rep K cl G d v → KR K cl G (m ++ [(k, d)]) (kvs ++ [(k, v)])
  | [], kvs, k, d, v, h, r => by rw [kr_nil h]; exact KR.cons r ⟨rfl, repL_nil.mpr rfl⟩
  | p :: m, kvs, k, d, v, h, r => by
    obtain ⟨u, q, rfl, r1, r2⟩ := kr_cons h
    exact (app_rep r2 r).cons r1
theorem putD_rep {m : List (List Key × D)} {kvs : List (List Key × V)} {k : List Key} {d : D} {v : V} (h : KR K cl G m kvs) (r : Rep K cl G d v) : KR K cl G (putD m k d) (putK kvs k v) := by
  unfold putD putK
  rw [any_rep k h]
  split
  · exact map_rep h r
  · exact app_rep h r
theorem kr_len {m : List (List Key × D)} {kvs : List (List Key × V)} (h : KR K cl G m kvs) : m.length = kvs.length := by
  have := congrArg List.length h.1
  simpa using this
end
def isDt : Option S → Bool | some (.own _ (.dt _)) => true | _ => false
theorem isDt_at {env : En} {i : Nat} (h : isDt env[i]? = true) : ∃ o m, env[i]? = some (.own o (.dt m)) := by
  unfold isDt at h
  split at h
  · exact ⟨_, _, by assumption⟩
  · cases h
def xDNew : Xp := fun env => .ok (.own none (.dt [])) env
/-- x[k], x an own dict -/
def xDGet (i : Nat) (fk : Xp) : Xp := fun env => if isDt env[i]? = true then (fk env).data fun k e => (match e[i]?, keyT k with
  | some (.own _ (.dt m)), some ks => .opt ((valD m ks).map S.val) e
  | _, _ => .bad) else .bad
/-- f(..)[k], the dict just come -/
def xDGetN (f : Xp) (fk : Xp) : Xp := fun env => (f env).bind fun r e1 => match r with
  | .own none (.dt m) => (fk e1).data fun k e => (match keyT k with | some ks => .opt ((valD m ks).map S.val) e | none => .bad)
  | _ => .bad
/-- x[k] = v, x an own dict -/
def sDPutO (i : Nat) (fk fv : Xp) : Xs := fun env => (fv env).data fun d e1 => if isDt e1[i]? = true then (fk e1).data fun k e => (match e[i]?, keyT k with
  | some (.own o (.dt m)), some ks => if m.length < 1000000 then .ok .nx (e.set i (.own o (.dt (putD m ks d)))) else .bad
  | _, _ => .bad) else .bad
section
variable {cl : Str → Addr} {X : Cx} {o b value : Expr} {pos p p' : Pos} {fo fa fb : Xp} {x : Str} {i : Nat}
theorem se_dnew : SE cl X (.Dict [] [] pos) xDNew := fun W _ => pe_dnewT.impY fun σ H Q ⟨args, G, env, rs, q⟩ => fun p hp => wE_new rs q _ _ _ (.cell (c := .dt []) ⟨[], rfl, rfl, repL_nil.mpr rfl⟩ hp)
theorem keyT_rep {K : PySem.W.Frag} {cl : Str → Addr} {G : Hp} {d : D} {v : V} {ks : List Key} (r : Rep K cl G d v) (h : keyT d = some ks) : ∃ q, v = .ref q ∧ G q = some (.tup (ks.map kV)) := by
  cases d with
  | tup ds =>
    obtain ⟨a, vs, rfl, g1, g2⟩ := rep_tup.mp r
    exact ⟨a, rfl, by rw [← keys_rep g2 h]; exact g1⟩
  | non => cases h
  | bl b => cases h
  | int i => cases h
  | str x => cases h
  | lst xs => cases h
  | ins c ns ds => cases h
  | scr ns => cases h
  | cls c => cases h
theorem se_dget (hu : X.A.units + 1 < cLine) (h : PE X (.Name x p) (tVar i)) (hb : SE cl X b fb) (hs : NoSl b) : SE cl X (.Subscript (.Name x p) b pos) (xDGet i fb) := fun W tk =>
  (pe_dget hu h (hb W tk) hs).impY fun σ H Q ⟨args, G, env, rs, q⟩ => by
    unfold xDGet at q
    split at q
    · rename_i ho
      obtain ⟨ow, m, he⟩ := isDt_at ho
      obtain ⟨a, u, h1, h2, _⟩ := rs.own he
      refine ⟨.ref a, h1, tE_data wE_lat rs q fun dk y env1 G1 H1 rs1 ex1 ry q1 => ?_⟩
      split at q1
      · rename_i o1 m1 ks he1 hk
        obtain ⟨a1, u1, g1, g2, kvs, eu, r1, r2⟩ := rs1.own he1
        have ea := ref_same h1 g1
        subst ea
        obtain ⟨kq, rfl, hq⟩ := keyT_rep ry hk
        cases z : valD m1 ks with
        | none => rw [z] at q1; exact q1.elim
        | some d =>
          rw [z] at q1
          obtain ⟨v, p1, p2⟩ := valD_rep ⟨r1, r2⟩ z
          exact ⟨a, v, rfl, by rw [← p1]; exact DGet.t (by rw [g2, eu]) (rs1.ex _ _ hq), wE_new rs1 q1 _ _ _ (.same p2)⟩
      · exact q1.elim
    · exact q.elim
theorem se_dgetN (hu : X.A.units + 1 < cLine) (ho : SE cl X o fo) (hb : SE cl X b fb) (hs : NoSl b) : SE cl X (.Subscript o b pos) (xDGetN fo fb) := fun W tk =>
  (pe_dget hu (ho W tk) (hb W tk) hs).impY fun σ H Q ⟨args, G, env, rs, q⟩ => tE_any rs q fun r v env1 G1 H1 rs1 st1 x1 q1 => by
    split at q1
    · rename_i m
      obtain ⟨a, u, rfl, hg, hh, ⟨kvs, eu, r1, r2⟩, hn⟩ := x1
      -- the dict is frozen from here on: known as it is
      have rs2 : RS X.K cl args (upd G1 a u) H1 σ env1 := rs1.move (rs1.ex.at hh) (Ex.new hg) fun b w ob eb nb => ⟨eb, by
        have ne : b ≠ a := fun z => hn (z ▸ ob)
        rw [upd_ne ne]; exact nb⟩
      have st2 : Stp G H (Own σ env) (upd G1 a u) H1 (Own σ env1) := st1.trans ⟨Ex.new hg, fun _ _ _ e => e, fun b nb eb gb => by
        have ne : b ≠ a := fun z => nb (.inr ⟨_, rfl, by rw [z]⟩)
        rw [upd_ne ne]; exact gb, fun b z => .inl (.inl z)⟩
      have q2 := Post.later wE_lat st2 q1
      refine tE_data wE_lat rs2 q2 fun dk y env3 G3 H3 rs3 ex3 ry q3 => ?_
      split at q3
      · rename_i ks hk
        obtain ⟨kq, rfl, hq⟩ := keyT_rep ry hk
        cases z : valD m ks with
        | none => rw [z] at q3; exact q3.elim
        | some d =>
          rw [z] at q3
          have ex : Ex G1 G3 := (Ex.new hg).trans ex3
          obtain ⟨v, p1, p2⟩ := valD_rep ⟨r1, r2.mono ex⟩ z
          have ha : H3 a = some (.dT kvs) := by rw [← eu]; exact rs3.ex _ _ (ex3 _ _ upd_same)
          exact ⟨a, v, rfl, by rw [← p1]; exact DGet.t ha (rs3.ex _ _ hq), wE_new rs3 q3 _ _ _ (.same p2)⟩
      · exact q3.elim
    · exact q1.elim
theorem ss_dput (hu : X.A.units + 1 < cLine) (h : PE X (.Name x p) (tVar i)) (hk : SE cl X b fb) (hv : SE cl X value fa) (hs : swapsWith value (some (.Subscript (.Name x p) b p')) pos.line X.env = pure false := by rfl) :
    SS cl X (.Assign [.Subscript (.Name x p) b p'] value pos) (sDPutO i fb fa) := fun W tk =>
  (ps_dput hu h (hk W tk) (hv W tk) hs).impY fun D σ H ⟨args, G, env, rs, q⟩ => by
    refine tE_data wS_lat rs q fun d v env1 G1 H1 rs1 ex1 rv q1 => ?_
    split at q1
    · rename_i ho
      obtain ⟨ow, m, he⟩ := isDt_at ho
      obtain ⟨a, u, h1, h2, _⟩ := rs1.own he
      refine ⟨.ref a, h1, tE_data wS_lat rs1 q1 fun dk y env2 G2 H2 rs2 ex2 ry q2 => ?_⟩
      split at q2
      · rename_i o1 m1 ks he1 hk1
        obtain ⟨a1, u1, g1, g2, kvs, eu, r1, r2⟩ := rs2.own he1
        have ea := ref_same h1 g1
        subst ea
        obtain ⟨kq, rfl, hq⟩ := keyT_rep ry hk1
        split at q2
        · rename_i hl
          have kr := putD_rep (k := ks) ⟨r1, r2⟩ (rv.mono ex2)
          refine ⟨a, _, rfl, DPut.t (by rw [g2, eu]) (rs2.ex _ _ hq) (by rw [← kr_len ⟨r1, r2⟩]; exact Nat.lt_of_lt_of_le hl (le_line (Nat.le_refl _))), wS_poke rs2 he1 h1 (c' := .dt (putD m1 ks d)) ⟨_, rfl, kr.1, kr.2⟩ q2⟩
        · exact q2.elim
      · exact q2.elim
    · exact q1.elim
end
end Ya

set_option maxHeartbeats 4000000
namespace Ya
open PySem PySem.Spec PyProof.Rows L2

/-! ### a class held by a local name, called; classmethods -/
section
variable {X : Cx} {CX : CXT} {k i : Nat} {f C : Addr} {fd : FuncData} {ps : List Str} {sp : Sp} {E : L2.St → XK} {x m : Str} {p pos : Pos} {e : Expr} {es : List Expr} {t : TA}
theorem pe_makeLS (M : Mk X.K C f) (F : FnOk X.prog X.w X.K X.mg X.base CX k f fd ps sp) (hr : Room (k + 1) X.A) (hN : X.N[i]? = some x) (hv : Vis X.env.scope x) (hb : Binds X.K fd ps []) (hx : ∀ σ, PassesAt CX X σ (E σ))
    (ha : PA X (e :: es) t) (hdb : (x == ("__debug__" : Str)) = false := by decide) (hcd : (x == ("__classdict__" : Str)) = false := by decide) (he : starEach (e :: es) X.env = (false, eval e X.env) :: starEach es X.env := by rfl) (hpl : (backTo pos (starEach es X.env)).any (·.1) = false := by rfl) :
    PE X (.Call (.Name x p) (e :: es) [] pos) (fun σ H Q => σ[i]? = some (some (.ref C)) ∧ tMakeS C sp E t σ H Q) := by
  refine ⟨fun pins s σ H Q I h => ?_⟩
  obtain ⟨hs, ht⟩ := h
  refine wpAny_Call_Name_kw (thn ((pe_var (pos := p) hN hv hdb hcd).run pins s σ H (fun v H1 => v = .ref C ∧ H1 = H) I ⟨.ref C, hs, rfl, rfl⟩) fun u s1 ⟨v, H1, I1, r1, q1⟩ => ?_)
  obtain ⟨rfl, rfl⟩ := q1
  cases r1
  refine PySem.W.callWith_K (h₀ := X.base) I.ok.mod.kin M.kp (thn (ha.run pos pins s1 σ _ _ I1 ht) fun us s2 ⟨vs, H2, I2, r, q⟩ => ⟨I2.kIn, ?_⟩) he hpl
  exact run_makeS M F hr hb (hx σ) I2 r q
end
def xMakeL (i : Nat) (c0 : Str) (F : Fn) (fa : Xa) : Xp := fun env => match env[i]? with
  | some (.val (.cls c)) => if c = c0 then xMake c0 F fa env else .bad
  | _ => .bad
/-- C.m(..), m a classmethod that lets nothing out -/
def xCMeth (c0 : Str) (F : Fn) (fa : Xa) : Xp := fun env => (fa env).bind fun ds e => match F (.val (.cls c0) :: ds.map .val) with
  | .ret r _ => .ok r e
  | _ => .bad
section
variable {cl : Str → Addr} {X : Cx} {k n i : Nat} {f g : Addr} {fd : FuncData} {ps : List Str} {F : Fn} {c0 m x : Str} {p q pos apos : Pos} {e : Expr} {es : List Expr} {fa : Xa} {mc : Value} {pl : Sem Bool}
theorem se_makeL (M : Mk X.K (cl c0) f) (hF : FnOk X.prog X.w X.K X.mg X.base (L2.CX X.prog X.w) k f fd ps (spF X.K cl (n + 1) F)) (hr : Room (k + 1) X.A) (hN : X.N[i]? = some x) (hv : Vis X.env.scope x) (hb : Binds X.K fd ps []) (ha : SA cl X (e :: es) fa) (hl : ∀ env xs e', fa env = .ok xs e' → xs.length = n)
    (hdb : (x == ("__debug__" : Str)) = false := by decide) (hcd : (x == ("__classdict__" : Str)) = false := by decide) (he : starEach (e :: es) X.env = (false, eval e X.env) :: starEach es X.env := by rfl) (hpl : (backTo pos (starEach es X.env)).any (·.1) = false := by rfl) :
    SE cl X (.Call (.Name x p) (e :: es) [] pos) (xMakeL i c0 F fa) := fun W tk =>
  (pe_makeLS M hF hr hN hv hb (fun σ => passAt tk σ) (ha W tk) hdb hcd he hpl).impY fun σ H Q ⟨args, G, env, rs, q⟩ => by
    unfold xMakeL at q
    split at q
    · rename_i c hc
      split at q
      · rename_i ec
        subst ec
        obtain ⟨v, h1, h2⟩ := rs.val hc
        refine ⟨by rw [h1, rep_cls.mp h2], args, G, env, rs, ?_⟩
        unfold xMake at q
        cases hf : fa env with
        | bad => rw [hf] at q; exact q
        | exc c ns ds e => rw [hf] at q; exact q
        | ok xs e2 =>
          rw [hf] at q
          intro us G2 H2 rs2 st2 rl x dx hx hd hne
          have z := make_post (F := F) (c0 := c) rs2 rl hx hd hne (Post.later wE_lat st2 q)
          rw [hl env xs e2 hf] at z
          exact z
      · exact q.elim
    · exact q.elim
theorem se_cmeth {pc : Addr} (r : ClX.CRead X.K (cl c0) mc) (c : ClX.CMet X.K (cl c0) mc m pc g) (hF : FnOk X.prog X.w X.K X.mg X.base (L2.CX X.prog X.w) k g fd ps (spF X.K cl (n + 1) F)) (hr : Room k X.A) (hg : Gl X x) (hm : X.mg x = some (.ref (cl c0))) (hb : Binds X.K fd ps []) (ha : SA cl X (e :: es) fa) (hl : ∀ env xs e', fa env = .ok xs e' → xs.length = n)
    (hdb : (x == ("__debug__" : Str)) = false := by decide) (hst : starEach (e :: es) X.env = (false, eval e X.env) :: starEach es X.env := by rfl) (hpl : (backTo pos (starEach es X.env)).any (·.1) = false := by rfl)
    (ht : eval (.Call (.Attribute (.Name x p) m apos) (e :: es) [] pos) X.env = (do
      let ov ← eval (.Name x p) X.env
      standAt apos.atName
      let (f, first) ← holding [ov] (getMethod ov m pl)
      callWith pos f first (backTo pos (starEach (e :: es) X.env)) (backToKw pos (keywordEach [] X.env))) := by rfl) :
    SE cl X (.Call (.Attribute (.Name x p) m apos) (e :: es) [] pos) (xCMeth c0 F fa) := fun W tk =>
  (ClX.pe_cmeth (E := fun _ _ _ => False) (pl := pl) (pe_glob (v := .ref (cl c0)) hg hm rfl hdb) r c (hF.raw hb .nil) hr (fun _ _ _ _ _ _ _ h => by
    obtain ⟨_, _, _, _, _, _, _, _, _, _, _, _, z⟩ := h
    exact z.elim) (ha W tk) hst hpl ht).impY fun σ H Q ⟨args, G, env, rs, q⟩ => by
    refine ⟨rfl, args, G, env, rs, ?_⟩
    unfold xCMeth at q
    cases hf : fa env with
    | bad => rw [hf] at q; exact q
    | exc c ns ds e => rw [hf] at q; exact q
    | ok xs e2 =>
      rw [hf] at q
      intro us G2 H2 rs2 st2 rl
      have q2 := Post.later wE_lat st2 q
      replace q2 : Post X.K cl args W (wE X.K cl args σ Q) G2 H2 (Own σ e2) (match F (.val (.cls c0) :: xs.map .val) with | .ret r _ => .ok r e2 | _ => .bad) := q2
      split at q2
      · rename_i r ss hF'
        have z := call_postD (F := F) (ds := .cls c0 :: xs) (Q := Q) (W := fun _ _ _ _ => False) rs2 (repL_cons.mpr ⟨.ref (cl c0), us, rfl, rep_cls.mpr rfl, rl⟩) (by
          unfold callF
          rw [show ((D.cls c0 :: xs).map S.val) = .val (.cls c0) :: xs.map .val from rfl, hF']
          exact q2)
        rw [List.length_cons, hl env xs e2 hf] at z
        show spF X.K cl (n + 1) F ((V.ref (cl c0) :: us) ++ []) H2 Q _
        rw [List.append_nil]
        exact z
      · exact q2.elim
end
end Ya

set_option maxHeartbeats 4000000
namespace Ya
open PySem PySem.Spec PyProof.Rows L2

/-! ### the rules in short -/
def gNeg : D → Option S | .int i => some (.val (.int (-i))) | _ => none
section
variable {cl : Str → Addr} {X : Cx} {a b c e : Expr} {es : List Expr} {pos p : Pos} {fa fb fc : Xp} {fs : Xa} {x : Str} {i : Nat}
theorem ok_Neg {K : PySem.W.Frag} : R1Ok K cl (rU fun i => .int (-i)) gNeg := by
  intro G H x dx s Q ex rx e q
  unfold gNeg at e
  split at e
  · injection e with e; subst e
    exact ⟨_, rep_int.mp rx, q _ _ _ (.same (rep_int.mpr rfl))⟩
  · cases e
theorem w_neg (ha : SE cl X a fa) : SE cl X (.UnaryOp .USub a pos) (x1 gNeg fa) := se_un un_neg ok_Neg ha
theorem w_add (ha : SE cl X a fa) (hb : SE cl X b fb) : SE cl X (.BinOp a .Add b pos) (x2 gAdd fa fb) := se_op op_add ok_I ha hb
theorem w_sub (ha : SE cl X a fa) (hb : SE cl X b fb) : SE cl X (.BinOp a .Sub b pos) (x2 Ya.gSub fa fb) := se_op op_sub ok_I ha hb
theorem w_mul (ha : SE cl X a fa) (hb : SE cl X b fb) : SE cl X (.BinOp a .Mult b pos) (x2 gMul fa fb) := se_op op_mul (ok_Ic cMul_ok) ha hb
theorem w_fdiv (ha : SE cl X a fa) (hb : SE cl X b fb) : SE cl X (.BinOp a .FloorDiv b pos) (x2 gDiv fa fb) := se_op op_fdiv (ok_Ic cDiv_ok) ha hb
theorem w_mod (ha : SE cl X a fa) (hb : SE cl X b fb) : SE cl X (.BinOp a .Mod b pos) (x2 gMod fa fb) := se_op op_mod (ok_Ic cMod_ok) ha hb
theorem w_pow (ha : SE cl X a fa) (hb : SE cl X b fb) : SE cl X (.BinOp a .Pow b pos) (x2 gPow fa fb) := se_op op_pow (ok_Ic cPow_ok) ha hb
theorem w_shl (ha : SE cl X a fa) (hb : SE cl X b fb) : SE cl X (.BinOp a .LShift b pos) (x2 gShl fa fb) := se_op op_shl (ok_Ic cPow_ok) ha hb
theorem w_shr (ha : SE cl X a fa) (hb : SE cl X b fb) : SE cl X (.BinOp a .RShift b pos) (x2 gShr fa fb) := se_op op_shr (ok_Ic cShr_ok) ha hb
theorem w_and (ha : SE cl X a fa) (hb : SE cl X b fb) : SE cl X (.BinOp a .BitAnd b pos) (x2 gAnd fa fb) := se_op op_and ok_I ha hb
theorem w_or (ha : SE cl X a fa) (hb : SE cl X b fb) : SE cl X (.BinOp a .BitOr b pos) (x2 gOr fa fb) := se_op op_or ok_I ha hb
theorem w_xor (ha : SE cl X a fa) (hb : SE cl X b fb) : SE cl X (.BinOp a .BitXor b pos) (x2 gXor fa fb) := se_op op_xor ok_I ha hb
theorem w_cat (ha : SE cl X a fa) (hb : SE cl X b fb) : SE cl X (.BinOp a .Add b pos) (x2 gCat fa fb) := se_op op_cat ok_Cat ha hb
theorem w_rep (ha : SE cl X a fa) (hb : SE cl X b fb) : SE cl X (.BinOp a .Mult b pos) (x2 gRep fa fb) := se_op op_rep ok_Rep ha hb
theorem w_lt (ha : SE cl X a fa) (hb : SE cl X b fb) : SE cl X (.Compare a [.Lt] [b] pos) (x2 gLt fa fb) := se_cmp op_lt ok_B ha hb (nomark _)
theorem w_le (ha : SE cl X a fa) (hb : SE cl X b fb) : SE cl X (.Compare a [.LtE] [b] pos) (x2 gLe fa fb) := se_cmp op_le ok_B ha hb (nomark _)
theorem w_gt (ha : SE cl X a fa) (hb : SE cl X b fb) : SE cl X (.Compare a [.Gt] [b] pos) (x2 gGt fa fb) := se_cmp op_gt ok_B ha hb (nomark _)
theorem w_ge (ha : SE cl X a fa) (hb : SE cl X b fb) : SE cl X (.Compare a [.GtE] [b] pos) (x2 gGe fa fb) := se_cmp op_ge ok_B ha hb (nomark _)
theorem w_eq (hu : X.A.units + 64 < cLine) (ha : SE cl X a fa) (hb : SE cl X b fb) : SE cl X (.Compare a [.Eq] [b] pos) (x2 gEq fa fb) := se_cmp (op_eqD hu) ok_Eq ha hb (nomark _)
theorem w_ne (hu : X.A.units + 64 < cLine) (ha : SE cl X a fa) (hb : SE cl X b fb) : SE cl X (.Compare a [.NotEq] [b] pos) (x2 gNe fa fb) := se_cmp (op_neD hu) ok_Ne ha hb (nomark _)
theorem w_is (ha : SE cl X a fa) (hb : SE cl X b fb) : SE cl X (.Compare a [.Is] [b] pos) (x2 gIs fa fb) := se_cmp op_isN ok_Is ha hb (nomark _)
theorem w_nis (ha : SE cl X a fa) (hb : SE cl X b fb) : SE cl X (.Compare a [.IsNot] [b] pos) (x2 gNis fa fb) := se_cmp op_notN ok_Nis ha hb (nomark _)
theorem w_in (ha : SE cl X a fa) (hb : SE cl X b fb) (hm : behindInMarks .In b = false := by first | rfl | with_unfolding_all rfl) : SE cl X (.Compare a [.In] [b] pos) (x2 gIn fa fb) := se_cmp op_in_seq ok_In ha hb hm
theorem w_nin (ha : SE cl X a fa) (hb : SE cl X b fb) (hm : behindInMarks .NotIn b = false := by first | rfl | with_unfolding_all rfl) : SE cl X (.Compare a [.NotIn] [b] pos) (x2 gNin fa fb) := se_cmp op_notIn_seq ok_In ha hb hm
theorem v_lt (ha : SE cl X a fa) (hb : SE cl X b fb) : ST cl X (.Compare a [.Lt] [b] pos) (uTst (x2 gLt fa fb)) := st_cmp op_lt ok_B ha hb (nomark _)
theorem v_le (ha : SE cl X a fa) (hb : SE cl X b fb) : ST cl X (.Compare a [.LtE] [b] pos) (uTst (x2 gLe fa fb)) := st_cmp op_le ok_B ha hb (nomark _)
theorem v_gt (ha : SE cl X a fa) (hb : SE cl X b fb) : ST cl X (.Compare a [.Gt] [b] pos) (uTst (x2 gGt fa fb)) := st_cmp op_gt ok_B ha hb (nomark _)
theorem v_ge (ha : SE cl X a fa) (hb : SE cl X b fb) : ST cl X (.Compare a [.GtE] [b] pos) (uTst (x2 gGe fa fb)) := st_cmp op_ge ok_B ha hb (nomark _)
theorem v_eq (hu : X.A.units + 64 < cLine) (ha : SE cl X a fa) (hb : SE cl X b fb) : ST cl X (.Compare a [.Eq] [b] pos) (uTst (x2 gEq fa fb)) := st_cmp (op_eqD hu) ok_Eq ha hb (nomark _)
theorem v_ne (hu : X.A.units + 64 < cLine) (ha : SE cl X a fa) (hb : SE cl X b fb) : ST cl X (.Compare a [.NotEq] [b] pos) (uTst (x2 gNe fa fb)) := st_cmp (op_neD hu) ok_Ne ha hb (nomark _)
theorem v_is (ha : SE cl X a fa) (hb : SE cl X b fb) : ST cl X (.Compare a [.Is] [b] pos) (uTst (x2 gIs fa fb)) := st_cmp op_isN ok_Is ha hb (nomark _)
theorem v_nis (ha : SE cl X a fa) (hb : SE cl X b fb) : ST cl X (.Compare a [.IsNot] [b] pos) (uTst (x2 gNis fa fb)) := st_cmp op_notN ok_Nis ha hb (nomark _)
theorem v_in (ha : SE cl X a fa) (hb : SE cl X b fb) (hm : behindInMarks .In b = false := by first | rfl | with_unfolding_all rfl) : ST cl X (.Compare a [.In] [b] pos) (uTst (x2 gIn fa fb)) := st_cmp op_in_seq ok_In ha hb hm
theorem v_nin (ha : SE cl X a fa) (hb : SE cl X b fb) (hm : behindInMarks .NotIn b = false := by first | rfl | with_unfolding_all rfl) : ST cl X (.Compare a [.NotIn] [b] pos) (uTst (x2 gNin fa fb)) := st_cmp op_notIn_seq ok_In ha hb hm
theorem w_ix (ha : SE cl X a fa) (hb : SE cl X b fb) (hs : PlainIx b := by intro _ _; rfl) : SE cl X (.Subscript a b pos) (x2 gIx fa fb) := fun W tk =>
  (pe_ix (ix_list.or ix_tup) (ha W tk) (hb W tk) hs).impY fun σ H Q ⟨args, G, env, rs, q⟩ => tE_data wE_lat rs q fun dx x env1 G1 H1 rs1 ex1 rx q1 => tE_data wE_lat rs1 q1 fun dy y env2 G2 H2 rs2 ex2 ry q2 => by
    obtain ⟨s, e, k⟩ := opt_ok rs2 q2
    cases dx with
    | lst xs => exact .inl (ok_IxL rs2.ex (rx.mono ex2) ry (show gIxL (.lst xs) dy = some s by cases dy <;> first | exact e | cases e) k)
    | scr xs => exact .inl (ok_IxL rs2.ex (rx.mono ex2) ry (show gIxL (.scr xs) dy = some s by cases dy <;> first | exact e | cases e) k)
    | tup xs => exact .inr (ok_IxT rs2.ex (rx.mono ex2) ry (show gIxT (.tup xs) dy = some s by cases dy <;> first | exact e | cases e) k)
    | non => cases e
    | bl b => cases e
    | int j => cases e
    | str z => cases e
    | ins c ns ds => cases e
    | cls c => cases e
/-! calls of what the language brings, one argument or several -/
theorem w_len (hm : X.mg "len" = none) (hg : Gl X "len") (ha : SA cl X (e :: es) fs) (he : starEach (e :: es) X.env = (false, eval e X.env) :: starEach es X.env := by rfl) (hpl : (backTo pos (starEach es X.env)).any (·.1) = false := by rfl) : SE cl X (.Call (.Name "len" p) (e :: es) [] pos) (xN gLen fs) := se_callB call_len_seq (ok_Len rfl) hg hm rfl ha (by decide) (by decide) he hpl
theorem w_int (hm : X.mg "int" = none) (hg : Gl X "int") (ha : SA cl X (e :: es) fs) (he : starEach (e :: es) X.env = (false, eval e X.env) :: starEach es X.env := by rfl) (hpl : (backTo pos (starEach es X.env)).any (·.1) = false := by rfl) : SE cl X (.Call (.Name "int" p) (e :: es) [] pos) (xN gInt fs) := se_callTy call_int1 ok_Int hg hm rfl ha (by decide) (by decide) he hpl
theorem w_abs (hm : X.mg "abs" = none) (hg : Gl X "abs") (ha : SA cl X (e :: es) fs) (he : starEach (e :: es) X.env = (false, eval e X.env) :: starEach es X.env := by rfl) (hpl : (backTo pos (starEach es X.env)).any (·.1) = false := by rfl) : SE cl X (.Call (.Name "abs" p) (e :: es) [] pos) (xN gAbs fs) := se_callB call_abs ok_Abs hg hm rfl ha (by decide) (by decide) he hpl
theorem w_max2 (hc : X.calm = true) (hm : X.mg "max" = none) (hg : Gl X "max") (ha : SA cl X (e :: es) fs) (he : starEach (e :: es) X.env = (false, eval e X.env) :: starEach es X.env := by rfl) (hpl : (backTo pos (starEach es X.env)).any (·.1) = false := by rfl) : SE cl X (.Call (.Name "max" p) (e :: es) [] pos) (xN gMax2 fs) := se_callB (call_max2 hc) ok_II hg hm rfl ha (by decide) (by decide) he hpl
theorem w_min2 (hc : X.calm = true) (hm : X.mg "min" = none) (hg : Gl X "min") (ha : SA cl X (e :: es) fs) (he : starEach (e :: es) X.env = (false, eval e X.env) :: starEach es X.env := by rfl) (hpl : (backTo pos (starEach es X.env)).any (·.1) = false := by rfl) : SE cl X (.Call (.Name "min" p) (e :: es) [] pos) (xN gMin2 fs) := se_callB (call_min2 hc) ok_II hg hm rfl ha (by decide) (by decide) he hpl
theorem w_maxL (hc : X.calm = true) (hm : X.mg "max" = none) (hg : Gl X "max") (ha : SA cl X (e :: es) fs) (he : starEach (e :: es) X.env = (false, eval e X.env) :: starEach es X.env := by rfl) (hpl : (backTo pos (starEach es X.env)).any (·.1) = false := by rfl) : SE cl X (.Call (.Name "max" p) (e :: es) [] pos) (xN gMaxL fs) := se_callB (cr_max hc) ok_MaxL hg hm rfl ha (by decide) (by decide) he hpl
theorem w_minL (hc : X.calm = true) (hm : X.mg "min" = none) (hg : Gl X "min") (ha : SA cl X (e :: es) fs) (he : starEach (e :: es) X.env = (false, eval e X.env) :: starEach es X.env := by rfl) (hpl : (backTo pos (starEach es X.env)).any (·.1) = false := by rfl) : SE cl X (.Call (.Name "min" p) (e :: es) [] pos) (xN gMinL fs) := se_callB (cr_min hc) ok_MinL hg hm rfl ha (by decide) (by decide) he hpl
theorem w_sum (hc : X.calm = true) (hm : X.mg "sum" = none) (hg : Gl X "sum") (ha : SA cl X (e :: es) fs) (he : starEach (e :: es) X.env = (false, eval e X.env) :: starEach es X.env := by rfl) (hpl : (backTo pos (starEach es X.env)).any (·.1) = false := by rfl) : SE cl X (.Call (.Name "sum" p) (e :: es) [] pos) (xN gSum fs) := se_callB (cr_sum2 hc) ok_Sum hg hm rfl ha (by decide) (by decide) he hpl
theorem w_all (hc : X.calm = true) (hm : X.mg "all" = none) (hg : Gl X "all") (ha : SA cl X (e :: es) fs) (he : starEach (e :: es) X.env = (false, eval e X.env) :: starEach es X.env := by rfl) (hpl : (backTo pos (starEach es X.env)).any (·.1) = false := by rfl) : SE cl X (.Call (.Name "all" p) (e :: es) [] pos) (xN gAllL fs) := se_callB (cr_all hc) ok_AllL hg hm rfl ha (by decide) (by decide) he hpl
theorem w_any (hc : X.calm = true) (hm : X.mg "any" = none) (hg : Gl X "any") (ha : SA cl X (e :: es) fs) (he : starEach (e :: es) X.env = (false, eval e X.env) :: starEach es X.env := by rfl) (hpl : (backTo pos (starEach es X.env)).any (·.1) = false := by rfl) : SE cl X (.Call (.Name "any" p) (e :: es) [] pos) (xN gAnyL fs) := se_callB (cr_any hc) ok_AnyL hg hm rfl ha (by decide) (by decide) he hpl
theorem w_list (hm : X.mg "list" = none) (hg : Gl X "list") (ha : SA cl X (e :: es) fs) (he : starEach (e :: es) X.env = (false, eval e X.env) :: starEach es X.env := by rfl) (hpl : (backTo pos (starEach es X.env)).any (·.1) = false := by rfl) : SE cl X (.Call (.Name "list" p) (e :: es) [] pos) (xN gList fs) := se_callTy call_list_of ok_List hg hm rfl ha (by decide) (by decide) he hpl
/-! own lists -/
theorem w_app {apos cpos : Pos} (h : PE X (.Name x p) (tVar i)) (ha : SE cl X e fa) (hbase : attributeBase (.Name x p) "append" X.env (eval (.Name x p) X.env) = eval (.Name x p) X.env := by rfl)
    (hfew : ((backTo cpos (starEach (e :: []) X.env)).all (fun x => !x.1) && (backToKw cpos (keywordEach [] X.env)).all (fun x => x.1.isSome)
      && decide ((e :: []).length + ([] : List Keyword).length + (if ([] : List Keyword).isEmpty then 0 else 1) < 30)) = true := by rfl)
    (hline : (apos.endLine == cpos.line) = true := by rfl) (hs : starEach (e :: []) X.env = (false, eval e X.env) :: starEach [] X.env := by rfl) (hplain : (backTo cpos (starEach [] X.env)).any (·.1) = false := by rfl) :
    SE cl X (.Call (.Attribute (.Name x p) "append" apos) [e] [] cpos) (xApp i fa) := se_app h ha fun te hh => pe_bm PySem.F.plainAttrs_list PySem.F.slot_list_append PySem.F.type_list_append mt_append h (pa_cons hh pa_nil hs) hbase hfew hline hs hplain
theorem w_pop {apos cpos : Pos} (h : PE X (.Name x p) (tVar i)) (hbase : attributeBase (.Name x p) "pop" X.env (eval (.Name x p) X.env) = eval (.Name x p) X.env := by rfl) (hline : (apos.endLine == cpos.line) = true := by rfl) : SE cl X (.Call (.Attribute (.Name x p) "pop" apos) [] [] cpos) (xPop i) := se_pop (pe_bm0 PySem.F.plainAttrs_list PySem.F.slot_list_pop PySem.F.type_list_pop mt_pop h hbase hline)
theorem w_rev {apos cpos : Pos} (h : PE X (.Name x p) (tVar i)) (hbase : attributeBase (.Name x p) "reverse" X.env (eval (.Name x p) X.env) = eval (.Name x p) X.env := by rfl) (hline : (apos.endLine == cpos.line) = true := by rfl) : SE cl X (.Call (.Attribute (.Name x p) "reverse" apos) [] [] cpos) (xRev i) := se_rev (pe_bm0 PySem.F.plainAttrs_list PySem.F.slot_list_reverse PySem.F.type_list_reverse mt_reverse h hbase hline)
theorem w_lenO (hm : X.mg "len" = none) (hg : Gl X "len") {q : Pos} (h : PE X (.Name x q) (tVar i)) (he : starEach ((.Name x q) :: []) X.env = (false, eval (.Name x q) X.env) :: starEach [] X.env := by rfl) (hpl : (backTo pos (starEach [] X.env)).any (·.1) = false := by rfl) : SE cl X (.Call (.Name "len" p) [.Name x q] [] pos) (xLenO i) := se_lenO (pe_callB call_len_seq hg hm rfl (pa_cons h pa_nil he) (by decide) (by decide) he hpl)
theorem w_putIx {value : Expr} {p' : Pos} (h : PE X (.Name x p) (tVar i)) (hk : SE cl X b fb) (hv : SE cl X value fa) (h1 : swapsWithSole [.Subscript (.Name x p) b p'] value pos.line X.env = pure false := by rfl) (h2 : swappedStores [.Subscript (.Name x p) b p'] value X.env = pure none := by rfl) (h3 : (assignEach [.Subscript (.Name x p) b p'] X.env).map (·.2) = [assign (.Subscript (.Name x p) b p') X.env] := by rfl)
    (h4 : ∀ v, assign (.Subscript (.Name x p) b p') X.env v = (do
      let ov ← holding [v] (eval (.Name x p) X.env)
      let iv ← holding [v, ov] (eval b X.env)
      standAt p'
      holding [v, ov, iv] (setItem ov iv v)
      release [v, ov, iv] []) := by intro _; rfl) : SS cl X (.Assign [.Subscript (.Name x p) b p'] value pos) (sPutIx i fb fa) :=
  ss_putIx h hk hv fun ti tv hi hv => ps_asg hv (pg_sub h hi set_list h4) h1 h2 h3
end

/-! ### defs by name -/
def Ok1 (P : Program) (w : World) (K : PySem.W.Frag) (mg : Str → Option Value) (base : Heap) (cl : Str → Addr) (k : Nat) (f : Addr) (ps : List Str) (F : Fn) : Prop :=
  ∃ fd, FnOk P w K mg base (L2.CX P w) k f fd ps (spF K cl ps.length F) ∧ Binds K fd ps [] ∧ PySem.W.keepIn K (.ref f) = true
section
variable {cl : Str → Addr} {X : Cx} {k : Nat} {f : Addr} {ps : List Str} {F : Fn} {x c0 m : Str} {p pos apos : Pos} {e o : Expr} {es : List Expr} {n : Nat} {fr : Xr} {fa : Xa} {fo : Xp}
theorem w_call (h : Ok1 X.prog X.w X.K X.mg X.base cl k f ps F) (hr : Room k X.A) (hm : X.mg x = some (.ref f)) (hg : Gl X x) (ha : SR cl X (e :: es) fr) (hl : (e :: es).length = ps.length) (hla : ∀ env xs e', fr env = .ok xs e' → xs.length = ps.length)
    (hdb : (x == ("__debug__" : Str)) = false := by decide) (he : starEach (e :: es) X.env = (false, eval e X.env) :: starEach es X.env := by rfl) (hpl : (backTo pos (starEach es X.env)).any (·.1) = false := by rfl) :
    SE cl X (.Call (.Name x p) (e :: es) [] pos) (xCall F fr) := by
  obtain ⟨fd, h1, h2, h3⟩ := h
  exact se_call h1 hr hg hm h3 h2 ha hl hla hdb he hpl
theorem w_make {C : Addr} (M : Mk X.K (cl c0) f) (h : Ok1 X.prog X.w X.K X.mg X.base cl k f ps F) (hr : Room (k + 1) X.A) (hm : X.mg x = some (.ref (cl c0))) (hg : Gl X x) (ha : SA cl X (e :: es) fa) (hp : ps.length = n + 1) (hl : ∀ env xs e', fa env = .ok xs e' → xs.length = n)
    (hdb : (x == ("__debug__" : Str)) = false := by decide) (he : starEach (e :: es) X.env = (false, eval e X.env) :: starEach es X.env := by rfl) (hpl : (backTo pos (starEach es X.env)).any (·.1) = false := by rfl) :
    SE cl X (.Call (.Name x p) (e :: es) [] pos) (xMake c0 F fa) := by
  obtain ⟨fd, h1, h2, h3⟩ := h
  rw [hp] at h1
  exact se_make M h1 hr hg hm h2 ha hl hdb he hpl
theorem w_makeL {i : Nat} (M : Mk X.K (cl c0) f) (h : Ok1 X.prog X.w X.K X.mg X.base cl k f ps F) (hr : Room (k + 1) X.A) (hN : X.N[i]? = some x) (hv : Vis X.env.scope x) (ha : SA cl X (e :: es) fa) (hp : ps.length = n + 1) (hl : ∀ env xs e', fa env = .ok xs e' → xs.length = n)
    (hdb : (x == ("__debug__" : Str)) = false := by decide) (hcd : (x == ("__classdict__" : Str)) = false := by decide) (he : starEach (e :: es) X.env = (false, eval e X.env) :: starEach es X.env := by rfl) (hpl : (backTo pos (starEach es X.env)).any (·.1) = false := by rfl) :
    SE cl X (.Call (.Name x p) (e :: es) [] pos) (xMakeL i c0 F fa) := by
  obtain ⟨fd, h1, h2, h3⟩ := h
  rw [hp] at h1
  exact se_makeL M h1 hr hN hv h2 ha hl hdb hcd he hpl
theorem w_prop {pp : Addr} {nm : Str} (ho : SE cl X o fo) (hc : Cls X.K (cl c0)) (hp : PropOf X.K (cl c0) nm pp f) (h : Ok1 X.prog X.w X.K X.mg X.base cl k f ps F) (hl : ps.length = 1) (hr : Room (k + 1) X.A)
    (hab : attributeBase o nm X.env (eval o X.env) = eval o X.env := by rfl) : SE cl X (.Attribute o nm pos) (xProp c0 F fo) := by
  obtain ⟨fd, h1, h2, h3⟩ := h
  rw [hl] at h1
  exact se_prop ho hc hp h1 hr h2 hab
theorem w_cmeth {mc : Value} {pl : Sem Bool} {pc : Addr} (r : ClX.CRead X.K (cl c0) mc) (c : ClX.CMet X.K (cl c0) mc m pc f) (h : Ok1 X.prog X.w X.K X.mg X.base cl k f ps F) (hr : Room k X.A) (hm : X.mg x = some (.ref (cl c0))) (hg : Gl X x) (ha : SA cl X (e :: es) fa) (hp : ps.length = n + 1) (hl : ∀ env xs e', fa env = .ok xs e' → xs.length = n)
    (hdb : (x == ("__debug__" : Str)) = false := by decide) (hst : starEach (e :: es) X.env = (false, eval e X.env) :: starEach es X.env := by rfl) (hpl : (backTo pos (starEach es X.env)).any (·.1) = false := by rfl)
    (ht : eval (.Call (.Attribute (.Name x p) m apos) (e :: es) [] pos) X.env = (do
      let ov ← eval (.Name x p) X.env
      standAt apos.atName
      let (f, first) ← holding [ov] (getMethod ov m pl)
      callWith pos f first (backTo pos (starEach (e :: es) X.env)) (backToKw pos (keywordEach [] X.env))) := by rfl) :
    SE cl X (.Call (.Attribute (.Name x p) m apos) (e :: es) [] pos) (xCMeth c0 F fa) := by
  obtain ⟨fd, h1, h2, h3⟩ := h
  rw [hp] at h1
  exact se_cmeth r c h1 hr hg hm h2 ha hl hdb hst hpl ht
end
/-! lengths of argument lists -/
theorem al_nil : ∀ env xs e', aNil env = .ok xs e' → xs.length = 0 := fun env xs e' h => by
  injection h with h1 h2; subst h1; rfl
theorem al_cons {f : Xp} {r : Xa} {n : Nat} (h : ∀ env xs e', r env = .ok xs e' → xs.length = n) : ∀ env xs e', aCons f r env = .ok xs e' → xs.length = n + 1 := fun env xs e' q => by
  unfold aCons at q
  cases hf : f env with
  | bad => rw [hf] at q; cases q
  | exc c ns ds e => rw [hf] at q; cases q
  | ok a e1 =>
    rw [hf] at q
    unfold Res.data at q
    cases hz : frz a with
    | none => simp only [hz] at q; cases q
    | some d =>
      simp only [hz] at q
      cases hr : r e1 with
      | bad => rw [hr] at q; cases q
      | exc c ns ds e => rw [hr] at q; cases q
      | ok ys e2 =>
        rw [hr] at q
        injection q with q1 q2
        subst q1
        simp [h e1 ys e2 hr]
theorem rl_nil : ∀ env xs e', rNil env = .ok xs e' → xs.length = 0 := fun env xs e' h => by
  injection h with h1 h2; subst h1; rfl
theorem rl_cons {f : Xp} {r : Xr} {n : Nat} (h : ∀ env xs e', r env = .ok xs e' → xs.length = n) : ∀ env xs e', rCons f r env = .ok xs e' → xs.length = n + 1 := fun env xs e' q => by
  unfold rCons at q
  cases hf : f env with
  | bad => rw [hf] at q; cases q
  | exc c ns ds e => rw [hf] at q; cases q
  | ok a e1 =>
    rw [hf] at q
    unfold Res.data at q
    cases hz : frz a with
    | none => simp only [hz] at q; cases q
    | some d =>
      simp only [hz] at q
      cases hr : r e1 with
      | bad => rw [hr] at q; cases q
      | exc c ns ds e => rw [hr] at q; cases q
      | ok ys e2 =>
        rw [hr] at q
        injection q with q1 q2
        subst q1
        simp [h e1 ys e2 hr]
theorem rl_io {i : Nat} {r : Xr} {n : Nat} (h : ∀ env xs e', r env = .ok xs e' → xs.length = n) : ∀ env xs e', rIo i r env = .ok xs e' → xs.length = n + 1 := fun env xs e' q => by
  unfold rIo at q
  split at q
  · cases hr : r env with
    | bad => rw [hr] at q; cases q
    | exc c ns ds e => rw [hr] at q; cases q
    | ok ys e2 =>
      rw [hr] at q
      injection q with q1 q2
      subst q1
      simp [h env ys e2 hr]
  · cases q
end Ya

set_option maxHeartbeats 4000000
namespace Ya
open PySem PySem.Spec PyProof.Rows L2
theorem su_plain {K : PySem.W.Frag} {cl : Str → Addr} {oi : Option Nat} {m : Str → Option Bool} {f : Xs} : SuOk K cl oi m (fun _ _ => f) (fun _ _ _ => tS K cl (fun _ _ _ _ => False) f) :=
  fun a c ns ds d args G H σ e E hm rs ea hi q => ⟨args, G, e, rs, q⟩
theorem sb_suite {cl : Str → Addr} {X : Cx} {sts : List Stmt} {f : Xs} (h : SB cl X sts f) : PSs X sts (tS X.K cl (fun _ _ _ _ => False) f) := h _ takes0
theorem w_tuple {cl : Str → Addr} {X : Cx} {e : Expr} {es : List Expr} {pos p : Pos} {fs : Xa} (hm : X.mg "tuple" = none) (hg : Gl X "tuple") (ha : SA cl X (e :: es) fs) (he : starEach (e :: es) X.env = (false, eval e X.env) :: starEach es X.env := by rfl) (hpl : (backTo pos (starEach es X.env)).any (·.1) = false := by rfl) : SE cl X (.Call (.Name "tuple" p) (e :: es) [] pos) (xN gTuple fs) := se_callTy call_tuple_of ok_Tuple hg hm rfl ha (by decide) (by decide) he hpl
section
variable {cl : Str → Addr} {X : Cx} {scope : Scope} {elt tg iter : Expr} {ifs : List Expr} {vs : List Nat} {pos spos py : Pos} {fi : Xi} {gf : Xg} {js : List Nat} {t : Xt} {f : Xp}
theorem w_lc (own : List (Str × Nat)) (hv : own.map (·.2) = vs) (hc : X.calm = true) (hN : X.N.Nodup) (hi : SI cl X tg iter fi) (ok : BlkOk X.N X.env.scope scope own) (hj : ∀ j ∈ js, j ∈ vs) (hg : BlkSG cl X scope tg js gf) (ht : BlkST cl X scope ifs t) (he : BlkSE cl X scope elt f)
    (hs : ∀ x, foldedSetIterable iter X.env x = pure x := by intro _; rfl) : SE cl X (.ListComp elt [⟨tg, iter, ifs, 0⟩] scope pos) (xLc vs fi gf t f) := by
  subst hv; exact se_lc hc hN hi ok hj hg ht he hs
theorem w_setLc {i : Nat} {y : Str} (own : List (Str × Nat)) (hv : own.map (·.2) = vs) (hc : X.calm = true) (hN : X.N.Nodup) (hy : X.N[i]? = some y) (hyl : X.env.scope.names.lookup y = some .local)
    (hsw : swapsWith (.ListComp elt [⟨tg, iter, ifs, 0⟩] scope pos) (some (.Name y py)) spos.line X.env = pure true) (hi : SI cl X tg iter fi) (ok : BlkOk X.N X.env.scope scope own) (hj : ∀ j ∈ js, j ∈ vs) (hg : BlkSG cl X scope tg js gf) (ht : BlkST cl X scope ifs t) (he : BlkSE cl X scope elt f)
    (hs : ∀ x, foldedSetIterable iter X.env x = pure x := by intro _; rfl) : SS cl X (.Assign [.Name y py] (.ListComp elt [⟨tg, iter, ifs, 0⟩] scope pos) spos) (sSet i (xLc vs fi gf t f)) := by
  subst hv; exact ss_setLc hc hN hy hyl hsw hi ok hj hg ht he hs
end
/-! which clause catches: by a table of the classes that may come -/
def mOf (l : List (Str × Bool)) : Str → Option Bool := fun c => l.lookup c
theorem lookup_mem' {c : Str} {b : Bool} : ∀ {l : List (Str × Bool)}, l.lookup c = some b → (c, b) ∈ l
  | [], h => by cases h
  | (d, e) :: l, h => by
    rw [List.lookup_cons] at h
    cases z : c == d with
    | true =>
      rw [z] at h
      injection h with h
      subst h
      rw [beq_iff_eq.mp z]
      exact List.mem_cons_self
    | false => rw [z] at h; exact List.mem_cons_of_mem _ (lookup_mem' h)
theorem fa_nil {α : Type} {P : α → Prop} : ∀ x ∈ ([] : List α), P x := fun _ h => nomatch h
theorem fa_cons {α : Type} {P : α → Prop} {a : α} {l : List α} (h : P a) (t : ∀ x ∈ l, P x) : ∀ x ∈ a :: l, P x := fun x hx => by
  rcases List.mem_cons.mp hx with e | e
  · rw [e]; exact h
  · exact t x e
theorem m_all {l : List (Str × Bool)} {Q : Str → Bool → Prop} (h : ∀ p ∈ l, Q p.1 p.2) : ∀ c b, mOf l c = some b → Q c b := fun c b e => h _ (lookup_mem' e)
theorem m_only {l : List (Str × Bool)} {C : Str} (h : ∀ p ∈ l, p.2 = true → p.1 = C) : ∀ c, mOf l c = some true → c = C := fun c e => h _ (lookup_mem' e) rfl
end Ya

set_option maxHeartbeats 4000000
namespace Ya
open PySem PySem.Spec PyProof.Rows L2
/-! ### what the end of the top tells: facts by names, defs that one finds by a road of one's own -/
/-- the def that a record of that kind holds -/
def recAd (K : PySem.W.Frag) (p : Addr) (kind : String) : Addr := match PySem.W.recIn K p kind with
  | some (.ref g :: _) => g
  | _ => 0
structure DefY where
  ad : PySem.W.Frag → Addr
  name : Str
  qual : Str
  st : Stmt
def obY (K : PySem.W.Frag) (a : Addr) : He.FnV := match K.lookup a with
  | some ⟨_, _, .func fd, _⟩ => some (fd.name, fd.qualname, fd.params, fd.body, fd.scope, fd.globals, fd.closure, fd.defaults, fd.builtins)
  | _ => none
def DefY.val (d : DefY) : He.FnV := some (d.name, d.qual, defArgs d.st, .stmts (defBody d.st), defScope d.st, mainGlobals, [], .none, builtinsNs)
def DefY.ok (K : PySem.W.Frag) (d : DefY) : Bool := PySem.W.keepIn K (.ref (d.ad K)) && (match K.lookup (d.ad K) with
  | some ⟨_, _, .func fd, _⟩ => PySem.W.codeIn K fd.code d.qual
  | _ => false)
theorem DefY.fun_ {K : PySem.W.Frag} {d : DefY} (e : obY K (d.ad K) = d.val) (c : d.ok K = true) : ∃ fd, Fun K d.name d.qual d.st (d.ad K) fd := by
  obtain ⟨kp, c2⟩ := He.ba c
  unfold obY at e
  cases q : K.lookup (d.ad K) with
  | none =>
    rw [q] at c2
    cases c2
  | some o =>
    obtain ⟨oc, od, dt, osl⟩ := o
    rw [q] at c2 e
    cases dt with
    | func fd =>
      obtain ⟨n1, n2, n3, n4, n5, n6, n7, n8, n9, n10, n11, n12, n13, n14, n15⟩ := fd
      have e2 : (some (n1, n2, n3, n4, n5, n6, n7, n8, n15) : He.FnV) = some (d.name, d.qual, defArgs d.st, .stmts (defBody d.st), defScope d.st, mainGlobals, [], .none, builtinsNs) := e
      simp only [Option.some.injEq, Prod.mk.injEq] at e2
      obtain ⟨h1, h2, h3, h4, h5, h6, h7, h8, h9⟩ := e2
      subst h1 h2 h3 h4 h5 h6 h7 h8 h9
      exact ⟨_, ⟨oc, od, n9, n10, n11, n12, n13, n14, osl, rfl, q, c2⟩, kp⟩
    | _ => cases c2
/-! the Hook -/
abbrev AlY : Type := Bool × List He.FnV
def obsY (ex : PySem.W.Frag → Bool) (fa : List He.Fa) (fn : List DefY) (K : PySem.W.Frag) : AlY := (ex K && ((fa.all fun f => f.ok K) && fn.all fun d => d.ok K), fn.map fun d => obY K (d.ad K))
def valY (fn : List DefY) : AlY := (true, fn.map DefY.val)
def SaysY (ex : PySem.W.Frag → Bool) (fa : List He.Fa) (fn : List DefY) (K : PySem.W.Frag) : Prop := obsY ex fa fn K = valY fn
/-- what one leans on: the interpreter's statics, the module's names, their codes; the classes' tables, what stands there, its codes -/
def refsG (g : Addr → Option Obj) (as : List Addr) : List Addr := as.flatMap fun a => match g a with
  | some o => He.refsO o
  | none => []
def onlyG (p : Obj → Bool) (g : Addr → Option Obj) (as : List Addr) : List Addr := as.filter fun a => match g a with
  | some o => p o
  | none => false
def isDc (o : Obj) : Bool := match o.data with | .dict _ _ => true | _ => false
def isFc (o : Obj) : Bool := match o.data with | .func _ => true | _ => false
def isCc (o : Obj) : Bool := match o.data with | .cls _ => true | _ => false
def asY (g : Addr → Option Obj) : List Addr :=
  let l1 := refsG g [mainGlobals]
  let l2 := refsG g (onlyG isFc g l1)
  let l3 := onlyG isDc g (refsG g (onlyG isCc g l1))
  let l4 := refsG g l3
  let l5 := refsG g l4
  let l6 := refsG g (onlyG isFc g l5)
  cStatics :: mainGlobals :: (l1 ++ (l2 ++ (l3 ++ (l4 ++ (l5 ++ l6)))))
def obsYG (ex : PySem.W.Frag → Bool) (fa : List He.Fa) (fn : List DefY) (g : Addr → Option Obj) : AlY := obsY ex fa fn (He.frG g (asY g))
def hookY (ex : PySem.W.Frag → Bool) (fa : List He.Fa) (fn : List DefY) : PySem.W.Hook where
  α := AlY
  obs := fun s => obsYG ex fa fn s.heap.get?
  val := fun _ => valY fn
  says := fun _ h => ∃ K : PySem.W.Frag, K.In h ∧ SaysY ex fa fn K
  of := fun _ _ e => ⟨_, He.frG_in, e⟩
  keeps := fun _ _ _ ⟨K, hK, c⟩ k => ⟨K, PySem.W.Frag.In.keeps hK k, c⟩
theorem obsYG_eq {ex : PySem.W.Frag → Bool} {fa : List He.Fa} {fn : List DefY} {g : Addr → Option Obj} {s : Shared} (h : ∀ a, g a = s.heap.get? a) : obsYG ex fa fn g = (hookY ex fa fn).obs s := by
  have e : g = s.heap.get? := funext h
  rw [e] <;> rfl
section
variable {ex : PySem.W.Frag → Bool} {fa : List He.Fa} {fn : List DefY} {K : PySem.W.Frag}
theorem SaysY.ex_ (c : SaysY ex fa fn K) : ex K = true := (He.ba (show (ex K && ((fa.all fun f => f.ok K) && fn.all fun d => d.ok K)) = true from congrArg (fun z : AlY => z.1) c)).1
theorem SaysY.fact (c : SaysY ex fa fn K) (i : Nat) {f : He.Fa} (h : fa[i]? = some f := by rfl) : f.ok K = true := by
  have c1 := (He.ba (He.ba (show (ex K && ((fa.all fun f => f.ok K) && fn.all fun d => d.ok K)) = true from congrArg (fun z : AlY => z.1) c)).2).1
  exact List.all_eq_true.mp c1 f (List.mem_of_getElem? h)
theorem SaysY.def_ (c : SaysY ex fa fn K) (i : Nat) {d : DefY} (h : fn[i]? = some d := by rfl) : ∃ fd, Fun K d.name d.qual d.st (d.ad K) fd := by
  have c2 := (He.ba (He.ba (show (ex K && ((fa.all fun f => f.ok K) && fn.all fun d => d.ok K)) = true from congrArg (fun z : AlY => z.1) c)).2).2
  have e : fn.map (fun d => obY K (d.ad K)) = fn.map DefY.val := congrArg (fun z : AlY => z.2) c
  have e2 : (fn.map fun d => obY K (d.ad K))[i]? = (fn.map DefY.val)[i]? := by rw [e]
  rw [List.getElem?_map, List.getElem?_map, h] at e2
  exact DefY.fun_ (Option.some.inj e2) (List.all_eq_true.mp c2 d (List.mem_of_getElem? h))
end
/-! further facts, as checks -/
def propB (K : PySem.W.Frag) (C : Addr) (f : Str) (p : Addr) : Bool := He.eqO (PySem.W.findIn K (.ref C) f) (some (some (.ref p))) && (He.eqO (PySem.W.specialIn K (.ref p) "__get__") (some (some (.builtin "property.__get__"))) && (decide (PySem.W.takesIn K (.ref p) = some true) && (match PySem.W.recIn K p "property" with
  | some (.ref _ :: _) => true
  | _ => false)))
theorem rec_ok {K : PySem.W.Frag} {p : Addr} {kind : String} (h : (match PySem.W.recIn K p kind with | some (.ref _ :: _) => true | _ => false) = true) : ∃ rest, PySem.W.recIn K p kind = some (.ref (recAd K p kind) :: rest) := by
  unfold recAd
  split at h
  · rename_i g r e
    rw [e]; exact ⟨r, rfl⟩
  · cases h
theorem propB_ok {K : PySem.W.Frag} {C : Addr} {f : Str} {p : Addr} (h : propB K C f p = true) : PropOf K C f p (recAd K p "property") := by
  obtain ⟨h1, h⟩ := He.ba h
  obtain ⟨h2, h⟩ := He.ba h
  obtain ⟨h3, h4⟩ := He.ba h
  exact ⟨He.eqO_ok h1, He.eqO_ok h2, of_decide_eq_true h3, rec_ok h4⟩
def creadB (K : PySem.W.Frag) (C : Addr) (mc : Value) : Bool := PySem.W.readsIn K C mc && He.eqO (PySem.W.specialIn K (.ref C) "__getattribute__") (some (some (.builtin "type.__getattribute__")))
theorem creadB_ok {K : PySem.W.Frag} {C : Addr} {mc : Value} (h : creadB K C mc = true) : ClX.CRead K C mc := ⟨(He.ba h).1, He.eqO_ok (He.ba h).2⟩
def cmetB (K : PySem.W.Frag) (C : Addr) (mc : Value) (m : Str) (p : Addr) : Bool := (match PySem.W.findCls K (.ref C) mc m with
  | some (.get g q n c) => decide (g = .builtin "classmethod.__get__") && (decide (q = .ref p) && (decide (n = .none) && decide (c = .ref C)))
  | _ => false) && ((match PySem.W.recIn K p "classmethod" with
  | some (.ref _ :: _) => true
  | _ => false) && PySem.W.fnIn K (recAd K p "classmethod"))
theorem cmetB_ok {K : PySem.W.Frag} {C : Addr} {mc : Value} {m : Str} {p : Addr} (h : cmetB K C mc m p = true) : ClX.CMet K C mc m p (recAd K p "classmethod") := by
  obtain ⟨h1, h⟩ := He.ba h
  obtain ⟨h2, h3⟩ := He.ba h
  refine ⟨?_, rec_ok h2, h3⟩
  split at h1
  · rename_i g q n c e
    obtain ⟨a1, h1⟩ := He.ba h1
    obtain ⟨a2, h1⟩ := He.ba h1
    obtain ⟨a3, a4⟩ := He.ba h1
    rw [e, of_decide_eq_true a1, of_decide_eq_true a2, of_decide_eq_true a3, of_decide_eq_true a4]
  · cases h1
def isiCB (K : PySem.W.Frag) (C : Addr) : Bool := He.eqO (PySem.W.findIn K (.ref C) "__class__") (some (some (.builtin "object.__class__"))) && (He.eqO (PySem.W.specialIn K (.builtin "object.__class__") "__get__") (some (some (.builtin "getset_descriptor.__get__"))) && (decide (PySem.W.takesIn K (.builtin "object.__class__") = some true) && (decide (PySem.W.mroIn K C (.type "object") = some true) &&
  (["NoneType", "bool", "int", "str", "list", "tuple"].all fun t => decide (PySem.W.kitOne K (.type t) (.ref C) = some false)))))
theorem isiCB_ok {K : PySem.W.Frag} {C : Addr} (hc : Cls K C) (h : isiCB K C = true) : IsiC K C := by
  obtain ⟨h1, h⟩ := He.ba h
  obtain ⟨h2, h⟩ := He.ba h
  obtain ⟨h3, h⟩ := He.ba h
  obtain ⟨h4, h5⟩ := He.ba h
  exact ⟨hc, He.eqO_ok h1, He.eqO_ok h2, of_decide_eq_true h3, of_decide_eq_true h4, fun t ht => of_decide_eq_true (List.all_eq_true.mp h5 t ht)⟩
/-- a class over Exception, its __init__ written -/
def ownClsB (K : PySem.W.Frag) (C : Addr) : Bool := match K.lookup C with
  | some ⟨.type "type", _, .cls cd, sl⟩ => (match cd.mro with
    | .ref C' :: bm => decide (C' = C) && (cd.hasDict && (!cd.hasDel && Yx.refsE bm))
    | _ => false) && (match sl.toList with
    | [_, _, _, _, some (.builtin n), _] => decide (n = "Exception.__new__")
    | _ => false)
  | _ => false
theorem ownClsB_ok {K : PySem.W.Frag} {C : Addr} (h : ownClsB K C = true) : ∃ nm q N bs bm sn sub ab col dd k0 k1 k2 k3 k5, K.lookup C = some (excClassObj nm q C N bs bm true sn sub ab col dd k0 k1 k2 k3 k5 "Exception.__new__") ∧ Yx.refsE bm = true := by
  unfold ownClsB at h
  split at h
  · rename_i dd cd sl e
    obtain ⟨h1, h2⟩ := He.ba h
    split at h1
    · rename_i C' bm hm
      obtain ⟨a1, h1⟩ := He.ba h1
      obtain ⟨a2, h1⟩ := He.ba h1
      obtain ⟨a3, a4⟩ := He.ba h1
      split at h2
      · rename_i k0 k1 k2 k3 n k5 hs
        obtain ⟨nm, bs, mro, ns, qn, hd, sn, sub, ab, col, del⟩ := cd
        dsimp only at hm a2 a3
        have en := of_decide_eq_true h2
        have ec := of_decide_eq_true a1
        simp only [Bool.not_eq_true'] at a3
        subst hm en ec a2 a3
        have hsl : sl = #[k0, k1, k2, k3, some (.builtin "Exception.__new__"), k5] := by
          obtain ⟨l⟩ := sl
          simp only at hs
          rw [hs]
        subst hsl
        exact ⟨nm, qn, ns, bs, bm, sn, sub, ab, col, dd, k0, k1, k2, k3, k5, e, a4⟩
      · cases h2
    · cases h1
  · cases h
def ownB (K : PySem.W.Frag) (x : Str) (C fI : Addr) (f : Str) : Bool := He.eqO (PySem.W.nsIn K mainGlobals x) (some (some (.ref C))) && (ownClsB K C && (He.eqO (PySem.W.findIn K (.ref C) "__setattr__") (some (some (.builtin "object.__setattr__"))) && (He.eqO (PySem.W.findIn K (.ref C) f) (some none) && (He.eqO (PySem.W.findIn K (.ref C) "__init__") (some (some (.ref fI))) &&
  (decide (PySem.W.typeIn K (.ref fI) = some (.type "function")) && (PySem.W.keepIn K (.ref C) && (decide (PySem.W.subIn K (.ref C) (.type "BaseException") = some true) && decide (PySem.W.typeIn K (.ref C) = some (.type "type")))))))))
theorem ownB_ok {K : PySem.W.Frag} {h : Heap} {mg : Str → Option Value} (X : K.In h) (G : h.Ns mainGlobals mg) {x : Str} {C fI : Addr} {f : Str} (c : ownB K x C fI f = true) : Yx.OwnTxt K mg x C fI f := by
  obtain ⟨h1, c⟩ := He.ba c
  obtain ⟨h2, c⟩ := He.ba c
  obtain ⟨h3, c⟩ := He.ba c
  obtain ⟨h4, c⟩ := He.ba c
  obtain ⟨h5, c⟩ := He.ba c
  obtain ⟨h6, c⟩ := He.ba c
  obtain ⟨h7, c⟩ := He.ba c
  obtain ⟨h8, h9⟩ := He.ba c
  exact ⟨PySem.W.mg_of X G (He.eqO_ok h1), ownClsB_ok h2, He.eqO_ok h3, He.eqO_ok h4, He.eqO_ok h5, of_decide_eq_true h6, h7, of_decide_eq_true h8, of_decide_eq_true h9⟩
end Ya

set_option maxHeartbeats 4000000
namespace Ya
open PySem PySem.Spec PyProof.Rows L2
/-- a law whose def may let something out in some world -/
theorem walk_ofY {l : PySem.W.OpenLaw} {n k : Nat} {q : Program} {loose : List Str} {XP : (Str → Option Value) → Heap → Prop} {YP : World → Heap → Prop} {d : DefRec} {CX : World → CXT} {x : Str}
    (hn : l.most = some n) (hn2 : n ≤ sizeLine) (hdf : d.params.defaults = []) (hr : Room k callerA)
    (F : ∀ (w : World) (mg : Str → Option Value) (fa : Addr) (h : Heap), YP w h → h.Ns mainGlobals mg → mg d.name = some (.ref fa) →
      ∃ (K : PySem.W.Frag) (fd : FuncData) (sp : Sp), K.In h ∧ (∀ (s : Shared) (u : Value), BindsTo s fd ⟨[u], []⟩ [(x, u)]) ∧
        (∀ (H : Hp) (a : Addr) (ns : List Int), ns.length ≤ n → Only H → SqL K H a (ns.map V.int) → sp [.ref a] H (fun v _ => v = .bl true) fun _ _ _ => False) ∧
        ∀ base : Heap, K.In base → base.Ns mainGlobals mg → FnOk l.prog w K mg base (CX w) k fa fd [x] sp)
    (hCX : ∀ (w : World) (H : Hp) (s : Shared) (e : Value) (s' : Shared), CX w [] H s (fun _ _ _ => False) e s' → False) :
    PySem.W.WalkO q loose XP YP l.row.toRowW d [] (fun f vs => PySem.call f vs) := by
  refine Att.attach_call hn hdf fun w s₀ s₁ mg mb fa o pm cd doc a vs ns G Y ho hd hcd hmg hobj hints hlen hg => ?_
  obtain ⟨K, fd, sp, KX, hb, hsp, hF⟩ := F w mg fa _ Y G.T.g hmg
  exact law_call KX G.T.g G.T.b G.T.builtins G.T.nolimit hg hobj hints (Nat.le_trans hlen hn2) hr hF hb (fun H hO hS => hsp H a ns hlen hO hS) fun H e s' => hCX w H s₁ e s'
/-- the law's def answers True on every script -/
theorem sp_true {K : PySem.W.Frag} {cl : Str → Addr} {F : Fn} {H : Hp} {a : Addr} {ns : List Int} {ss : List S} (e : F [.val (.scr ns)] = .ret (.val (.bl true)) ss) (hS : SqL K H a (ns.map V.int)) : spF K cl 1 F [.ref a] H (fun v _ => v = .bl true) fun _ _ _ => False := by
  refine ⟨rfl, H, [.val (.scr ns)], ⟨Ex.refl _, rfl, fun i s hs => ?_, fun i j o o' c c' b h1 => ?_⟩, ?_⟩
  · cases i with
    | zero => simp at hs; subst hs; exact ⟨.ref a, rfl, rep_scr.mpr ⟨a, rfl, hS⟩⟩
    | succ i => simp at hs
  · cases i with
    | zero => simp at h1
    | succ i => simp at h1
  · rw [e]
    exact fun v G' H' rs st x => (rep_bl (K := K) (cl := cl) (G := G')).mp x
theorem cx_no {P : Program} {w : World} {H : Hp} {s : Shared} {e : Value} {s' : Shared} (h : L2.CX P w [] H s (fun _ _ _ => False) e s') : False := by
  obtain ⟨_, _, _, _, _, _, _, _, _, _, _, _, z⟩ := h
  exact z
end Ya

set_option maxHeartbeats 4000000
namespace Ya
open PySem PySem.Spec PyProof.Rows L2
/-! ### reckoning with functions of data: what simp unfolds -/
section
variable {α β : Type} {e env : En} {d a b : D} {s : S} {o : Option Nat} {c : C} {k : D → En → Res β} {kb : α → En → Res β} {x : α} {cn : Str} {ns : List Str} {ds xs : List D} {i j : Nat} {f g : Xp} {t u : Xt} {p q : Xs}
@[simp] theorem r_bind_ok : (Res.ok x e).bind kb = kb x e := rfl
@[simp] theorem r_bind_exc : (Res.exc cn ns ds e : Res α).bind kb = .exc cn ns ds e := rfl
@[simp] theorem r_bind_bad : (Res.bad : Res α).bind kb = .bad := rfl
@[simp] theorem r_data_ok : (Res.ok (S.val d) e).data k = k d e := rfl
@[simp] theorem r_data_lst : (Res.ok (S.own o (.lst xs)) e).data k = k (.lst xs) e := rfl
@[simp] theorem r_data_obj : (Res.ok (S.own o (.obj cn ns ds)) e).data k = k (.ins cn ns ds) e := rfl
@[simp] theorem r_data_exc : (Res.exc cn ns ds e : Res S).data k = .exc cn ns ds e := rfl
@[simp] theorem r_data_bad : (Res.bad : Res S).data k = .bad := rfl
@[simp] theorem r_opt_some : Res.opt (some x) e = .ok x e := rfl
@[simp] theorem r_opt_none : Res.opt (none : Option α) e = .bad := rfl
@[simp] theorem r_var : xVar i env = match env[i]? with | some (.val d) => .ok (.val d) env | _ => .bad := rfl
@[simp] theorem r_varF : xVarF i env = match env[i]? with
  | some (.val d) => .ok (.val d) env
  | some (.own none (.lst xs)) => .ok (.val (.lst xs)) (env.set i (.val (.lst xs)))
  | some (.own none (.obj c ns ds)) => .ok (.val (.ins c ns ds)) (env.set i (.val (.ins c ns ds)))
  | _ => .bad := by
  unfold xVarF frzE
  cases h : env[i]? with
  | none => dsimp only; unfold xVar; rw [h]
  | some s =>
    have hl : i < env.length := (List.getElem?_eq_some_iff.mp h).1
    have hs : ∀ t, (env.set i t)[i]? = some t := fun t => by rw [List.getElem?_set, if_pos rfl, if_pos hl]
    cases s with
    | und => dsimp only; unfold xVar; rw [h]
    | val d => dsimp only; unfold xVar; rw [h]
    | own o c =>
      cases o with
      | some k => dsimp only; unfold xVar; rw [h]
      | none =>
        cases c with
        | lst xs => show xVar i (env.set i (.val (.lst xs))) = _; unfold xVar; rw [hs]
        | obj c ns ds => show xVar i (env.set i (.val (.ins c ns ds))) = _; unfold xVar; rw [hs]
        | dk m => show xVar i env = _; unfold xVar; rw [h]
        | dt m => show xVar i env = _; unfold xVar; rw [h]
@[simp] theorem r_move : xMove i env = match env[i]? with | some (.own none c) => .ok (.own none c) (env.set i .und) | _ => .bad := rfl
@[simp] theorem r_c : xC d env = .ok (.val d) env := rfl
@[simp] theorem r_x1 {g : D → Option S} : x1 g f env = (f env).data fun a e1 => .opt (g a) e1 := rfl
@[simp] theorem r_x2 {h : D → D → Option S} : x2 h f g env = (f env).data fun a e1 => (g e1).data fun b e2 => .opt (h a b) e2 := rfl
@[simp] theorem r_aNil : aNil env = .ok [] env := rfl
@[simp] theorem r_aCons {r : Xa} : aCons f r env = (f env).data fun d e1 => (r e1).bind fun ds e2 => .ok (d :: ds) e2 := rfl
@[simp] theorem r_xN {h : List D → Option S} {fa : Xa} : xN h fa env = (fa env).bind fun ds e1 => .opt (h ds) e1 := rfl
@[simp] theorem r_uTst : uTst f env = (f env).data fun d e => match d with | .bl b => .ok b e | _ => .bad := rfl
@[simp] theorem r_uNot : uNot t env = (t env).bind fun b e => .ok (!b) e := rfl
@[simp] theorem r_uAnd : uAnd t u env = (t env).bind fun b e => if b = true then u e else .ok false e := rfl
@[simp] theorem r_uOr : uOr t u env = (t env).bind fun b e => if b = true then .ok true e else u e := rfl
@[simp] theorem r_xIf : xIf t f g env = (t env).bind fun b e => if b = true then f e else g e := rfl
@[simp] theorem r_xAndB : xAndB f g env = (f env).data fun d e => match d with | .bl true => g e | .bl false => .ok (.val (.bl false)) e | _ => .bad := rfl
@[simp] theorem r_xOrB : xOrB f g env = (f env).data fun d e => match d with | .bl true => .ok (.val (.bl true)) e | .bl false => g e | _ => .bad := rfl
@[simp] theorem r_xNotB : xNotB f env = (f env).data fun d e => match d with | .bl b => .ok (.val (.bl (!b))) e | _ => .bad := rfl
@[simp] theorem r_chain {h h' : D → D → Option S} {fc : Xp} : xChain h h' f g fc env = (f env).data fun a e1 => (g e1).data fun b e2 => match h a b with
  | some (.val (.bl true)) => (fc e2).data fun c e3 => .opt (h' b c) e3
  | some (.val (.bl false)) => .ok (.val (.bl false)) e2
  | _ => .bad := rfl
@[simp] theorem r_uTru : uTru f env = (f env).data fun d e => .opt (truD d) e := rfl
@[simp] theorem r_uYes : uYes env = .ok true env := rfl
theorem r_sSeq : sSeq p q env = (p env).bind fun l e => match l with | .nx => q e | l => .ok l e := rfl
@[simp] theorem r_sNil : sNil env = .ok .nx env := rfl
@[simp] theorem r_sRet : sRet f env = (f env).bind fun r e => .ok (.rt r) e := rfl
@[simp] theorem r_sRetN : sRetN env = .ok (.rt (.val .non)) env := rfl
@[simp] theorem r_sIf : sIf t p q env = (t env).bind fun b e => if b = true then p e else q e := rfl
@[simp] theorem r_sExpr : sExpr f env = (f env).bind fun _ e => .ok .nx e := rfl
@[simp] theorem r_sSet : sSet i f env = (f env).bind fun r e => putS e i r := rfl
@[simp] theorem r_putV : putS e i (.val d) = .ok .nx (e.set i (.val d)) := rfl
@[simp] theorem r_putO : putS e i (.own none c) = .ok .nx (e.set i (.own none c)) := rfl
@[simp] theorem r_raise {cf : Str} {fa : Xa} : sRaise cn cf fa env = (fa env).bind fun ds e => match ds with | [d] => .exc cn [cf] [d] e | _ => .bad := rfl
@[simp] theorem r_never : sNever env = .bad := rfl
@[simp] theorem r_lenO : xLenO i env = match env[i]? with | some (.own _ (.lst ys)) => .ok (.val (.int ys.length)) env | _ => .bad := rfl
@[simp] theorem r_pop : xPop i env = match env[i]? with
  | some (.own o (.lst ys)) => (match ys[ys.length - 1]? with | some d => .ok (.val d) (env.set i (.own o (.lst ys.dropLast))) | none => .bad)
  | _ => .bad := rfl
@[simp] theorem r_rev : xRev i env = match env[i]? with
  | some (.own o (.lst ys)) => .ok (.val .non) (env.set i (.own o (.lst ys.reverse)))
  | _ => .bad := rfl
@[simp] theorem r_app : xApp i f env = if isLst env[i]? = true then (f env).data fun d e => (match e[i]? with
  | some (.own o (.lst ys)) => if ys.length < 1000000 then .ok (.val .non) (e.set i (.own o (.lst (ys ++ [d])))) else .bad
  | _ => .bad) else .bad := rfl
@[simp] theorem r_ixO : xIxO i f env = if isLst env[i]? = true then (f env).data fun k e => (match e[i]?, k with
  | some (.own _ (.lst ys)), .int j => .opt ((atI ys j).map S.val) e
  | _, _ => .bad) else .bad := rfl
@[simp] theorem r_isLst {ys : List D} : isLst (some (.own o (.lst ys))) = true := rfl
@[simp] theorem r_ret {s' : FR} {r : S} {ss : List S} : (match FR.ret r ss with | .ret r ss => s' | .exc c ns ds ss => s' | .bad => s') = s' := rfl
/-! operators -/
@[simp] theorem g_eq_ii {i j : Int} : gEq (.int i) (.int j) = some (.val (.bl (i == j))) := rfl
@[simp] theorem g_ne_ii {i j : Int} : gNe (.int i) (.int j) = some (.val (.bl (!(i == j)))) := rfl
@[simp] theorem g_eq_ni {j : Int} : gEq .non (.int j) = some (.val (.bl false)) := rfl
@[simp] theorem g_eq_in {j : Int} : gEq (.int j) .non = some (.val (.bl false)) := rfl
@[simp] theorem g_eq_nn : gEq .non .non = some (.val (.bl true)) := rfl
@[simp] theorem g_ne_ni {j : Int} : gNe .non (.int j) = some (.val (.bl true)) := rfl
@[simp] theorem g_ne_in {j : Int} : gNe (.int j) .non = some (.val (.bl true)) := rfl
@[simp] theorem g_ne_nn : gNe .non .non = some (.val (.bl false)) := rfl
@[simp] theorem g_eq_bb {p q : Bool} : gEq (.bl p) (.bl q) = some (.val (.bl (p == q))) := rfl
@[simp] theorem g_ne_bb {p q : Bool} : gNe (.bl p) (.bl q) = some (.val (.bl (!(p == q)))) := rfl
@[simp] theorem g_lt_ii {i j : Int} : gLt (.int i) (.int j) = some (.val (.bl (decide (i < j)))) := rfl
@[simp] theorem g_le_ii {i j : Int} : gLe (.int i) (.int j) = some (.val (.bl (decide (i ≤ j)))) := rfl
@[simp] theorem g_gt_ii {i j : Int} : gGt (.int i) (.int j) = some (.val (.bl (decide (j < i)))) := rfl
@[simp] theorem g_ge_ii {i j : Int} : gGe (.int i) (.int j) = some (.val (.bl (decide (j ≤ i)))) := rfl
@[simp] theorem g_add_ii {i j : Int} : gAdd (.int i) (.int j) = some (.val (.int (i + j))) := rfl
@[simp] theorem g_sub_ii {i j : Int} : Ya.gSub (.int i) (.int j) = some (.val (.int (i - j))) := rfl
@[simp] theorem g_and_ii {i j : Int} : gAnd (.int i) (.int j) = some (.val (.int (Builtin.bitAnd i j))) := rfl
@[simp] theorem g_neg_i {i : Int} : gNeg (.int i) = some (.val (.int (-i))) := rfl
@[simp] theorem g_mod_ii {i j : Int} (h : 0 < j) : gMod (.int i) (.int j) = some (.val (.int (i % j))) := by
  show (if cMod i j = true then _ else _) = _
  rw [if_pos (by unfold cMod; simpa using h)]
@[simp] theorem g_div_ii {i j : Int} (h : 0 < j) (h2 : j < 1073741824) : gDiv (.int i) (.int j) = some (.val (.int (i / j))) := by
  show (if cDiv i j = true then _ else _) = _
  rw [if_pos (by unfold cDiv; simp [h, h2])]
@[simp] theorem g_shr_ii {i j : Int} (h : 0 ≤ j) : gShr (.int i) (.int j) = some (.val (.int (i / 2 ^ j.toNat))) := by
  show (if cShr i j = true then _ else _) = _
  rw [if_pos (by unfold cShr; simpa using h)]
@[simp] theorem g_shl_1 {j : Int} (h : 0 ≤ j) (h2 : j ≤ 1000000) : gShl (.int 1) (.int j) = some (.val (.int (2 ^ j.toNat))) := by
  show (if cPow 1 j = true then _ else _) = _
  rw [if_pos (by unfold cPow; simp [h, h2])]
  show some (S.val (D.int (1 * 2 ^ j.toNat))) = _
  rw [Int.one_mul]
@[simp] theorem g_is_n : gIs .non .non = some (.val (.bl true)) := rfl
@[simp] theorem g_is_i {i : Int} : gIs (.int i) .non = some (.val (.bl false)) := rfl
@[simp] theorem g_nis_n : gNis .non .non = some (.val (.bl false)) := rfl
@[simp] theorem g_nis_i {i : Int} : gNis (.int i) .non = some (.val (.bl true)) := rfl
@[simp] theorem g_int_i {i : Int} : gInt [.int i] = some (.val (.int i)) := rfl
@[simp] theorem g_int_b {b : Bool} : gInt [.bl b] = some (.val (.int (if b then 1 else 0))) := rfl
@[simp] theorem g_len_l {xs : List D} : gLen [.lst xs] = some (.val (.int xs.length)) := rfl
@[simp] theorem g_len_t {xs : List D} : gLen [.tup xs] = some (.val (.int xs.length)) := rfl
/-! defs -/
theorem fn_ret {n N : Nat} {b : Xs} {ss : List S} {r : S} {e : En} (hn : ss.length = n) (h : b (ss ++ List.replicate (N - n) .und) = .ok (.rt r) e) : fnD n N b ss = .ret r (endsE ss e) := by unfold fnD; rw [if_pos hn, h]
theorem fn_nx {n N : Nat} {b : Xs} {ss : List S} {e : En} (hn : ss.length = n) (h : b (ss ++ List.replicate (N - n) .und) = .ok .nx e) : fnD n N b ss = .ret (.val .non) (endsE ss e) := by unfold fnD; rw [if_pos hn, h]
theorem fn_exc {n N : Nat} {b : Xs} {ss : List S} {e : En} (hn : ss.length = n) (h : b (ss ++ List.replicate (N - n) .und) = .exc cn ns ds e) : fnD n N b ss = .exc cn ns ds (endsE ss e) := by unfold fnD; rw [if_pos hn, h]
end
/-! loops -/
theorem for_inv {gf : Xg} {f : Xs} (I : Nat → En → Prop) : ∀ (ds : List D) (i : Nat) (e : En), I i e → (∀ j d e, ds[j]? = some d → I (i + j) e → ∃ e1 e2, gf d e = some e1 ∧ (f e1 = .ok .nx e2 ∨ f e1 = .ok .ct e2) ∧ I (i + j + 1) e2) → ∃ e', forS gf f ds e = .ok .nx e' ∧ I (i + ds.length) e'
  | [], i, e, h, _ => ⟨e, rfl, h⟩
  | d :: ds, i, e, h, hs => by
    obtain ⟨e1, e2, h1, h2, h3⟩ := hs 0 d e rfl h
    obtain ⟨e', q1, q2⟩ := for_inv I ds (i + 1) e2 h3 fun j d' e3 hd hI => by
      have := hs (j + 1) d' e3 (by simpa using hd) (by rw [show i + (j + 1) = i + 1 + j by omega]; exact hI)
      rw [show i + (j + 1) + 1 = i + 1 + j + 1 by omega] at this
      exact this
    refine ⟨e', ?_, by rw [List.length_cons, show i + (ds.length + 1) = i + 1 + ds.length by omega]; exact q2⟩
    unfold forS
    rw [h1]
    rcases h2 with h2 | h2
    · simp only [h2]; exact q1
    · simp only [h2]; exact q1
theorem for_inv0 {gf : Xg} {f : Xs} (I : Nat → En → Prop) {ds : List D} {e : En} (h : I 0 e) (hs : ∀ j d e, ds[j]? = some d → I j e → ∃ e1 e2, gf d e = some e1 ∧ (f e1 = .ok .nx e2 ∨ f e1 = .ok .ct e2) ∧ I (j + 1) e2) : ∃ e', forS gf f ds e = .ok .nx e' ∧ I ds.length e' := by
  obtain ⟨e', h1, h2⟩ := for_inv I ds 0 e h fun j d e hd hI => by
    rw [Nat.zero_add] at hI ⊢
    exact hs j d e hd hI
  exact ⟨e', h1, by rwa [Nat.zero_add] at h2⟩
/-- turns that go on, then one that does not -/
theorem for_stop {gf : Xg} {f : Xs} {R : Res Fl} (I : Nat → En → Prop) : ∀ (ds : List D) (i k : Nat) (e : En), I i e → k < ds.length → (∀ j d e, j < k → ds[j]? = some d → I (i + j) e → ∃ e1 e2, gf d e = some e1 ∧ (f e1 = .ok .nx e2 ∨ f e1 = .ok .ct e2) ∧ I (i + j + 1) e2) →
    (∀ d e, ds[k]? = some d → I (i + k) e → ∃ e1, gf d e = some e1 ∧ (match f e1 with | .ok .nx _ => False | .ok .ct _ => False | .ok .bk e2 => R = .ok .nx e2 | .ok (.rt r) e2 => R = .ok (.rt r) e2 | .exc c ns xs e2 => R = .exc c ns xs e2 | .bad => False)) → forS gf f ds e = R
  | [], i, k, e, h, hk, _, _ => by simp at hk
  | d :: ds, i, 0, e, h, hk, _, hl => by
    obtain ⟨e1, h1, h2⟩ := hl d e rfl h
    unfold forS
    rw [h1]
    cases hf : f e1 with
    | bad => rw [hf] at h2; exact h2.elim
    | exc c ns xs e2 => rw [hf] at h2; simp only [hf]; exact h2.symm
    | ok l e2 =>
      rw [hf] at h2
      cases l with
      | nx => exact h2.elim
      | ct => exact h2.elim
      | bk => simp only [hf]; exact h2.symm
      | rt r => simp only [hf]; exact h2.symm
  | d :: ds, i, k + 1, e, h, hk, hs, hl => by
    obtain ⟨e1, e2, h1, h2, h3⟩ := hs 0 d e (Nat.succ_pos _) rfl h
    have q := for_stop I ds (i + 1) k e2 h3 (by simpa using hk) (fun j d' e3 hj hd hI => by
      have := hs (j + 1) d' e3 (by omega) (by simpa using hd) (by rw [show i + (j + 1) = i + 1 + j by omega]; exact hI)
      rw [show i + (j + 1) + 1 = i + 1 + j + 1 by omega] at this
      exact this) (fun d' e3 hd hI => hl d' e3 (by simpa using hd) (by rw [show i + (k + 1) = i + 1 + k by omega]; exact hI))
    unfold forS
    rw [h1]
    rcases h2 with h2 | h2
    · simp only [h2]; exact q
    · simp only [h2]; exact q
theorem lc_inv {vs : List Nat} {gf : Xg} {t : Xt} {f : Xp} (I : Nat → En → List D → Prop) : ∀ (ds : List D) (i : Nat) (e : En) (acc : List D), I i e acc → (∀ j d e acc, ds[j]? = some d → I (i + j) e acc → ∃ e1, gf d e = some e1 ∧
      ((∃ e2 r e3 y, t e1 = .ok true e2 ∧ f e2 = .ok r e3 ∧ frz r = some y ∧ I (i + j + 1) (wipeE e3 vs) (acc ++ [y])) ∨ (∃ e2, t e1 = .ok false e2 ∧ I (i + j + 1) (wipeE e2 vs) acc))) → ∃ out e', lcS vs gf t f ds e acc = some (out, e') ∧ I (i + ds.length) e' out
  | [], i, e, acc, h, _ => ⟨acc, e, rfl, h⟩
  | d :: ds, i, e, acc, h, hs => by
    have next : ∀ j d' e3 acc, ds[j]? = some d' → I (i + 1 + j) e3 acc → _ := fun j d' e3 acc hd hI => by
      have := hs (j + 1) d' e3 acc (by simpa using hd) (by rw [show i + (j + 1) = i + 1 + j by omega]; exact hI)
      rw [show i + (j + 1) + 1 = i + 1 + j + 1 by omega] at this
      exact this
    obtain ⟨e1, h1, h2⟩ := hs 0 d e acc rfl h
    rcases h2 with ⟨e2, r, e3, y, h2, h3, h4, h5⟩ | ⟨e2, h2, h3⟩
    · obtain ⟨out, e', q1, q2⟩ := lc_inv I ds (i + 1) _ _ h5 next
      refine ⟨out, e', ?_, by rw [List.length_cons, show i + (ds.length + 1) = i + 1 + ds.length by omega]; exact q2⟩
      unfold lcS
      rw [h1]; simp only [h2, h3]
      have : ((Res.ok r e3).data fun y e3 => Res.ok y e3 : Res D) = .ok y e3 := by unfold Res.data; simp only [h4]
      rw [this]; exact q1
    · obtain ⟨out, e', q1, q2⟩ := lc_inv I ds (i + 1) _ _ h3 next
      refine ⟨out, e', ?_, by rw [List.length_cons, show i + (ds.length + 1) = i + 1 + ds.length by omega]; exact q2⟩
      unfold lcS
      rw [h1]; simp only [h2]; exact q1
/-- a comprehension whose environment stays: filter and map -/
theorem lc_fm {vs : List Nat} {gf : Xg} {t : Xt} {f : Xp} {env : En} (p : D → Bool) (y : D → D) : ∀ (ds acc : List D), (∀ d ∈ ds, ∃ e1 e2, gf d env = some e1 ∧ t e1 = .ok (p d) e2 ∧ (p d = true → ∃ r e3, f e2 = .ok r e3 ∧ frz r = some (y d) ∧ wipeE e3 vs = env) ∧ (p d = false → wipeE e2 vs = env)) →
    lcS vs gf t f ds env acc = some (acc ++ (ds.filter p).map y, env)
  | [], acc, _ => by simp [lcS]
  | d :: ds, acc, h => by
    obtain ⟨e1, e2, h1, h2, h3, h4⟩ := h d (by simp)
    unfold lcS
    rw [h1]
    cases hp : p d with
    | true =>
      obtain ⟨r, e3, q1, q2, q3⟩ := h3 hp
      rw [hp] at h2
      simp only [h2, q1]
      have : ((Res.ok r e3).data fun y e3 => Res.ok y e3 : Res D) = .ok (y d) e3 := by unfold Res.data; simp only [q2]
      rw [this]
      simp only [q3]
      rw [lc_fm p y ds _ fun d' hd => h d' (by simp [hd])]
      simp [hp]
    | false =>
      rw [hp] at h2
      simp only [h2, h4 hp]
      rw [lc_fm p y ds _ fun d' hd => h d' (by simp [hd])]
      simp [hp]
theorem lc_map {vs : List Nat} {gf : Xg} {f : Xp} {env : En} (y : D → D) (ds acc : List D) (h : ∀ d ∈ ds, ∃ e1 r e3, gf d env = some e1 ∧ f e1 = .ok r e3 ∧ frz r = some (y d) ∧ wipeE e3 vs = env) : lcS vs gf uYes f ds env acc = some (acc ++ ds.map y, env) := by
  have := lc_fm (vs := vs) (gf := gf) (t := uYes) (f := f) (env := env) (fun _ => true) y ds acc fun d hd => by
    obtain ⟨e1, r, e3, h1, h2, h3, h4⟩ := h d hd
    exact ⟨e1, e1, h1, rfl, fun _ => ⟨r, e3, h2, h3, h4⟩, fun z => by cases z⟩
  rw [this, List.filter_eq_self.mpr fun _ _ => rfl]
end Ya

set_option maxHeartbeats 4000000
namespace Ya
open PySem PySem.Spec PyProof.Rows L2
/-! ### calls reckoned -/
def ofF (r : FR) (e : En) : Res S := match r with | .ret r _ => .ok r e | .exc c ns ds _ => .exc c ns ds e | .bad => .bad
@[simp] theorem ofF_ret {r : S} {ss : List S} {e : En} : ofF (.ret r ss) e = .ok r e := rfl
@[simp] theorem ofF_exc {c : Str} {ns : List Str} {ds : List D} {ss : List S} {e : En} : ofF (.exc c ns ds ss) e = .exc c ns ds e := rfl
theorem call_inl {F : Fn} {ds : List D} {e : En} {fr : Xr} {env : En} (h : fr env = .ok (ds.map .inl) e) : xCall F fr env = ofF (F (ds.map .val)) e := by
  unfold xCall
  rw [h]
  have ok : ioOk e (ds.map Sum.inl) = true := by unfold ioOk; rw [ios_inl]; rfl
  show (if ioOk e (ds.map Sum.inl) = true then _ else _) = _
  rw [if_pos ok, ag_inl]
  unfold ofF
  cases F (ds.map .val) with
  | ret r ss => show Res.ok r (backE _ _ _) = _; rw [back_inl]
  | exc c ns xs ss => show Res.exc c ns xs (backE _ _ _) = _; rw [back_inl]
  | bad => rfl
section
variable {F : Fn} {f g h k : Xp} {env : En} {i : Nat}
@[simp] theorem r_call1 : xCall F (rCons f rNil) env = (f env).data fun d e => ofF (F [.val d]) e := by
  cases hf : f env with
  | bad => unfold xCall rCons; rw [hf]; rfl
  | exc c ns ds e => unfold xCall rCons; rw [hf]; rfl
  | ok r e =>
    cases hz : frz r with
    | none => unfold xCall rCons Res.data; rw [hf]; simp only [hz]; rfl
    | some d =>
      rw [call_inl (ds := [d]) (e := e) (by unfold rCons rNil Res.data; rw [hf]; simp only [hz]; rfl)]
      unfold Res.data; simp only [hz]; rfl
@[simp] theorem r_call2 : xCall F (rCons f (rCons g rNil)) env = (f env).data fun d e => (g e).data fun d2 e2 => ofF (F [.val d, .val d2]) e2 := by
  cases hf : f env with
  | bad => unfold xCall rCons; rw [hf]; rfl
  | exc c ns ds e => unfold xCall rCons; rw [hf]; rfl
  | ok r e =>
    cases hz : frz r with
    | none => unfold xCall rCons Res.data; rw [hf]; simp only [hz]; rfl
    | some d =>
      rw [show (Res.ok r e).data (fun d e => (g e).data fun d2 e2 => ofF (F [.val d, .val d2]) e2) = (g e).data fun d2 e2 => ofF (F [.val d, .val d2]) e2 from by unfold Res.data; simp only [hz]]
      cases hg : g e with
      | bad => unfold xCall rCons Res.data; rw [hf]; simp only [hz, hg]; rfl
      | exc c ns ds e => unfold xCall rCons Res.data; rw [hf]; simp only [hz, hg]; rfl
      | ok r2 e2 =>
        cases hz2 : frz r2 with
        | none => unfold xCall rCons Res.data; rw [hf]; simp only [hz, hg, hz2]; rfl
        | some d2 =>
          rw [call_inl (ds := [d, d2]) (e := e2) (by unfold rCons rNil Res.data; rw [hf]; simp only [hz, hg, hz2]; rfl)]
          unfold Res.data; simp only [hz2]; rfl
/-- one cell handed over, nothing else -/
theorem back_io {e : En} {i : Nat} {rest : List Ag} {ss : List S} (hr : ∀ j, rest.findIdx? (isIo j) = none) : backE e (.inr i :: rest) ss = match e[i]? with | some s => e.set i (restore s (ss.getD 0 .und)) | none => e := by
  have key : ∀ j, (Sum.inr i :: rest : List Ag).findIdx? (isIo j) = if i = j then some 0 else none := fun j => by
    rw [List.findIdx?_cons]
    by_cases h : i = j
    · subst h; simp [isIo]
    · simp [isIo, h, hr j]
  cases he : e[i]? with
  | none =>
    unfold backE
    apply List.ext_getElem?
    intro j
    rw [List.getElem?_mapIdx]
    cases hj : e[j]? with
    | none => rfl
    | some s =>
      have ne : i ≠ j := fun z => by rw [← z, he] at hj; cases hj
      show some (match (Sum.inr i :: rest : List Ag).findIdx? (isIo j) with | some k => _ | none => s) = _
      rw [key j, if_neg ne]
  | some s0 =>
    unfold backE
    apply List.ext_getElem?
    intro j
    rw [List.getElem?_mapIdx, List.getElem?_set]
    cases hj : e[j]? with
    | none =>
      by_cases z : i = j
      · rw [z, hj] at he; cases he
      · rw [if_neg z]; rfl
    | some s =>
      show some (match (Sum.inr i :: rest : List Ag).findIdx? (isIo j) with | some k => _ | none => s) = _
      rw [key j]
      by_cases z : i = j
      · subst z
        rw [he] at hj; injection hj with hj; subst hj
        rw [if_pos rfl, if_pos rfl, if_pos (List.getElem?_eq_some_iff.mp he).1]
      · rw [if_neg z, if_neg z]
/-- what comes back of a call that was handed the cell in slot i -/
def ofIo (i : Nat) (r : FR) (e : En) : Res S := match r with
  | .ret r (.own _ c :: _) => (match e[i]? with | some (.own o _) => .ok r (e.set i (.own o c)) | _ => .bad)
  | .exc cn ns ds (.own _ c :: _) => (match e[i]? with | some (.own o _) => .exc cn ns ds (e.set i (.own o c)) | _ => .bad)
  | _ => .bad
theorem call_io {o o' : Option Nat} {c c' : C} {r : S} {ss : List S} {ds : List D} {e : En} (he : e[i]? = some (.own o c)) {fr : Xr} (h : fr env = .ok (.inr i :: ds.map .inl) e) (hF : F (.own (some 0) c :: ds.map .val) = .ret r (.own o' c' :: ss)) : xCall F fr env = .ok r (e.set i (.own o c')) := by
  unfold xCall
  rw [h]
  have io1 : ios (Sum.inr i :: ds.map Sum.inl : List Ag) = [i] := by
    have := ios_inl ds
    unfold ios at this ⊢
    rw [List.filterMap_cons]
    simp only [this]
  have ok : ioOk e (.inr i :: ds.map Sum.inl) = true := by
    unfold ioOk
    rw [io1]
    simp [he, isOwn]
  show (if ioOk e (.inr i :: ds.map Sum.inl) = true then _ else _) = _
  rw [if_pos ok]
  have ag : (Sum.inr i :: ds.map Sum.inl : List Ag).mapIdx (agS e) = .own (some 0) c :: ds.map .val := by
    rw [List.mapIdx_cons]
    congr 1
    · show (match e[i]? with | some (.own _ c) => S.own (some 0) c | _ => .und) = _
      rw [he]
    · apply List.ext_getElem?
      intro j
      rw [List.getElem?_mapIdx, List.getElem?_map, List.getElem?_map]
      cases ds[j]? <;> rfl
  rw [ag, hF]
  show Res.ok r (backE e (.inr i :: ds.map Sum.inl) (.own o' c' :: ss)) = _
  rw [back_io (fun j => by
    rw [List.findIdx?_eq_none_iff]
    intro x hx
    obtain ⟨d, _, rfl⟩ := List.mem_map.mp hx
    rfl), he]
  rfl
/-- handed the cell in slot i and one datum -/
theorem io1 {o o' : Option Nat} {c c' : C} {r : S} {ss : List S} {d : D} {e : En} (h0 : isOwn env[i]? = true) (hf : f env = .ok (.val d) e) (he : e[i]? = some (.own o c)) (hF : F [.own (some 0) c, .val d] = .ret r (.own o' c' :: ss)) : xCall F (rIo i (rCons f rNil)) env = .ok r (e.set i (.own o c')) := by
  refine call_io (ds := [d]) he ?_ hF
  unfold rIo rCons rNil
  cases z : env[i]? with
  | none => rw [z] at h0; cases h0
  | some s =>
    rw [z] at h0
    cases s with
    | own o c => simp only [hf]; rfl
    | und => cases h0
    | val d => cases h0
theorem io0 {o o' : Option Nat} {c c' : C} {r : S} {ss : List S} (he : env[i]? = some (.own o c)) (hF : F [.own (some 0) c] = .ret r (.own o' c' :: ss)) : xCall F (rIo i rNil) env = .ok r (env.set i (.own o c')) := by
  refine call_io (ds := []) he ?_ hF
  unfold rIo rNil
  rw [he]; rfl
end
theorem ends_val {ss : List S} {e : En} (h : ∀ s ∈ ss, ∃ d, s = .val d) : endsE ss e = ss := by
  unfold endsE
  apply List.ext_getElem?
  intro i
  rw [List.getElem?_mapIdx]
  cases z : ss[i]? with
  | none => rfl
  | some s =>
    obtain ⟨d, rfl⟩ := h s (List.mem_of_getElem? z)
    rfl
end Ya

set_option maxHeartbeats 4000000
namespace Ya
open PySem PySem.Spec PyProof.Rows L2
/-! ### comprehensions reckoned -/
section
variable {fi : Xi} {t : Xt} {f : Xp} {env env0 : En} {j j2 : Nat}
theorem set_back {e : En} {x : S} : ((e.set j S.und).set j x).set j S.und = e.set j S.und := by rw [List.set_set, List.set_set]
/-- over any data, one name -/
theorem lcD {ds : List D} (hfi : fi env = .ok ds env0) (hn : ds.length ≤ 1000000) (p : D → Bool) (y : D → D) (ht : ∀ d ∈ ds, t ((env0.set j .und).set j (.val d)) = .ok (p d) ((env0.set j .und).set j (.val d)))
    (hf : ∀ d ∈ ds, p d = true → ∃ r, f ((env0.set j .und).set j (.val d)) = .ok r ((env0.set j .und).set j (.val d)) ∧ frz r = some (y d)) :
    xLc [j] fi (gxName j) t f env = .ok (.own none (.lst ((ds.filter p).map y))) (env0.set j .und) := by
  unfold xLc
  rw [hfi]
  show (if ds.length ≤ 1000000 then _ else _) = _
  rw [if_pos hn]
  have key := lc_fm (vs := [j]) (gf := gxName j) (t := t) (f := f) (env := env0.set j .und) p y ds [] fun d hd => ⟨_, _, rfl, ht d hd, fun hp => let ⟨r, h1, h2⟩ := hf d hd hp; ⟨r, _, h1, h2, set_back⟩, fun _ => set_back⟩
  show (match lcS [j] (gxName j) t f ds (env0.set j .und) [] with | some (out, e') => Res.ok (S.own none (.lst out)) e' | none => .bad) = _
  rw [key]
  simp
theorem lcD' {ds : List D} (hfi : fi env = .ok ds env0) (hn : ds.length ≤ 1000000) (y : D → D)
    (hf : ∀ d ∈ ds, ∃ r, f ((env0.set j .und).set j (.val d)) = .ok r ((env0.set j .und).set j (.val d)) ∧ frz r = some (y d)) :
    xLc [j] fi (gxName j) uYes f env = .ok (.own none (.lst (ds.map y))) (env0.set j .und) := by
  rw [lcD (t := uYes) hfi hn (fun _ => true) y (fun _ _ => rfl) fun d hd _ => hf d hd, List.filter_eq_self.mpr fun _ _ => rfl]
/-- over a range -/
theorem lcR {n : Nat} (hfi : fi env = .ok (rngD 0 n) env0) (hn : n ≤ 1000000) (p : Nat → Bool) (y : Nat → D) (ht : ∀ i, i < n → t ((env0.set j .und).set j (.val (.int i))) = .ok (p i) ((env0.set j .und).set j (.val (.int i))))
    (hf : ∀ i, i < n → p i = true → ∃ r, f ((env0.set j .und).set j (.val (.int i))) = .ok r ((env0.set j .und).set j (.val (.int i))) ∧ frz r = some (y i)) :
    xLc [j] fi (gxName j) t f env = .ok (.own none (.lst (((List.range n).filter p).map y))) (env0.set j .und) := by
  have mem : ∀ d ∈ rngD 0 n, ∃ i, i < n ∧ d = .int (i : Nat) := fun d hd => by
    unfold rngD at hd
    obtain ⟨i, hi, rfl⟩ := List.mem_map.mp hd
    exact ⟨i, List.mem_range.mp hi, by rw [Int.zero_add]⟩
  rw [lcD hfi (by rw [rngD_len]; exact hn) (fun d => match d with | .int i => p i.toNat | _ => false) (fun d => match d with | .int i => y i.toNat | _ => .non) (fun d hd => ?_) (fun d hd hp => ?_)]
  · congr 3
    unfold rngD
    rw [List.filter_map, List.map_map]
    have e1 : (fun i : Nat => (match (D.int (0 + (i : Int))) with | .int i => p i.toNat | _ => false)) = p := by funext i; simp
    have e2 : (fun i : Nat => (match (D.int (0 + (i : Int))) with | .int i => y i.toNat | _ => .non)) = y := by funext i; simp
    show (List.filter (fun i : Nat => (match (D.int (0 + (i : Int))) with | .int i => p i.toNat | _ => false)) (List.range n)).map (fun i : Nat => (match (D.int (0 + (i : Int))) with | .int i => y i.toNat | _ => .non)) = _
    rw [e1, e2]
  · obtain ⟨i, hi, rfl⟩ := mem d hd
    simpa using ht i hi
  · obtain ⟨i, hi, rfl⟩ := mem d hd
    simpa using hf i hi (by simpa using hp)
theorem lcR' {n : Nat} (hfi : fi env = .ok (rngD 0 n) env0) (hn : n ≤ 1000000) (y : Nat → D)
    (hf : ∀ i, i < n → ∃ r, f ((env0.set j .und).set j (.val (.int i))) = .ok r ((env0.set j .und).set j (.val (.int i))) ∧ frz r = some (y i)) :
    xLc [j] fi (gxName j) uYes f env = .ok (.own none (.lst ((List.range n).map y))) (env0.set j .und) := by
  rw [lcR (t := uYes) hfi hn (fun _ => true) y (fun _ _ => rfl) fun i hi _ => hf i hi, List.filter_eq_self.mpr fun _ _ => rfl]
theorem rg1 {fa : Xa} {m : Int} (h : fa env = .ok [.int m] env0) (h0 : 0 ≤ m) (h2 : m ≤ 1000000) : iRg1 fa env = .ok (rngD 0 m.toNat) env0 := by
  unfold iRg1
  rw [h]
  show (if small62 m = true then _ else _) = _
  rw [if_pos (by unfold small62; simp; omega)]
end
end Ya

set_option maxHeartbeats 4000000
namespace K67
open PySem PySem.Spec PyProof.Rows L2 Ya
def top (i : Nat) : Stmt := PySem.Challenge.pw_askprices_k67_full_by_sides_and_counts.main.body.getD i (.Pass ⟨0, 0, 0, 0⟩)
abbrev s_is_number : Stmt := top 14
abbrev s_check_size : Stmt := top 22
abbrev s_Rule___init : Stmt := inClass (top 25) 0
abbrev s_law_pick : Stmt := top 57
abbrev s_law_known_signs : Stmt := top 64
abbrev s_law_bit : Stmt := top 58
abbrev s_law_lot_of : Stmt := top 59
abbrev s_law_order_signs : Stmt := top 63
abbrev s_law_told_io : Stmt := top 61
abbrev s_law_signs : Stmt := top 65
abbrev s_law_size : Stmt := top 60
abbrev s_law_case : Stmt := top 66
abbrev s_law_signed : Stmt := top 76
abbrev s_full_mark : Stmt := top 48
abbrev s_full_marks : Stmt := top 49
abbrev s_check_rule : Stmt := top 26
abbrev s_sized_rule : Stmt := top 47
abbrev s_is_full : Stmt := top 50
abbrev s_need_total : Stmt := top 27
abbrev s_need_yesno : Stmt := top 28
abbrev s_odd_full : Stmt := top 44
abbrev s_Rule_told : Stmt := inClass (top 25) 1
abbrev s_check_summed : Stmt := top 41
abbrev s_lot_at : Stmt := top 19
abbrev s_signed_sum : Stmt := top 42
abbrev s_signed_full : Stmt := top 45
abbrev s_law_counts : Stmt := top 78
abbrev s_law_door : Stmt := top 74
abbrev s_law_door_due : Stmt := top 75
abbrev s_law_feed : Stmt := top 56
abbrev s_law_told : Stmt := top 61
abbrev s_law_live : Stmt := top 62
abbrev s_law_blend : Stmt := top 68
abbrev s_law_digit : Stmt := top 70
abbrev s_law_weights : Stmt := top 69
abbrev s_law_table : Stmt := top 71
abbrev s_law_ask : Stmt := top 72
abbrev s_law_side : Stmt := top 73
abbrev s_is_position : Stmt := top 15
abbrev s_check_position : Stmt := top 16
abbrev s_check_switch : Stmt := top 17
abbrev s_check_part : Stmt := top 33
abbrev s_open_of : Stmt := top 35
abbrev s_spread : Stmt := top 34
abbrev s_part_signs : Stmt := top 36
abbrev s_rule_or_none : Stmt := top 37
abbrev s_part : Stmt := top 38
abbrev s_take_out : Stmt := top 39
abbrev s_law_some_side_full : Stmt := top 77
abbrev s_law_total_case : Stmt := top 67
abbrev s_size_from : Stmt := top 52
abbrev s_alike_rule : Stmt := top 54
abbrev s_Rule_from_yes : Stmt := inClass (top 25) 5
abbrev s_and_rule : Stmt := top 53
abbrev s_law : Stmt := top 79
/-- what the top has written -/
structure Txt (K : PySem.W.Frag) (mg : Str → Option Value) : Prop where
  n_abs : mg "abs" = none
  n_all : mg "all" = none
  n_bool : mg "bool" = none
  n_enumerate : mg "enumerate" = none
  n_int : mg "int" = none
  n_isinstance : mg "isinstance" = none
  n_len : mg "len" = none
  n_list : mg "list" = none
  n_max : mg "max" = none
  n_min : mg "min" = none
  n_range : mg "range" = none
  n_sum : mg "sum" = none
  n_tuple : mg "tuple" = none
  i_MOST : ∃ t, mg "MOST" = some (.int 10 t)
  f_is_number : ∃ fd, Fun K "is_number" "is_number" s_is_number (He.ga K "is_number") fd
  g_is_number : mg "is_number" = some (.ref (He.ga K "is_number"))
  f_check_size : ∃ fd, Fun K "check_size" "check_size" s_check_size (He.ga K "check_size") fd
  g_check_size : mg "check_size" = some (.ref (He.ga K "check_size"))
  f_Rule___init : ∃ fd, Fun K "__init__" "Rule.__init__" s_Rule___init (He.ma K (He.ga K "Rule") "__init__") fd
  f_law_pick : ∃ fd, Fun K "_law_pick" "_law_pick" s_law_pick (He.ga K "_law_pick") fd
  g__law_pick : mg "_law_pick" = some (.ref (He.ga K "_law_pick"))
  f_law_known_signs : ∃ fd, Fun K "_law_known_signs" "_law_known_signs" s_law_known_signs (He.ga K "_law_known_signs") fd
  g__law_known_signs : mg "_law_known_signs" = some (.ref (He.ga K "_law_known_signs"))
  f_law_bit : ∃ fd, Fun K "_law_bit" "_law_bit" s_law_bit (He.ga K "_law_bit") fd
  g__law_bit : mg "_law_bit" = some (.ref (He.ga K "_law_bit"))
  f_law_lot_of : ∃ fd, Fun K "_law_lot_of" "_law_lot_of" s_law_lot_of (He.ga K "_law_lot_of") fd
  g__law_lot_of : mg "_law_lot_of" = some (.ref (He.ga K "_law_lot_of"))
  f_law_order_signs : ∃ fd, Fun K "_law_order_signs" "_law_order_signs" s_law_order_signs (He.ga K "_law_order_signs") fd
  g__law_order_signs : mg "_law_order_signs" = some (.ref (He.ga K "_law_order_signs"))
  f_law_told_io : ∃ fd, Fun K "_law_told" "_law_told" s_law_told_io (He.ga K "_law_told") fd
  f_law_signs : ∃ fd, Fun K "_law_signs" "_law_signs" s_law_signs (He.ga K "_law_signs") fd
  g__law_signs : mg "_law_signs" = some (.ref (He.ga K "_law_signs"))
  f_law_size : ∃ fd, Fun K "_law_size" "_law_size" s_law_size (He.ga K "_law_size") fd
  g__law_size : mg "_law_size" = some (.ref (He.ga K "_law_size"))
  f_law_case : ∃ fd, Fun K "_law_case" "_law_case" s_law_case (He.ga K "_law_case") fd
  g__law_case : mg "_law_case" = some (.ref (He.ga K "_law_case"))
  f_law_signed : ∃ fd, Fun K "_law_signed" "_law_signed" s_law_signed (He.ga K "_law_signed") fd
  g__law_signed : mg "_law_signed" = some (.ref (He.ga K "_law_signed"))
  f_full_mark : ∃ fd, Fun K "_full_mark" "_full_mark" s_full_mark (He.ga K "_full_mark") fd
  g__full_mark : mg "_full_mark" = some (.ref (He.ga K "_full_mark"))
  f_full_marks : ∃ fd, Fun K "_full_marks" "_full_marks" s_full_marks (He.ga K "_full_marks") fd
  g__full_marks : mg "_full_marks" = some (.ref (He.ga K "_full_marks"))
  f_check_rule : ∃ fd, Fun K "check_rule" "check_rule" s_check_rule (He.ga K "check_rule") fd
  g_check_rule : mg "check_rule" = some (.ref (He.ga K "check_rule"))
  f_sized_rule : ∃ fd, Fun K "_sized_rule" "_sized_rule" s_sized_rule (He.ga K "_sized_rule") fd
  g__sized_rule : mg "_sized_rule" = some (.ref (He.ga K "_sized_rule"))
  f_is_full : ∃ fd, Fun K "is_full" "is_full" s_is_full (He.ga K "is_full") fd
  g_is_full : mg "is_full" = some (.ref (He.ga K "is_full"))
  f_need_total : ∃ fd, Fun K "need_total" "need_total" s_need_total (He.ga K "need_total") fd
  g_need_total : mg "need_total" = some (.ref (He.ga K "need_total"))
  f_need_yesno : ∃ fd, Fun K "need_yesno" "need_yesno" s_need_yesno (He.ga K "need_yesno") fd
  g_need_yesno : mg "need_yesno" = some (.ref (He.ga K "need_yesno"))
  f_odd_full : ∃ fd, Fun K "odd_full" "odd_full" s_odd_full (He.ga K "odd_full") fd
  g_odd_full : mg "odd_full" = some (.ref (He.ga K "odd_full"))
  f_Rule_told : ∃ fd, Fun K "told" "Rule.told" s_Rule_told (recAd K (He.ma K (He.ga K "Rule") "told") "property") fd
  f_check_summed : ∃ fd, Fun K "check_summed" "check_summed" s_check_summed (He.ga K "check_summed") fd
  g_check_summed : mg "check_summed" = some (.ref (He.ga K "check_summed"))
  f_lot_at : ∃ fd, Fun K "lot_at" "lot_at" s_lot_at (He.ga K "lot_at") fd
  g_lot_at : mg "lot_at" = some (.ref (He.ga K "lot_at"))
  f_signed_sum : ∃ fd, Fun K "signed_sum" "signed_sum" s_signed_sum (He.ga K "signed_sum") fd
  g_signed_sum : mg "signed_sum" = some (.ref (He.ga K "signed_sum"))
  f_signed_full : ∃ fd, Fun K "signed_full" "signed_full" s_signed_full (He.ga K "signed_full") fd
  g_signed_full : mg "signed_full" = some (.ref (He.ga K "signed_full"))
  f_law_counts : ∃ fd, Fun K "_law_counts" "_law_counts" s_law_counts (He.ga K "_law_counts") fd
  g__law_counts : mg "_law_counts" = some (.ref (He.ga K "_law_counts"))
  f_law_door : ∃ fd, Fun K "_law_door" "_law_door" s_law_door (He.ga K "_law_door") fd
  g__law_door : mg "_law_door" = some (.ref (He.ga K "_law_door"))
  f_law_door_due : ∃ fd, Fun K "_law_door_due" "_law_door_due" s_law_door_due (He.ga K "_law_door_due") fd
  g__law_door_due : mg "_law_door_due" = some (.ref (He.ga K "_law_door_due"))
  f_law_feed : ∃ fd, Fun K "_law_feed" "_law_feed" s_law_feed (He.ga K "_law_feed") fd
  g__law_feed : mg "_law_feed" = some (.ref (He.ga K "_law_feed"))
  f_law_told : ∃ fd, Fun K "_law_told" "_law_told" s_law_told (He.ga K "_law_told") fd
  g__law_told : mg "_law_told" = some (.ref (He.ga K "_law_told"))
  f_law_live : ∃ fd, Fun K "_law_live" "_law_live" s_law_live (He.ga K "_law_live") fd
  g__law_live : mg "_law_live" = some (.ref (He.ga K "_law_live"))
  f_law_blend : ∃ fd, Fun K "_law_blend" "_law_blend" s_law_blend (He.ga K "_law_blend") fd
  g__law_blend : mg "_law_blend" = some (.ref (He.ga K "_law_blend"))
  f_law_digit : ∃ fd, Fun K "_law_digit" "_law_digit" s_law_digit (He.ga K "_law_digit") fd
  g__law_digit : mg "_law_digit" = some (.ref (He.ga K "_law_digit"))
  f_law_weights : ∃ fd, Fun K "_law_weights" "_law_weights" s_law_weights (He.ga K "_law_weights") fd
  g__law_weights : mg "_law_weights" = some (.ref (He.ga K "_law_weights"))
  f_law_table : ∃ fd, Fun K "_law_table" "_law_table" s_law_table (He.ga K "_law_table") fd
  g__law_table : mg "_law_table" = some (.ref (He.ga K "_law_table"))
  f_law_ask : ∃ fd, Fun K "_law_ask" "_law_ask" s_law_ask (He.ga K "_law_ask") fd
  g__law_ask : mg "_law_ask" = some (.ref (He.ga K "_law_ask"))
  f_law_side : ∃ fd, Fun K "_law_side" "_law_side" s_law_side (He.ga K "_law_side") fd
  g__law_side : mg "_law_side" = some (.ref (He.ga K "_law_side"))
  f_is_position : ∃ fd, Fun K "is_position" "is_position" s_is_position (He.ga K "is_position") fd
  g_is_position : mg "is_position" = some (.ref (He.ga K "is_position"))
  f_check_position : ∃ fd, Fun K "check_position" "check_position" s_check_position (He.ga K "check_position") fd
  g_check_position : mg "check_position" = some (.ref (He.ga K "check_position"))
  f_check_switch : ∃ fd, Fun K "check_switch" "check_switch" s_check_switch (He.ga K "check_switch") fd
  g_check_switch : mg "check_switch" = some (.ref (He.ga K "check_switch"))
  f_check_part : ∃ fd, Fun K "check_part" "check_part" s_check_part (He.ga K "check_part") fd
  g_check_part : mg "check_part" = some (.ref (He.ga K "check_part"))
  f_open_of : ∃ fd, Fun K "open_of" "open_of" s_open_of (He.ga K "open_of") fd
  g_open_of : mg "open_of" = some (.ref (He.ga K "open_of"))
  f_spread : ∃ fd, Fun K "spread" "spread" s_spread (He.ga K "spread") fd
  g_spread : mg "spread" = some (.ref (He.ga K "spread"))
  f_part_signs : ∃ fd, Fun K "part_signs" "part_signs" s_part_signs (He.ga K "part_signs") fd
  g_part_signs : mg "part_signs" = some (.ref (He.ga K "part_signs"))
  f_rule_or_none : ∃ fd, Fun K "rule_or_none" "rule_or_none" s_rule_or_none (He.ga K "rule_or_none") fd
  g_rule_or_none : mg "rule_or_none" = some (.ref (He.ga K "rule_or_none"))
  f_part : ∃ fd, Fun K "part" "part" s_part (He.ga K "part") fd
  g_part : mg "part" = some (.ref (He.ga K "part"))
  f_take_out : ∃ fd, Fun K "take_out" "take_out" s_take_out (He.ga K "take_out") fd
  g_take_out : mg "take_out" = some (.ref (He.ga K "take_out"))
  f_law_some_side_full : ∃ fd, Fun K "_law_some_side_full" "_law_some_side_full" s_law_some_side_full (He.ga K "_law_some_side_full") fd
  g__law_some_side_full : mg "_law_some_side_full" = some (.ref (He.ga K "_law_some_side_full"))
  f_law_total_case : ∃ fd, Fun K "_law_total_case" "_law_total_case" s_law_total_case (He.ga K "_law_total_case") fd
  g__law_total_case : mg "_law_total_case" = some (.ref (He.ga K "_law_total_case"))
  f_size_from : ∃ fd, Fun K "size_from" "size_from" s_size_from (He.ga K "size_from") fd
  g_size_from : mg "size_from" = some (.ref (He.ga K "size_from"))
  f_alike_rule : ∃ fd, Fun K "alike_rule" "alike_rule" s_alike_rule (He.ga K "alike_rule") fd
  g_alike_rule : mg "alike_rule" = some (.ref (He.ga K "alike_rule"))
  f_Rule_from_yes : ∃ fd, Fun K "from_yes" "Rule.from_yes" s_Rule_from_yes (recAd K (He.ma K (He.ga K "Rule") "from_yes") "classmethod") fd
  f_and_rule : ∃ fd, Fun K "and_rule" "and_rule" s_and_rule (He.ga K "and_rule") fd
  g_and_rule : mg "and_rule" = some (.ref (He.ga K "and_rule"))
  f_law : ∃ fd, Fun K "law" "law" s_law (He.ga K "law") fd
  g_law : mg "law" = some (.ref (He.ga K "law"))
  g_BadSigns : mg "BadSigns" = some (.ref (He.ga K "BadSigns"))
  g_NotTotal : mg "NotTotal" = some (.ref (He.ga K "NotTotal"))
  g_NotYesNo : mg "NotYesNo" = some (.ref (He.ga K "NotYesNo"))
  g_Rule : mg "Rule" = some (.ref (He.ga K "Rule"))
  c_Rule : Cls K (He.ga K "Rule")
  mk_Rule : Mk K (He.ga K "Rule") (He.ma K (He.ga K "Rule") "__init__")
  g_RuleError : mg "RuleError" = some (.ref (He.ga K "RuleError"))
  g_TooMany : mg "TooMany" = some (.ref (He.ga K "TooMany"))
  cm_Rule_from_yes : ClX.CMet K (He.ga K "Rule") (.type "type") "from_yes" (He.ma K (He.ga K "Rule") "from_yes") (recAd K (He.ma K (He.ga K "Rule") "from_yes") "classmethod")
  cr_Rule : ClX.CRead K (He.ga K "Rule") (.type "type")
  exm_BadSigns_BadSigns : PySem.W.exmOne K (.ref (He.ga K "BadSigns")) (.ref (He.ga K "BadSigns")) = some true
  exm_BadSigns_NotTotal : PySem.W.exmOne K (.ref (He.ga K "BadSigns")) (.ref (He.ga K "NotTotal")) = some false
  exm_BadSigns_NotYesNo : PySem.W.exmOne K (.ref (He.ga K "BadSigns")) (.ref (He.ga K "NotYesNo")) = some false
  exm_BadSigns_RuleError : PySem.W.exmOne K (.ref (He.ga K "BadSigns")) (.ref (He.ga K "RuleError")) = some true
  exm_BadSigns_TooMany : PySem.W.exmOne K (.ref (He.ga K "BadSigns")) (.ref (He.ga K "TooMany")) = some false
  exm_NotTotal_BadSigns : PySem.W.exmOne K (.ref (He.ga K "NotTotal")) (.ref (He.ga K "BadSigns")) = some false
  exm_NotTotal_NotTotal : PySem.W.exmOne K (.ref (He.ga K "NotTotal")) (.ref (He.ga K "NotTotal")) = some true
  exm_NotTotal_NotYesNo : PySem.W.exmOne K (.ref (He.ga K "NotTotal")) (.ref (He.ga K "NotYesNo")) = some false
  exm_NotTotal_RuleError : PySem.W.exmOne K (.ref (He.ga K "NotTotal")) (.ref (He.ga K "RuleError")) = some true
  exm_NotTotal_TooMany : PySem.W.exmOne K (.ref (He.ga K "NotTotal")) (.ref (He.ga K "TooMany")) = some false
  exm_NotYesNo_BadSigns : PySem.W.exmOne K (.ref (He.ga K "NotYesNo")) (.ref (He.ga K "BadSigns")) = some false
  exm_NotYesNo_NotTotal : PySem.W.exmOne K (.ref (He.ga K "NotYesNo")) (.ref (He.ga K "NotTotal")) = some false
  exm_NotYesNo_NotYesNo : PySem.W.exmOne K (.ref (He.ga K "NotYesNo")) (.ref (He.ga K "NotYesNo")) = some true
  exm_NotYesNo_RuleError : PySem.W.exmOne K (.ref (He.ga K "NotYesNo")) (.ref (He.ga K "RuleError")) = some true
  exm_NotYesNo_TooMany : PySem.W.exmOne K (.ref (He.ga K "NotYesNo")) (.ref (He.ga K "TooMany")) = some false
  exm_TooMany_BadSigns : PySem.W.exmOne K (.ref (He.ga K "TooMany")) (.ref (He.ga K "BadSigns")) = some false
  exm_TooMany_NotTotal : PySem.W.exmOne K (.ref (He.ga K "TooMany")) (.ref (He.ga K "NotTotal")) = some false
  exm_TooMany_NotYesNo : PySem.W.exmOne K (.ref (He.ga K "TooMany")) (.ref (He.ga K "NotYesNo")) = some false
  exm_TooMany_RuleError : PySem.W.exmOne K (.ref (He.ga K "TooMany")) (.ref (He.ga K "RuleError")) = some true
  exm_TooMany_TooMany : PySem.W.exmOne K (.ref (He.ga K "TooMany")) (.ref (He.ga K "TooMany")) = some true
  isi_Rule : IsiC K (He.ga K "Rule")
  na_Rule_signs : NoAttr K (He.ga K "Rule") "signs"
  na_Rule_size : NoAttr K (He.ga K "Rule") "size"
  o_BadSigns : Yx.OwnTxt K mg "BadSigns" (He.ga K "BadSigns") (He.ma K (He.ga K "BadSigns") "__init__") "place"
  o_NotTotal : Yx.OwnTxt K mg "NotTotal" (He.ga K "NotTotal") (He.ma K (He.ga K "NotTotal") "__init__") "place"
  o_NotYesNo : Yx.OwnTxt K mg "NotYesNo" (He.ga K "NotYesNo") (He.ma K (He.ga K "NotYesNo") "__init__") "place"
  o_TooMany : Yx.OwnTxt K mg "TooMany" (He.ga K "TooMany") (He.ma K (He.ga K "TooMany") "__init__") "limit"
  of_BadSigns : Yx.Fn_place K "BadSigns.__init__" (He.ma K (He.ga K "BadSigns") "__init__")
  of_NotTotal : Yx.Fn_place K "NotTotal.__init__" (He.ma K (He.ga K "NotTotal") "__init__")
  of_NotYesNo : Yx.Fn_place K "NotYesNo.__init__" (He.ma K (He.ga K "NotYesNo") "__init__")
  of_TooMany : Yx.Fn_limit K "TooMany.__init__" (He.ma K (He.ga K "TooMany") "__init__")
  p_Rule_told : PropOf K (He.ga K "Rule") "told" (He.ma K (He.ga K "Rule") "told") (recAd K (He.ma K (He.ga K "Rule") "told") "property")
  xf_BadSigns : L2.XfC K (He.ga K "BadSigns")
  xf_NotTotal : L2.XfC K (He.ga K "NotTotal")
  xf_NotYesNo : L2.XfC K (He.ga K "NotYesNo")
  xf_TooMany : L2.XfC K (He.ga K "TooMany")
  xn_BadSigns_place : PySem.W.findIn K (.ref (He.ga K "BadSigns")) "place" = some none
  xn_NotTotal_place : PySem.W.findIn K (.ref (He.ga K "NotTotal")) "place" = some none
  xn_NotYesNo_place : PySem.W.findIn K (.ref (He.ga K "NotYesNo")) "place" = some none
  xn_TooMany_limit : PySem.W.findIn K (.ref (He.ga K "TooMany")) "limit" = some none
def ex (K : PySem.W.Frag) : Bool := cmetB K (He.ga K "Rule") (.type "type") "from_yes" (He.ma K (He.ga K "Rule") "from_yes") && (creadB K (He.ga K "Rule") (.type "type") && (isiCB K (He.ga K "Rule") && (ownB K "BadSigns" (He.ga K "BadSigns") (He.ma K (He.ga K "BadSigns") "__init__") "place" && (ownB K "NotTotal" (He.ga K "NotTotal") (He.ma K (He.ga K "NotTotal") "__init__") "place" && (ownB K "NotYesNo" (He.ga K "NotYesNo") (He.ma K (He.ga K "NotYesNo") "__init__") "place" && (ownB K "TooMany" (He.ga K "TooMany") (He.ma K (He.ga K "TooMany") "__init__") "limit" && (propB K (He.ga K "Rule") "told" (He.ma K (He.ga K "Rule") "told") && (L2.xfB K (He.ga K "BadSigns") && (L2.xfB K (He.ga K "NotTotal") && (L2.xfB K (He.ga K "NotYesNo") && (L2.xfB K (He.ga K "TooMany"))))))))))))
def fa : List He.Fa := [.free "abs", .free "all", .free "bool", .free "enumerate", .free "int", .free "isinstance", .free "len", .free "list", .free "max", .free "min", .free "range", .free "sum", .free "tuple", .int "MOST" 10, .glo "is_number", .glo "check_size", .glo "_law_pick", .glo "_law_known_signs", .glo "_law_bit", .glo "_law_lot_of", .glo "_law_order_signs", .glo "_law_signs", .glo "_law_size", .glo "_law_case", .glo "_law_signed", .glo "_full_mark", .glo "_full_marks", .glo "check_rule", .glo "_sized_rule", .glo "is_full", .glo "need_total", .glo "need_yesno", .glo "odd_full", .glo "check_summed", .glo "lot_at", .glo "signed_sum", .glo "signed_full", .glo "_law_counts", .glo "_law_door", .glo "_law_door_due", .glo "_law_feed", .glo "_law_told", .glo "_law_live", .glo "_law_blend", .glo "_law_digit", .glo "_law_weights", .glo "_law_table", .glo "_law_ask", .glo "_law_side", .glo "is_position", .glo "check_position", .glo "check_switch", .glo "check_part", .glo "open_of", .glo "spread", .glo "part_signs", .glo "rule_or_none", .glo "part", .glo "take_out", .glo "_law_some_side_full", .glo "_law_total_case", .glo "size_from", .glo "alike_rule", .glo "and_rule", .glo "law", .glo "BadSigns", .glo "NotTotal", .glo "NotYesNo", .glo "Rule", .cls "Rule", .mkr "Rule", .glo "RuleError", .glo "TooMany", .exm "BadSigns" "BadSigns" true, .exm "BadSigns" "NotTotal" false, .exm "BadSigns" "NotYesNo" false, .exm "BadSigns" "RuleError" true, .exm "BadSigns" "TooMany" false, .exm "NotTotal" "BadSigns" false, .exm "NotTotal" "NotTotal" true, .exm "NotTotal" "NotYesNo" false, .exm "NotTotal" "RuleError" true, .exm "NotTotal" "TooMany" false, .exm "NotYesNo" "BadSigns" false, .exm "NotYesNo" "NotTotal" false, .exm "NotYesNo" "NotYesNo" true, .exm "NotYesNo" "RuleError" true, .exm "NotYesNo" "TooMany" false, .exm "TooMany" "BadSigns" false, .exm "TooMany" "NotTotal" false, .exm "TooMany" "NotYesNo" false, .exm "TooMany" "RuleError" true, .exm "TooMany" "TooMany" true, .noat "Rule" "signs", .noat "Rule" "size", .noat "BadSigns" "place", .noat "NotTotal" "place", .noat "NotYesNo" "place", .noat "TooMany" "limit"]
def fn : List DefY := [⟨fun K => He.ga K "is_number", "is_number", "is_number", top 14⟩,
  ⟨fun K => He.ga K "check_size", "check_size", "check_size", top 22⟩,
  ⟨fun K => He.ma K (He.ga K "Rule") "__init__", "__init__", "Rule.__init__", inClass (top 25) 0⟩,
  ⟨fun K => He.ga K "_law_pick", "_law_pick", "_law_pick", top 57⟩,
  ⟨fun K => He.ga K "_law_known_signs", "_law_known_signs", "_law_known_signs", top 64⟩,
  ⟨fun K => He.ga K "_law_bit", "_law_bit", "_law_bit", top 58⟩,
  ⟨fun K => He.ga K "_law_lot_of", "_law_lot_of", "_law_lot_of", top 59⟩,
  ⟨fun K => He.ga K "_law_order_signs", "_law_order_signs", "_law_order_signs", top 63⟩,
  ⟨fun K => He.ga K "_law_told", "_law_told", "_law_told", top 61⟩,
  ⟨fun K => He.ga K "_law_signs", "_law_signs", "_law_signs", top 65⟩,
  ⟨fun K => He.ga K "_law_size", "_law_size", "_law_size", top 60⟩,
  ⟨fun K => He.ga K "_law_case", "_law_case", "_law_case", top 66⟩,
  ⟨fun K => He.ga K "_law_signed", "_law_signed", "_law_signed", top 76⟩,
  ⟨fun K => He.ga K "_full_mark", "_full_mark", "_full_mark", top 48⟩,
  ⟨fun K => He.ga K "_full_marks", "_full_marks", "_full_marks", top 49⟩,
  ⟨fun K => He.ga K "check_rule", "check_rule", "check_rule", top 26⟩,
  ⟨fun K => He.ga K "_sized_rule", "_sized_rule", "_sized_rule", top 47⟩,
  ⟨fun K => He.ga K "is_full", "is_full", "is_full", top 50⟩,
  ⟨fun K => He.ga K "need_total", "need_total", "need_total", top 27⟩,
  ⟨fun K => He.ga K "need_yesno", "need_yesno", "need_yesno", top 28⟩,
  ⟨fun K => He.ga K "odd_full", "odd_full", "odd_full", top 44⟩,
  ⟨fun K => recAd K (He.ma K (He.ga K "Rule") "told") "property", "told", "Rule.told", inClass (top 25) 1⟩,
  ⟨fun K => He.ga K "check_summed", "check_summed", "check_summed", top 41⟩,
  ⟨fun K => He.ga K "lot_at", "lot_at", "lot_at", top 19⟩,
  ⟨fun K => He.ga K "signed_sum", "signed_sum", "signed_sum", top 42⟩,
  ⟨fun K => He.ga K "signed_full", "signed_full", "signed_full", top 45⟩,
  ⟨fun K => He.ga K "_law_counts", "_law_counts", "_law_counts", top 78⟩,
  ⟨fun K => He.ga K "_law_door", "_law_door", "_law_door", top 74⟩,
  ⟨fun K => He.ga K "_law_door_due", "_law_door_due", "_law_door_due", top 75⟩,
  ⟨fun K => He.ga K "_law_feed", "_law_feed", "_law_feed", top 56⟩,
  ⟨fun K => He.ga K "_law_live", "_law_live", "_law_live", top 62⟩,
  ⟨fun K => He.ga K "_law_blend", "_law_blend", "_law_blend", top 68⟩,
  ⟨fun K => He.ga K "_law_digit", "_law_digit", "_law_digit", top 70⟩,
  ⟨fun K => He.ga K "_law_weights", "_law_weights", "_law_weights", top 69⟩,
  ⟨fun K => He.ga K "_law_table", "_law_table", "_law_table", top 71⟩,
  ⟨fun K => He.ga K "_law_ask", "_law_ask", "_law_ask", top 72⟩,
  ⟨fun K => He.ga K "_law_side", "_law_side", "_law_side", top 73⟩,
  ⟨fun K => He.ga K "is_position", "is_position", "is_position", top 15⟩,
  ⟨fun K => He.ga K "check_position", "check_position", "check_position", top 16⟩,
  ⟨fun K => He.ga K "check_switch", "check_switch", "check_switch", top 17⟩,
  ⟨fun K => He.ga K "check_part", "check_part", "check_part", top 33⟩,
  ⟨fun K => He.ga K "open_of", "open_of", "open_of", top 35⟩,
  ⟨fun K => He.ga K "spread", "spread", "spread", top 34⟩,
  ⟨fun K => He.ga K "part_signs", "part_signs", "part_signs", top 36⟩,
  ⟨fun K => He.ga K "rule_or_none", "rule_or_none", "rule_or_none", top 37⟩,
  ⟨fun K => He.ga K "part", "part", "part", top 38⟩,
  ⟨fun K => He.ga K "take_out", "take_out", "take_out", top 39⟩,
  ⟨fun K => He.ga K "_law_some_side_full", "_law_some_side_full", "_law_some_side_full", top 77⟩,
  ⟨fun K => He.ga K "_law_total_case", "_law_total_case", "_law_total_case", top 67⟩,
  ⟨fun K => He.ga K "size_from", "size_from", "size_from", top 52⟩,
  ⟨fun K => He.ga K "alike_rule", "alike_rule", "alike_rule", top 54⟩,
  ⟨fun K => recAd K (He.ma K (He.ga K "Rule") "from_yes") "classmethod", "from_yes", "Rule.from_yes", inClass (top 25) 5⟩,
  ⟨fun K => He.ga K "and_rule", "and_rule", "and_rule", top 53⟩,
  ⟨fun K => He.ga K "law", "law", "law", top 79⟩,
  ⟨fun K => He.ma K (He.ga K "BadSigns") "__init__", "__init__", "BadSigns.__init__", inClass (top 4) 0⟩,
  ⟨fun K => He.ma K (He.ga K "NotTotal") "__init__", "__init__", "NotTotal.__init__", inClass (top 10) 0⟩,
  ⟨fun K => He.ma K (He.ga K "NotYesNo") "__init__", "__init__", "NotYesNo.__init__", inClass (top 11) 0⟩,
  ⟨fun K => He.ma K (He.ga K "TooMany") "__init__", "__init__", "TooMany.__init__", inClass (top 12) 0⟩]
theorem txt_of {K : PySem.W.Frag} {h : Heap} {mg : Str → Option Value} (X : K.In h) (G : h.Ns mainGlobals mg) (c : SaysY ex fa fn K) : Txt K mg where
  n_abs := He.free_ok X G (c.fact 0 rfl)
  n_all := He.free_ok X G (c.fact 1 rfl)
  n_bool := He.free_ok X G (c.fact 2 rfl)
  n_enumerate := He.free_ok X G (c.fact 3 rfl)
  n_int := He.free_ok X G (c.fact 4 rfl)
  n_isinstance := He.free_ok X G (c.fact 5 rfl)
  n_len := He.free_ok X G (c.fact 6 rfl)
  n_list := He.free_ok X G (c.fact 7 rfl)
  n_max := He.free_ok X G (c.fact 8 rfl)
  n_min := He.free_ok X G (c.fact 9 rfl)
  n_range := He.free_ok X G (c.fact 10 rfl)
  n_sum := He.free_ok X G (c.fact 11 rfl)
  n_tuple := He.free_ok X G (c.fact 12 rfl)
  i_MOST := He.int_ok X G (c.fact 13 rfl)
  f_is_number := c.def_ 0 rfl
  g_is_number := He.glo_ok X G (c.fact 14 rfl)
  f_check_size := c.def_ 1 rfl
  g_check_size := He.glo_ok X G (c.fact 15 rfl)
  f_Rule___init := c.def_ 2 rfl
  f_law_pick := c.def_ 3 rfl
  g__law_pick := He.glo_ok X G (c.fact 16 rfl)
  f_law_known_signs := c.def_ 4 rfl
  g__law_known_signs := He.glo_ok X G (c.fact 17 rfl)
  f_law_bit := c.def_ 5 rfl
  g__law_bit := He.glo_ok X G (c.fact 18 rfl)
  f_law_lot_of := c.def_ 6 rfl
  g__law_lot_of := He.glo_ok X G (c.fact 19 rfl)
  f_law_order_signs := c.def_ 7 rfl
  g__law_order_signs := He.glo_ok X G (c.fact 20 rfl)
  f_law_told_io := c.def_ 8 rfl
  f_law_signs := c.def_ 9 rfl
  g__law_signs := He.glo_ok X G (c.fact 21 rfl)
  f_law_size := c.def_ 10 rfl
  g__law_size := He.glo_ok X G (c.fact 22 rfl)
  f_law_case := c.def_ 11 rfl
  g__law_case := He.glo_ok X G (c.fact 23 rfl)
  f_law_signed := c.def_ 12 rfl
  g__law_signed := He.glo_ok X G (c.fact 24 rfl)
  f_full_mark := c.def_ 13 rfl
  g__full_mark := He.glo_ok X G (c.fact 25 rfl)
  f_full_marks := c.def_ 14 rfl
  g__full_marks := He.glo_ok X G (c.fact 26 rfl)
  f_check_rule := c.def_ 15 rfl
  g_check_rule := He.glo_ok X G (c.fact 27 rfl)
  f_sized_rule := c.def_ 16 rfl
  g__sized_rule := He.glo_ok X G (c.fact 28 rfl)
  f_is_full := c.def_ 17 rfl
  g_is_full := He.glo_ok X G (c.fact 29 rfl)
  f_need_total := c.def_ 18 rfl
  g_need_total := He.glo_ok X G (c.fact 30 rfl)
  f_need_yesno := c.def_ 19 rfl
  g_need_yesno := He.glo_ok X G (c.fact 31 rfl)
  f_odd_full := c.def_ 20 rfl
  g_odd_full := He.glo_ok X G (c.fact 32 rfl)
  f_Rule_told := c.def_ 21 rfl
  f_check_summed := c.def_ 22 rfl
  g_check_summed := He.glo_ok X G (c.fact 33 rfl)
  f_lot_at := c.def_ 23 rfl
  g_lot_at := He.glo_ok X G (c.fact 34 rfl)
  f_signed_sum := c.def_ 24 rfl
  g_signed_sum := He.glo_ok X G (c.fact 35 rfl)
  f_signed_full := c.def_ 25 rfl
  g_signed_full := He.glo_ok X G (c.fact 36 rfl)
  f_law_counts := c.def_ 26 rfl
  g__law_counts := He.glo_ok X G (c.fact 37 rfl)
  f_law_door := c.def_ 27 rfl
  g__law_door := He.glo_ok X G (c.fact 38 rfl)
  f_law_door_due := c.def_ 28 rfl
  g__law_door_due := He.glo_ok X G (c.fact 39 rfl)
  f_law_feed := c.def_ 29 rfl
  g__law_feed := He.glo_ok X G (c.fact 40 rfl)
  f_law_told := c.def_ 8 rfl
  g__law_told := He.glo_ok X G (c.fact 41 rfl)
  f_law_live := c.def_ 30 rfl
  g__law_live := He.glo_ok X G (c.fact 42 rfl)
  f_law_blend := c.def_ 31 rfl
  g__law_blend := He.glo_ok X G (c.fact 43 rfl)
  f_law_digit := c.def_ 32 rfl
  g__law_digit := He.glo_ok X G (c.fact 44 rfl)
  f_law_weights := c.def_ 33 rfl
  g__law_weights := He.glo_ok X G (c.fact 45 rfl)
  f_law_table := c.def_ 34 rfl
  g__law_table := He.glo_ok X G (c.fact 46 rfl)
  f_law_ask := c.def_ 35 rfl
  g__law_ask := He.glo_ok X G (c.fact 47 rfl)
  f_law_side := c.def_ 36 rfl
  g__law_side := He.glo_ok X G (c.fact 48 rfl)
  f_is_position := c.def_ 37 rfl
  g_is_position := He.glo_ok X G (c.fact 49 rfl)
  f_check_position := c.def_ 38 rfl
  g_check_position := He.glo_ok X G (c.fact 50 rfl)
  f_check_switch := c.def_ 39 rfl
  g_check_switch := He.glo_ok X G (c.fact 51 rfl)
  f_check_part := c.def_ 40 rfl
  g_check_part := He.glo_ok X G (c.fact 52 rfl)
  f_open_of := c.def_ 41 rfl
  g_open_of := He.glo_ok X G (c.fact 53 rfl)
  f_spread := c.def_ 42 rfl
  g_spread := He.glo_ok X G (c.fact 54 rfl)
  f_part_signs := c.def_ 43 rfl
  g_part_signs := He.glo_ok X G (c.fact 55 rfl)
  f_rule_or_none := c.def_ 44 rfl
  g_rule_or_none := He.glo_ok X G (c.fact 56 rfl)
  f_part := c.def_ 45 rfl
  g_part := He.glo_ok X G (c.fact 57 rfl)
  f_take_out := c.def_ 46 rfl
  g_take_out := He.glo_ok X G (c.fact 58 rfl)
  f_law_some_side_full := c.def_ 47 rfl
  g__law_some_side_full := He.glo_ok X G (c.fact 59 rfl)
  f_law_total_case := c.def_ 48 rfl
  g__law_total_case := He.glo_ok X G (c.fact 60 rfl)
  f_size_from := c.def_ 49 rfl
  g_size_from := He.glo_ok X G (c.fact 61 rfl)
  f_alike_rule := c.def_ 50 rfl
  g_alike_rule := He.glo_ok X G (c.fact 62 rfl)
  f_Rule_from_yes := c.def_ 51 rfl
  f_and_rule := c.def_ 52 rfl
  g_and_rule := He.glo_ok X G (c.fact 63 rfl)
  f_law := c.def_ 53 rfl
  g_law := He.glo_ok X G (c.fact 64 rfl)
  g_BadSigns := He.glo_ok X G (c.fact 65 rfl)
  g_NotTotal := He.glo_ok X G (c.fact 66 rfl)
  g_NotYesNo := He.glo_ok X G (c.fact 67 rfl)
  g_Rule := He.glo_ok X G (c.fact 68 rfl)
  c_Rule := He.cls_ok (c.fact 69 rfl)
  mk_Rule := He.mkr_ok (c.fact 70 rfl)
  g_RuleError := He.glo_ok X G (c.fact 71 rfl)
  g_TooMany := He.glo_ok X G (c.fact 72 rfl)
  cm_Rule_from_yes := cmetB_ok (He.ba c.ex_).1
  cr_Rule := creadB_ok (He.ba (He.ba c.ex_).2).1
  exm_BadSigns_BadSigns := He.exm_ok (c.fact 73 rfl)
  exm_BadSigns_NotTotal := He.exm_ok (c.fact 74 rfl)
  exm_BadSigns_NotYesNo := He.exm_ok (c.fact 75 rfl)
  exm_BadSigns_RuleError := He.exm_ok (c.fact 76 rfl)
  exm_BadSigns_TooMany := He.exm_ok (c.fact 77 rfl)
  exm_NotTotal_BadSigns := He.exm_ok (c.fact 78 rfl)
  exm_NotTotal_NotTotal := He.exm_ok (c.fact 79 rfl)
  exm_NotTotal_NotYesNo := He.exm_ok (c.fact 80 rfl)
  exm_NotTotal_RuleError := He.exm_ok (c.fact 81 rfl)
  exm_NotTotal_TooMany := He.exm_ok (c.fact 82 rfl)
  exm_NotYesNo_BadSigns := He.exm_ok (c.fact 83 rfl)
  exm_NotYesNo_NotTotal := He.exm_ok (c.fact 84 rfl)
  exm_NotYesNo_NotYesNo := He.exm_ok (c.fact 85 rfl)
  exm_NotYesNo_RuleError := He.exm_ok (c.fact 86 rfl)
  exm_NotYesNo_TooMany := He.exm_ok (c.fact 87 rfl)
  exm_TooMany_BadSigns := He.exm_ok (c.fact 88 rfl)
  exm_TooMany_NotTotal := He.exm_ok (c.fact 89 rfl)
  exm_TooMany_NotYesNo := He.exm_ok (c.fact 90 rfl)
  exm_TooMany_RuleError := He.exm_ok (c.fact 91 rfl)
  exm_TooMany_TooMany := He.exm_ok (c.fact 92 rfl)
  isi_Rule := isiCB_ok (He.cls_ok (c.fact 69 rfl)) (He.ba (He.ba (He.ba c.ex_).2).2).1
  na_Rule_signs := He.noat_ok (c.fact 93 rfl)
  na_Rule_size := He.noat_ok (c.fact 94 rfl)
  o_BadSigns := ownB_ok X G (He.ba (He.ba (He.ba (He.ba c.ex_).2).2).2).1
  o_NotTotal := ownB_ok X G (He.ba (He.ba (He.ba (He.ba (He.ba c.ex_).2).2).2).2).1
  o_NotYesNo := ownB_ok X G (He.ba (He.ba (He.ba (He.ba (He.ba (He.ba c.ex_).2).2).2).2).2).1
  o_TooMany := ownB_ok X G (He.ba (He.ba (He.ba (He.ba (He.ba (He.ba (He.ba c.ex_).2).2).2).2).2).2).1
  of_BadSigns := let ⟨_, F⟩ := c.def_ 54 rfl; Yx.fn_place_of F rfl rfl rfl
  of_NotTotal := let ⟨_, F⟩ := c.def_ 55 rfl; Yx.fn_place_of F rfl rfl rfl
  of_NotYesNo := let ⟨_, F⟩ := c.def_ 56 rfl; Yx.fn_place_of F rfl rfl rfl
  of_TooMany := let ⟨_, F⟩ := c.def_ 57 rfl; Yx.fn_limit_of F rfl rfl rfl
  p_Rule_told := propB_ok (He.ba (He.ba (He.ba (He.ba (He.ba (He.ba (He.ba (He.ba c.ex_).2).2).2).2).2).2).2).1
  xf_BadSigns := L2.xfB_ok (He.ba (He.ba (He.ba (He.ba (He.ba (He.ba (He.ba (He.ba (He.ba c.ex_).2).2).2).2).2).2).2).2).1
  xf_NotTotal := L2.xfB_ok (He.ba (He.ba (He.ba (He.ba (He.ba (He.ba (He.ba (He.ba (He.ba (He.ba c.ex_).2).2).2).2).2).2).2).2).2).1
  xf_NotYesNo := L2.xfB_ok (He.ba (He.ba (He.ba (He.ba (He.ba (He.ba (He.ba (He.ba (He.ba (He.ba (He.ba c.ex_).2).2).2).2).2).2).2).2).2).2).1
  xf_TooMany := L2.xfB_ok ((He.ba (He.ba (He.ba (He.ba (He.ba (He.ba (He.ba (He.ba (He.ba (He.ba (He.ba c.ex_).2).2).2).2).2).2).2).2).2).2).2)
  xn_BadSigns_place := He.noat_ok (c.fact 95 rfl)
  xn_NotTotal_place := He.noat_ok (c.fact 96 rfl)
  xn_NotYesNo_place := He.noat_ok (c.fact 97 rfl)
  xn_TooMany_limit := He.noat_ok (c.fact 98 rfl)
variable {P : Program} {w : World} {K : PySem.W.Frag} {mg : Str → Option Value} {base : Heap}
/-! is_number: slots value -/
def b_is_number : Xs :=
  (sRet (xAndB (x1 (gIsi "int") (xVar 0)) (xNotB (x1 (gIsi "bool") (xVar 0)))))
abbrev F_is_number : Fn := fnD 1 1 b_is_number
theorem sc_is_number : FnScope ["value"] ["value"] (defScope s_is_number) := ⟨rfl, rfl, rfl, by decide +kernel, rfl, by decide +kernel, by decide +kernel⟩
theorem do_is_number (T : Txt K mg) {fd : FuncData} (Fn : Fun K "is_number" "is_number" s_is_number (He.ga K "is_number") fd) : FnOk P w K mg base (L2.CX P w) 2 (He.ga K "is_number") fd ["value"] (spF K (He.ga K) 1 F_is_number) :=
  Ya.fn_ok (P := P) (w := w) (mg := mg) (base := base) (cl := He.ga K) (k := 1) (N := ["value"]) (ps := ["value"]) (b := b_is_number) Fn sc_is_number (by decide) (fun cdv A outer s H E hr =>
    (sb_one (ss_ret (se_and (se_isi kit_int (by rfl) T.n_isinstance (by rfl) T.n_int (by rfl) (by decide) (by decide) (se_var 0 (pv 0))) (se_one (se_notB (se_isi kit_bool (by rfl) T.n_isinstance (by rfl) T.n_bool (by rfl) (by decide) (by decide) (se_var 0 (pv 0)))))))))
theorem ok_is_number (T : Txt K mg) : Ok1 P w K mg base (He.ga K) 2 (He.ga K "is_number") ["value"] F_is_number := by
  obtain ⟨fd, Fn⟩ := T.f_is_number
  exact ⟨fd, do_is_number T Fn, Fn.binds fun _ _ _ _ _ _ us hl => match us, hl with | [_], _ => rfl, Fn.kp⟩
/-! check_size: slots size -/
def b_check_size : Xs :=
  (sSeq (sIf (uOr (uNot (uTst (xCall F_is_number (rCons (xVar 0) rNil)))) (uNot (uTst (xChain gLe gLe (xC (.int 0)) (xVar 0) (xC (.int 10)))))) sNever sNil) (sRet (xVar 0)))
abbrev F_check_size : Fn := fnD 1 1 b_check_size
theorem sc_check_size : FnScope ["size"] ["size"] (defScope s_check_size) := ⟨rfl, rfl, rfl, by decide +kernel, rfl, by decide +kernel, by decide +kernel⟩
theorem do_check_size (T : Txt K mg) {fd : FuncData} (Fn : Fun K "check_size" "check_size" s_check_size (He.ga K "check_size") fd) : FnOk P w K mg base (L2.CX P w) 3 (He.ga K "check_size") fd ["size"] (spF K (He.ga K) 1 F_check_size) :=
  Ya.fn_ok (P := P) (w := w) (mg := mg) (base := base) (cl := He.ga K) (k := 2) (N := ["size"]) (ps := ["size"]) (b := b_check_size) Fn sc_check_size (by decide) (fun cdv A outer s H E hr =>
    (sb_cons (ss_if (sw_pt (sw_or (st_not (st_val (Ya.w_call (ok_is_number T) (hr.mono (by decide)) T.g_is_number (by rfl) (sr_cons (se_var 0 (pv 0)) sr_nil) (by rfl) (rl_cons rl_nil)))) (sw_or1 (st_not (st_chain op_le op_le ok_B ok_B se_int (se_var 0 (pv 0)) (se_gint (by rfl) T.i_MOST.choose_spec ⟨_, rfl⟩)))))) (sb_one ss_never) sb_nil) (sb_one (ss_ret (se_var 0 (pv 0))))))
theorem ok_check_size (T : Txt K mg) : Ok1 P w K mg base (He.ga K) 3 (He.ga K "check_size") ["size"] F_check_size := by
  obtain ⟨fd, Fn⟩ := T.f_check_size
  exact ⟨fd, do_check_size T Fn, Fn.binds fun _ _ _ _ _ _ us hl => match us, hl with | [_], _ => rfl, Fn.kp⟩
/-! Rule___init: slots self size signs place sign entry -/
def b_Rule___init : Xs :=
  (sSeq (sExpr (xCall F_check_size (rCons (xVar 1) rNil))) (sSeq (sIf (uOr (uNot (uTst (x1 gIsiLT (xVar 2)))) (uTst (x2 gNe (xN gLen (aCons (xVar 2) aNil)) (x2 gShl (xC (.int 1)) (xVar 1))))) sNever sNil) (sSeq (sFor (iEnmL (aCons (xVar 2) aNil)) (gxTup [3, 4]) (sIf (uAnd (uTst (x2 gNis (xVar 4) (xC .non))) (uOr (uNot (uTst (xCall F_is_number (rCons (xVar 4) rNil)))) (uTst (x2 gLt (xVar 4) (xC (.int 0)))))) sNever sNil)) (sSeq (sIf (uTst (xN gAllL (aCons (xLc [5] (iData (xVar 2)) (gxName 5) uYes (x2 gIs (xVar 5) (xC .non))) aNil))) sNever sNil) (sSeq (sAttr 0 "Rule" "size" (xVar 1)) (sAttr 0 "Rule" "signs" (xN gTuple (aCons (xVar 2) aNil))))))))
abbrev F_Rule___init : Fn := fnD 3 6 b_Rule___init
theorem sc_Rule___init : FnScope ["self", "size", "signs", "place", "sign", "entry"] ["self", "size", "signs"] (defScope s_Rule___init) := ⟨rfl, rfl, rfl, by decide +kernel, rfl, by decide +kernel, by decide +kernel⟩
theorem do_Rule___init (T : Txt K mg) {fd : FuncData} (Fn : Fun K "__init__" "Rule.__init__" s_Rule___init (He.ma K (He.ga K "Rule") "__init__") fd) : FnOk P w K mg base (L2.CX P w) 4 (He.ma K (He.ga K "Rule") "__init__") fd ["self", "size", "signs"] (spF K (He.ga K) 3 F_Rule___init) :=
  Ya.fn_ok (P := P) (w := w) (mg := mg) (base := base) (cl := He.ga K) (k := 3) (N := ["self", "size", "signs", "place", "sign", "entry"]) (ps := ["self", "size", "signs"]) (b := b_Rule___init) Fn sc_Rule___init (by decide) (fun cdv A outer s H E hr =>
    (sb_cons (ss_expr (Ya.w_call (ok_check_size T) (hr.mono (by decide)) T.g_check_size (by rfl) (sr_cons (se_var 1 (pv 1)) sr_nil) (by rfl) (rl_cons rl_nil))) (sb_cons (ss_if (sw_pt (sw_or (st_not (st_val (se_isiLT (by rfl) T.n_isinstance (by rfl) T.n_list (by rfl) T.n_tuple (se_var 2 (pv 2))))) (sw_or1 (Ya.v_ne hr.units (Ya.w_len T.n_len (by rfl) (sa_cons (se_var 2 (pv 2)) sa_nil)) (Ya.w_shl se_int (se_var 1 (pv 1))))))) (sb_one ss_never) sb_nil) (sb_cons (ss_for .leaving rfl (si_enumL (by rfl) T.n_enumerate (sa_cons (se_var 2 (pv 2)) sa_nil)) (sg_tup rfl (sgs_cons sc_Rule___init.nd (by rfl) (by first | exact Or.inl rfl | exact Or.inr rfl) (sgs_cons sc_Rule___init.nd (by rfl) (by first | exact Or.inl rfl | exact Or.inr rfl) sgs_nil))) (sb_one (ss_if (sw_pt (sw_and (Ya.v_nis (se_var 4 (pv 4)) se_non) (sw_and1 (sw_pt (sw_or (st_not (st_val (Ya.w_call (ok_is_number T) (hr.mono (by decide)) T.g_is_number (by rfl) (sr_cons (se_var 4 (pv 4)) sr_nil) (by rfl) (rl_cons rl_nil)))) (sw_or1 (Ya.v_lt (se_var 4 (pv 4)) se_int))))))) (sb_one ss_never) sb_nil))) (sb_cons (ss_if (st_val (Ya.w_all rfl T.n_all (by rfl) (sa_cons (Ya.w_lc [("entry", 5)] rfl rfl sc_Rule___init.nd (si_list (se_var 2 (pv 2))) (blkOk_by (N := ["self", "size", "signs", "place", "sign", "entry"]) (sc := defScope s_Rule___init) (own := [("entry", 5)]) (by decide +kernel)) (by decide) (fun s0 H0 C0 c0 p0 => (sg_name sc_Rule___init.nd (by rfl) (by first | exact Or.inl rfl | exact Or.inr rfl))) blkST_nil ⟨fun s0 H0 C0 c0 p0 => (Ya.w_is (se_var 5 (pv 5)) se_non)⟩) sa_nil))) (sb_one ss_never) sb_nil) (sb_cons (ss_attr (pv 0) (se_var 1 (pv 1)) T.c_Rule T.na_Rule_size) (sb_one (ss_attr (pv 0) (Ya.w_tuple T.n_tuple (by rfl) (sa_cons (se_var 2 (pv 2)) sa_nil)) T.c_Rule T.na_Rule_signs))))))))
theorem ok_Rule___init (T : Txt K mg) : Ok1 P w K mg base (He.ga K) 4 (He.ma K (He.ga K "Rule") "__init__") ["self", "size", "signs"] F_Rule___init := by
  obtain ⟨fd, Fn⟩ := T.f_Rule___init
  exact ⟨fd, do_Rule___init T Fn, Fn.binds fun _ _ _ _ _ _ us hl => match us, hl with | [_, _, _], _ => rfl, Fn.kp⟩
/-! law_pick: slots _law_feed_here _law_many -/
def b_law_pick : Xs :=
  (sSeq (sIf (uTst (x2 gEq (xLenO 0) (xC (.int 0)))) (sRet (xC (.int 0))) sNil) (sRet (x2 gMod (xN gInt (aCons (xPop 0) aNil)) (xVar 1))))
abbrev F_law_pick : Fn := fnD 2 2 b_law_pick
theorem sc_law_pick : FnScope ["_law_feed_here", "_law_many"] ["_law_feed_here", "_law_many"] (defScope s_law_pick) := ⟨rfl, rfl, rfl, by decide +kernel, rfl, by decide +kernel, by decide +kernel⟩
theorem do_law_pick (T : Txt K mg) {fd : FuncData} (Fn : Fun K "_law_pick" "_law_pick" s_law_pick (He.ga K "_law_pick") fd) : FnOk P w K mg base (L2.CX P w) 2 (He.ga K "_law_pick") fd ["_law_feed_here", "_law_many"] (spF K (He.ga K) 2 F_law_pick) :=
  Ya.fn_ok (P := P) (w := w) (mg := mg) (base := base) (cl := He.ga K) (k := 1) (N := ["_law_feed_here", "_law_many"]) (ps := ["_law_feed_here", "_law_many"]) (b := b_law_pick) Fn sc_law_pick (by decide) (fun cdv A outer s H E hr =>
    (sb_cons (ss_if (Ya.v_eq hr.units (Ya.w_lenO T.n_len (by rfl) (pv 0)) se_int) (sb_one (ss_ret se_int)) sb_nil) (sb_one (ss_ret (Ya.w_mod (Ya.w_int T.n_int (by rfl) (sa_cons (Ya.w_pop (pv 0)) sa_nil)) (se_var 1 (pv 1)))))))
theorem ok_law_pick (T : Txt K mg) : Ok1 P w K mg base (He.ga K) 2 (He.ga K "_law_pick") ["_law_feed_here", "_law_many"] F_law_pick := by
  obtain ⟨fd, Fn⟩ := T.f_law_pick
  exact ⟨fd, do_law_pick T Fn, Fn.binds fun _ _ _ _ _ _ us hl => match us, hl with | [_, _], _ => rfl, Fn.kp⟩
/-! law_known_signs: slots _law_feed_here _law_word _law_yes _law_place -/
def b_law_known_signs : Xs :=
  (sSeq (sSet 1 (xCall F_law_pick (rIo 0 (rCons (xC (.int 6)) rNil)))) (sSeq (sIf (uTst (x2 gEq (xVarF 1) (xC (.int 0)))) (sRet (xN gLst (aCons (xC (.int 3)) (aCons (xN gLst (aCons (xC (.int 0)) (aCons (xC (.int 0)) (aCons (xC (.int 1)) (aCons (xC (.int 0)) (aCons (xC (.int 0)) (aCons (xC (.int 1)) (aCons (xC (.int 1)) (aCons (xC (.int 1)) aNil))))))))) aNil)))) sNil) (sSeq (sIf (uTst (x2 gEq (xVarF 1) (xC (.int 1)))) (sSeq (sSet 2 (xN gLst (aCons (xC (.int 3)) (aCons (xC (.int 6)) (aCons (xC (.int 7)) (aCons (xC (.int 11)) (aCons (xC (.int 12)) (aCons (xC (.int 13)) (aCons (xC (.int 14)) (aCons (xC (.int 15)) aNil)))))))))) (sRet (xN gLst (aCons (xC (.int 4)) (aCons (xLc [3] (iRg1 (aCons (xC (.int 16)) aNil)) (gxName 3) uYes (xN gInt (aCons (x2 gIn (xVar 3) (xVarF 2)) aNil))) aNil))))) sNil) (sSeq (sIf (uTst (x2 gEq (xVarF 1) (xC (.int 2)))) (sSeq (sSet 2 (xN gLst (aCons (xC (.int 0)) (aCons (xC (.int 8)) (aCons (xC (.int 12)) (aCons (xC (.int 14)) (aCons (xC (.int 15)) (aCons (xC (.int 7)) (aCons (xC (.int 3)) (aCons (xC (.int 1)) aNil)))))))))) (sRet (xN gLst (aCons (xC (.int 4)) (aCons (xLc [3] (iRg1 (aCons (xC (.int 16)) aNil)) (gxName 3) uYes (xN gInt (aCons (x2 gIn (xVar 3) (xVarF 2)) aNil))) aNil))))) sNil) (sSeq (sIf (uTst (x2 gEq (xVarF 1) (xC (.int 3)))) (sRet (xN gLst (aCons (xC (.int 3)) (aCons (xN gLst (aCons (xC (.int 0)) (aCons (xC (.int 1)) (aCons (xC (.int 1)) (aCons (xC (.int 1)) (aCons (xC (.int 1)) (aCons (xC (.int 1)) (aCons (xC (.int 1)) (aCons (xC (.int 0)) aNil))))))))) aNil)))) sNil) (sSeq (sIf (uTst (x2 gEq (xVarF 1) (xC (.int 4)))) (sRet (xN gLst (aCons (xC (.int 2)) (aCons (xN gLst (aCons (xC (.int 0)) (aCons (xC .non) (aCons (xC .non) (aCons (xC (.int 1)) aNil))))) aNil)))) sNil) (sRet (xN gLst (aCons (xC (.int 3)) (aCons (xN gLst (aCons (xC (.int 0)) (aCons (xC (.int 0)) (aCons (xC (.int 0)) (aCons (xC (.int 1)) (aCons (xC (.int 0)) (aCons (xC (.int 1)) (aCons (xC (.int 1)) (aCons (xC (.int 1)) aNil))))))))) aNil))))))))))
abbrev F_law_known_signs : Fn := fnD 1 4 b_law_known_signs
theorem sc_law_known_signs : FnScope ["_law_feed_here", "_law_word", "_law_yes", "_law_place"] ["_law_feed_here"] (defScope s_law_known_signs) := ⟨rfl, rfl, rfl, by decide +kernel, rfl, by decide +kernel, by decide +kernel⟩
theorem do_law_known_signs (T : Txt K mg) {fd : FuncData} (Fn : Fun K "_law_known_signs" "_law_known_signs" s_law_known_signs (He.ga K "_law_known_signs") fd) : FnOk P w K mg base (L2.CX P w) 3 (He.ga K "_law_known_signs") fd ["_law_feed_here"] (spF K (He.ga K) 1 F_law_known_signs) :=
  Ya.fn_ok (P := P) (w := w) (mg := mg) (base := base) (cl := He.ga K) (k := 2) (N := ["_law_feed_here", "_law_word", "_law_yes", "_law_place"]) (ps := ["_law_feed_here"]) (b := b_law_known_signs) Fn sc_law_known_signs (by decide) (fun cdv A outer s H E hr =>
    (sb_cons (ss_set sc_law_known_signs.nd (by rfl) (by first | exact Or.inl rfl | exact Or.inr rfl) (Ya.w_call (ok_law_pick T) (hr.mono (by decide)) T.g__law_pick (by rfl) (sr_io 0 (pv 0) (sr_cons se_int sr_nil)) (by rfl) (rl_io (rl_cons rl_nil)))) (sb_cons (ss_if (Ya.v_eq hr.units (se_varF 1 (pv 1)) se_int) (sb_one (ss_ret (se_lst (sa_cons se_int (sa_cons (se_lst (sa_cons se_int (sa_cons se_int (sa_cons se_int (sa_cons se_int (sa_cons se_int (sa_cons se_int (sa_cons se_int (sa_cons se_int sa_nil))))))))) sa_nil))))) sb_nil) (sb_cons (ss_if (Ya.v_eq hr.units (se_varF 1 (pv 1)) se_int) (sb_cons (ss_set sc_law_known_signs.nd (by rfl) (by first | exact Or.inl rfl | exact Or.inr rfl) (se_lst (sa_cons se_int (sa_cons se_int (sa_cons se_int (sa_cons se_int (sa_cons se_int (sa_cons se_int (sa_cons se_int (sa_cons se_int sa_nil)))))))))) (sb_one (ss_ret (se_lst (sa_cons se_int (sa_cons (Ya.w_lc [("_law_place", 3)] rfl rfl sc_law_known_signs.nd (si_range1 (by rfl) T.n_range (sa_cons se_int sa_nil)) (blkOk_by (N := ["_law_feed_here", "_law_word", "_law_yes", "_law_place"]) (sc := defScope s_law_known_signs) (own := [("_law_place", 3)]) (by decide +kernel)) (by decide) (fun s0 H0 C0 c0 p0 => (sg_name sc_law_known_signs.nd (by rfl) (by first | exact Or.inl rfl | exact Or.inr rfl))) blkST_nil ⟨fun s0 H0 C0 c0 p0 => (Ya.w_int T.n_int (by rfl) (sa_cons (Ya.w_in (se_var 3 (pv 3)) (se_varF 2 (pv 2))) sa_nil))⟩) sa_nil)))))) sb_nil) (sb_cons (ss_if (Ya.v_eq hr.units (se_varF 1 (pv 1)) se_int) (sb_cons (ss_set sc_law_known_signs.nd (by rfl) (by first | exact Or.inl rfl | exact Or.inr rfl) (se_lst (sa_cons se_int (sa_cons se_int (sa_cons se_int (sa_cons se_int (sa_cons se_int (sa_cons se_int (sa_cons se_int (sa_cons se_int sa_nil)))))))))) (sb_one (ss_ret (se_lst (sa_cons se_int (sa_cons (Ya.w_lc [("_law_place", 3)] rfl rfl sc_law_known_signs.nd (si_range1 (by rfl) T.n_range (sa_cons se_int sa_nil)) (blkOk_by (N := ["_law_feed_here", "_law_word", "_law_yes", "_law_place"]) (sc := defScope s_law_known_signs) (own := [("_law_place", 3)]) (by decide +kernel)) (by decide) (fun s0 H0 C0 c0 p0 => (sg_name sc_law_known_signs.nd (by rfl) (by first | exact Or.inl rfl | exact Or.inr rfl))) blkST_nil ⟨fun s0 H0 C0 c0 p0 => (Ya.w_int T.n_int (by rfl) (sa_cons (Ya.w_in (se_var 3 (pv 3)) (se_varF 2 (pv 2))) sa_nil))⟩) sa_nil)))))) sb_nil) (sb_cons (ss_if (Ya.v_eq hr.units (se_varF 1 (pv 1)) se_int) (sb_one (ss_ret (se_lst (sa_cons se_int (sa_cons (se_lst (sa_cons se_int (sa_cons se_int (sa_cons se_int (sa_cons se_int (sa_cons se_int (sa_cons se_int (sa_cons se_int (sa_cons se_int sa_nil))))))))) sa_nil))))) sb_nil) (sb_cons (ss_if (Ya.v_eq hr.units (se_varF 1 (pv 1)) se_int) (sb_one (ss_ret (se_lst (sa_cons se_int (sa_cons (se_lst (sa_cons se_int (sa_cons se_non (sa_cons se_non (sa_cons se_int sa_nil))))) sa_nil))))) sb_nil) (sb_one (ss_ret (se_lst (sa_cons se_int (sa_cons (se_lst (sa_cons se_int (sa_cons se_int (sa_cons se_int (sa_cons se_int (sa_cons se_int (sa_cons se_int (sa_cons se_int (sa_cons se_int sa_nil))))))))) sa_nil))))))))))))
theorem ok_law_known_signs (T : Txt K mg) : Ok1 P w K mg base (He.ga K) 3 (He.ga K "_law_known_signs") ["_law_feed_here"] F_law_known_signs := by
  obtain ⟨fd, Fn⟩ := T.f_law_known_signs
  exact ⟨fd, do_law_known_signs T Fn, Fn.binds fun _ _ _ _ _ _ us hl => match us, hl with | [_], _ => rfl, Fn.kp⟩
/-! law_bit: slots _law_place _law_at -/
def b_law_bit : Xs :=
  (sRet (x2 gMod (xN gInt (aCons (x2 gShr (xVar 0) (xVar 1)) aNil)) (xC (.int 2))))
abbrev F_law_bit : Fn := fnD 2 2 b_law_bit
theorem sc_law_bit : FnScope ["_law_place", "_law_at"] ["_law_place", "_law_at"] (defScope s_law_bit) := ⟨rfl, rfl, rfl, by decide +kernel, rfl, by decide +kernel, by decide +kernel⟩
theorem do_law_bit (T : Txt K mg) {fd : FuncData} (Fn : Fun K "_law_bit" "_law_bit" s_law_bit (He.ga K "_law_bit") fd) : FnOk P w K mg base (L2.CX P w) 2 (He.ga K "_law_bit") fd ["_law_place", "_law_at"] (spF K (He.ga K) 2 F_law_bit) :=
  Ya.fn_ok (P := P) (w := w) (mg := mg) (base := base) (cl := He.ga K) (k := 1) (N := ["_law_place", "_law_at"]) (ps := ["_law_place", "_law_at"]) (b := b_law_bit) Fn sc_law_bit (by decide) (fun cdv A outer s H E hr =>
    (sb_one (ss_ret (Ya.w_mod (Ya.w_int T.n_int (by rfl) (sa_cons (Ya.w_shr (se_var 0 (pv 0)) (se_var 1 (pv 1))) sa_nil)) se_int))))
theorem ok_law_bit (T : Txt K mg) : Ok1 P w K mg base (He.ga K) 2 (He.ga K "_law_bit") ["_law_place", "_law_at"] F_law_bit := by
  obtain ⟨fd, Fn⟩ := T.f_law_bit
  exact ⟨fd, do_law_bit T Fn, Fn.binds fun _ _ _ _ _ _ us hl => match us, hl with | [_, _], _ => rfl, Fn.kp⟩
/-! law_lot_of: slots _law_size_here _law_mask _law_e -/
def b_law_lot_of : Xs :=
  (sRet (xLc [2] (iRg1 (aCons (xVar 0) aNil)) (gxName 2) (uTst (x2 gEq (xCall F_law_bit (rCons (xVar 1) (rCons (xVar 2) rNil))) (xC (.int 1)))) (xVar 2)))
abbrev F_law_lot_of : Fn := fnD 2 3 b_law_lot_of
theorem sc_law_lot_of : FnScope ["_law_size_here", "_law_mask", "_law_e"] ["_law_size_here", "_law_mask"] (defScope s_law_lot_of) := ⟨rfl, rfl, rfl, by decide +kernel, rfl, by decide +kernel, by decide +kernel⟩
theorem do_law_lot_of (T : Txt K mg) {fd : FuncData} (Fn : Fun K "_law_lot_of" "_law_lot_of" s_law_lot_of (He.ga K "_law_lot_of") fd) : FnOk P w K mg base (L2.CX P w) 3 (He.ga K "_law_lot_of") fd ["_law_size_here", "_law_mask"] (spF K (He.ga K) 2 F_law_lot_of) :=
  Ya.fn_ok (P := P) (w := w) (mg := mg) (base := base) (cl := He.ga K) (k := 2) (N := ["_law_size_here", "_law_mask", "_law_e"]) (ps := ["_law_size_here", "_law_mask"]) (b := b_law_lot_of) Fn sc_law_lot_of (by decide) (fun cdv A outer s H E hr =>
    (sb_one (ss_ret (Ya.w_lc [("_law_e", 2)] rfl rfl sc_law_lot_of.nd (si_range1 (by rfl) T.n_range (sa_cons (se_var 0 (pv 0)) sa_nil)) (blkOk_by (N := ["_law_size_here", "_law_mask", "_law_e"]) (sc := defScope s_law_lot_of) (own := [("_law_e", 2)]) (by decide +kernel)) (by decide) (fun s0 H0 C0 c0 p0 => (sg_name sc_law_lot_of.nd (by rfl) (by first | exact Or.inl rfl | exact Or.inr rfl))) (blkST_one (fun s0 H0 C0 c0 p0 => (Ya.v_eq hr.units (Ya.w_call (ok_law_bit T) (hr.mono (by decide)) T.g__law_bit (by rfl) (sr_cons (se_var 1 (pv 1)) (sr_cons (se_var 2 (pv 2)) sr_nil)) (by rfl) (rl_cons (rl_cons rl_nil))) se_int))) ⟨fun s0 H0 C0 c0 p0 => (se_var 2 (pv 2))⟩))))
theorem ok_law_lot_of (T : Txt K mg) : Ok1 P w K mg base (He.ga K) 3 (He.ga K "_law_lot_of") ["_law_size_here", "_law_mask"] F_law_lot_of := by
  obtain ⟨fd, Fn⟩ := T.f_law_lot_of
  exact ⟨fd, do_law_lot_of T Fn, Fn.binds fun _ _ _ _ _ _ us hl => match us, hl with | [_, _], _ => rfl, Fn.kp⟩
/-! law_order_signs: slots _law_feed_here _law_size_here _law_masks _law_k _law_mask _law_e _law_signs_here _law_place -/
def b_law_order_signs : Xs :=
  (sSeq (sSet 2 (xN gLst aNil)) (sSeq (sFor (iRg1 (aCons (x2 gAdd (xC (.int 1)) (xCall F_law_pick (rIo 0 (rCons (xC (.int 4)) rNil)))) aNil)) (gxName 3) (sSeq (sSet 4 (xC (.int 0))) (sSeq (sFor (iRg1 (aCons (xVar 1) aNil)) (gxName 5) (sIf (uTst (x2 gEq (xCall F_law_pick (rIo 0 (rCons (xC (.int 2)) rNil))) (xC (.int 0)))) (sAug 4 (gI (fun i j => i + j)) (x2 gShl (xC (.int 1)) (xVar 5))) sNil)) (sExpr (xApp 2 (xVar 4)))))) (sSeq (sSet 6 (xN gLst aNil)) (sSeq (sFor (iRg1 (aCons (x2 gShl (xC (.int 1)) (xVar 1)) aNil)) (gxName 7) (sExpr (xApp 6 (xN gInt (aCons (x2 gGt (xN gLen (aCons (xLc [4] (iData (xVarF 2)) (gxName 4) (uTst (x2 gEq (x2 gAnd (xVar 4) (xVar 7)) (xVar 4))) (xVar 4)) aNil)) (xC (.int 0))) aNil))))) (sRet (xMove 6))))))
abbrev F_law_order_signs : Fn := fnD 2 8 b_law_order_signs
theorem sc_law_order_signs : FnScope ["_law_feed_here", "_law_size_here", "_law_masks", "_law_k", "_law_mask", "_law_e", "_law_signs_here", "_law_place"] ["_law_feed_here", "_law_size_here"] (defScope s_law_order_signs) := ⟨rfl, rfl, rfl, by decide +kernel, rfl, by decide +kernel, by decide +kernel⟩
theorem do_law_order_signs (T : Txt K mg) {fd : FuncData} (Fn : Fun K "_law_order_signs" "_law_order_signs" s_law_order_signs (He.ga K "_law_order_signs") fd) : FnOk P w K mg base (L2.CX P w) 3 (He.ga K "_law_order_signs") fd ["_law_feed_here", "_law_size_here"] (spF K (He.ga K) 2 F_law_order_signs) :=
  Ya.fn_ok (P := P) (w := w) (mg := mg) (base := base) (cl := He.ga K) (k := 2) (N := ["_law_feed_here", "_law_size_here", "_law_masks", "_law_k", "_law_mask", "_law_e", "_law_signs_here", "_law_place"]) (ps := ["_law_feed_here", "_law_size_here"]) (b := b_law_order_signs) Fn sc_law_order_signs (by decide) (fun cdv A outer s H E hr =>
    (sb_cons (ss_set sc_law_order_signs.nd (by rfl) (by first | exact Or.inl rfl | exact Or.inr rfl) (se_lst sa_nil)) (sb_cons (ss_for .leaving rfl (si_range1 (by rfl) T.n_range (sa_cons (Ya.w_add se_int (Ya.w_call (ok_law_pick T) (hr.mono (by decide)) T.g__law_pick (by rfl) (sr_io 0 (pv 0) (sr_cons se_int sr_nil)) (by rfl) (rl_io (rl_cons rl_nil)))) sa_nil)) (sg_name sc_law_order_signs.nd (by rfl) (by first | exact Or.inl rfl | exact Or.inr rfl)) (sb_cons (ss_set sc_law_order_signs.nd (by rfl) (by first | exact Or.inl rfl | exact Or.inr rfl) se_int) (sb_cons (ss_for .leaving rfl (si_range1 (by rfl) T.n_range (sa_cons (se_var 1 (pv 1)) sa_nil)) (sg_name sc_law_order_signs.nd (by rfl) (by first | exact Or.inl rfl | exact Or.inr rfl)) (sb_one (ss_if (Ya.v_eq hr.units (Ya.w_call (ok_law_pick T) (hr.mono (by decide)) T.g__law_pick (by rfl) (sr_io 0 (pv 0) (sr_cons se_int sr_nil)) (by rfl) (rl_io (rl_cons rl_nil))) se_int) (sb_one (ss_aug sc_law_order_signs.nd (by rfl) (by first | exact Or.inl rfl | exact Or.inr rfl) (Ya.w_shl se_int (se_var 5 (pv 5))) ip_add)) sb_nil))) (sb_one (ss_expr (Ya.w_app (pv 2) (se_var 4 (pv 4)))))))) (sb_cons (ss_set sc_law_order_signs.nd (by rfl) (by first | exact Or.inl rfl | exact Or.inr rfl) (se_lst sa_nil)) (sb_cons (ss_for .leaving rfl (si_range1 (by rfl) T.n_range (sa_cons (Ya.w_shl se_int (se_var 1 (pv 1))) sa_nil)) (sg_name sc_law_order_signs.nd (by rfl) (by first | exact Or.inl rfl | exact Or.inr rfl)) (sb_one (ss_expr (Ya.w_app (pv 6) (Ya.w_int T.n_int (by rfl) (sa_cons (Ya.w_gt (Ya.w_len T.n_len (by rfl) (sa_cons (Ya.w_lc [("_law_mask", 4)] rfl rfl sc_law_order_signs.nd (si_list (se_varF 2 (pv 2))) (blkOk_by (N := ["_law_feed_here", "_law_size_here", "_law_masks", "_law_k", "_law_mask", "_law_e", "_law_signs_here", "_law_place"]) (sc := defScope s_law_order_signs) (own := [("_law_mask", 4)]) (by decide +kernel)) (by decide) (fun s0 H0 C0 c0 p0 => (sg_name sc_law_order_signs.nd (by rfl) (by first | exact Or.inl rfl | exact Or.inr rfl))) (blkST_one (fun s0 H0 C0 c0 p0 => (Ya.v_eq hr.units (Ya.w_and (se_var 4 (pv 4)) (se_var 7 (pv 7))) (se_var 4 (pv 4))))) ⟨fun s0 H0 C0 c0 p0 => (se_var 4 (pv 4))⟩) sa_nil)) se_int) sa_nil)))))) (sb_one (ss_ret (se_move 6 (pv 6)))))))))
theorem ok_law_order_signs (T : Txt K mg) : Ok1 P w K mg base (He.ga K) 3 (He.ga K "_law_order_signs") ["_law_feed_here", "_law_size_here"] F_law_order_signs := by
  obtain ⟨fd, Fn⟩ := T.f_law_order_signs
  exact ⟨fd, do_law_order_signs T Fn, Fn.binds fun _ _ _ _ _ _ us hl => match us, hl with | [_, _], _ => rfl, Fn.kp⟩
/-! law_told_io: slots _law_signs_here _law_place -/
def b_law_told_io : Xs :=
  (sRet (xLc [1] (iRg1 (aCons (xLenO 0) aNil)) (gxName 1) (uTst (x2 gNis (xIxO 0 (xVar 1)) (xC .non))) (xVar 1)))
abbrev F_law_told_io : Fn := fnD 1 2 b_law_told_io
theorem sc_law_told_io : FnScope ["_law_signs_here", "_law_place"] ["_law_signs_here"] (defScope s_law_told_io) := ⟨rfl, rfl, rfl, by decide +kernel, rfl, by decide +kernel, by decide +kernel⟩
theorem do_law_told_io (T : Txt K mg) {fd : FuncData} (Fn : Fun K "_law_told" "_law_told" s_law_told_io (He.ga K "_law_told") fd) : FnOk P w K mg base (L2.CX P w) 2 (He.ga K "_law_told") fd ["_law_signs_here"] (spF K (He.ga K) 1 F_law_told_io) :=
  Ya.fn_ok (P := P) (w := w) (mg := mg) (base := base) (cl := He.ga K) (k := 1) (N := ["_law_signs_here", "_law_place"]) (ps := ["_law_signs_here"]) (b := b_law_told_io) Fn sc_law_told_io (by decide) (fun cdv A outer s H E hr =>
    (sb_one (ss_ret (Ya.w_lc [("_law_place", 1)] rfl rfl sc_law_told_io.nd (si_range1 (by rfl) T.n_range (sa_cons (Ya.w_lenO T.n_len (by rfl) (pv 0)) sa_nil)) (blkOk_by (N := ["_law_signs_here", "_law_place"]) (sc := defScope s_law_told_io) (own := [("_law_place", 1)]) (by decide +kernel)) (by decide) (fun s0 H0 C0 c0 p0 => (sg_name sc_law_told_io.nd (by rfl) (by first | exact Or.inl rfl | exact Or.inr rfl))) (blkST_one (fun s0 H0 C0 c0 p0 => (Ya.v_nis (se_ixO (pv 0) (se_var 1 (pv 1)) (fun _ _ => rfl)) se_non))) ⟨fun s0 H0 C0 c0 p0 => (se_var 1 (pv 1))⟩))))
theorem ok_law_told_io (T : Txt K mg) : Ok1 P w K mg base (He.ga K) 2 (He.ga K "_law_told") ["_law_signs_here"] F_law_told_io := by
  obtain ⟨fd, Fn⟩ := T.f_law_told_io
  exact ⟨fd, do_law_told_io T Fn, Fn.binds fun _ _ _ _ _ _ us hl => match us, hl with | [_], _ => rfl, Fn.kp⟩
/-! law_signs: slots _law_feed_here _law_size_here _law_word _law_signs_here _law_place _law_sign -/
def b_law_signs : Xs :=
  (sSeq (sSet 2 (xCall F_law_pick (rIo 0 (rCons (xC (.int 6)) rNil)))) (sSeq (sIf (uTst (x2 gEq (xVarF 2) (xC (.int 2)))) (sRet (xCall F_law_order_signs (rIo 0 (rCons (xVar 1) rNil)))) sNil) (sSeq (sSet 3 (xN gLst aNil)) (sSeq (sFor (iRg1 (aCons (x2 gShl (xC (.int 1)) (xVar 1)) aNil)) (gxName 4) (sSeq (sSet 5 (xCall F_law_pick (rIo 0 (rCons (xC (.int 2)) rNil)))) (sSeq (sIf (uTst (x2 gEq (xVarF 2) (xC (.int 4)))) (sSet 5 (xCall F_law_pick (rIo 0 (rCons (xC (.int 3)) rNil)))) sNil) (sSeq (sIf (uAnd (uTst (x2 gIn (xVarF 2) (xN Ya.gTup (aCons (xC (.int 3)) (aCons (xC (.int 4)) aNil))))) (uTst (x2 gEq (xCall F_law_pick (rIo 0 (rCons (xC (.int 3)) rNil))) (xC (.int 1))))) (sSet 5 (xC .non)) sNil) (sSeq (sIf (uTst (x2 gEq (xVarF 2) (xC (.int 5)))) (sSet 5 (x2 gMod (xN gInt (aCons (x2 gAdd (xN gLen (aCons (xCall F_law_lot_of (rCons (xVar 1) (rCons (xVar 4) rNil))) aNil)) (x2 gMul (xVarF 5) (xN gInt (aCons (x2 gGt (xVar 1) (xC (.int 3))) aNil)))) aNil)) (xC (.int 2)))) sNil) (sExpr (xApp 3 (xVarF 5)))))))) (sSeq (sIf (uTst (x2 gEq (xN gLen (aCons (xCall F_law_told_io (rIo 3 rNil)) aNil)) (xC (.int 0)))) (sPutIx 3 (xC (.int 0)) (xC (.int 0))) sNil) (sRet (xMove 3)))))))
abbrev F_law_signs : Fn := fnD 2 6 b_law_signs
theorem sc_law_signs : FnScope ["_law_feed_here", "_law_size_here", "_law_word", "_law_signs_here", "_law_place", "_law_sign"] ["_law_feed_here", "_law_size_here"] (defScope s_law_signs) := ⟨rfl, rfl, rfl, by decide +kernel, rfl, by decide +kernel, by decide +kernel⟩
theorem do_law_signs (T : Txt K mg) {fd : FuncData} (Fn : Fun K "_law_signs" "_law_signs" s_law_signs (He.ga K "_law_signs") fd) : FnOk P w K mg base (L2.CX P w) 4 (He.ga K "_law_signs") fd ["_law_feed_here", "_law_size_here"] (spF K (He.ga K) 2 F_law_signs) :=
  Ya.fn_ok (P := P) (w := w) (mg := mg) (base := base) (cl := He.ga K) (k := 3) (N := ["_law_feed_here", "_law_size_here", "_law_word", "_law_signs_here", "_law_place", "_law_sign"]) (ps := ["_law_feed_here", "_law_size_here"]) (b := b_law_signs) Fn sc_law_signs (by decide) (fun cdv A outer s H E hr =>
    (sb_cons (ss_set sc_law_signs.nd (by rfl) (by first | exact Or.inl rfl | exact Or.inr rfl) (Ya.w_call (ok_law_pick T) (hr.mono (by decide)) T.g__law_pick (by rfl) (sr_io 0 (pv 0) (sr_cons se_int sr_nil)) (by rfl) (rl_io (rl_cons rl_nil)))) (sb_cons (ss_if (Ya.v_eq hr.units (se_varF 2 (pv 2)) se_int) (sb_one (ss_ret (Ya.w_call (ok_law_order_signs T) (hr.mono (by decide)) T.g__law_order_signs (by rfl) (sr_io 0 (pv 0) (sr_cons (se_var 1 (pv 1)) sr_nil)) (by rfl) (rl_io (rl_cons rl_nil))))) sb_nil) (sb_cons (ss_set sc_law_signs.nd (by rfl) (by first | exact Or.inl rfl | exact Or.inr rfl) (se_lst sa_nil)) (sb_cons (ss_for .leaving rfl (si_range1 (by rfl) T.n_range (sa_cons (Ya.w_shl se_int (se_var 1 (pv 1))) sa_nil)) (sg_name sc_law_signs.nd (by rfl) (by first | exact Or.inl rfl | exact Or.inr rfl)) (sb_cons (ss_set sc_law_signs.nd (by rfl) (by first | exact Or.inl rfl | exact Or.inr rfl) (Ya.w_call (ok_law_pick T) (hr.mono (by decide)) T.g__law_pick (by rfl) (sr_io 0 (pv 0) (sr_cons se_int sr_nil)) (by rfl) (rl_io (rl_cons rl_nil)))) (sb_cons (ss_if (Ya.v_eq hr.units (se_varF 2 (pv 2)) se_int) (sb_one (ss_set sc_law_signs.nd (by rfl) (by first | exact Or.inl rfl | exact Or.inr rfl) (Ya.w_call (ok_law_pick T) (hr.mono (by decide)) T.g__law_pick (by rfl) (sr_io 0 (pv 0) (sr_cons se_int sr_nil)) (by rfl) (rl_io (rl_cons rl_nil))))) sb_nil) (sb_cons (ss_if (sw_pt (sw_and (Ya.v_in (se_varF 2 (pv 2)) (se_tup (sa_cons se_int (sa_cons se_int sa_nil)))) (sw_and1 (Ya.v_eq hr.units (Ya.w_call (ok_law_pick T) (hr.mono (by decide)) T.g__law_pick (by rfl) (sr_io 0 (pv 0) (sr_cons se_int sr_nil)) (by rfl) (rl_io (rl_cons rl_nil))) se_int)))) (sb_one (ss_set sc_law_signs.nd (by rfl) (by first | exact Or.inl rfl | exact Or.inr rfl) se_non)) sb_nil) (sb_cons (ss_if (Ya.v_eq hr.units (se_varF 2 (pv 2)) se_int) (sb_one (ss_set sc_law_signs.nd (by rfl) (by first | exact Or.inl rfl | exact Or.inr rfl) (Ya.w_mod (Ya.w_int T.n_int (by rfl) (sa_cons (Ya.w_add (Ya.w_len T.n_len (by rfl) (sa_cons (Ya.w_call (ok_law_lot_of T) (hr.mono (by decide)) T.g__law_lot_of (by rfl) (sr_cons (se_var 1 (pv 1)) (sr_cons (se_var 4 (pv 4)) sr_nil)) (by rfl) (rl_cons (rl_cons rl_nil))) sa_nil)) (Ya.w_mul (se_varF 5 (pv 5)) (Ya.w_int T.n_int (by rfl) (sa_cons (Ya.w_gt (se_var 1 (pv 1)) se_int) sa_nil)))) sa_nil)) se_int))) sb_nil) (sb_one (ss_expr (Ya.w_app (pv 3) (se_varF 5 (pv 5)))))))))) (sb_cons (ss_if (Ya.v_eq hr.units (Ya.w_len T.n_len (by rfl) (sa_cons (Ya.w_call (ok_law_told_io T) (hr.mono (by decide)) T.g__law_told (by rfl) (sr_io 3 (pv 3) sr_nil) (by rfl) (rl_io rl_nil)) sa_nil)) se_int) (sb_one (Ya.w_putIx (pv 3) se_int se_int)) sb_nil) (sb_one (ss_ret (se_move 3 (pv 3))))))))))
theorem ok_law_signs (T : Txt K mg) : Ok1 P w K mg base (He.ga K) 4 (He.ga K "_law_signs") ["_law_feed_here", "_law_size_here"] F_law_signs := by
  obtain ⟨fd, Fn⟩ := T.f_law_signs
  exact ⟨fd, do_law_signs T Fn, Fn.binds fun _ _ _ _ _ _ us hl => match us, hl with | [_, _], _ => rfl, Fn.kp⟩
/-! law_size: slots _law_feed_here _law_most -/
def b_law_size : Xs :=
  (sRet (xN gMin2 (aCons (xVar 1) (aCons (x2 gIx (xN gLst (aCons (xC (.int 2)) (aCons (xC (.int 3)) (aCons (xC (.int 1)) (aCons (xC (.int 3)) (aCons (xC (.int 4)) (aCons (xC (.int 2)) (aCons (xC (.int 3)) (aCons (xC (.int 0)) (aCons (xC (.int 4)) (aCons (xC (.int 5)) aNil))))))))))) (xCall F_law_pick (rIo 0 (rCons (xC (.int 10)) rNil)))) aNil))))
abbrev F_law_size : Fn := fnD 2 2 b_law_size
theorem sc_law_size : FnScope ["_law_feed_here", "_law_most"] ["_law_feed_here", "_law_most"] (defScope s_law_size) := ⟨rfl, rfl, rfl, by decide +kernel, rfl, by decide +kernel, by decide +kernel⟩
theorem do_law_size (T : Txt K mg) {fd : FuncData} (Fn : Fun K "_law_size" "_law_size" s_law_size (He.ga K "_law_size") fd) : FnOk P w K mg base (L2.CX P w) 3 (He.ga K "_law_size") fd ["_law_feed_here", "_law_most"] (spF K (He.ga K) 2 F_law_size) :=
  Ya.fn_ok (P := P) (w := w) (mg := mg) (base := base) (cl := He.ga K) (k := 2) (N := ["_law_feed_here", "_law_most"]) (ps := ["_law_feed_here", "_law_most"]) (b := b_law_size) Fn sc_law_size (by decide) (fun cdv A outer s H E hr =>
    (sb_one (ss_ret (Ya.w_min2 rfl T.n_min (by rfl) (sa_cons (se_var 1 (pv 1)) (sa_cons (Ya.w_ix (se_lst (sa_cons se_int (sa_cons se_int (sa_cons se_int (sa_cons se_int (sa_cons se_int (sa_cons se_int (sa_cons se_int (sa_cons se_int (sa_cons se_int (sa_cons se_int sa_nil))))))))))) (Ya.w_call (ok_law_pick T) (hr.mono (by decide)) T.g__law_pick (by rfl) (sr_io 0 (pv 0) (sr_cons se_int sr_nil)) (by rfl) (rl_io (rl_cons rl_nil)))) sa_nil))))))
theorem ok_law_size (T : Txt K mg) : Ok1 P w K mg base (He.ga K) 3 (He.ga K "_law_size") ["_law_feed_here", "_law_most"] F_law_size := by
  obtain ⟨fd, Fn⟩ := T.f_law_size
  exact ⟨fd, do_law_size T Fn, Fn.binds fun _ _ _ _ _ _ us hl => match us, hl with | [_, _], _ => rfl, Fn.kp⟩
/-! law_case: slots _law_feed_here _law_most _law_known _law_size_here -/
def b_law_case : Xs :=
  (sSeq (sIf (uTst (x2 gEq (xCall F_law_pick (rIo 0 (rCons (xC (.int 3)) rNil))) (xC (.int 2)))) (sSeq (sSet 2 (xCall F_law_known_signs (rIo 0 rNil))) (sIf (uTst (x2 gLe (x2 gIx (xVarF 2) (xC (.int 0))) (xVar 1))) (sRet (xVarF 2)) sNil)) sNil) (sSeq (sSet 3 (xCall F_law_size (rIo 0 (rCons (xVar 1) rNil)))) (sRet (xN gLst (aCons (xVarF 3) (aCons (xCall F_law_signs (rIo 0 (rCons (xVarF 3) rNil))) aNil))))))
abbrev F_law_case : Fn := fnD 2 4 b_law_case
theorem sc_law_case : FnScope ["_law_feed_here", "_law_most", "_law_known", "_law_size_here"] ["_law_feed_here", "_law_most"] (defScope s_law_case) := ⟨rfl, rfl, rfl, by decide +kernel, rfl, by decide +kernel, by decide +kernel⟩
theorem do_law_case (T : Txt K mg) {fd : FuncData} (Fn : Fun K "_law_case" "_law_case" s_law_case (He.ga K "_law_case") fd) : FnOk P w K mg base (L2.CX P w) 5 (He.ga K "_law_case") fd ["_law_feed_here", "_law_most"] (spF K (He.ga K) 2 F_law_case) :=
  Ya.fn_ok (P := P) (w := w) (mg := mg) (base := base) (cl := He.ga K) (k := 4) (N := ["_law_feed_here", "_law_most", "_law_known", "_law_size_here"]) (ps := ["_law_feed_here", "_law_most"]) (b := b_law_case) Fn sc_law_case (by decide) (fun cdv A outer s H E hr =>
    (sb_cons (ss_if (Ya.v_eq hr.units (Ya.w_call (ok_law_pick T) (hr.mono (by decide)) T.g__law_pick (by rfl) (sr_io 0 (pv 0) (sr_cons se_int sr_nil)) (by rfl) (rl_io (rl_cons rl_nil))) se_int) (sb_cons (ss_set sc_law_case.nd (by rfl) (by first | exact Or.inl rfl | exact Or.inr rfl) (Ya.w_call (ok_law_known_signs T) (hr.mono (by decide)) T.g__law_known_signs (by rfl) (sr_io 0 (pv 0) sr_nil) (by rfl) (rl_io rl_nil))) (sb_one (ss_if (Ya.v_le (Ya.w_ix (se_varF 2 (pv 2)) se_int) (se_var 1 (pv 1))) (sb_one (ss_ret (se_varF 2 (pv 2)))) sb_nil))) sb_nil) (sb_cons (ss_set sc_law_case.nd (by rfl) (by first | exact Or.inl rfl | exact Or.inr rfl) (Ya.w_call (ok_law_size T) (hr.mono (by decide)) T.g__law_size (by rfl) (sr_io 0 (pv 0) (sr_cons (se_var 1 (pv 1)) sr_nil)) (by rfl) (rl_io (rl_cons rl_nil)))) (sb_one (ss_ret (se_lst (sa_cons (se_varF 3 (pv 3)) (sa_cons (Ya.w_call (ok_law_signs T) (hr.mono (by decide)) T.g__law_signs (by rfl) (sr_io 0 (pv 0) (sr_cons (se_varF 3 (pv 3)) sr_nil)) (by rfl) (rl_io (rl_cons rl_nil))) sa_nil))))))))
theorem ok_law_case (T : Txt K mg) : Ok1 P w K mg base (He.ga K) 5 (He.ga K "_law_case") ["_law_feed_here", "_law_most"] F_law_case := by
  obtain ⟨fd, Fn⟩ := T.f_law_case
  exact ⟨fd, do_law_case T Fn, Fn.binds fun _ _ _ _ _ _ us hl => match us, hl with | [_, _], _ => rfl, Fn.kp⟩
/-! law_signed: slots _law_signs_here _law_worth _law_place -/
def b_law_signed : Xs :=
  (sSeq (sSet 1 (xC (.int 0))) (sSeq (sFor (iRg1 (aCons (xN gLen (aCons (xVar 0) aNil)) aNil)) (gxName 2) (sIf (uTst (x2 gEq (x2 gIx (xVar 0) (xVar 2)) (xC (.int 1)))) (sIf (uTst (x2 gEq (x2 gMod (xN gLen (aCons (xCall F_law_lot_of (rCons (xC (.int 8)) (rCons (xVar 2) rNil))) aNil)) (xC (.int 2))) (xC (.int 0)))) (sAug 1 (gI (fun i j => i + j)) (xC (.int 1))) (sAug 1 (gI (fun i j => i - j)) (xC (.int 1)))) sNil)) (sRet (xVar 1))))
abbrev F_law_signed : Fn := fnD 1 3 b_law_signed
theorem sc_law_signed : FnScope ["_law_signs_here", "_law_worth", "_law_place"] ["_law_signs_here"] (defScope s_law_signed) := ⟨rfl, rfl, rfl, by decide +kernel, rfl, by decide +kernel, by decide +kernel⟩
theorem do_law_signed (T : Txt K mg) {fd : FuncData} (Fn : Fun K "_law_signed" "_law_signed" s_law_signed (He.ga K "_law_signed") fd) : FnOk P w K mg base (L2.CX P w) 4 (He.ga K "_law_signed") fd ["_law_signs_here"] (spF K (He.ga K) 1 F_law_signed) :=
  Ya.fn_ok (P := P) (w := w) (mg := mg) (base := base) (cl := He.ga K) (k := 3) (N := ["_law_signs_here", "_law_worth", "_law_place"]) (ps := ["_law_signs_here"]) (b := b_law_signed) Fn sc_law_signed (by decide) (fun cdv A outer s H E hr =>
    (sb_cons (ss_set sc_law_signed.nd (by rfl) (by first | exact Or.inl rfl | exact Or.inr rfl) se_int) (sb_cons (ss_for .leaving rfl (si_range1 (by rfl) T.n_range (sa_cons (Ya.w_len T.n_len (by rfl) (sa_cons (se_var 0 (pv 0)) sa_nil)) sa_nil)) (sg_name sc_law_signed.nd (by rfl) (by first | exact Or.inl rfl | exact Or.inr rfl)) (sb_one (ss_if (Ya.v_eq hr.units (Ya.w_ix (se_var 0 (pv 0)) (se_var 2 (pv 2))) se_int) (sb_one (ss_if (Ya.v_eq hr.units (Ya.w_mod (Ya.w_len T.n_len (by rfl) (sa_cons (Ya.w_call (ok_law_lot_of T) (hr.mono (by decide)) T.g__law_lot_of (by rfl) (sr_cons se_int (sr_cons (se_var 2 (pv 2)) sr_nil)) (by rfl) (rl_cons (rl_cons rl_nil))) sa_nil)) se_int) se_int) (sb_one (ss_aug sc_law_signed.nd (by rfl) (by first | exact Or.inl rfl | exact Or.inr rfl) se_int ip_add)) (sb_one (ss_aug sc_law_signed.nd (by rfl) (by first | exact Or.inl rfl | exact Or.inr rfl) se_int ip_sub)))) sb_nil))) (sb_one (ss_ret (se_var 1 (pv 1)))))))
theorem ok_law_signed (T : Txt K mg) : Ok1 P w K mg base (He.ga K) 4 (He.ga K "_law_signed") ["_law_signs_here"] F_law_signed := by
  obtain ⟨fd, Fn⟩ := T.f_law_signed
  exact ⟨fd, do_law_signed T Fn, Fn.binds fun _ _ _ _ _ _ us hl => match us, hl with | [_], _ => rfl, Fn.kp⟩
/-! full_mark: slots rule marks free place opened low high e rest -/
def b_full_mark : Xs :=
  (sSeq (sSet 4 (xLc [7] (iRg1 (aCons (x1 (gAttr "Rule" "size") (xVar 0)) aNil)) (gxName 7) (uTst (x2 gEq (x2 gAnd (x2 gShr (xVar 2) (xVar 7)) (xC (.int 1))) (xC (.int 1)))) (xVar 7))) (sSeq (sIf (uTst (x2 gEq (xN gLen (aCons (xVarF 4) aNil)) (xC (.int 0)))) (sRet (x2 gNis (x2 gIx (x1 (gAttr "Rule" "signs") (xVar 0)) (xVar 3)) (xC .non))) sNil) (sSeq (sIf (uTst (x2 gEq (xN gLen (aCons (xVarF 4) aNil)) (xC (.int 1)))) (sSeq (sSet 5 (x2 gIx (x1 (gAttr "Rule" "signs") (xVar 0)) (xVar 3))) (sSeq (sSet 6 (x2 gIx (x1 (gAttr "Rule" "signs") (xVar 0)) (x2 gAdd (xVar 3) (xVar 2)))) (sRet (xAndB (x2 gNis (xVar 5) (xC .non)) (xAndB (x2 gNis (xVar 6) (xC .non)) (x2 gNe (xVar 5) (xVar 6))))))) sNil) (sSeq (sFor (iData (xVarF 4)) (gxName 7) (sSeq (sSet 8 (x2 Ya.gSub (xVar 2) (x2 gShl (xC (.int 1)) (xVar 7)))) (sIf (uAnd (uNot (uTst (xDGet 1 (xN Ya.gTup (aCons (xVar 8) (aCons (xVar 3) aNil)))))) (uNot (uTst (xDGet 1 (xN Ya.gTup (aCons (xVar 8) (aCons (x2 gAdd (xVar 3) (x2 gShl (xC (.int 1)) (xVar 7))) aNil))))))) (sRet (xC (.bl false))) sNil))) (sRet (xC (.bl true)))))))
abbrev F_full_mark : Fn := fnD 4 9 b_full_mark
theorem sc_full_mark : FnScope ["rule", "marks", "free", "place", "opened", "low", "high", "e", "rest"] ["rule", "marks", "free", "place"] (defScope s_full_mark) := ⟨rfl, rfl, rfl, by decide +kernel, rfl, by decide +kernel, by decide +kernel⟩
theorem do_full_mark (T : Txt K mg) {fd : FuncData} (Fn : Fun K "_full_mark" "_full_mark" s_full_mark (He.ga K "_full_mark") fd) : FnOk P w K mg base (L2.CX P w) 2 (He.ga K "_full_mark") fd ["rule", "marks", "free", "place"] (spF K (He.ga K) 4 F_full_mark) :=
  Ya.fn_ok (P := P) (w := w) (mg := mg) (base := base) (cl := He.ga K) (k := 1) (N := ["rule", "marks", "free", "place", "opened", "low", "high", "e", "rest"]) (ps := ["rule", "marks", "free", "place"]) (b := b_full_mark) Fn sc_full_mark (by decide) (fun cdv A outer s H E hr =>
    (sb_cons (Ya.w_setLc [("e", 7)] rfl rfl sc_full_mark.nd (by rfl) (by rfl) (by rfl) (si_range1 (by rfl) T.n_range (sa_cons (se_attr (se_var 0 (pv 0)) T.c_Rule T.na_Rule_size) sa_nil)) (blkOk_by (N := ["rule", "marks", "free", "place", "opened", "low", "high", "e", "rest"]) (sc := defScope s_full_mark) (own := [("e", 7)]) (by decide +kernel)) (by decide) (fun s0 H0 C0 c0 p0 => (sg_name sc_full_mark.nd (by rfl) (by first | exact Or.inl rfl | exact Or.inr rfl))) (blkST_one (fun s0 H0 C0 c0 p0 => (Ya.v_eq hr.units (Ya.w_and (Ya.w_shr (se_var 2 (pv 2)) (se_var 7 (pv 7))) se_int) se_int))) ⟨fun s0 H0 C0 c0 p0 => (se_var 7 (pv 7))⟩) (sb_cons (ss_if (Ya.v_eq hr.units (Ya.w_len T.n_len (by rfl) (sa_cons (se_varF 4 (pv 4)) sa_nil)) se_int) (sb_one (ss_ret (Ya.w_nis (Ya.w_ix (se_attr (se_var 0 (pv 0)) T.c_Rule T.na_Rule_signs) (se_var 3 (pv 3))) se_non))) sb_nil) (sb_cons (ss_if (Ya.v_eq hr.units (Ya.w_len T.n_len (by rfl) (sa_cons (se_varF 4 (pv 4)) sa_nil)) se_int) (sb_cons (ss_set sc_full_mark.nd (by rfl) (by first | exact Or.inl rfl | exact Or.inr rfl) (Ya.w_ix (se_attr (se_var 0 (pv 0)) T.c_Rule T.na_Rule_signs) (se_var 3 (pv 3)))) (sb_cons (ss_set sc_full_mark.nd (by rfl) (by first | exact Or.inl rfl | exact Or.inr rfl) (Ya.w_ix (se_attr (se_var 0 (pv 0)) T.c_Rule T.na_Rule_signs) (Ya.w_add (se_var 3 (pv 3)) (se_var 2 (pv 2))))) (sb_one (ss_ret (se_and (Ya.w_nis (se_var 5 (pv 5)) se_non) (se_and (Ya.w_nis (se_var 6 (pv 6)) se_non) (se_one (Ya.w_ne hr.units (se_var 5 (pv 5)) (se_var 6 (pv 6)))))))))) sb_nil) (sb_cons (ss_for .leaving rfl (si_list (se_varF 4 (pv 4))) (sg_name sc_full_mark.nd (by rfl) (by first | exact Or.inl rfl | exact Or.inr rfl)) (sb_cons (ss_set sc_full_mark.nd (by rfl) (by first | exact Or.inl rfl | exact Or.inr rfl) (Ya.w_sub (se_var 2 (pv 2)) (Ya.w_shl se_int (se_var 7 (pv 7))))) (sb_one (ss_if (sw_pt (sw_and (st_not (st_val (se_dget (hu_of hr) (pv 1) (se_tup (sa_cons (se_var 8 (pv 8)) (sa_cons (se_var 3 (pv 3)) sa_nil))) (fun _ _ => rfl)))) (sw_and1 (st_not (st_val (se_dget (hu_of hr) (pv 1) (se_tup (sa_cons (se_var 8 (pv 8)) (sa_cons (Ya.w_add (se_var 3 (pv 3)) (Ya.w_shl se_int (se_var 7 (pv 7)))) sa_nil))) (fun _ _ => rfl))))))) (sb_one (ss_ret se_bl)) sb_nil)))) (sb_one (ss_ret se_bl)))))))
theorem ok_full_mark (T : Txt K mg) : Ok1 P w K mg base (He.ga K) 2 (He.ga K "_full_mark") ["rule", "marks", "free", "place"] F_full_mark := by
  obtain ⟨fd, Fn⟩ := T.f_full_mark
  exact ⟨fd, do_full_mark T Fn, Fn.binds fun _ _ _ _ _ _ us hl => match us, hl with | [_, _, _, _], _ => rfl, Fn.kp⟩
/-! full_marks: slots rule marks many free place -/
def b_full_marks : Xs :=
  (sSeq (sSet 1 xDNew) (sSeq (sSet 2 (x2 gShl (xC (.int 1)) (x1 (gAttr "Rule" "size") (xVar 0)))) (sSeq (sFor (iRg1 (aCons (xVar 2) aNil)) (gxName 3) (sFor (iRg1 (aCons (xVar 2) aNil)) (gxName 4) (sIf (uTst (x2 gEq (x2 gAnd (xVar 4) (xVar 3)) (xC (.int 0)))) (sDPutO 1 (xN Ya.gTup (aCons (xVar 3) (aCons (xVar 4) aNil))) (xCall F_full_mark (rCons (xVar 0) (rIo 1 (rCons (xVar 3) (rCons (xVar 4) rNil)))))) sNil))) (sRet (xMove 1)))))
abbrev F_full_marks : Fn := fnD 1 5 b_full_marks
theorem sc_full_marks : FnScope ["rule", "marks", "many", "free", "place"] ["rule"] (defScope s_full_marks) := ⟨rfl, rfl, rfl, by decide +kernel, rfl, by decide +kernel, by decide +kernel⟩
theorem do_full_marks (T : Txt K mg) {fd : FuncData} (Fn : Fun K "_full_marks" "_full_marks" s_full_marks (He.ga K "_full_marks") fd) : FnOk P w K mg base (L2.CX P w) 3 (He.ga K "_full_marks") fd ["rule"] (spF K (He.ga K) 1 F_full_marks) :=
  Ya.fn_ok (P := P) (w := w) (mg := mg) (base := base) (cl := He.ga K) (k := 2) (N := ["rule", "marks", "many", "free", "place"]) (ps := ["rule"]) (b := b_full_marks) Fn sc_full_marks (by decide) (fun cdv A outer s H E hr =>
    (sb_cons (ss_set sc_full_marks.nd (by rfl) (by first | exact Or.inl rfl | exact Or.inr rfl) se_dnew) (sb_cons (ss_set sc_full_marks.nd (by rfl) (by first | exact Or.inl rfl | exact Or.inr rfl) (Ya.w_shl se_int (se_attr (se_var 0 (pv 0)) T.c_Rule T.na_Rule_size))) (sb_cons (ss_for .leaving rfl (si_range1 (by rfl) T.n_range (sa_cons (se_var 2 (pv 2)) sa_nil)) (sg_name sc_full_marks.nd (by rfl) (by first | exact Or.inl rfl | exact Or.inr rfl)) (sb_one (ss_for .leaving rfl (si_range1 (by rfl) T.n_range (sa_cons (se_var 2 (pv 2)) sa_nil)) (sg_name sc_full_marks.nd (by rfl) (by first | exact Or.inl rfl | exact Or.inr rfl)) (sb_one (ss_if (Ya.v_eq hr.units (Ya.w_and (se_var 4 (pv 4)) (se_var 3 (pv 3))) se_int) (sb_one (ss_dput (hu_of hr) (pv 1) (se_tup (sa_cons (se_var 3 (pv 3)) (sa_cons (se_var 4 (pv 4)) sa_nil))) (Ya.w_call (ok_full_mark T) (hr.mono (by decide)) T.g__full_mark (by rfl) (sr_cons (se_var 0 (pv 0)) (sr_io 1 (pv 1) (sr_cons (se_var 3 (pv 3)) (sr_cons (se_var 4 (pv 4)) sr_nil)))) (by rfl) (rl_cons (rl_io (rl_cons (rl_cons rl_nil))))))) sb_nil))))) (sb_one (ss_ret (se_move 1 (pv 1))))))))
theorem ok_full_marks (T : Txt K mg) : Ok1 P w K mg base (He.ga K) 3 (He.ga K "_full_marks") ["rule"] F_full_marks := by
  obtain ⟨fd, Fn⟩ := T.f_full_marks
  exact ⟨fd, do_full_marks T Fn, Fn.binds fun _ _ _ _ _ _ us hl => match us, hl with | [_], _ => rfl, Fn.kp⟩
/-! check_rule: slots rule -/
def b_check_rule : Xs :=
  (sSeq (sIf (uNot (uTst (x1 (gIsiC "Rule") (xVar 0)))) (sRaise "BadSigns" "place" (aCons (x1 gNeg (xC (.int 1))) aNil)) sNil) (sRet (xVar 0)))
abbrev F_check_rule : Fn := fnD 1 1 b_check_rule
theorem sc_check_rule : FnScope ["rule"] ["rule"] (defScope s_check_rule) := ⟨rfl, rfl, rfl, by decide +kernel, rfl, by decide +kernel, by decide +kernel⟩
theorem do_check_rule (T : Txt K mg) {fd : FuncData} (Fn : Fun K "check_rule" "check_rule" s_check_rule (He.ga K "check_rule") fd) : FnOk P w K mg base (L2.CX P w) 3 (He.ga K "check_rule") fd ["rule"] (spF K (He.ga K) 1 F_check_rule) :=
  Ya.fn_ok (P := P) (w := w) (mg := mg) (base := base) (cl := He.ga K) (k := 2) (N := ["rule"]) (ps := ["rule"]) (b := b_check_rule) Fn sc_check_rule (by decide) (fun cdv A outer s H E hr =>
    (sb_cons (ss_if (st_not (st_val (se_isiC T.isi_Rule (by rfl) T.n_isinstance (by rfl) T.g_Rule (by decide) (se_var 0 (pv 0))))) (sb_one (ss_raise (k := 1) rfl T.o_BadSigns (Yx.does_place T.o_BadSigns T.of_BadSigns) (hr.mono (by decide)) (sa_cons (Ya.w_neg se_int) sa_nil) (by rfl))) sb_nil) (sb_one (ss_ret (se_var 0 (pv 0))))))
theorem ok_check_rule (T : Txt K mg) : Ok1 P w K mg base (He.ga K) 3 (He.ga K "check_rule") ["rule"] F_check_rule := by
  obtain ⟨fd, Fn⟩ := T.f_check_rule
  exact ⟨fd, do_check_rule T Fn, Fn.binds fun _ _ _ _ _ _ us hl => match us, hl with | [_], _ => rfl, Fn.kp⟩
/-! sized_rule: slots rule limit -/
def b_sized_rule : Xs :=
  (sSeq (sExpr (xCall F_check_rule (rCons (xVar 0) rNil))) (sIf (uTst (x2 gGt (x1 (gAttr "Rule" "size") (xVar 0)) (xVar 1))) sNever sNil))
abbrev F_sized_rule : Fn := fnD 2 2 b_sized_rule
theorem sc_sized_rule : FnScope ["rule", "limit"] ["rule", "limit"] (defScope s_sized_rule) := ⟨rfl, rfl, rfl, by decide +kernel, rfl, by decide +kernel, by decide +kernel⟩
theorem do_sized_rule (T : Txt K mg) {fd : FuncData} (Fn : Fun K "_sized_rule" "_sized_rule" s_sized_rule (He.ga K "_sized_rule") fd) : FnOk P w K mg base (L2.CX P w) 4 (He.ga K "_sized_rule") fd ["rule", "limit"] (spF K (He.ga K) 2 F_sized_rule) :=
  Ya.fn_ok (P := P) (w := w) (mg := mg) (base := base) (cl := He.ga K) (k := 3) (N := ["rule", "limit"]) (ps := ["rule", "limit"]) (b := b_sized_rule) Fn sc_sized_rule (by decide) (fun cdv A outer s H E hr =>
    (sb_cons (ss_expr (Ya.w_call (ok_check_rule T) (hr.mono (by decide)) T.g_check_rule (by rfl) (sr_cons (se_var 0 (pv 0)) sr_nil) (by rfl) (rl_cons rl_nil))) (sb_one (ss_if (Ya.v_gt (se_attr (se_var 0 (pv 0)) T.c_Rule T.na_Rule_size) (se_var 1 (pv 1))) (sb_one ss_never) sb_nil))))
theorem ok_sized_rule (T : Txt K mg) : Ok1 P w K mg base (He.ga K) 4 (He.ga K "_sized_rule") ["rule", "limit"] F_sized_rule := by
  obtain ⟨fd, Fn⟩ := T.f_sized_rule
  exact ⟨fd, do_sized_rule T Fn, Fn.binds fun _ _ _ _ _ _ us hl => match us, hl with | [_, _], _ => rfl, Fn.kp⟩
/-! is_full: slots rule -/
def b_is_full : Xs :=
  (sSeq (sExpr (xCall F_sized_rule (rCons (xVar 0) (rCons (xC (.int 8)) rNil)))) (sRet (xDGetN (xCall F_full_marks (rCons (xVar 0) rNil)) (xN Ya.gTup (aCons (x2 Ya.gSub (x2 gShl (xC (.int 1)) (x1 (gAttr "Rule" "size") (xVar 0))) (xC (.int 1))) (aCons (xC (.int 0)) aNil))))))
abbrev F_is_full : Fn := fnD 1 1 b_is_full
theorem sc_is_full : FnScope ["rule"] ["rule"] (defScope s_is_full) := ⟨rfl, rfl, rfl, by decide +kernel, rfl, by decide +kernel, by decide +kernel⟩
theorem do_is_full (T : Txt K mg) {fd : FuncData} (Fn : Fun K "is_full" "is_full" s_is_full (He.ga K "is_full") fd) : FnOk P w K mg base (L2.CX P w) 5 (He.ga K "is_full") fd ["rule"] (spF K (He.ga K) 1 F_is_full) :=
  Ya.fn_ok (P := P) (w := w) (mg := mg) (base := base) (cl := He.ga K) (k := 4) (N := ["rule"]) (ps := ["rule"]) (b := b_is_full) Fn sc_is_full (by decide) (fun cdv A outer s H E hr =>
    (sb_cons (ss_expr (Ya.w_call (ok_sized_rule T) (hr.mono (by decide)) T.g__sized_rule (by rfl) (sr_cons (se_var 0 (pv 0)) (sr_cons se_int sr_nil)) (by rfl) (rl_cons (rl_cons rl_nil)))) (sb_one (ss_ret (se_dgetN (hu_of hr) (Ya.w_call (ok_full_marks T) (hr.mono (by decide)) T.g__full_marks (by rfl) (sr_cons (se_var 0 (pv 0)) sr_nil) (by rfl) (rl_cons rl_nil)) (se_tup (sa_cons (Ya.w_sub (Ya.w_shl se_int (se_attr (se_var 0 (pv 0)) T.c_Rule T.na_Rule_size)) se_int) (sa_cons se_int sa_nil))) (fun _ _ => rfl))))))
theorem ok_is_full (T : Txt K mg) : Ok1 P w K mg base (He.ga K) 5 (He.ga K "is_full") ["rule"] F_is_full := by
  obtain ⟨fd, Fn⟩ := T.f_is_full
  exact ⟨fd, do_is_full T Fn, Fn.binds fun _ _ _ _ _ _ us hl => match us, hl with | [_], _ => rfl, Fn.kp⟩
/-! need_total: slots rule place sign -/
def b_need_total : Xs :=
  (sSeq (sExpr (xCall F_check_rule (rCons (xVar 0) rNil))) (sSeq (sFor (iEnmT (aCons (x1 (gAttr "Rule" "signs") (xVar 0)) aNil)) (gxTup [1, 2]) (sIf (uTst (x2 gIs (xVar 2) (xC .non))) (sRaise "NotTotal" "place" (aCons (xVar 1) aNil)) sNil)) (sRet (xVar 0))))
abbrev F_need_total : Fn := fnD 1 3 b_need_total
theorem sc_need_total : FnScope ["rule", "place", "sign"] ["rule"] (defScope s_need_total) := ⟨rfl, rfl, rfl, by decide +kernel, rfl, by decide +kernel, by decide +kernel⟩
theorem do_need_total (T : Txt K mg) {fd : FuncData} (Fn : Fun K "need_total" "need_total" s_need_total (He.ga K "need_total") fd) : FnOk P w K mg base (L2.CX P w) 4 (He.ga K "need_total") fd ["rule"] (spF K (He.ga K) 1 F_need_total) :=
  Ya.fn_ok (P := P) (w := w) (mg := mg) (base := base) (cl := He.ga K) (k := 3) (N := ["rule", "place", "sign"]) (ps := ["rule"]) (b := b_need_total) Fn sc_need_total (by decide) (fun cdv A outer s H E hr =>
    (sb_cons (ss_expr (Ya.w_call (ok_check_rule T) (hr.mono (by decide)) T.g_check_rule (by rfl) (sr_cons (se_var 0 (pv 0)) sr_nil) (by rfl) (rl_cons rl_nil))) (sb_cons (ss_for .leaving rfl (si_enumT (by rfl) T.n_enumerate (sa_cons (se_attr (se_var 0 (pv 0)) T.c_Rule T.na_Rule_signs) sa_nil)) (sg_tup rfl (sgs_cons sc_need_total.nd (by rfl) (by first | exact Or.inl rfl | exact Or.inr rfl) (sgs_cons sc_need_total.nd (by rfl) (by first | exact Or.inl rfl | exact Or.inr rfl) sgs_nil))) (sb_one (ss_if (Ya.v_is (se_var 2 (pv 2)) se_non) (sb_one (ss_raise (k := 1) rfl T.o_NotTotal (Yx.does_place T.o_NotTotal T.of_NotTotal) (hr.mono (by decide)) (sa_cons (se_var 1 (pv 1)) sa_nil) (by rfl))) sb_nil))) (sb_one (ss_ret (se_var 0 (pv 0)))))))
theorem ok_need_total (T : Txt K mg) : Ok1 P w K mg base (He.ga K) 4 (He.ga K "need_total") ["rule"] F_need_total := by
  obtain ⟨fd, Fn⟩ := T.f_need_total
  exact ⟨fd, do_need_total T Fn, Fn.binds fun _ _ _ _ _ _ us hl => match us, hl with | [_], _ => rfl, Fn.kp⟩
/-! need_yesno: slots rule place sign -/
def b_need_yesno : Xs :=
  (sSeq (sExpr (xCall F_check_rule (rCons (xVar 0) rNil))) (sSeq (sFor (iEnmT (aCons (x1 (gAttr "Rule" "signs") (xVar 0)) aNil)) (gxTup [1, 2]) (sIf (uAnd (uTst (x2 gNis (xVar 2) (xC .non))) (uTst (x2 gGt (xVar 2) (xC (.int 1))))) (sRaise "NotYesNo" "place" (aCons (xVar 1) aNil)) sNil)) (sRet (xVar 0))))
abbrev F_need_yesno : Fn := fnD 1 3 b_need_yesno
theorem sc_need_yesno : FnScope ["rule", "place", "sign"] ["rule"] (defScope s_need_yesno) := ⟨rfl, rfl, rfl, by decide +kernel, rfl, by decide +kernel, by decide +kernel⟩
theorem do_need_yesno (T : Txt K mg) {fd : FuncData} (Fn : Fun K "need_yesno" "need_yesno" s_need_yesno (He.ga K "need_yesno") fd) : FnOk P w K mg base (L2.CX P w) 4 (He.ga K "need_yesno") fd ["rule"] (spF K (He.ga K) 1 F_need_yesno) :=
  Ya.fn_ok (P := P) (w := w) (mg := mg) (base := base) (cl := He.ga K) (k := 3) (N := ["rule", "place", "sign"]) (ps := ["rule"]) (b := b_need_yesno) Fn sc_need_yesno (by decide) (fun cdv A outer s H E hr =>
    (sb_cons (ss_expr (Ya.w_call (ok_check_rule T) (hr.mono (by decide)) T.g_check_rule (by rfl) (sr_cons (se_var 0 (pv 0)) sr_nil) (by rfl) (rl_cons rl_nil))) (sb_cons (ss_for .leaving rfl (si_enumT (by rfl) T.n_enumerate (sa_cons (se_attr (se_var 0 (pv 0)) T.c_Rule T.na_Rule_signs) sa_nil)) (sg_tup rfl (sgs_cons sc_need_yesno.nd (by rfl) (by first | exact Or.inl rfl | exact Or.inr rfl) (sgs_cons sc_need_yesno.nd (by rfl) (by first | exact Or.inl rfl | exact Or.inr rfl) sgs_nil))) (sb_one (ss_if (sw_pt (sw_and (Ya.v_nis (se_var 2 (pv 2)) se_non) (sw_and1 (Ya.v_gt (se_var 2 (pv 2)) se_int)))) (sb_one (ss_raise (k := 1) rfl T.o_NotYesNo (Yx.does_place T.o_NotYesNo T.of_NotYesNo) (hr.mono (by decide)) (sa_cons (se_var 1 (pv 1)) sa_nil) (by rfl))) sb_nil))) (sb_one (ss_ret (se_var 0 (pv 0)))))))
theorem ok_need_yesno (T : Txt K mg) : Ok1 P w K mg base (He.ga K) 4 (He.ga K "need_yesno") ["rule"] F_need_yesno := by
  obtain ⟨fd, Fn⟩ := T.f_need_yesno
  exact ⟨fd, do_need_yesno T Fn, Fn.binds fun _ _ _ _ _ _ us hl => match us, hl with | [_], _ => rfl, Fn.kp⟩
/-! odd_full: slots rule -/
def b_odd_full : Xs :=
  (sSeq (sExpr (xCall F_check_rule (rCons (xVar 0) rNil))) (sSeq (sExpr (xCall F_need_total (rCons (xVar 0) rNil))) (sSeq (sExpr (xCall F_need_yesno (rCons (xVar 0) rNil))) (sSeq (sIf (uTst (x2 gGt (x1 (gAttr "Rule" "size") (xVar 0)) (xC (.int 8)))) (sRaise "TooMany" "limit" (aCons (xC (.int 8)) aNil)) sNil) (sRet (x2 gEq (x2 gAnd (xN gSum (aCons (x1 (gAttr "Rule" "signs") (xVar 0)) aNil)) (xC (.int 1))) (xC (.int 1))))))))
abbrev F_odd_full : Fn := fnD 1 1 b_odd_full
theorem sc_odd_full : FnScope ["rule"] ["rule"] (defScope s_odd_full) := ⟨rfl, rfl, rfl, by decide +kernel, rfl, by decide +kernel, by decide +kernel⟩
theorem do_odd_full (T : Txt K mg) {fd : FuncData} (Fn : Fun K "odd_full" "odd_full" s_odd_full (He.ga K "odd_full") fd) : FnOk P w K mg base (L2.CX P w) 5 (He.ga K "odd_full") fd ["rule"] (spF K (He.ga K) 1 F_odd_full) :=
  Ya.fn_ok (P := P) (w := w) (mg := mg) (base := base) (cl := He.ga K) (k := 4) (N := ["rule"]) (ps := ["rule"]) (b := b_odd_full) Fn sc_odd_full (by decide) (fun cdv A outer s H E hr =>
    (sb_cons (ss_expr (Ya.w_call (ok_check_rule T) (hr.mono (by decide)) T.g_check_rule (by rfl) (sr_cons (se_var 0 (pv 0)) sr_nil) (by rfl) (rl_cons rl_nil))) (sb_cons (ss_expr (Ya.w_call (ok_need_total T) (hr.mono (by decide)) T.g_need_total (by rfl) (sr_cons (se_var 0 (pv 0)) sr_nil) (by rfl) (rl_cons rl_nil))) (sb_cons (ss_expr (Ya.w_call (ok_need_yesno T) (hr.mono (by decide)) T.g_need_yesno (by rfl) (sr_cons (se_var 0 (pv 0)) sr_nil) (by rfl) (rl_cons rl_nil))) (sb_cons (ss_if (Ya.v_gt (se_attr (se_var 0 (pv 0)) T.c_Rule T.na_Rule_size) se_int) (sb_one (ss_raise (k := 1) rfl T.o_TooMany (Yx.does_limit T.o_TooMany T.of_TooMany) (hr.mono (by decide)) (sa_cons se_int sa_nil) (by rfl))) sb_nil) (sb_one (ss_ret (Ya.w_eq hr.units (Ya.w_and (Ya.w_sum rfl T.n_sum (by rfl) (sa_cons (se_attr (se_var 0 (pv 0)) T.c_Rule T.na_Rule_signs) sa_nil)) se_int) se_int))))))))
theorem ok_odd_full (T : Txt K mg) : Ok1 P w K mg base (He.ga K) 5 (He.ga K "odd_full") ["rule"] F_odd_full := by
  obtain ⟨fd, Fn⟩ := T.f_odd_full
  exact ⟨fd, do_odd_full T Fn, Fn.binds fun _ _ _ _ _ _ us hl => match us, hl with | [_], _ => rfl, Fn.kp⟩
/-! Rule_told: slots self place entry -/
def b_Rule_told : Xs :=
  (sRet (xN gTuple (aCons (xLc [1, 2] (iEnmT (aCons (x1 (gAttr "Rule" "signs") (xVar 0)) aNil)) (gxTup [1, 2]) (uTst (x2 gNis (xVar 2) (xC .non))) (xVar 1)) aNil)))
abbrev F_Rule_told : Fn := fnD 1 3 b_Rule_told
theorem sc_Rule_told : FnScope ["self", "place", "entry"] ["self"] (defScope s_Rule_told) := ⟨rfl, rfl, rfl, by decide +kernel, rfl, by decide +kernel, by decide +kernel⟩
theorem do_Rule_told (T : Txt K mg) {fd : FuncData} (Fn : Fun K "told" "Rule.told" s_Rule_told (recAd K (He.ma K (He.ga K "Rule") "told") "property") fd) : FnOk P w K mg base (L2.CX P w) 2 (recAd K (He.ma K (He.ga K "Rule") "told") "property") fd ["self"] (spF K (He.ga K) 1 F_Rule_told) :=
  Ya.fn_ok (P := P) (w := w) (mg := mg) (base := base) (cl := He.ga K) (k := 1) (N := ["self", "place", "entry"]) (ps := ["self"]) (b := b_Rule_told) Fn sc_Rule_told (by decide) (fun cdv A outer s H E hr =>
    (sb_one (ss_ret (Ya.w_tuple T.n_tuple (by rfl) (sa_cons (Ya.w_lc [("place", 1), ("entry", 2)] rfl rfl sc_Rule_told.nd (si_enumT (by rfl) T.n_enumerate (sa_cons (se_attr (se_var 0 (pv 0)) T.c_Rule T.na_Rule_signs) sa_nil)) (blkOk_by (N := ["self", "place", "entry"]) (sc := defScope s_Rule_told) (own := [("place", 1), ("entry", 2)]) (by decide +kernel)) (by decide) (fun s0 H0 C0 c0 p0 => (sg_tup rfl (sgs_cons sc_Rule_told.nd (by rfl) (by first | exact Or.inl rfl | exact Or.inr rfl) (sgs_cons sc_Rule_told.nd (by rfl) (by first | exact Or.inl rfl | exact Or.inr rfl) sgs_nil)))) (blkST_one (fun s0 H0 C0 c0 p0 => (Ya.v_nis (se_var 2 (pv 2)) se_non))) ⟨fun s0 H0 C0 c0 p0 => (se_var 1 (pv 1))⟩) sa_nil)))))
theorem ok_Rule_told (T : Txt K mg) : Ok1 P w K mg base (He.ga K) 2 (recAd K (He.ma K (He.ga K "Rule") "told") "property") ["self"] F_Rule_told := by
  obtain ⟨fd, Fn⟩ := T.f_Rule_told
  exact ⟨fd, do_Rule_told T Fn, Fn.binds fun _ _ _ _ _ _ us hl => match us, hl with | [_], _ => rfl, Fn.kp⟩
/-! check_summed: slots rule -/
def b_check_summed : Xs :=
  (sSeq (sExpr (xCall F_need_total (rCons (xVar 0) rNil))) (sSeq (sExpr (xCall F_need_yesno (rCons (xVar 0) rNil))) (sIf (uTst (x2 gGt (x1 (gAttr "Rule" "size") (xVar 0)) (xC (.int 8)))) (sRaise "TooMany" "limit" (aCons (xC (.int 8)) aNil)) sNil)))
abbrev F_check_summed : Fn := fnD 1 1 b_check_summed
theorem sc_check_summed : FnScope ["rule"] ["rule"] (defScope s_check_summed) := ⟨rfl, rfl, rfl, by decide +kernel, rfl, by decide +kernel, by decide +kernel⟩
theorem do_check_summed (T : Txt K mg) {fd : FuncData} (Fn : Fun K "check_summed" "check_summed" s_check_summed (He.ga K "check_summed") fd) : FnOk P w K mg base (L2.CX P w) 5 (He.ga K "check_summed") fd ["rule"] (spF K (He.ga K) 1 F_check_summed) :=
  Ya.fn_ok (P := P) (w := w) (mg := mg) (base := base) (cl := He.ga K) (k := 4) (N := ["rule"]) (ps := ["rule"]) (b := b_check_summed) Fn sc_check_summed (by decide) (fun cdv A outer s H E hr =>
    (sb_cons (ss_expr (Ya.w_call (ok_need_total T) (hr.mono (by decide)) T.g_need_total (by rfl) (sr_cons (se_var 0 (pv 0)) sr_nil) (by rfl) (rl_cons rl_nil))) (sb_cons (ss_expr (Ya.w_call (ok_need_yesno T) (hr.mono (by decide)) T.g_need_yesno (by rfl) (sr_cons (se_var 0 (pv 0)) sr_nil) (by rfl) (rl_cons rl_nil))) (sb_one (ss_if (Ya.v_gt (se_attr (se_var 0 (pv 0)) T.c_Rule T.na_Rule_size) se_int) (sb_one (ss_raise (k := 1) rfl T.o_TooMany (Yx.does_limit T.o_TooMany T.of_TooMany) (hr.mono (by decide)) (sa_cons se_int sa_nil) (by rfl))) sb_nil)))))
theorem ok_check_summed (T : Txt K mg) : Ok1 P w K mg base (He.ga K) 5 (He.ga K "check_summed") ["rule"] F_check_summed := by
  obtain ⟨fd, Fn⟩ := T.f_check_summed
  exact ⟨fd, do_check_summed T Fn, Fn.binds fun _ _ _ _ _ _ us hl => match us, hl with | [_], _ => rfl, Fn.kp⟩
/-! lot_at: slots size mask e -/
def b_lot_at : Xs :=
  (sRet (xN gTuple (aCons (xLc [2] (iRg1 (aCons (xVar 0) aNil)) (gxName 2) (uTru (x2 gAnd (x2 gShr (xVar 1) (xVar 2)) (xC (.int 1)))) (xVar 2)) aNil)))
abbrev F_lot_at : Fn := fnD 2 3 b_lot_at
theorem sc_lot_at : FnScope ["size", "mask", "e"] ["size", "mask"] (defScope s_lot_at) := ⟨rfl, rfl, rfl, by decide +kernel, rfl, by decide +kernel, by decide +kernel⟩
theorem do_lot_at (T : Txt K mg) {fd : FuncData} (Fn : Fun K "lot_at" "lot_at" s_lot_at (He.ga K "lot_at") fd) : FnOk P w K mg base (L2.CX P w) 2 (He.ga K "lot_at") fd ["size", "mask"] (spF K (He.ga K) 2 F_lot_at) :=
  Ya.fn_ok (P := P) (w := w) (mg := mg) (base := base) (cl := He.ga K) (k := 1) (N := ["size", "mask", "e"]) (ps := ["size", "mask"]) (b := b_lot_at) Fn sc_lot_at (by decide) (fun cdv A outer s H E hr =>
    (sb_one (ss_ret (Ya.w_tuple T.n_tuple (by rfl) (sa_cons (Ya.w_lc [("e", 2)] rfl rfl sc_lot_at.nd (si_range1 (by rfl) T.n_range (sa_cons (se_var 0 (pv 0)) sa_nil)) (blkOk_by (N := ["size", "mask", "e"]) (sc := defScope s_lot_at) (own := [("e", 2)]) (by decide +kernel)) (by decide) (fun s0 H0 C0 c0 p0 => (sg_name sc_lot_at.nd (by rfl) (by first | exact Or.inl rfl | exact Or.inr rfl))) (blkST_one (fun s0 H0 C0 c0 p0 => (st_tru (Ya.w_and (Ya.w_shr (se_var 1 (pv 1)) (se_var 2 (pv 2))) se_int)))) ⟨fun s0 H0 C0 c0 p0 => (se_var 2 (pv 2))⟩) sa_nil)))))
theorem ok_lot_at (T : Txt K mg) : Ok1 P w K mg base (He.ga K) 2 (He.ga K "lot_at") ["size", "mask"] F_lot_at := by
  obtain ⟨fd, Fn⟩ := T.f_lot_at
  exact ⟨fd, do_lot_at T Fn, Fn.binds fun _ _ _ _ _ _ us hl => match us, hl with | [_, _], _ => rfl, Fn.kp⟩
/-! signed_sum: slots rule place -/
def b_signed_sum : Xs :=
  (sSeq (sExpr (xCall F_check_summed (rCons (xVar 0) rNil))) (sRet (xN gSum (aCons (xLc [1] (iDataT (xProp "Rule" F_Rule_told (xVar 0))) (gxName 1) uYes (x2 gMul (x2 Ya.gSub (xC (.int 1)) (x2 gMul (xC (.int 2)) (x2 gAnd (xN gLen (aCons (xCall F_lot_at (rCons (x1 (gAttr "Rule" "size") (xVar 0)) (rCons (xVar 1) rNil))) aNil)) (xC (.int 1))))) (x2 gIx (x1 (gAttr "Rule" "signs") (xVar 0)) (xVar 1)))) aNil))))
abbrev F_signed_sum : Fn := fnD 1 2 b_signed_sum
theorem sc_signed_sum : FnScope ["rule", "place"] ["rule"] (defScope s_signed_sum) := ⟨rfl, rfl, rfl, by decide +kernel, rfl, by decide +kernel, by decide +kernel⟩
theorem do_signed_sum (T : Txt K mg) {fd : FuncData} (Fn : Fun K "signed_sum" "signed_sum" s_signed_sum (He.ga K "signed_sum") fd) : FnOk P w K mg base (L2.CX P w) 6 (He.ga K "signed_sum") fd ["rule"] (spF K (He.ga K) 1 F_signed_sum) :=
  Ya.fn_ok (P := P) (w := w) (mg := mg) (base := base) (cl := He.ga K) (k := 5) (N := ["rule", "place"]) (ps := ["rule"]) (b := b_signed_sum) Fn sc_signed_sum (by decide) (fun cdv A outer s H E hr =>
    (sb_cons (ss_expr (Ya.w_call (ok_check_summed T) (hr.mono (by decide)) T.g_check_summed (by rfl) (sr_cons (se_var 0 (pv 0)) sr_nil) (by rfl) (rl_cons rl_nil))) (sb_one (ss_ret (Ya.w_sum rfl T.n_sum (by rfl) (sa_cons (Ya.w_lc [("place", 1)] rfl rfl sc_signed_sum.nd (si_tup (Ya.w_prop (se_var 0 (pv 0)) T.c_Rule T.p_Rule_told (ok_Rule_told T) (by rfl) (hr.mono (by decide)))) (blkOk_by (N := ["rule", "place"]) (sc := defScope s_signed_sum) (own := [("place", 1)]) (by decide +kernel)) (by decide) (fun s0 H0 C0 c0 p0 => (sg_name sc_signed_sum.nd (by rfl) (by first | exact Or.inl rfl | exact Or.inr rfl))) blkST_nil ⟨fun s0 H0 C0 c0 p0 => (Ya.w_mul (Ya.w_sub se_int (Ya.w_mul se_int (Ya.w_and (Ya.w_len T.n_len (by rfl) (sa_cons (Ya.w_call (ok_lot_at T) (hr.mono (by decide)) T.g_lot_at (by rfl) (sr_cons (se_attr (se_var 0 (pv 0)) T.c_Rule T.na_Rule_size) (sr_cons (se_var 1 (pv 1)) sr_nil)) (by rfl) (rl_cons (rl_cons rl_nil))) sa_nil)) se_int))) (Ya.w_ix (se_attr (se_var 0 (pv 0)) T.c_Rule T.na_Rule_signs) (se_var 1 (pv 1))))⟩) sa_nil))))))
theorem ok_signed_sum (T : Txt K mg) : Ok1 P w K mg base (He.ga K) 6 (He.ga K "signed_sum") ["rule"] F_signed_sum := by
  obtain ⟨fd, Fn⟩ := T.f_signed_sum
  exact ⟨fd, do_signed_sum T Fn, Fn.binds fun _ _ _ _ _ _ us hl => match us, hl with | [_], _ => rfl, Fn.kp⟩
/-! signed_full: slots rule -/
def b_signed_full : Xs :=
  (sRet (x2 gNe (xCall F_signed_sum (rCons (xVar 0) rNil)) (xC (.int 0))))
abbrev F_signed_full : Fn := fnD 1 1 b_signed_full
theorem sc_signed_full : FnScope ["rule"] ["rule"] (defScope s_signed_full) := ⟨rfl, rfl, rfl, by decide +kernel, rfl, by decide +kernel, by decide +kernel⟩
theorem do_signed_full (T : Txt K mg) {fd : FuncData} (Fn : Fun K "signed_full" "signed_full" s_signed_full (He.ga K "signed_full") fd) : FnOk P w K mg base (L2.CX P w) 7 (He.ga K "signed_full") fd ["rule"] (spF K (He.ga K) 1 F_signed_full) :=
  Ya.fn_ok (P := P) (w := w) (mg := mg) (base := base) (cl := He.ga K) (k := 6) (N := ["rule"]) (ps := ["rule"]) (b := b_signed_full) Fn sc_signed_full (by decide) (fun cdv A outer s H E hr =>
    (sb_one (ss_ret (Ya.w_ne hr.units (Ya.w_call (ok_signed_sum T) (hr.mono (by decide)) T.g_signed_sum (by rfl) (sr_cons (se_var 0 (pv 0)) sr_nil) (by rfl) (rl_cons rl_nil)) se_int))))
theorem ok_signed_full (T : Txt K mg) : Ok1 P w K mg base (He.ga K) 7 (He.ga K "signed_full") ["rule"] F_signed_full := by
  obtain ⟨fd, Fn⟩ := T.f_signed_full
  exact ⟨fd, do_signed_full T Fn, Fn.binds fun _ _ _ _ _ _ us hl => match us, hl with | [_], _ => rfl, Fn.kp⟩
/-! law_counts: slots _law_size_here _law_signs_here _law_rule _law_odd _law_signed_here -/
def b_law_counts : Xs :=
  (sSeq (sSet 2 (xMake "Rule" F_Rule___init (aCons (xVar 0) (aCons (xVar 1) aNil)))) (sSeq (sSet 3 (x2 gEq (x2 gMod (xN gSum (aCons (xVar 1) aNil)) (xC (.int 2))) (xC (.int 1)))) (sSeq (sSet 4 (x2 gNe (xCall F_law_signed (rCons (xVar 1) rNil)) (xC (.int 0)))) (sSeq (sIf (uOr (uTst (x2 gNe (xCall F_odd_full (rCons (xVarF 2) rNil)) (xVar 3))) (uTst (x2 gNe (xCall F_signed_full (rCons (xVarF 2) rNil)) (xVar 4)))) (sRet (xC (.bl false))) sNil) (sSeq (sIf (uOr (uNot (uTst (x1 (gIsi "bool") (xCall F_odd_full (rCons (xVarF 2) rNil))))) (uNot (uTst (x1 (gIsi "bool") (xCall F_signed_full (rCons (xVarF 2) rNil)))))) (sRet (xC (.bl false))) sNil) (sRet (xOrB (xNotB (xOrB (xVar 3) (xVar 4))) (xCall F_is_full (rCons (xVarF 2) rNil)))))))))
abbrev F_law_counts : Fn := fnD 2 5 b_law_counts
theorem sc_law_counts : FnScope ["_law_size_here", "_law_signs_here", "_law_rule", "_law_odd", "_law_signed_here"] ["_law_size_here", "_law_signs_here"] (defScope s_law_counts) := ⟨rfl, rfl, rfl, by decide +kernel, rfl, by decide +kernel, by decide +kernel⟩
theorem do_law_counts (T : Txt K mg) {fd : FuncData} (Fn : Fun K "_law_counts" "_law_counts" s_law_counts (He.ga K "_law_counts") fd) : FnOk P w K mg base (L2.CX P w) 8 (He.ga K "_law_counts") fd ["_law_size_here", "_law_signs_here"] (spF K (He.ga K) 2 F_law_counts) :=
  Ya.fn_ok (P := P) (w := w) (mg := mg) (base := base) (cl := He.ga K) (k := 7) (N := ["_law_size_here", "_law_signs_here", "_law_rule", "_law_odd", "_law_signed_here"]) (ps := ["_law_size_here", "_law_signs_here"]) (b := b_law_counts) Fn sc_law_counts (by decide) (fun cdv A outer s H E hr =>
    (sb_cons (ss_set sc_law_counts.nd (by rfl) (by first | exact Or.inl rfl | exact Or.inr rfl) (Ya.w_make (C := 0) T.mk_Rule (ok_Rule___init T) (hr.mono (by decide)) T.g_Rule (by rfl) (sa_cons (se_var 0 (pv 0)) (sa_cons (se_var 1 (pv 1)) sa_nil)) (by rfl) (al_cons (al_cons al_nil)))) (sb_cons (ss_set sc_law_counts.nd (by rfl) (by first | exact Or.inl rfl | exact Or.inr rfl) (Ya.w_eq hr.units (Ya.w_mod (Ya.w_sum rfl T.n_sum (by rfl) (sa_cons (se_var 1 (pv 1)) sa_nil)) se_int) se_int)) (sb_cons (ss_set sc_law_counts.nd (by rfl) (by first | exact Or.inl rfl | exact Or.inr rfl) (Ya.w_ne hr.units (Ya.w_call (ok_law_signed T) (hr.mono (by decide)) T.g__law_signed (by rfl) (sr_cons (se_var 1 (pv 1)) sr_nil) (by rfl) (rl_cons rl_nil)) se_int)) (sb_cons (ss_if (sw_pt (sw_or (Ya.v_ne hr.units (Ya.w_call (ok_odd_full T) (hr.mono (by decide)) T.g_odd_full (by rfl) (sr_cons (se_varF 2 (pv 2)) sr_nil) (by rfl) (rl_cons rl_nil)) (se_var 3 (pv 3))) (sw_or1 (Ya.v_ne hr.units (Ya.w_call (ok_signed_full T) (hr.mono (by decide)) T.g_signed_full (by rfl) (sr_cons (se_varF 2 (pv 2)) sr_nil) (by rfl) (rl_cons rl_nil)) (se_var 4 (pv 4)))))) (sb_one (ss_ret se_bl)) sb_nil) (sb_cons (ss_if (sw_pt (sw_or (st_not (st_val (se_isi kit_bool (by rfl) T.n_isinstance (by rfl) T.n_bool (by rfl) (by decide) (by decide) (Ya.w_call (ok_odd_full T) (hr.mono (by decide)) T.g_odd_full (by rfl) (sr_cons (se_varF 2 (pv 2)) sr_nil) (by rfl) (rl_cons rl_nil))))) (sw_or1 (st_not (st_val (se_isi kit_bool (by rfl) T.n_isinstance (by rfl) T.n_bool (by rfl) (by decide) (by decide) (Ya.w_call (ok_signed_full T) (hr.mono (by decide)) T.g_signed_full (by rfl) (sr_cons (se_varF 2 (pv 2)) sr_nil) (by rfl) (rl_cons rl_nil)))))))) (sb_one (ss_ret se_bl)) sb_nil) (sb_one (ss_ret (se_or (se_notB (se_or (se_var 3 (pv 3)) (se_one (se_var 4 (pv 4))))) (se_one (Ya.w_call (ok_is_full T) (hr.mono (by decide)) T.g_is_full (by rfl) (sr_cons (se_varF 2 (pv 2)) sr_nil) (by rfl) (rl_cons rl_nil))))))))))))
theorem ok_law_counts (T : Txt K mg) : Ok1 P w K mg base (He.ga K) 8 (He.ga K "_law_counts") ["_law_size_here", "_law_signs_here"] F_law_counts := by
  obtain ⟨fd, Fn⟩ := T.f_law_counts
  exact ⟨fd, do_law_counts T Fn, Fn.binds fun _ _ _ _ _ _ us hl => match us, hl with | [_, _], _ => rfl, Fn.kp⟩
/-! law_door: slots _law_word _law_rule _law_told_here error -/
def b_law_door : Xs :=
  (sSeq (sSet 2 (xN gLst (aCons (xC (.str "let")) aNil))) (sSeq (sTry (sIf (uTst (x2 gEq (xVar 0) (xC (.int 0)))) (sExpr (xCall F_odd_full (rCons (xVar 1) rNil))) (sExpr (xCall F_signed_full (rCons (xVar 1) rNil)))) [⟨"BadSigns", (some 3), mOf [("BadSigns", true), ("NotTotal", false), ("NotYesNo", false), ("TooMany", false)], suLst 2 "signs" "place"⟩, ⟨"NotTotal", (some 3), mOf [("BadSigns", false), ("NotTotal", true), ("NotYesNo", false), ("TooMany", false)], suLst 2 "total" "place"⟩, ⟨"NotYesNo", (some 3), mOf [("BadSigns", false), ("NotTotal", false), ("NotYesNo", true), ("TooMany", false)], suLst 2 "yesno" "place"⟩, ⟨"TooMany", (some 3), mOf [("BadSigns", false), ("NotTotal", false), ("NotYesNo", false), ("TooMany", true)], suLst 2 "many" "limit"⟩, ⟨"RuleError", none, mOf [("BadSigns", true), ("NotTotal", true), ("NotYesNo", true), ("TooMany", true)], fun _ _ => (sSet 2 (xN gLst (aCons (xC (.str "other")) aNil)))⟩]) (sRet (xVarF 2))))
abbrev F_law_door : Fn := fnD 2 4 b_law_door
theorem sc_law_door : FnScope ["_law_word", "_law_rule", "_law_told_here", "error"] ["_law_word", "_law_rule"] (defScope s_law_door) := ⟨rfl, rfl, rfl, by decide +kernel, rfl, by decide +kernel, by decide +kernel⟩
theorem do_law_door (T : Txt K mg) {fd : FuncData} (Fn : Fun K "_law_door" "_law_door" s_law_door (He.ga K "_law_door") fd) : FnOk P w K mg base (L2.CX P w) 8 (He.ga K "_law_door") fd ["_law_word", "_law_rule"] (spF K (He.ga K) 2 F_law_door) :=
  Ya.fn_ok (P := P) (w := w) (mg := mg) (base := base) (cl := He.ga K) (k := 7) (N := ["_law_word", "_law_rule", "_law_told_here", "error"]) (ps := ["_law_word", "_law_rule"]) (b := b_law_door) Fn sc_law_door (by decide) (fun cdv A outer s H E hr =>
    (sb_cons (ss_set sc_law_door.nd (by rfl) (by first | exact Or.inl rfl | exact Or.inr rfl) (se_lst (sa_cons se_str sa_nil))) (sb_cons (ss_try sc_law_door.nd rfl rfl (fun pn xe po => (sb_one (ss_if (Ya.v_eq hr.units (se_var 0 (pv 0)) se_int) (sb_one (ss_expr (Ya.w_call (ok_odd_full T) (hr.mono (by decide)) T.g_odd_full (by rfl) (sr_cons (se_var 1 (pv 1)) sr_nil) (by rfl) (rl_cons rl_nil)))) (sb_one (ss_expr (Ya.w_call (ok_signed_full T) (hr.mono (by decide)) T.g_signed_full (by rfl) (sr_cons (se_var 1 (pv 1)) sr_nil) (by rfl) (rl_cons rl_nil))))))) (HdsOk2.named ⟨rfl, by decide, .inl T.g_BadSigns⟩ rfl rfl (fun a oe cls d pn hz hf => pss_one (ps_set sc_law_door.nd rfl (by first | exact Or.inl rfl | exact Or.inr rfl) (pe_lst (pa_cons pe_str (pa_cons (pe_xf T.xf_BadSigns T.xn_BadSigns_place hz hf (pv 3)) pa_nil))))) (HdsOk2.named ⟨rfl, by decide, .inl T.g_NotTotal⟩ rfl rfl (fun a oe cls d pn hz hf => pss_one (ps_set sc_law_door.nd rfl (by first | exact Or.inl rfl | exact Or.inr rfl) (pe_lst (pa_cons pe_str (pa_cons (pe_xf T.xf_NotTotal T.xn_NotTotal_place hz hf (pv 3)) pa_nil))))) (HdsOk2.named ⟨rfl, by decide, .inl T.g_NotYesNo⟩ rfl rfl (fun a oe cls d pn hz hf => pss_one (ps_set sc_law_door.nd rfl (by first | exact Or.inl rfl | exact Or.inr rfl) (pe_lst (pa_cons pe_str (pa_cons (pe_xf T.xf_NotYesNo T.xn_NotYesNo_place hz hf (pv 3)) pa_nil))))) (HdsOk2.named ⟨rfl, by decide, .inl T.g_TooMany⟩ rfl rfl (fun a oe cls d pn hz hf => pss_one (ps_set sc_law_door.nd rfl (by first | exact Or.inl rfl | exact Or.inr rfl) (pe_lst (pa_cons pe_str (pa_cons (pe_xf T.xf_TooMany T.xn_TooMany_limit hz hf (pv 3)) pa_nil))))) (HdsOk2.bare ⟨rfl, by decide, .inl T.g_RuleError⟩ (fun a oe cls d pn hz hf => sb_suite (sb_one (ss_set sc_law_door.nd (by rfl) (by first | exact Or.inl rfl | exact Or.inr rfl) (se_lst (sa_cons se_str sa_nil))))) HdsOk2.nil))))) (HsOk.cons (m_all (fa_cons T.exm_BadSigns_BadSigns (fa_cons T.exm_NotTotal_BadSigns (fa_cons T.exm_NotYesNo_BadSigns (fa_cons T.exm_TooMany_BadSigns fa_nil))))) (su_lst (C := "BadSigns") (m_only (by decide))) (HsOk.cons (m_all (fa_cons T.exm_BadSigns_NotTotal (fa_cons T.exm_NotTotal_NotTotal (fa_cons T.exm_NotYesNo_NotTotal (fa_cons T.exm_TooMany_NotTotal fa_nil))))) (su_lst (C := "NotTotal") (m_only (by decide))) (HsOk.cons (m_all (fa_cons T.exm_BadSigns_NotYesNo (fa_cons T.exm_NotTotal_NotYesNo (fa_cons T.exm_NotYesNo_NotYesNo (fa_cons T.exm_TooMany_NotYesNo fa_nil))))) (su_lst (C := "NotYesNo") (m_only (by decide))) (HsOk.cons (m_all (fa_cons T.exm_BadSigns_TooMany (fa_cons T.exm_NotTotal_TooMany (fa_cons T.exm_NotYesNo_TooMany (fa_cons T.exm_TooMany_TooMany fa_nil))))) (su_lst (C := "TooMany") (m_only (by decide))) (HsOk.cons (m_all (fa_cons T.exm_BadSigns_RuleError (fa_cons T.exm_NotTotal_RuleError (fa_cons T.exm_NotYesNo_RuleError (fa_cons T.exm_TooMany_RuleError fa_nil))))) (su_plain) HsOk.nil)))))) (sb_one (ss_ret (se_varF 2 (pv 2)))))))
theorem ok_law_door (T : Txt K mg) : Ok1 P w K mg base (He.ga K) 8 (He.ga K "_law_door") ["_law_word", "_law_rule"] F_law_door := by
  obtain ⟨fd, Fn⟩ := T.f_law_door
  exact ⟨fd, do_law_door T Fn, Fn.binds fun _ _ _ _ _ _ us hl => match us, hl with | [_, _], _ => rfl, Fn.kp⟩
/-! law_door_due: slots _law_signs_here _law_untold _law_odd _law_place -/
def b_law_door_due : Xs :=
  (sSeq (sSet 1 (xLc [3] (iRg1 (aCons (xN gLen (aCons (xVar 0) aNil)) aNil)) (gxName 3) (uTst (x2 gIs (x2 gIx (xVar 0) (xVar 3)) (xC .non))) (xVar 3))) (sSeq (sIf (uTst (x2 gGt (xN gLen (aCons (xVarF 1) aNil)) (xC (.int 0)))) (sRet (xN gLst (aCons (xC (.str "total")) (aCons (x2 gIx (xVarF 1) (xC (.int 0))) aNil)))) sNil) (sSeq (sSet 2 (xLc [3] (iRg1 (aCons (xN gLen (aCons (xVar 0) aNil)) aNil)) (gxName 3) (uTst (x2 gGt (x2 gIx (xVar 0) (xVar 3)) (xC (.int 1)))) (xVar 3))) (sSeq (sIf (uTst (x2 gGt (xN gLen (aCons (xVarF 2) aNil)) (xC (.int 0)))) (sRet (xN gLst (aCons (xC (.str "yesno")) (aCons (x2 gIx (xVarF 2) (xC (.int 0))) aNil)))) sNil) (sRet (xN gLst (aCons (xC (.str "let")) aNil)))))))
abbrev F_law_door_due : Fn := fnD 1 4 b_law_door_due
theorem sc_law_door_due : FnScope ["_law_signs_here", "_law_untold", "_law_odd", "_law_place"] ["_law_signs_here"] (defScope s_law_door_due) := ⟨rfl, rfl, rfl, by decide +kernel, rfl, by decide +kernel, by decide +kernel⟩
theorem do_law_door_due (T : Txt K mg) {fd : FuncData} (Fn : Fun K "_law_door_due" "_law_door_due" s_law_door_due (He.ga K "_law_door_due") fd) : FnOk P w K mg base (L2.CX P w) 2 (He.ga K "_law_door_due") fd ["_law_signs_here"] (spF K (He.ga K) 1 F_law_door_due) :=
  Ya.fn_ok (P := P) (w := w) (mg := mg) (base := base) (cl := He.ga K) (k := 1) (N := ["_law_signs_here", "_law_untold", "_law_odd", "_law_place"]) (ps := ["_law_signs_here"]) (b := b_law_door_due) Fn sc_law_door_due (by decide) (fun cdv A outer s H E hr =>
    (sb_cons (Ya.w_setLc [("_law_place", 3)] rfl rfl sc_law_door_due.nd (by rfl) (by rfl) (by rfl) (si_range1 (by rfl) T.n_range (sa_cons (Ya.w_len T.n_len (by rfl) (sa_cons (se_var 0 (pv 0)) sa_nil)) sa_nil)) (blkOk_by (N := ["_law_signs_here", "_law_untold", "_law_odd", "_law_place"]) (sc := defScope s_law_door_due) (own := [("_law_place", 3)]) (by decide +kernel)) (by decide) (fun s0 H0 C0 c0 p0 => (sg_name sc_law_door_due.nd (by rfl) (by first | exact Or.inl rfl | exact Or.inr rfl))) (blkST_one (fun s0 H0 C0 c0 p0 => (Ya.v_is (Ya.w_ix (se_var 0 (pv 0)) (se_var 3 (pv 3))) se_non))) ⟨fun s0 H0 C0 c0 p0 => (se_var 3 (pv 3))⟩) (sb_cons (ss_if (Ya.v_gt (Ya.w_len T.n_len (by rfl) (sa_cons (se_varF 1 (pv 1)) sa_nil)) se_int) (sb_one (ss_ret (se_lst (sa_cons se_str (sa_cons (Ya.w_ix (se_varF 1 (pv 1)) se_int) sa_nil))))) sb_nil) (sb_cons (Ya.w_setLc [("_law_place", 3)] rfl rfl sc_law_door_due.nd (by rfl) (by rfl) (by rfl) (si_range1 (by rfl) T.n_range (sa_cons (Ya.w_len T.n_len (by rfl) (sa_cons (se_var 0 (pv 0)) sa_nil)) sa_nil)) (blkOk_by (N := ["_law_signs_here", "_law_untold", "_law_odd", "_law_place"]) (sc := defScope s_law_door_due) (own := [("_law_place", 3)]) (by decide +kernel)) (by decide) (fun s0 H0 C0 c0 p0 => (sg_name sc_law_door_due.nd (by rfl) (by first | exact Or.inl rfl | exact Or.inr rfl))) (blkST_one (fun s0 H0 C0 c0 p0 => (Ya.v_gt (Ya.w_ix (se_var 0 (pv 0)) (se_var 3 (pv 3))) se_int))) ⟨fun s0 H0 C0 c0 p0 => (se_var 3 (pv 3))⟩) (sb_cons (ss_if (Ya.v_gt (Ya.w_len T.n_len (by rfl) (sa_cons (se_varF 2 (pv 2)) sa_nil)) se_int) (sb_one (ss_ret (se_lst (sa_cons se_str (sa_cons (Ya.w_ix (se_varF 2 (pv 2)) se_int) sa_nil))))) sb_nil) (sb_one (ss_ret (se_lst (sa_cons se_str sa_nil)))))))))
theorem ok_law_door_due (T : Txt K mg) : Ok1 P w K mg base (He.ga K) 2 (He.ga K "_law_door_due") ["_law_signs_here"] F_law_door_due := by
  obtain ⟨fd, Fn⟩ := T.f_law_door_due
  exact ⟨fd, do_law_door_due T Fn, Fn.binds fun _ _ _ _ _ _ us hl => match us, hl with | [_], _ => rfl, Fn.kp⟩
/-! law_feed: slots _law_script _law_feed_here _law_at _law_cell _law_minus _law_k _law_number -/
def b_law_feed : Xs :=
  (sSeq (sSet 1 (xN gLst aNil)) (sSeq (sFor (iRg1 (aCons (xN gMin2 (aCons (xN gLen (aCons (xVar 0) aNil)) (aCons (xC (.int 63)) aNil))) aNil)) (gxName 2) (sSeq (sSet 3 (xN gInt (aCons (x2 gIx (xVar 0) (xVar 2)) aNil))) (sSeq (sSet 4 (xC (.int 0))) (sSeq (sIf (uTst (x2 gLt (xVar 3) (xC (.int 0)))) (sSeq (sSet 3 (xN gAbs (aCons (xVar 3) aNil))) (sSet 4 (xC (.int 1)))) sNil) (sIf (uTst (x2 gGe (xVar 3) (x2 gPow (xC (.int 10)) (xC (.int 18))))) (sFor (iRg1 (aCons (xC (.int 48)) aNil)) (gxName 5) (sIf (uTst (x2 gGt (xVar 3) (xC (.int 0)))) (sSeq (sExpr (xApp 1 (x2 gMod (xN gInt (aCons (xVar 3) aNil)) (xC (.int 30))))) (sSet 3 (x2 gDiv (xVar 3) (xC (.int 30))))) sNil)) (sSeq (sSet 6 (x2 gMod (xN gInt (aCons (x2 gAdd (x2 gAdd (x2 gAdd (x2 gMul (xVar 3) (xC (.int 7919))) (x2 gMul (xVar 2) (xC (.int 104729)))) (x2 gMul (xVar 4) (xC (.int 331)))) (xC (.int 5))) aNil)) (xC (.int 1000003)))) (sFor (iRg1 (aCons (xC (.int 5)) aNil)) (gxName 5) (sSeq (sSet 6 (x2 gMod (xN gInt (aCons (x2 gAdd (x2 gAdd (x2 gAdd (x2 gAdd (x2 gMul (xVar 6) (xVar 6)) (xVar 6)) (x2 gMul (xVar 5) (xC (.int 613)))) (x2 gMul (xVar 2) (xC (.int 17)))) (xC (.int 11))) aNil)) (xC (.int 1000003)))) (sExpr (xApp 1 (x2 gMod (xN gInt (aCons (x2 gDiv (xVar 6) (xC (.int 9))) aNil)) (xC (.int 30))))))))))))) (sSeq (sExpr (xRev 1)) (sRet (xMove 1)))))
abbrev F_law_feed : Fn := fnD 1 7 b_law_feed
theorem sc_law_feed : FnScope ["_law_script", "_law_feed_here", "_law_at", "_law_cell", "_law_minus", "_law_k", "_law_number"] ["_law_script"] (defScope s_law_feed) := ⟨rfl, rfl, rfl, by decide +kernel, rfl, by decide +kernel, by decide +kernel⟩
theorem do_law_feed (T : Txt K mg) {fd : FuncData} (Fn : Fun K "_law_feed" "_law_feed" s_law_feed (He.ga K "_law_feed") fd) : FnOk P w K mg base (L2.CX P w) 2 (He.ga K "_law_feed") fd ["_law_script"] (spF K (He.ga K) 1 F_law_feed) :=
  Ya.fn_ok (P := P) (w := w) (mg := mg) (base := base) (cl := He.ga K) (k := 1) (N := ["_law_script", "_law_feed_here", "_law_at", "_law_cell", "_law_minus", "_law_k", "_law_number"]) (ps := ["_law_script"]) (b := b_law_feed) Fn sc_law_feed (by decide) (fun cdv A outer s H E hr =>
    (sb_cons (ss_set sc_law_feed.nd (by rfl) (by first | exact Or.inl rfl | exact Or.inr rfl) (se_lst sa_nil)) (sb_cons (ss_for .leaving rfl (si_range1 (by rfl) T.n_range (sa_cons (Ya.w_min2 rfl T.n_min (by rfl) (sa_cons (Ya.w_len T.n_len (by rfl) (sa_cons (se_var 0 (pv 0)) sa_nil)) (sa_cons se_int sa_nil))) sa_nil)) (sg_name sc_law_feed.nd (by rfl) (by first | exact Or.inl rfl | exact Or.inr rfl)) (sb_cons (ss_set sc_law_feed.nd (by rfl) (by first | exact Or.inl rfl | exact Or.inr rfl) (Ya.w_int T.n_int (by rfl) (sa_cons (Ya.w_ix (se_var 0 (pv 0)) (se_var 2 (pv 2))) sa_nil))) (sb_cons (ss_set sc_law_feed.nd (by rfl) (by first | exact Or.inl rfl | exact Or.inr rfl) se_int) (sb_cons (ss_if (Ya.v_lt (se_var 3 (pv 3)) se_int) (sb_cons (ss_set sc_law_feed.nd (by rfl) (by first | exact Or.inl rfl | exact Or.inr rfl) (Ya.w_abs T.n_abs (by rfl) (sa_cons (se_var 3 (pv 3)) sa_nil))) (sb_one (ss_set sc_law_feed.nd (by rfl) (by first | exact Or.inl rfl | exact Or.inr rfl) se_int))) sb_nil) (sb_one (ss_if (Ya.v_ge (se_var 3 (pv 3)) (Ya.w_pow se_int se_int)) (sb_one (ss_for .leaving rfl (si_range1 (by rfl) T.n_range (sa_cons se_int sa_nil)) (sg_name sc_law_feed.nd (by rfl) (by first | exact Or.inl rfl | exact Or.inr rfl)) (sb_one (ss_if (Ya.v_gt (se_var 3 (pv 3)) se_int) (sb_cons (ss_expr (Ya.w_app (pv 1) (Ya.w_mod (Ya.w_int T.n_int (by rfl) (sa_cons (se_var 3 (pv 3)) sa_nil)) se_int))) (sb_one (ss_set sc_law_feed.nd (by rfl) (by first | exact Or.inl rfl | exact Or.inr rfl) (Ya.w_fdiv (se_var 3 (pv 3)) se_int)))) sb_nil)))) (sb_cons (ss_set sc_law_feed.nd (by rfl) (by first | exact Or.inl rfl | exact Or.inr rfl) (Ya.w_mod (Ya.w_int T.n_int (by rfl) (sa_cons (Ya.w_add (Ya.w_add (Ya.w_add (Ya.w_mul (se_var 3 (pv 3)) se_int) (Ya.w_mul (se_var 2 (pv 2)) se_int)) (Ya.w_mul (se_var 4 (pv 4)) se_int)) se_int) sa_nil)) se_int)) (sb_one (ss_for .leaving rfl (si_range1 (by rfl) T.n_range (sa_cons se_int sa_nil)) (sg_name sc_law_feed.nd (by rfl) (by first | exact Or.inl rfl | exact Or.inr rfl)) (sb_cons (ss_set sc_law_feed.nd (by rfl) (by first | exact Or.inl rfl | exact Or.inr rfl) (Ya.w_mod (Ya.w_int T.n_int (by rfl) (sa_cons (Ya.w_add (Ya.w_add (Ya.w_add (Ya.w_add (Ya.w_mul (se_var 6 (pv 6)) (se_var 6 (pv 6))) (se_var 6 (pv 6))) (Ya.w_mul (se_var 5 (pv 5)) se_int)) (Ya.w_mul (se_var 2 (pv 2)) se_int)) se_int) sa_nil)) se_int)) (sb_one (ss_expr (Ya.w_app (pv 1) (Ya.w_mod (Ya.w_int T.n_int (by rfl) (sa_cons (Ya.w_fdiv (se_var 6 (pv 6)) se_int) sa_nil)) se_int)))))))))))))) (sb_cons (ss_expr (Ya.w_rev (pv 1))) (sb_one (ss_ret (se_move 1 (pv 1))))))))
theorem ok_law_feed (T : Txt K mg) : Ok1 P w K mg base (He.ga K) 2 (He.ga K "_law_feed") ["_law_script"] F_law_feed := by
  obtain ⟨fd, Fn⟩ := T.f_law_feed
  exact ⟨fd, do_law_feed T Fn, Fn.binds fun _ _ _ _ _ _ us hl => match us, hl with | [_], _ => rfl, Fn.kp⟩
/-! law_told: slots _law_signs_here _law_place -/
def b_law_told : Xs :=
  (sRet (xLc [1] (iRg1 (aCons (xN gLen (aCons (xVar 0) aNil)) aNil)) (gxName 1) (uTst (x2 gNis (x2 gIx (xVar 0) (xVar 1)) (xC .non))) (xVar 1)))
abbrev F_law_told : Fn := fnD 1 2 b_law_told
theorem sc_law_told : FnScope ["_law_signs_here", "_law_place"] ["_law_signs_here"] (defScope s_law_told) := ⟨rfl, rfl, rfl, by decide +kernel, rfl, by decide +kernel, by decide +kernel⟩
theorem do_law_told (T : Txt K mg) {fd : FuncData} (Fn : Fun K "_law_told" "_law_told" s_law_told (He.ga K "_law_told") fd) : FnOk P w K mg base (L2.CX P w) 2 (He.ga K "_law_told") fd ["_law_signs_here"] (spF K (He.ga K) 1 F_law_told) :=
  Ya.fn_ok (P := P) (w := w) (mg := mg) (base := base) (cl := He.ga K) (k := 1) (N := ["_law_signs_here", "_law_place"]) (ps := ["_law_signs_here"]) (b := b_law_told) Fn sc_law_told (by decide) (fun cdv A outer s H E hr =>
    (sb_one (ss_ret (Ya.w_lc [("_law_place", 1)] rfl rfl sc_law_told.nd (si_range1 (by rfl) T.n_range (sa_cons (Ya.w_len T.n_len (by rfl) (sa_cons (se_var 0 (pv 0)) sa_nil)) sa_nil)) (blkOk_by (N := ["_law_signs_here", "_law_place"]) (sc := defScope s_law_told) (own := [("_law_place", 1)]) (by decide +kernel)) (by decide) (fun s0 H0 C0 c0 p0 => (sg_name sc_law_told.nd (by rfl) (by first | exact Or.inl rfl | exact Or.inr rfl))) (blkST_one (fun s0 H0 C0 c0 p0 => (Ya.v_nis (Ya.w_ix (se_var 0 (pv 0)) (se_var 1 (pv 1))) se_non))) ⟨fun s0 H0 C0 c0 p0 => (se_var 1 (pv 1))⟩))))
theorem ok_law_told (T : Txt K mg) : Ok1 P w K mg base (He.ga K) 2 (He.ga K "_law_told") ["_law_signs_here"] F_law_told := by
  obtain ⟨fd, Fn⟩ := T.f_law_told
  exact ⟨fd, do_law_told T Fn, Fn.binds fun _ _ _ _ _ _ us hl => match us, hl with | [_], _ => rfl, Fn.kp⟩
/-! law_live: slots _law_signs_here _law_told_here _law_place -/
def b_law_live : Xs :=
  (sSeq (sSet 1 (xCall F_law_told (rCons (xVar 0) rNil))) (sRet (x2 gGt (xN gLen (aCons (xLc [2] (iData (xVarF 1)) (gxName 2) (uTst (x2 gNe (x2 gIx (xVar 0) (xVar 2)) (x2 gIx (xVar 0) (x2 gIx (xVarF 1) (xC (.int 0)))))) (xVar 2)) aNil)) (xC (.int 0)))))
abbrev F_law_live : Fn := fnD 1 3 b_law_live
theorem sc_law_live : FnScope ["_law_signs_here", "_law_told_here", "_law_place"] ["_law_signs_here"] (defScope s_law_live) := ⟨rfl, rfl, rfl, by decide +kernel, rfl, by decide +kernel, by decide +kernel⟩
theorem do_law_live (T : Txt K mg) {fd : FuncData} (Fn : Fun K "_law_live" "_law_live" s_law_live (He.ga K "_law_live") fd) : FnOk P w K mg base (L2.CX P w) 3 (He.ga K "_law_live") fd ["_law_signs_here"] (spF K (He.ga K) 1 F_law_live) :=
  Ya.fn_ok (P := P) (w := w) (mg := mg) (base := base) (cl := He.ga K) (k := 2) (N := ["_law_signs_here", "_law_told_here", "_law_place"]) (ps := ["_law_signs_here"]) (b := b_law_live) Fn sc_law_live (by decide) (fun cdv A outer s H E hr =>
    (sb_cons (ss_set sc_law_live.nd (by rfl) (by first | exact Or.inl rfl | exact Or.inr rfl) (Ya.w_call (ok_law_told T) (hr.mono (by decide)) T.g__law_told (by rfl) (sr_cons (se_var 0 (pv 0)) sr_nil) (by rfl) (rl_cons rl_nil))) (sb_one (ss_ret (Ya.w_gt (Ya.w_len T.n_len (by rfl) (sa_cons (Ya.w_lc [("_law_place", 2)] rfl rfl sc_law_live.nd (si_list (se_varF 1 (pv 1))) (blkOk_by (N := ["_law_signs_here", "_law_told_here", "_law_place"]) (sc := defScope s_law_live) (own := [("_law_place", 2)]) (by decide +kernel)) (by decide) (fun s0 H0 C0 c0 p0 => (sg_name sc_law_live.nd (by rfl) (by first | exact Or.inl rfl | exact Or.inr rfl))) (blkST_one (fun s0 H0 C0 c0 p0 => (Ya.v_ne hr.units (Ya.w_ix (se_var 0 (pv 0)) (se_var 2 (pv 2))) (Ya.w_ix (se_var 0 (pv 0)) (Ya.w_ix (se_varF 1 (pv 1)) se_int))))) ⟨fun s0 H0 C0 c0 p0 => (se_var 2 (pv 2))⟩) sa_nil)) se_int)))))
theorem ok_law_live (T : Txt K mg) : Ok1 P w K mg base (He.ga K) 3 (He.ga K "_law_live") ["_law_signs_here"] F_law_live := by
  obtain ⟨fd, Fn⟩ := T.f_law_live
  exact ⟨fd, do_law_live T Fn, Fn.binds fun _ _ _ _ _ _ us hl => match us, hl with | [_], _ => rfl, Fn.kp⟩
/-! law_blend: slots _law_one _law_other -/
def b_law_blend : Xs :=
  (sSeq (sIf (uTst (x2 gIs (xVar 0) (xC .non))) (sRet (xVar 1)) sNil) (sSeq (sIf (uOr (uTst (x2 gIs (xVar 1) (xC .non))) (uTst (x2 gEq (xVar 0) (xVar 1)))) (sRet (xVar 0)) sNil) (sRet (xC (.str "mixed")))))
abbrev F_law_blend : Fn := fnD 2 2 b_law_blend
theorem sc_law_blend : FnScope ["_law_one", "_law_other"] ["_law_one", "_law_other"] (defScope s_law_blend) := ⟨rfl, rfl, rfl, by decide +kernel, rfl, by decide +kernel, by decide +kernel⟩
theorem do_law_blend (T : Txt K mg) {fd : FuncData} (Fn : Fun K "_law_blend" "_law_blend" s_law_blend (He.ga K "_law_blend") fd) : FnOk P w K mg base (L2.CX P w) 2 (He.ga K "_law_blend") fd ["_law_one", "_law_other"] (spF K (He.ga K) 2 F_law_blend) :=
  Ya.fn_ok (P := P) (w := w) (mg := mg) (base := base) (cl := He.ga K) (k := 1) (N := ["_law_one", "_law_other"]) (ps := ["_law_one", "_law_other"]) (b := b_law_blend) Fn sc_law_blend (by decide) (fun cdv A outer s H E hr =>
    (sb_cons (ss_if (Ya.v_is (se_var 0 (pv 0)) se_non) (sb_one (ss_ret (se_var 1 (pv 1)))) sb_nil) (sb_cons (ss_if (sw_pt (sw_or (Ya.v_is (se_var 1 (pv 1)) se_non) (sw_or1 (Ya.v_eq hr.units (se_var 0 (pv 0)) (se_var 1 (pv 1)))))) (sb_one (ss_ret (se_var 0 (pv 0)))) sb_nil) (sb_one (ss_ret se_str)))))
theorem ok_law_blend (T : Txt K mg) : Ok1 P w K mg base (He.ga K) 2 (He.ga K "_law_blend") ["_law_one", "_law_other"] F_law_blend := by
  obtain ⟨fd, Fn⟩ := T.f_law_blend
  exact ⟨fd, do_law_blend T Fn, Fn.binds fun _ _ _ _ _ _ us hl => match us, hl with | [_, _], _ => rfl, Fn.kp⟩
/-! law_digit: slots _law_code _law_weight -/
def b_law_digit : Xs :=
  (sRet (x2 gMod (xN gInt (aCons (x2 gDiv (xVar 0) (xVar 1)) aNil)) (xC (.int 3))))
abbrev F_law_digit : Fn := fnD 2 2 b_law_digit
theorem sc_law_digit : FnScope ["_law_code", "_law_weight"] ["_law_code", "_law_weight"] (defScope s_law_digit) := ⟨rfl, rfl, rfl, by decide +kernel, rfl, by decide +kernel, by decide +kernel⟩
theorem do_law_digit (T : Txt K mg) {fd : FuncData} (Fn : Fun K "_law_digit" "_law_digit" s_law_digit (He.ga K "_law_digit") fd) : FnOk P w K mg base (L2.CX P w) 2 (He.ga K "_law_digit") fd ["_law_code", "_law_weight"] (spF K (He.ga K) 2 F_law_digit) :=
  Ya.fn_ok (P := P) (w := w) (mg := mg) (base := base) (cl := He.ga K) (k := 1) (N := ["_law_code", "_law_weight"]) (ps := ["_law_code", "_law_weight"]) (b := b_law_digit) Fn sc_law_digit (by decide) (fun cdv A outer s H E hr =>
    (sb_one (ss_ret (Ya.w_mod (Ya.w_int T.n_int (by rfl) (sa_cons (Ya.w_fdiv (se_var 0 (pv 0)) (se_var 1 (pv 1))) sa_nil)) se_int))))
theorem ok_law_digit (T : Txt K mg) : Ok1 P w K mg base (He.ga K) 2 (He.ga K "_law_digit") ["_law_code", "_law_weight"] F_law_digit := by
  obtain ⟨fd, Fn⟩ := T.f_law_digit
  exact ⟨fd, do_law_digit T Fn, Fn.binds fun _ _ _ _ _ _ us hl => match us, hl with | [_, _], _ => rfl, Fn.kp⟩
/-! law_weights: slots _law_size_here _law_weights_here _law_e -/
def b_law_weights : Xs :=
  (sSeq (sSet 1 (xN gLst (aCons (xC (.int 1)) aNil))) (sSeq (sFor (iRg1 (aCons (xVar 0) aNil)) (gxName 2) (sExpr (xApp 1 (x2 gMul (xIxO 1 (xVar 2)) (xC (.int 3)))))) (sRet (xMove 1))))
abbrev F_law_weights : Fn := fnD 1 3 b_law_weights
theorem sc_law_weights : FnScope ["_law_size_here", "_law_weights_here", "_law_e"] ["_law_size_here"] (defScope s_law_weights) := ⟨rfl, rfl, rfl, by decide +kernel, rfl, by decide +kernel, by decide +kernel⟩
theorem do_law_weights (T : Txt K mg) {fd : FuncData} (Fn : Fun K "_law_weights" "_law_weights" s_law_weights (He.ga K "_law_weights") fd) : FnOk P w K mg base (L2.CX P w) 2 (He.ga K "_law_weights") fd ["_law_size_here"] (spF K (He.ga K) 1 F_law_weights) :=
  Ya.fn_ok (P := P) (w := w) (mg := mg) (base := base) (cl := He.ga K) (k := 1) (N := ["_law_size_here", "_law_weights_here", "_law_e"]) (ps := ["_law_size_here"]) (b := b_law_weights) Fn sc_law_weights (by decide) (fun cdv A outer s H E hr =>
    (sb_cons (ss_set sc_law_weights.nd (by rfl) (by first | exact Or.inl rfl | exact Or.inr rfl) (se_lst (sa_cons se_int sa_nil))) (sb_cons (ss_for .leaving rfl (si_range1 (by rfl) T.n_range (sa_cons (se_var 0 (pv 0)) sa_nil)) (sg_name sc_law_weights.nd (by rfl) (by first | exact Or.inl rfl | exact Or.inr rfl)) (sb_one (ss_expr (Ya.w_app (pv 1) (Ya.w_mul (se_ixO (pv 1) (se_var 2 (pv 2)) (fun _ _ => rfl)) se_int))))) (sb_one (ss_ret (se_move 1 (pv 1)))))))
theorem ok_law_weights (T : Txt K mg) : Ok1 P w K mg base (He.ga K) 2 (He.ga K "_law_weights") ["_law_size_here"] F_law_weights := by
  obtain ⟨fd, Fn⟩ := T.f_law_weights
  exact ⟨fd, do_law_weights T Fn, Fn.binds fun _ _ _ _ _ _ us hl => match us, hl with | [_], _ => rfl, Fn.kp⟩
/-! law_table: slots _law_size_here _law_signs_here _law_prices _law_weights_here _law_seen _law_cost _law_code _law_left _law_best _law_place _law_low _law_sides _law_e _law_k -/
def b_law_table : Xs :=
  (sSeq (sSet 3 (xCall F_law_weights (rCons (xVar 0) rNil))) (sSeq (sSet 4 (xN gLst aNil)) (sSeq (sSet 5 (xN gLst aNil)) (sSeq (sFor (iRg1 (aCons (x2 gIx (xVarF 3) (xVar 0)) aNil)) (gxName 6) (sSeq (sSet 7 (xLc [12] (iRg1 (aCons (xVar 0) aNil)) (gxName 12) (uTst (x2 gEq (xCall F_law_digit (rCons (xVar 6) (rCons (x2 gIx (xVarF 3) (xVar 12)) rNil))) (xC (.int 2)))) (xVar 12))) (sSeq (sSet 8 (xC (.int 0))) (sSeq (sIf (uTst (x2 gEq (xN gLen (aCons (xVarF 7) aNil)) (xC (.int 0)))) (sSeq (sSet 9 (xN gSum (aCons (xLc [12] (iRg1 (aCons (xVar 0) aNil)) (gxName 12) uYes (x2 gShl (xCall F_law_digit (rCons (xVar 6) (rCons (x2 gIx (xVarF 3) (xVar 12)) rNil))) (xVar 12))) aNil))) (sExpr (xApp 4 (x2 gIx (xVar 1) (xVar 9))))) (sSeq (sSet 10 (x2 Ya.gSub (xVar 6) (x2 gMul (xC (.int 2)) (x2 gIx (xVarF 3) (x2 gIx (xVarF 7) (xC (.int 0))))))) (sSeq (sExpr (xApp 4 (xCall F_law_blend (rCons (xIxO 4 (xVar 10)) (rCons (xIxO 4 (x2 gAdd (xVar 10) (x2 gIx (xVarF 3) (x2 gIx (xVarF 7) (xC (.int 0)))))) rNil))))) (sIf (uTst (x2 gEq (xIxO 4 (xVar 6)) (xC (.str "mixed")))) (sSeq (sSet 11 (xLc [12] (iData (xVarF 7)) (gxName 12) uYes (xN gMax2 (aCons (xIxO 5 (x2 Ya.gSub (xVar 6) (x2 gMul (xC (.int 2)) (x2 gIx (xVarF 3) (xVar 12))))) (aCons (xIxO 5 (x2 Ya.gSub (xVar 6) (x2 gIx (xVarF 3) (xVar 12)))) aNil))))) (sSet 8 (xN gMinL (aCons (xLc [13] (iRg1 (aCons (xN gLen (aCons (xVarF 7) aNil)) aNil)) (gxName 13) uYes (x2 gAdd (x2 gIx (xVar 2) (x2 gIx (xVarF 7) (xVar 13))) (x2 gIx (xVarF 11) (xVar 13)))) aNil)))) sNil)))) (sExpr (xApp 5 (xVar 8))))))) (sRet (xMove 5))))))
abbrev F_law_table : Fn := fnD 3 14 b_law_table
theorem sc_law_table : FnScope ["_law_size_here", "_law_signs_here", "_law_prices", "_law_weights_here", "_law_seen", "_law_cost", "_law_code", "_law_left", "_law_best", "_law_place", "_law_low", "_law_sides", "_law_e", "_law_k"] ["_law_size_here", "_law_signs_here", "_law_prices"] (defScope s_law_table) := ⟨rfl, rfl, rfl, by decide +kernel, rfl, by decide +kernel, by decide +kernel⟩
theorem do_law_table (T : Txt K mg) {fd : FuncData} (Fn : Fun K "_law_table" "_law_table" s_law_table (He.ga K "_law_table") fd) : FnOk P w K mg base (L2.CX P w) 3 (He.ga K "_law_table") fd ["_law_size_here", "_law_signs_here", "_law_prices"] (spF K (He.ga K) 3 F_law_table) :=
  Ya.fn_ok (P := P) (w := w) (mg := mg) (base := base) (cl := He.ga K) (k := 2) (N := ["_law_size_here", "_law_signs_here", "_law_prices", "_law_weights_here", "_law_seen", "_law_cost", "_law_code", "_law_left", "_law_best", "_law_place", "_law_low", "_law_sides", "_law_e", "_law_k"]) (ps := ["_law_size_here", "_law_signs_here", "_law_prices"]) (b := b_law_table) Fn sc_law_table (by decide) (fun cdv A outer s H E hr =>
    (sb_cons (ss_set sc_law_table.nd (by rfl) (by first | exact Or.inl rfl | exact Or.inr rfl) (Ya.w_call (ok_law_weights T) (hr.mono (by decide)) T.g__law_weights (by rfl) (sr_cons (se_var 0 (pv 0)) sr_nil) (by rfl) (rl_cons rl_nil))) (sb_cons (ss_set sc_law_table.nd (by rfl) (by first | exact Or.inl rfl | exact Or.inr rfl) (se_lst sa_nil)) (sb_cons (ss_set sc_law_table.nd (by rfl) (by first | exact Or.inl rfl | exact Or.inr rfl) (se_lst sa_nil)) (sb_cons (ss_for .leaving rfl (si_range1 (by rfl) T.n_range (sa_cons (Ya.w_ix (se_varF 3 (pv 3)) (se_var 0 (pv 0))) sa_nil)) (sg_name sc_law_table.nd (by rfl) (by first | exact Or.inl rfl | exact Or.inr rfl)) (sb_cons (ss_set sc_law_table.nd (by rfl) (by first | exact Or.inl rfl | exact Or.inr rfl) (Ya.w_lc [("_law_e", 12)] rfl rfl sc_law_table.nd (si_range1 (by rfl) T.n_range (sa_cons (se_var 0 (pv 0)) sa_nil)) (blkOk_by (N := ["_law_size_here", "_law_signs_here", "_law_prices", "_law_weights_here", "_law_seen", "_law_cost", "_law_code", "_law_left", "_law_best", "_law_place", "_law_low", "_law_sides", "_law_e", "_law_k"]) (sc := defScope s_law_table) (own := [("_law_e", 12)]) (by decide +kernel)) (by decide) (fun s0 H0 C0 c0 p0 => (sg_name sc_law_table.nd (by rfl) (by first | exact Or.inl rfl | exact Or.inr rfl))) (blkST_one (fun s0 H0 C0 c0 p0 => (Ya.v_eq hr.units (Ya.w_call (ok_law_digit T) (hr.mono (by decide)) T.g__law_digit (by rfl) (sr_cons (se_var 6 (pv 6)) (sr_cons (Ya.w_ix (se_varF 3 (pv 3)) (se_var 12 (pv 12))) sr_nil)) (by rfl) (rl_cons (rl_cons rl_nil))) se_int))) ⟨fun s0 H0 C0 c0 p0 => (se_var 12 (pv 12))⟩)) (sb_cons (ss_set sc_law_table.nd (by rfl) (by first | exact Or.inl rfl | exact Or.inr rfl) se_int) (sb_cons (ss_if (Ya.v_eq hr.units (Ya.w_len T.n_len (by rfl) (sa_cons (se_varF 7 (pv 7)) sa_nil)) se_int) (sb_cons (ss_set sc_law_table.nd (by rfl) (by first | exact Or.inl rfl | exact Or.inr rfl) (Ya.w_sum rfl T.n_sum (by rfl) (sa_cons (Ya.w_lc [("_law_e", 12)] rfl rfl sc_law_table.nd (si_range1 (by rfl) T.n_range (sa_cons (se_var 0 (pv 0)) sa_nil)) (blkOk_by (N := ["_law_size_here", "_law_signs_here", "_law_prices", "_law_weights_here", "_law_seen", "_law_cost", "_law_code", "_law_left", "_law_best", "_law_place", "_law_low", "_law_sides", "_law_e", "_law_k"]) (sc := defScope s_law_table) (own := [("_law_e", 12)]) (by decide +kernel)) (by decide) (fun s0 H0 C0 c0 p0 => (sg_name sc_law_table.nd (by rfl) (by first | exact Or.inl rfl | exact Or.inr rfl))) blkST_nil ⟨fun s0 H0 C0 c0 p0 => (Ya.w_shl (Ya.w_call (ok_law_digit T) (hr.mono (by decide)) T.g__law_digit (by rfl) (sr_cons (se_var 6 (pv 6)) (sr_cons (Ya.w_ix (se_varF 3 (pv 3)) (se_var 12 (pv 12))) sr_nil)) (by rfl) (rl_cons (rl_cons rl_nil))) (se_var 12 (pv 12)))⟩) sa_nil))) (sb_one (ss_expr (Ya.w_app (pv 4) (Ya.w_ix (se_var 1 (pv 1)) (se_var 9 (pv 9))))))) (sb_cons (ss_set sc_law_table.nd (by rfl) (by first | exact Or.inl rfl | exact Or.inr rfl) (Ya.w_sub (se_var 6 (pv 6)) (Ya.w_mul se_int (Ya.w_ix (se_varF 3 (pv 3)) (Ya.w_ix (se_varF 7 (pv 7)) se_int))))) (sb_cons (ss_expr (Ya.w_app (pv 4) (Ya.w_call (ok_law_blend T) (hr.mono (by decide)) T.g__law_blend (by rfl) (sr_cons (se_ixO (pv 4) (se_var 10 (pv 10)) (fun _ _ => rfl)) (sr_cons (se_ixO (pv 4) (Ya.w_add (se_var 10 (pv 10)) (Ya.w_ix (se_varF 3 (pv 3)) (Ya.w_ix (se_varF 7 (pv 7)) se_int))) (fun _ _ => rfl)) sr_nil)) (by rfl) (rl_cons (rl_cons rl_nil))))) (sb_one (ss_if (Ya.v_eq hr.units (se_ixO (pv 4) (se_var 6 (pv 6)) (fun _ _ => rfl)) se_str) (sb_cons (ss_set sc_law_table.nd (by rfl) (by first | exact Or.inl rfl | exact Or.inr rfl) (Ya.w_lc [("_law_e", 12)] rfl rfl sc_law_table.nd (si_list (se_varF 7 (pv 7))) (blkOk_by (N := ["_law_size_here", "_law_signs_here", "_law_prices", "_law_weights_here", "_law_seen", "_law_cost", "_law_code", "_law_left", "_law_best", "_law_place", "_law_low", "_law_sides", "_law_e", "_law_k"]) (sc := defScope s_law_table) (own := [("_law_e", 12)]) (by decide +kernel)) (by decide) (fun s0 H0 C0 c0 p0 => (sg_name sc_law_table.nd (by rfl) (by first | exact Or.inl rfl | exact Or.inr rfl))) blkST_nil ⟨fun s0 H0 C0 c0 p0 => (Ya.w_max2 rfl T.n_max (by rfl) (sa_cons (se_ixO (pv 5) (Ya.w_sub (se_var 6 (pv 6)) (Ya.w_mul se_int (Ya.w_ix (se_varF 3 (pv 3)) (se_var 12 (pv 12))))) (fun _ _ => rfl)) (sa_cons (se_ixO (pv 5) (Ya.w_sub (se_var 6 (pv 6)) (Ya.w_ix (se_varF 3 (pv 3)) (se_var 12 (pv 12)))) (fun _ _ => rfl)) sa_nil)))⟩)) (sb_one (ss_set sc_law_table.nd (by rfl) (by first | exact Or.inl rfl | exact Or.inr rfl) (Ya.w_minL rfl T.n_min (by rfl) (sa_cons (Ya.w_lc [("_law_k", 13)] rfl rfl sc_law_table.nd (si_range1 (by rfl) T.n_range (sa_cons (Ya.w_len T.n_len (by rfl) (sa_cons (se_varF 7 (pv 7)) sa_nil)) sa_nil)) (blkOk_by (N := ["_law_size_here", "_law_signs_here", "_law_prices", "_law_weights_here", "_law_seen", "_law_cost", "_law_code", "_law_left", "_law_best", "_law_place", "_law_low", "_law_sides", "_law_e", "_law_k"]) (sc := defScope s_law_table) (own := [("_law_k", 13)]) (by decide +kernel)) (by decide) (fun s0 H0 C0 c0 p0 => (sg_name sc_law_table.nd (by rfl) (by first | exact Or.inl rfl | exact Or.inr rfl))) blkST_nil ⟨fun s0 H0 C0 c0 p0 => (Ya.w_add (Ya.w_ix (se_var 2 (pv 2)) (Ya.w_ix (se_varF 7 (pv 7)) (se_var 13 (pv 13)))) (Ya.w_ix (se_varF 11 (pv 11)) (se_var 13 (pv 13))))⟩) sa_nil))))) sb_nil))))) (sb_one (ss_expr (Ya.w_app (pv 5) (se_var 8 (pv 8))))))))) (sb_one (ss_ret (se_move 5 (pv 5)))))))))
theorem ok_law_table (T : Txt K mg) : Ok1 P w K mg base (He.ga K) 3 (He.ga K "_law_table") ["_law_size_here", "_law_signs_here", "_law_prices"] F_law_table := by
  obtain ⟨fd, Fn⟩ := T.f_law_table
  exact ⟨fd, do_law_table T Fn, Fn.binds fun _ _ _ _ _ _ us hl => match us, hl with | [_, _, _], _ => rfl, Fn.kp⟩
/-! law_ask: slots _law_size_here _law_signs_here _law_prices _law_table_here -/
def b_law_ask : Xs :=
  (sSeq (sSet 3 (xCall F_law_table (rCons (xVar 0) (rCons (xVar 1) (rCons (xVar 2) rNil))))) (sRet (x2 gIx (xVarF 3) (x2 Ya.gSub (xN gLen (aCons (xVarF 3) aNil)) (xC (.int 1))))))
abbrev F_law_ask : Fn := fnD 3 4 b_law_ask
theorem sc_law_ask : FnScope ["_law_size_here", "_law_signs_here", "_law_prices", "_law_table_here"] ["_law_size_here", "_law_signs_here", "_law_prices"] (defScope s_law_ask) := ⟨rfl, rfl, rfl, by decide +kernel, rfl, by decide +kernel, by decide +kernel⟩
theorem do_law_ask (T : Txt K mg) {fd : FuncData} (Fn : Fun K "_law_ask" "_law_ask" s_law_ask (He.ga K "_law_ask") fd) : FnOk P w K mg base (L2.CX P w) 4 (He.ga K "_law_ask") fd ["_law_size_here", "_law_signs_here", "_law_prices"] (spF K (He.ga K) 3 F_law_ask) :=
  Ya.fn_ok (P := P) (w := w) (mg := mg) (base := base) (cl := He.ga K) (k := 3) (N := ["_law_size_here", "_law_signs_here", "_law_prices", "_law_table_here"]) (ps := ["_law_size_here", "_law_signs_here", "_law_prices"]) (b := b_law_ask) Fn sc_law_ask (by decide) (fun cdv A outer s H E hr =>
    (sb_cons (ss_set sc_law_ask.nd (by rfl) (by first | exact Or.inl rfl | exact Or.inr rfl) (Ya.w_call (ok_law_table T) (hr.mono (by decide)) T.g__law_table (by rfl) (sr_cons (se_var 0 (pv 0)) (sr_cons (se_var 1 (pv 1)) (sr_cons (se_var 2 (pv 2)) sr_nil))) (by rfl) (rl_cons (rl_cons (rl_cons rl_nil))))) (sb_one (ss_ret (Ya.w_ix (se_varF 3 (pv 3)) (Ya.w_sub (Ya.w_len T.n_len (by rfl) (sa_cons (se_varF 3 (pv 3)) sa_nil)) se_int))))))
theorem ok_law_ask (T : Txt K mg) : Ok1 P w K mg base (He.ga K) 4 (He.ga K "_law_ask") ["_law_size_here", "_law_signs_here", "_law_prices"] F_law_ask := by
  obtain ⟨fd, Fn⟩ := T.f_law_ask
  exact ⟨fd, do_law_ask T Fn, Fn.binds fun _ _ _ _ _ _ us hl => match us, hl with | [_, _, _], _ => rfl, Fn.kp⟩
/-! law_side: slots _law_size_here _law_signs_here _law_at _law_position _law_kept _law_place -/
def b_law_side : Xs :=
  (sSeq (sSet 4 (xN gLst aNil)) (sSeq (sFor (iRg1 (aCons (x2 gShl (xC (.int 1)) (xVar 0)) aNil)) (gxName 5) (sIf (uTst (x2 gEq (xCall F_law_bit (rCons (xVar 5) (rCons (xVar 2) rNil))) (xVar 3))) (sExpr (xApp 4 (x2 gIx (xVar 1) (xVar 5)))) sNil)) (sRet (xMove 4))))
abbrev F_law_side : Fn := fnD 4 6 b_law_side
theorem sc_law_side : FnScope ["_law_size_here", "_law_signs_here", "_law_at", "_law_position", "_law_kept", "_law_place"] ["_law_size_here", "_law_signs_here", "_law_at", "_law_position"] (defScope s_law_side) := ⟨rfl, rfl, rfl, by decide +kernel, rfl, by decide +kernel, by decide +kernel⟩
theorem do_law_side (T : Txt K mg) {fd : FuncData} (Fn : Fun K "_law_side" "_law_side" s_law_side (He.ga K "_law_side") fd) : FnOk P w K mg base (L2.CX P w) 3 (He.ga K "_law_side") fd ["_law_size_here", "_law_signs_here", "_law_at", "_law_position"] (spF K (He.ga K) 4 F_law_side) :=
  Ya.fn_ok (P := P) (w := w) (mg := mg) (base := base) (cl := He.ga K) (k := 2) (N := ["_law_size_here", "_law_signs_here", "_law_at", "_law_position", "_law_kept", "_law_place"]) (ps := ["_law_size_here", "_law_signs_here", "_law_at", "_law_position"]) (b := b_law_side) Fn sc_law_side (by decide) (fun cdv A outer s H E hr =>
    (sb_cons (ss_set sc_law_side.nd (by rfl) (by first | exact Or.inl rfl | exact Or.inr rfl) (se_lst sa_nil)) (sb_cons (ss_for .leaving rfl (si_range1 (by rfl) T.n_range (sa_cons (Ya.w_shl se_int (se_var 0 (pv 0))) sa_nil)) (sg_name sc_law_side.nd (by rfl) (by first | exact Or.inl rfl | exact Or.inr rfl)) (sb_one (ss_if (Ya.v_eq hr.units (Ya.w_call (ok_law_bit T) (hr.mono (by decide)) T.g__law_bit (by rfl) (sr_cons (se_var 5 (pv 5)) (sr_cons (se_var 2 (pv 2)) sr_nil)) (by rfl) (rl_cons (rl_cons rl_nil))) (se_var 3 (pv 3))) (sb_one (ss_expr (Ya.w_app (pv 4) (Ya.w_ix (se_var 1 (pv 1)) (se_var 5 (pv 5)))))) sb_nil))) (sb_one (ss_ret (se_move 4 (pv 4)))))))
theorem ok_law_side (T : Txt K mg) : Ok1 P w K mg base (He.ga K) 3 (He.ga K "_law_side") ["_law_size_here", "_law_signs_here", "_law_at", "_law_position"] F_law_side := by
  obtain ⟨fd, Fn⟩ := T.f_law_side
  exact ⟨fd, do_law_side T Fn, Fn.binds fun _ _ _ _ _ _ us hl => match us, hl with | [_, _, _, _], _ => rfl, Fn.kp⟩
/-! is_position: slots value -/
def b_is_position : Xs :=
  (sRet (xAndB (xCall F_is_number (rCons (xVar 0) rNil)) (xChain gLe gLe (xC (.int 0)) (xVar 0) (xC (.int 1)))))
abbrev F_is_position : Fn := fnD 1 1 b_is_position
theorem sc_is_position : FnScope ["value"] ["value"] (defScope s_is_position) := ⟨rfl, rfl, rfl, by decide +kernel, rfl, by decide +kernel, by decide +kernel⟩
theorem do_is_position (T : Txt K mg) {fd : FuncData} (Fn : Fun K "is_position" "is_position" s_is_position (He.ga K "is_position") fd) : FnOk P w K mg base (L2.CX P w) 3 (He.ga K "is_position") fd ["value"] (spF K (He.ga K) 1 F_is_position) :=
  Ya.fn_ok (P := P) (w := w) (mg := mg) (base := base) (cl := He.ga K) (k := 2) (N := ["value"]) (ps := ["value"]) (b := b_is_position) Fn sc_is_position (by decide) (fun cdv A outer s H E hr =>
    (sb_one (ss_ret (se_and (Ya.w_call (ok_is_number T) (hr.mono (by decide)) T.g_is_number (by rfl) (sr_cons (se_var 0 (pv 0)) sr_nil) (by rfl) (rl_cons rl_nil)) (se_one (se_chain op_le op_le ok_B ok_B se_int (se_var 0 (pv 0)) se_int))))))
theorem ok_is_position (T : Txt K mg) : Ok1 P w K mg base (He.ga K) 3 (He.ga K "is_position") ["value"] F_is_position := by
  obtain ⟨fd, Fn⟩ := T.f_is_position
  exact ⟨fd, do_is_position T Fn, Fn.binds fun _ _ _ _ _ _ us hl => match us, hl with | [_], _ => rfl, Fn.kp⟩
/-! check_position: slots value -/
def b_check_position : Xs :=
  (sSeq (sIf (uNot (uTst (xCall F_is_position (rCons (xVar 0) rNil)))) sNever sNil) (sRet (xVar 0)))
abbrev F_check_position : Fn := fnD 1 1 b_check_position
theorem sc_check_position : FnScope ["value"] ["value"] (defScope s_check_position) := ⟨rfl, rfl, rfl, by decide +kernel, rfl, by decide +kernel, by decide +kernel⟩
theorem do_check_position (T : Txt K mg) {fd : FuncData} (Fn : Fun K "check_position" "check_position" s_check_position (He.ga K "check_position") fd) : FnOk P w K mg base (L2.CX P w) 4 (He.ga K "check_position") fd ["value"] (spF K (He.ga K) 1 F_check_position) :=
  Ya.fn_ok (P := P) (w := w) (mg := mg) (base := base) (cl := He.ga K) (k := 3) (N := ["value"]) (ps := ["value"]) (b := b_check_position) Fn sc_check_position (by decide) (fun cdv A outer s H E hr =>
    (sb_cons (ss_if (st_not (st_val (Ya.w_call (ok_is_position T) (hr.mono (by decide)) T.g_is_position (by rfl) (sr_cons (se_var 0 (pv 0)) sr_nil) (by rfl) (rl_cons rl_nil)))) (sb_one ss_never) sb_nil) (sb_one (ss_ret (se_var 0 (pv 0))))))
theorem ok_check_position (T : Txt K mg) : Ok1 P w K mg base (He.ga K) 4 (He.ga K "check_position") ["value"] F_check_position := by
  obtain ⟨fd, Fn⟩ := T.f_check_position
  exact ⟨fd, do_check_position T Fn, Fn.binds fun _ _ _ _ _ _ us hl => match us, hl with | [_], _ => rfl, Fn.kp⟩
/-! check_switch: slots switch size -/
def b_check_switch : Xs :=
  (sSeq (sIf (uOr (uNot (uTst (xCall F_is_number (rCons (xVar 0) rNil)))) (uNot (uTst (xChain gLe gLt (xC (.int 0)) (xVar 0) (xVar 1))))) sNever sNil) (sRet (xVar 0)))
abbrev F_check_switch : Fn := fnD 2 2 b_check_switch
theorem sc_check_switch : FnScope ["switch", "size"] ["switch", "size"] (defScope s_check_switch) := ⟨rfl, rfl, rfl, by decide +kernel, rfl, by decide +kernel, by decide +kernel⟩
theorem do_check_switch (T : Txt K mg) {fd : FuncData} (Fn : Fun K "check_switch" "check_switch" s_check_switch (He.ga K "check_switch") fd) : FnOk P w K mg base (L2.CX P w) 3 (He.ga K "check_switch") fd ["switch", "size"] (spF K (He.ga K) 2 F_check_switch) :=
  Ya.fn_ok (P := P) (w := w) (mg := mg) (base := base) (cl := He.ga K) (k := 2) (N := ["switch", "size"]) (ps := ["switch", "size"]) (b := b_check_switch) Fn sc_check_switch (by decide) (fun cdv A outer s H E hr =>
    (sb_cons (ss_if (sw_pt (sw_or (st_not (st_val (Ya.w_call (ok_is_number T) (hr.mono (by decide)) T.g_is_number (by rfl) (sr_cons (se_var 0 (pv 0)) sr_nil) (by rfl) (rl_cons rl_nil)))) (sw_or1 (st_not (st_chain op_le op_lt ok_B ok_B se_int (se_var 0 (pv 0)) (se_var 1 (pv 1))))))) (sb_one ss_never) sb_nil) (sb_one (ss_ret (se_var 0 (pv 0))))))
theorem ok_check_switch (T : Txt K mg) : Ok1 P w K mg base (He.ga K) 3 (He.ga K "check_switch") ["switch", "size"] F_check_switch := by
  obtain ⟨fd, Fn⟩ := T.f_check_switch
  exact ⟨fd, do_check_switch T Fn, Fn.binds fun _ _ _ _ _ _ us hl => match us, hl with | [_, _], _ => rfl, Fn.kp⟩
/-! check_part: slots part_row size at entry -/
def b_check_part : Xs :=
  (sSeq (sIf (uOr (uNot (uTst (x1 gIsiLT (xVar 0)))) (uAnd (uTst (x2 gNis (xVar 1) (xC .non))) (uTst (x2 gNe (xN gLen (aCons (xVar 0) aNil)) (xVar 1))))) sNever sNil) (sSeq (sFor (iEnmL (aCons (xVar 0) aNil)) (gxTup [2, 3]) (sIf (uAnd (uTst (x2 gNis (xVar 3) (xC .non))) (uNot (uTst (xCall F_is_position (rCons (xVar 3) rNil))))) sNever sNil)) (sRet (xVar 0))))
abbrev F_check_part : Fn := fnD 2 4 b_check_part
theorem sc_check_part : FnScope ["part_row", "size", "at", "entry"] ["part_row", "size"] (defScope s_check_part) := ⟨rfl, rfl, rfl, by decide +kernel, rfl, by decide +kernel, by decide +kernel⟩
theorem do_check_part (T : Txt K mg) {fd : FuncData} (Fn : Fun K "check_part" "check_part" s_check_part (He.ga K "check_part") fd) : FnOk P w K mg base (L2.CX P w) 4 (He.ga K "check_part") fd ["part_row", "size"] (spF K (He.ga K) 2 F_check_part) :=
  Ya.fn_ok (P := P) (w := w) (mg := mg) (base := base) (cl := He.ga K) (k := 3) (N := ["part_row", "size", "at", "entry"]) (ps := ["part_row", "size"]) (b := b_check_part) Fn sc_check_part (by decide) (fun cdv A outer s H E hr =>
    (sb_cons (ss_if (sw_pt (sw_or (st_not (st_val (se_isiLT (by rfl) T.n_isinstance (by rfl) T.n_list (by rfl) T.n_tuple (se_var 0 (pv 0))))) (sw_or1 (sw_pt (sw_and (Ya.v_nis (se_var 1 (pv 1)) se_non) (sw_and1 (Ya.v_ne hr.units (Ya.w_len T.n_len (by rfl) (sa_cons (se_var 0 (pv 0)) sa_nil)) (se_var 1 (pv 1))))))))) (sb_one ss_never) sb_nil) (sb_cons (ss_for .leaving rfl (si_enumL (by rfl) T.n_enumerate (sa_cons (se_var 0 (pv 0)) sa_nil)) (sg_tup rfl (sgs_cons sc_check_part.nd (by rfl) (by first | exact Or.inl rfl | exact Or.inr rfl) (sgs_cons sc_check_part.nd (by rfl) (by first | exact Or.inl rfl | exact Or.inr rfl) sgs_nil))) (sb_one (ss_if (sw_pt (sw_and (Ya.v_nis (se_var 3 (pv 3)) se_non) (sw_and1 (st_not (st_val (Ya.w_call (ok_is_position T) (hr.mono (by decide)) T.g_is_position (by rfl) (sr_cons (se_var 3 (pv 3)) sr_nil) (by rfl) (rl_cons rl_nil))))))) (sb_one ss_never) sb_nil))) (sb_one (ss_ret (se_var 0 (pv 0)))))))
theorem ok_check_part (T : Txt K mg) : Ok1 P w K mg base (He.ga K) 4 (He.ga K "check_part") ["part_row", "size"] F_check_part := by
  obtain ⟨fd, Fn⟩ := T.f_check_part
  exact ⟨fd, do_check_part T Fn, Fn.binds fun _ _ _ _ _ _ us hl => match us, hl with | [_, _], _ => rfl, Fn.kp⟩
/-! open_of: slots part_row at entry -/
def b_open_of : Xs :=
  (sSeq (sExpr (xCall F_check_part (rCons (xVar 0) (rCons (xC .non) rNil)))) (sRet (xN gTuple (aCons (xLc [1, 2] (iEnmL (aCons (xVar 0) aNil)) (gxTup [1, 2]) (uTst (x2 gIs (xVar 2) (xC .non))) (xVar 1)) aNil))))
abbrev F_open_of : Fn := fnD 1 3 b_open_of
theorem sc_open_of : FnScope ["part_row", "at", "entry"] ["part_row"] (defScope s_open_of) := ⟨rfl, rfl, rfl, by decide +kernel, rfl, by decide +kernel, by decide +kernel⟩
theorem do_open_of (T : Txt K mg) {fd : FuncData} (Fn : Fun K "open_of" "open_of" s_open_of (He.ga K "open_of") fd) : FnOk P w K mg base (L2.CX P w) 5 (He.ga K "open_of") fd ["part_row"] (spF K (He.ga K) 1 F_open_of) :=
  Ya.fn_ok (P := P) (w := w) (mg := mg) (base := base) (cl := He.ga K) (k := 4) (N := ["part_row", "at", "entry"]) (ps := ["part_row"]) (b := b_open_of) Fn sc_open_of (by decide) (fun cdv A outer s H E hr =>
    (sb_cons (ss_expr (Ya.w_call (ok_check_part T) (hr.mono (by decide)) T.g_check_part (by rfl) (sr_cons (se_var 0 (pv 0)) (sr_cons se_non sr_nil)) (by rfl) (rl_cons (rl_cons rl_nil)))) (sb_one (ss_ret (Ya.w_tuple T.n_tuple (by rfl) (sa_cons (Ya.w_lc [("at", 1), ("entry", 2)] rfl rfl sc_open_of.nd (si_enumL (by rfl) T.n_enumerate (sa_cons (se_var 0 (pv 0)) sa_nil)) (blkOk_by (N := ["part_row", "at", "entry"]) (sc := defScope s_open_of) (own := [("at", 1), ("entry", 2)]) (by decide +kernel)) (by decide) (fun s0 H0 C0 c0 p0 => (sg_tup rfl (sgs_cons sc_open_of.nd (by rfl) (by first | exact Or.inl rfl | exact Or.inr rfl) (sgs_cons sc_open_of.nd (by rfl) (by first | exact Or.inl rfl | exact Or.inr rfl) sgs_nil)))) (blkST_one (fun s0 H0 C0 c0 p0 => (Ya.v_is (se_var 2 (pv 2)) se_non))) ⟨fun s0 H0 C0 c0 p0 => (se_var 1 (pv 1))⟩) sa_nil))))))
theorem ok_open_of (T : Txt K mg) : Ok1 P w K mg base (He.ga K) 5 (He.ga K "open_of") ["part_row"] F_open_of := by
  obtain ⟨fd, Fn⟩ := T.f_open_of
  exact ⟨fd, do_open_of T Fn, Fn.binds fun _ _ _ _ _ _ us hl => match us, hl with | [_], _ => rfl, Fn.kp⟩
/-! spread: slots lot places switch place -/
def b_spread : Xs :=
  (sSeq (sSet 1 (xN gLst (aCons (xC (.int 0)) aNil))) (sSeq (sFor (iDataT (xVar 0)) (gxName 2) (sSet 1 (x2 gCat (xVarF 1) (xLc [3] (iData (xVarF 1)) (gxName 3) uYes (x2 gAdd (xVar 3) (x2 gShl (xC (.int 1)) (xVar 2))))))) (sRet (xVarF 1))))
abbrev F_spread : Fn := fnD 1 4 b_spread
theorem sc_spread : FnScope ["lot", "places", "switch", "place"] ["lot"] (defScope s_spread) := ⟨rfl, rfl, rfl, by decide +kernel, rfl, by decide +kernel, by decide +kernel⟩
theorem do_spread (T : Txt K mg) {fd : FuncData} (Fn : Fun K "spread" "spread" s_spread (He.ga K "spread") fd) : FnOk P w K mg base (L2.CX P w) 2 (He.ga K "spread") fd ["lot"] (spF K (He.ga K) 1 F_spread) :=
  Ya.fn_ok (P := P) (w := w) (mg := mg) (base := base) (cl := He.ga K) (k := 1) (N := ["lot", "places", "switch", "place"]) (ps := ["lot"]) (b := b_spread) Fn sc_spread (by decide) (fun cdv A outer s H E hr =>
    (sb_cons (ss_set sc_spread.nd (by rfl) (by first | exact Or.inl rfl | exact Or.inr rfl) (se_lst (sa_cons se_int sa_nil))) (sb_cons (ss_for .leaving rfl (si_tup (se_var 0 (pv 0))) (sg_name sc_spread.nd (by rfl) (by first | exact Or.inl rfl | exact Or.inr rfl)) (sb_one (ss_set sc_spread.nd (by rfl) (by first | exact Or.inl rfl | exact Or.inr rfl) (Ya.w_cat (se_varF 1 (pv 1)) (Ya.w_lc [("place", 3)] rfl rfl sc_spread.nd (si_list (se_varF 1 (pv 1))) (blkOk_by (N := ["lot", "places", "switch", "place"]) (sc := defScope s_spread) (own := [("place", 3)]) (by decide +kernel)) (by decide) (fun s0 H0 C0 c0 p0 => (sg_name sc_spread.nd (by rfl) (by first | exact Or.inl rfl | exact Or.inr rfl))) blkST_nil ⟨fun s0 H0 C0 c0 p0 => (Ya.w_add (se_var 3 (pv 3)) (Ya.w_shl se_int (se_var 2 (pv 2))))⟩))))) (sb_one (ss_ret (se_varF 1 (pv 1)))))))
theorem ok_spread (T : Txt K mg) : Ok1 P w K mg base (He.ga K) 2 (He.ga K "spread") ["lot"] F_spread := by
  obtain ⟨fd, Fn⟩ := T.f_spread
  exact ⟨fd, do_spread T Fn, Fn.binds fun _ _ _ _ _ _ us hl => match us, hl with | [_], _ => rfl, Fn.kp⟩
/-! part_signs: slots rule part_row base at entry place -/
def b_part_signs : Xs :=
  (sSeq (sSet 2 (xN gSum (aCons (xLc [3, 4] (iEnmL (aCons (xVar 1) aNil)) (gxTup [3, 4]) (uTst (x2 gEq (xVar 4) (xC (.int 1)))) (x2 gShl (xC (.int 1)) (xVar 3))) aNil))) (sRet (xLc [5] (iData (xCall F_spread (rCons (xCall F_open_of (rCons (xVar 1) rNil)) rNil))) (gxName 5) uYes (x2 gIx (x1 (gAttr "Rule" "signs") (xVar 0)) (x2 gAdd (xVar 2) (xVar 5))))))
abbrev F_part_signs : Fn := fnD 2 6 b_part_signs
theorem sc_part_signs : FnScope ["rule", "part_row", "base", "at", "entry", "place"] ["rule", "part_row"] (defScope s_part_signs) := ⟨rfl, rfl, rfl, by decide +kernel, rfl, by decide +kernel, by decide +kernel⟩
theorem do_part_signs (T : Txt K mg) {fd : FuncData} (Fn : Fun K "part_signs" "part_signs" s_part_signs (He.ga K "part_signs") fd) : FnOk P w K mg base (L2.CX P w) 6 (He.ga K "part_signs") fd ["rule", "part_row"] (spF K (He.ga K) 2 F_part_signs) :=
  Ya.fn_ok (P := P) (w := w) (mg := mg) (base := base) (cl := He.ga K) (k := 5) (N := ["rule", "part_row", "base", "at", "entry", "place"]) (ps := ["rule", "part_row"]) (b := b_part_signs) Fn sc_part_signs (by decide) (fun cdv A outer s H E hr =>
    (sb_cons (ss_set sc_part_signs.nd (by rfl) (by first | exact Or.inl rfl | exact Or.inr rfl) (Ya.w_sum rfl T.n_sum (by rfl) (sa_cons (Ya.w_lc [("at", 3), ("entry", 4)] rfl rfl sc_part_signs.nd (si_enumL (by rfl) T.n_enumerate (sa_cons (se_var 1 (pv 1)) sa_nil)) (blkOk_by (N := ["rule", "part_row", "base", "at", "entry", "place"]) (sc := defScope s_part_signs) (own := [("at", 3), ("entry", 4)]) (by decide +kernel)) (by decide) (fun s0 H0 C0 c0 p0 => (sg_tup rfl (sgs_cons sc_part_signs.nd (by rfl) (by first | exact Or.inl rfl | exact Or.inr rfl) (sgs_cons sc_part_signs.nd (by rfl) (by first | exact Or.inl rfl | exact Or.inr rfl) sgs_nil)))) (blkST_one (fun s0 H0 C0 c0 p0 => (Ya.v_eq hr.units (se_var 4 (pv 4)) se_int))) ⟨fun s0 H0 C0 c0 p0 => (Ya.w_shl se_int (se_var 3 (pv 3)))⟩) sa_nil))) (sb_one (ss_ret (Ya.w_lc [("place", 5)] rfl rfl sc_part_signs.nd (si_list (Ya.w_call (ok_spread T) (hr.mono (by decide)) T.g_spread (by rfl) (sr_cons (Ya.w_call (ok_open_of T) (hr.mono (by decide)) T.g_open_of (by rfl) (sr_cons (se_var 1 (pv 1)) sr_nil) (by rfl) (rl_cons rl_nil)) sr_nil) (by rfl) (rl_cons rl_nil))) (blkOk_by (N := ["rule", "part_row", "base", "at", "entry", "place"]) (sc := defScope s_part_signs) (own := [("place", 5)]) (by decide +kernel)) (by decide) (fun s0 H0 C0 c0 p0 => (sg_name sc_part_signs.nd (by rfl) (by first | exact Or.inl rfl | exact Or.inr rfl))) blkST_nil ⟨fun s0 H0 C0 c0 p0 => (Ya.w_ix (se_attr (se_var 0 (pv 0)) T.c_Rule T.na_Rule_signs) (Ya.w_add (se_var 2 (pv 2)) (se_var 5 (pv 5))))⟩)))))
theorem ok_part_signs (T : Txt K mg) : Ok1 P w K mg base (He.ga K) 6 (He.ga K "part_signs") ["rule", "part_row"] F_part_signs := by
  obtain ⟨fd, Fn⟩ := T.f_part_signs
  exact ⟨fd, do_part_signs T Fn, Fn.binds fun _ _ _ _ _ _ us hl => match us, hl with | [_, _], _ => rfl, Fn.kp⟩
/-! rule_or_none: slots size signs sign -/
def b_rule_or_none : Xs :=
  (sSeq (sIf (uTst (xN gAllL (aCons (xLc [2] (iData (xVar 1)) (gxName 2) uYes (x2 gIs (xVar 2) (xC .non))) aNil))) (sRet (xC .non)) sNil) (sRet (xMake "Rule" F_Rule___init (aCons (xVar 0) (aCons (xVar 1) aNil)))))
abbrev F_rule_or_none : Fn := fnD 2 3 b_rule_or_none
theorem sc_rule_or_none : FnScope ["size", "signs", "sign"] ["size", "signs"] (defScope s_rule_or_none) := ⟨rfl, rfl, rfl, by decide +kernel, rfl, by decide +kernel, by decide +kernel⟩
theorem do_rule_or_none (T : Txt K mg) {fd : FuncData} (Fn : Fun K "rule_or_none" "rule_or_none" s_rule_or_none (He.ga K "rule_or_none") fd) : FnOk P w K mg base (L2.CX P w) 6 (He.ga K "rule_or_none") fd ["size", "signs"] (spF K (He.ga K) 2 F_rule_or_none) :=
  Ya.fn_ok (P := P) (w := w) (mg := mg) (base := base) (cl := He.ga K) (k := 5) (N := ["size", "signs", "sign"]) (ps := ["size", "signs"]) (b := b_rule_or_none) Fn sc_rule_or_none (by decide) (fun cdv A outer s H E hr =>
    (sb_cons (ss_if (st_val (Ya.w_all rfl T.n_all (by rfl) (sa_cons (Ya.w_lc [("sign", 2)] rfl rfl sc_rule_or_none.nd (si_list (se_var 1 (pv 1))) (blkOk_by (N := ["size", "signs", "sign"]) (sc := defScope s_rule_or_none) (own := [("sign", 2)]) (by decide +kernel)) (by decide) (fun s0 H0 C0 c0 p0 => (sg_name sc_rule_or_none.nd (by rfl) (by first | exact Or.inl rfl | exact Or.inr rfl))) blkST_nil ⟨fun s0 H0 C0 c0 p0 => (Ya.w_is (se_var 2 (pv 2)) se_non)⟩) sa_nil))) (sb_one (ss_ret se_non)) sb_nil) (sb_one (ss_ret (Ya.w_make (C := 0) T.mk_Rule (ok_Rule___init T) (hr.mono (by decide)) T.g_Rule (by rfl) (sa_cons (se_var 0 (pv 0)) (sa_cons (se_var 1 (pv 1)) sa_nil)) (by rfl) (al_cons (al_cons al_nil)))))))
theorem ok_rule_or_none (T : Txt K mg) : Ok1 P w K mg base (He.ga K) 6 (He.ga K "rule_or_none") ["size", "signs"] F_rule_or_none := by
  obtain ⟨fd, Fn⟩ := T.f_rule_or_none
  exact ⟨fd, do_rule_or_none T Fn, Fn.binds fun _ _ _ _ _ _ us hl => match us, hl with | [_, _], _ => rfl, Fn.kp⟩
/-! part: slots rule part_row -/
def b_part : Xs :=
  (sSeq (sExpr (xCall F_check_rule (rCons (xVar 0) rNil))) (sSeq (sExpr (xCall F_check_part (rCons (xVar 1) (rCons (x1 (gAttr "Rule" "size") (xVar 0)) rNil)))) (sRet (xCall F_rule_or_none (rCons (xN gLen (aCons (xCall F_open_of (rCons (xVar 1) rNil)) aNil)) (rCons (xCall F_part_signs (rCons (xVar 0) (rCons (xVar 1) rNil))) rNil))))))
abbrev F_part : Fn := fnD 2 2 b_part
theorem sc_part : FnScope ["rule", "part_row"] ["rule", "part_row"] (defScope s_part) := ⟨rfl, rfl, rfl, by decide +kernel, rfl, by decide +kernel, by decide +kernel⟩
theorem do_part (T : Txt K mg) {fd : FuncData} (Fn : Fun K "part" "part" s_part (He.ga K "part") fd) : FnOk P w K mg base (L2.CX P w) 7 (He.ga K "part") fd ["rule", "part_row"] (spF K (He.ga K) 2 F_part) :=
  Ya.fn_ok (P := P) (w := w) (mg := mg) (base := base) (cl := He.ga K) (k := 6) (N := ["rule", "part_row"]) (ps := ["rule", "part_row"]) (b := b_part) Fn sc_part (by decide) (fun cdv A outer s H E hr =>
    (sb_cons (ss_expr (Ya.w_call (ok_check_rule T) (hr.mono (by decide)) T.g_check_rule (by rfl) (sr_cons (se_var 0 (pv 0)) sr_nil) (by rfl) (rl_cons rl_nil))) (sb_cons (ss_expr (Ya.w_call (ok_check_part T) (hr.mono (by decide)) T.g_check_part (by rfl) (sr_cons (se_var 1 (pv 1)) (sr_cons (se_attr (se_var 0 (pv 0)) T.c_Rule T.na_Rule_size) sr_nil)) (by rfl) (rl_cons (rl_cons rl_nil)))) (sb_one (ss_ret (Ya.w_call (ok_rule_or_none T) (hr.mono (by decide)) T.g_rule_or_none (by rfl) (sr_cons (Ya.w_len T.n_len (by rfl) (sa_cons (Ya.w_call (ok_open_of T) (hr.mono (by decide)) T.g_open_of (by rfl) (sr_cons (se_var 1 (pv 1)) sr_nil) (by rfl) (rl_cons rl_nil)) sa_nil)) (sr_cons (Ya.w_call (ok_part_signs T) (hr.mono (by decide)) T.g_part_signs (by rfl) (sr_cons (se_var 0 (pv 0)) (sr_cons (se_var 1 (pv 1)) sr_nil)) (by rfl) (rl_cons (rl_cons rl_nil))) sr_nil)) (by rfl) (rl_cons (rl_cons rl_nil))))))))
theorem ok_part (T : Txt K mg) : Ok1 P w K mg base (He.ga K) 7 (He.ga K "part") ["rule", "part_row"] F_part := by
  obtain ⟨fd, Fn⟩ := T.f_part
  exact ⟨fd, do_part T Fn, Fn.binds fun _ _ _ _ _ _ us hl => match us, hl with | [_, _], _ => rfl, Fn.kp⟩
/-! take_out: slots rule switch position part_row -/
def b_take_out : Xs :=
  (sSeq (sExpr (xCall F_check_rule (rCons (xVar 0) rNil))) (sSeq (sExpr (xCall F_check_switch (rCons (xVar 1) (rCons (x1 (gAttr "Rule" "size") (xVar 0)) rNil)))) (sSeq (sExpr (xCall F_check_position (rCons (xVar 2) rNil))) (sSeq (sSet 3 (x2 gRep (xN gLst (aCons (xC .non) aNil)) (x1 (gAttr "Rule" "size") (xVar 0)))) (sSeq (sPutIx 3 (xVar 1) (xVar 2)) (sRet (xCall F_part (rCons (xVar 0) (rCons (xVarF 3) rNil)))))))))
abbrev F_take_out : Fn := fnD 3 4 b_take_out
theorem sc_take_out : FnScope ["rule", "switch", "position", "part_row"] ["rule", "switch", "position"] (defScope s_take_out) := ⟨rfl, rfl, rfl, by decide +kernel, rfl, by decide +kernel, by decide +kernel⟩
theorem do_take_out (T : Txt K mg) {fd : FuncData} (Fn : Fun K "take_out" "take_out" s_take_out (He.ga K "take_out") fd) : FnOk P w K mg base (L2.CX P w) 8 (He.ga K "take_out") fd ["rule", "switch", "position"] (spF K (He.ga K) 3 F_take_out) :=
  Ya.fn_ok (P := P) (w := w) (mg := mg) (base := base) (cl := He.ga K) (k := 7) (N := ["rule", "switch", "position", "part_row"]) (ps := ["rule", "switch", "position"]) (b := b_take_out) Fn sc_take_out (by decide) (fun cdv A outer s H E hr =>
    (sb_cons (ss_expr (Ya.w_call (ok_check_rule T) (hr.mono (by decide)) T.g_check_rule (by rfl) (sr_cons (se_var 0 (pv 0)) sr_nil) (by rfl) (rl_cons rl_nil))) (sb_cons (ss_expr (Ya.w_call (ok_check_switch T) (hr.mono (by decide)) T.g_check_switch (by rfl) (sr_cons (se_var 1 (pv 1)) (sr_cons (se_attr (se_var 0 (pv 0)) T.c_Rule T.na_Rule_size) sr_nil)) (by rfl) (rl_cons (rl_cons rl_nil)))) (sb_cons (ss_expr (Ya.w_call (ok_check_position T) (hr.mono (by decide)) T.g_check_position (by rfl) (sr_cons (se_var 2 (pv 2)) sr_nil) (by rfl) (rl_cons rl_nil))) (sb_cons (ss_set sc_take_out.nd (by rfl) (by first | exact Or.inl rfl | exact Or.inr rfl) (Ya.w_rep (se_lst (sa_cons se_non sa_nil)) (se_attr (se_var 0 (pv 0)) T.c_Rule T.na_Rule_size))) (sb_cons (Ya.w_putIx (pv 3) (se_var 1 (pv 1)) (se_var 2 (pv 2))) (sb_one (ss_ret (Ya.w_call (ok_part T) (hr.mono (by decide)) T.g_part (by rfl) (sr_cons (se_var 0 (pv 0)) (sr_cons (se_varF 3 (pv 3)) sr_nil)) (by rfl) (rl_cons (rl_cons rl_nil)))))))))))
theorem ok_take_out (T : Txt K mg) : Ok1 P w K mg base (He.ga K) 8 (He.ga K "take_out") ["rule", "switch", "position"] F_take_out := by
  obtain ⟨fd, Fn⟩ := T.f_take_out
  exact ⟨fd, do_take_out T Fn, Fn.binds fun _ _ _ _ _ _ us hl => match us, hl with | [_, _, _], _ => rfl, Fn.kp⟩
/-! law_some_side_full: slots _law_rule _law_size_here _law_signs_here _law_at _law_found _law_position _law_kept _law_side_here _law_told_here _law_full _law_e -/
def b_law_some_side_full : Xs :=
  (sSeq (sSet 4 (xC (.bl false))) (sSeq (sFor (iRg1 (aCons (xC (.int 2)) aNil)) (gxName 5) (sSeq (sSet 6 (xCall F_law_side (rCons (xVar 1) (rCons (xVar 2) (rCons (xVar 3) (rCons (xVar 5) rNil)))))) (sSeq (sSet 7 (xCall F_take_out (rCons (xVar 0) (rCons (xVar 3) (rCons (xVar 5) rNil))))) (sSeq (sSet 8 (x2 gGt (xN gLen (aCons (xCall F_law_told (rCons (xVarF 6) rNil)) aNil)) (xC (.int 0)))) (sSeq (sIf (uTst (x2 gEq (x2 gIs (xVarF 7) (xC .non)) (xVar 8))) (sRet (xC .non)) sNil) (sIf (uTst (xVar 8)) (sSeq (sSet 9 (x2 gEq (xCall F_law_ask (rCons (x2 Ya.gSub (xVar 1) (xC (.int 1))) (rCons (xVarF 6) (rCons (xLc [10] (iRg1 (aCons (x2 Ya.gSub (xVar 1) (xC (.int 1))) aNil)) (gxName 10) uYes (xC (.int 1))) rNil)))) (x2 Ya.gSub (xVar 1) (xC (.int 1))))) (sSeq (sIf (uTst (x2 gNe (xCall F_is_full (rCons (xVarF 7) rNil)) (xVar 9))) (sRet (xC .non)) sNil) (sSet 4 (xOrB (xVar 4) (xVar 9))))) sNil)))))) (sRet (xVar 4))))
abbrev F_law_some_side_full : Fn := fnD 4 11 b_law_some_side_full
theorem sc_law_some_side_full : FnScope ["_law_rule", "_law_size_here", "_law_signs_here", "_law_at", "_law_found", "_law_position", "_law_kept", "_law_side_here", "_law_told_here", "_law_full", "_law_e"] ["_law_rule", "_law_size_here", "_law_signs_here", "_law_at"] (defScope s_law_some_side_full) := ⟨rfl, rfl, rfl, by decide +kernel, rfl, by decide +kernel, by decide +kernel⟩
theorem do_law_some_side_full (T : Txt K mg) {fd : FuncData} (Fn : Fun K "_law_some_side_full" "_law_some_side_full" s_law_some_side_full (He.ga K "_law_some_side_full") fd) : FnOk P w K mg base (L2.CX P w) 9 (He.ga K "_law_some_side_full") fd ["_law_rule", "_law_size_here", "_law_signs_here", "_law_at"] (spF K (He.ga K) 4 F_law_some_side_full) :=
  Ya.fn_ok (P := P) (w := w) (mg := mg) (base := base) (cl := He.ga K) (k := 8) (N := ["_law_rule", "_law_size_here", "_law_signs_here", "_law_at", "_law_found", "_law_position", "_law_kept", "_law_side_here", "_law_told_here", "_law_full", "_law_e"]) (ps := ["_law_rule", "_law_size_here", "_law_signs_here", "_law_at"]) (b := b_law_some_side_full) Fn sc_law_some_side_full (by decide) (fun cdv A outer s H E hr =>
    (sb_cons (ss_set sc_law_some_side_full.nd (by rfl) (by first | exact Or.inl rfl | exact Or.inr rfl) se_bl) (sb_cons (ss_for .leaving rfl (si_range1 (by rfl) T.n_range (sa_cons se_int sa_nil)) (sg_name sc_law_some_side_full.nd (by rfl) (by first | exact Or.inl rfl | exact Or.inr rfl)) (sb_cons (ss_set sc_law_some_side_full.nd (by rfl) (by first | exact Or.inl rfl | exact Or.inr rfl) (Ya.w_call (ok_law_side T) (hr.mono (by decide)) T.g__law_side (by rfl) (sr_cons (se_var 1 (pv 1)) (sr_cons (se_var 2 (pv 2)) (sr_cons (se_var 3 (pv 3)) (sr_cons (se_var 5 (pv 5)) sr_nil)))) (by rfl) (rl_cons (rl_cons (rl_cons (rl_cons rl_nil)))))) (sb_cons (ss_set sc_law_some_side_full.nd (by rfl) (by first | exact Or.inl rfl | exact Or.inr rfl) (Ya.w_call (ok_take_out T) (hr.mono (by decide)) T.g_take_out (by rfl) (sr_cons (se_var 0 (pv 0)) (sr_cons (se_var 3 (pv 3)) (sr_cons (se_var 5 (pv 5)) sr_nil))) (by rfl) (rl_cons (rl_cons (rl_cons rl_nil))))) (sb_cons (ss_set sc_law_some_side_full.nd (by rfl) (by first | exact Or.inl rfl | exact Or.inr rfl) (Ya.w_gt (Ya.w_len T.n_len (by rfl) (sa_cons (Ya.w_call (ok_law_told T) (hr.mono (by decide)) T.g__law_told (by rfl) (sr_cons (se_varF 6 (pv 6)) sr_nil) (by rfl) (rl_cons rl_nil)) sa_nil)) se_int)) (sb_cons (ss_if (Ya.v_eq hr.units (Ya.w_is (se_varF 7 (pv 7)) se_non) (se_var 8 (pv 8))) (sb_one (ss_ret se_non)) sb_nil) (sb_one (ss_if (st_val (se_var 8 (pv 8))) (sb_cons (ss_set sc_law_some_side_full.nd (by rfl) (by first | exact Or.inl rfl | exact Or.inr rfl) (Ya.w_eq hr.units (Ya.w_call (ok_law_ask T) (hr.mono (by decide)) T.g__law_ask (by rfl) (sr_cons (Ya.w_sub (se_var 1 (pv 1)) se_int) (sr_cons (se_varF 6 (pv 6)) (sr_cons (Ya.w_lc [("_law_e", 10)] rfl rfl sc_law_some_side_full.nd (si_range1 (by rfl) T.n_range (sa_cons (Ya.w_sub (se_var 1 (pv 1)) se_int) sa_nil)) (blkOk_by (N := ["_law_rule", "_law_size_here", "_law_signs_here", "_law_at", "_law_found", "_law_position", "_law_kept", "_law_side_here", "_law_told_here", "_law_full", "_law_e"]) (sc := defScope s_law_some_side_full) (own := [("_law_e", 10)]) (by decide +kernel)) (by decide) (fun s0 H0 C0 c0 p0 => (sg_name sc_law_some_side_full.nd (by rfl) (by first | exact Or.inl rfl | exact Or.inr rfl))) blkST_nil ⟨fun s0 H0 C0 c0 p0 => se_int⟩) sr_nil))) (by rfl) (rl_cons (rl_cons (rl_cons rl_nil)))) (Ya.w_sub (se_var 1 (pv 1)) se_int))) (sb_cons (ss_if (Ya.v_ne hr.units (Ya.w_call (ok_is_full T) (hr.mono (by decide)) T.g_is_full (by rfl) (sr_cons (se_varF 7 (pv 7)) sr_nil) (by rfl) (rl_cons rl_nil)) (se_var 9 (pv 9))) (sb_one (ss_ret se_non)) sb_nil) (sb_one (ss_set sc_law_some_side_full.nd (by rfl) (by first | exact Or.inl rfl | exact Or.inr rfl) (se_or (se_var 4 (pv 4)) (se_one (se_var 9 (pv 9)))))))) sb_nil))))))) (sb_one (ss_ret (se_var 4 (pv 4)))))))
theorem ok_law_some_side_full (T : Txt K mg) : Ok1 P w K mg base (He.ga K) 9 (He.ga K "_law_some_side_full") ["_law_rule", "_law_size_here", "_law_signs_here", "_law_at"] F_law_some_side_full := by
  obtain ⟨fd, Fn⟩ := T.f_law_some_side_full
  exact ⟨fd, do_law_some_side_full T Fn, Fn.binds fun _ _ _ _ _ _ us hl => match us, hl with | [_, _, _, _], _ => rfl, Fn.kp⟩
/-! law_total_case: slots _law_feed_here _law_most _law_drawn _law_signs_here _law_sign -/
def b_law_total_case : Xs :=
  (sSeq (sSet 2 (xCall F_law_case (rIo 0 (rCons (xVar 1) rNil)))) (sSeq (sSet 3 (xLc [4] (iData (x2 gIx (xVarF 2) (xC (.int 1)))) (gxName 4) uYes (xIf (uTst (x2 gIn (xVar 4) (xN Ya.gTup (aCons (xC (.int 0)) (aCons (xC (.int 1)) aNil))))) (xVar 4) (xC (.int 1))))) (sRet (xN gLst (aCons (x2 gIx (xVarF 2) (xC (.int 0))) (aCons (xVarF 3) aNil))))))
abbrev F_law_total_case : Fn := fnD 2 5 b_law_total_case
theorem sc_law_total_case : FnScope ["_law_feed_here", "_law_most", "_law_drawn", "_law_signs_here", "_law_sign"] ["_law_feed_here", "_law_most"] (defScope s_law_total_case) := ⟨rfl, rfl, rfl, by decide +kernel, rfl, by decide +kernel, by decide +kernel⟩
theorem do_law_total_case (T : Txt K mg) {fd : FuncData} (Fn : Fun K "_law_total_case" "_law_total_case" s_law_total_case (He.ga K "_law_total_case") fd) : FnOk P w K mg base (L2.CX P w) 6 (He.ga K "_law_total_case") fd ["_law_feed_here", "_law_most"] (spF K (He.ga K) 2 F_law_total_case) :=
  Ya.fn_ok (P := P) (w := w) (mg := mg) (base := base) (cl := He.ga K) (k := 5) (N := ["_law_feed_here", "_law_most", "_law_drawn", "_law_signs_here", "_law_sign"]) (ps := ["_law_feed_here", "_law_most"]) (b := b_law_total_case) Fn sc_law_total_case (by decide) (fun cdv A outer s H E hr =>
    (sb_cons (ss_set sc_law_total_case.nd (by rfl) (by first | exact Or.inl rfl | exact Or.inr rfl) (Ya.w_call (ok_law_case T) (hr.mono (by decide)) T.g__law_case (by rfl) (sr_io 0 (pv 0) (sr_cons (se_var 1 (pv 1)) sr_nil)) (by rfl) (rl_io (rl_cons rl_nil)))) (sb_cons (Ya.w_setLc [("_law_sign", 4)] rfl rfl sc_law_total_case.nd (by rfl) (by rfl) (by rfl) (si_list (Ya.w_ix (se_varF 2 (pv 2)) se_int)) (blkOk_by (N := ["_law_feed_here", "_law_most", "_law_drawn", "_law_signs_here", "_law_sign"]) (sc := defScope s_law_total_case) (own := [("_law_sign", 4)]) (by decide +kernel)) (by decide) (fun s0 H0 C0 c0 p0 => (sg_name sc_law_total_case.nd (by rfl) (by first | exact Or.inl rfl | exact Or.inr rfl))) blkST_nil ⟨fun s0 H0 C0 c0 p0 => (se_if (Ya.v_in (se_var 4 (pv 4)) (se_tup (sa_cons se_int (sa_cons se_int sa_nil)))) (se_var 4 (pv 4)) se_int)⟩) (sb_one (ss_ret (se_lst (sa_cons (Ya.w_ix (se_varF 2 (pv 2)) se_int) (sa_cons (se_varF 3 (pv 3)) sa_nil))))))))
theorem ok_law_total_case (T : Txt K mg) : Ok1 P w K mg base (He.ga K) 6 (He.ga K "_law_total_case") ["_law_feed_here", "_law_most"] F_law_total_case := by
  obtain ⟨fd, Fn⟩ := T.f_law_total_case
  exact ⟨fd, do_law_total_case T Fn, Fn.binds fun _ _ _ _ _ _ us hl => match us, hl with | [_, _], _ => rfl, Fn.kp⟩
/-! size_from: slots size least -/
def b_size_from : Xs :=
  (sSeq (sIf (uTst (x2 gLt (xCall F_check_size (rCons (xVar 0) rNil)) (xVar 1))) sNever sNil) (sRet (xVar 0)))
abbrev F_size_from : Fn := fnD 2 2 b_size_from
theorem sc_size_from : FnScope ["size", "least"] ["size", "least"] (defScope s_size_from) := ⟨rfl, rfl, rfl, by decide +kernel, rfl, by decide +kernel, by decide +kernel⟩
theorem do_size_from (T : Txt K mg) {fd : FuncData} (Fn : Fun K "size_from" "size_from" s_size_from (He.ga K "size_from") fd) : FnOk P w K mg base (L2.CX P w) 4 (He.ga K "size_from") fd ["size", "least"] (spF K (He.ga K) 2 F_size_from) :=
  Ya.fn_ok (P := P) (w := w) (mg := mg) (base := base) (cl := He.ga K) (k := 3) (N := ["size", "least"]) (ps := ["size", "least"]) (b := b_size_from) Fn sc_size_from (by decide) (fun cdv A outer s H E hr =>
    (sb_cons (ss_if (Ya.v_lt (Ya.w_call (ok_check_size T) (hr.mono (by decide)) T.g_check_size (by rfl) (sr_cons (se_var 0 (pv 0)) sr_nil) (by rfl) (rl_cons rl_nil)) (se_var 1 (pv 1))) (sb_one ss_never) sb_nil) (sb_one (ss_ret (se_var 0 (pv 0))))))
theorem ok_size_from (T : Txt K mg) : Ok1 P w K mg base (He.ga K) 4 (He.ga K "size_from") ["size", "least"] F_size_from := by
  obtain ⟨fd, Fn⟩ := T.f_size_from
  exact ⟨fd, do_size_from T Fn, Fn.binds fun _ _ _ _ _ _ us hl => match us, hl with | [_, _], _ => rfl, Fn.kp⟩
/-! alike_rule: slots size middle -/
def b_alike_rule : Xs :=
  (sSeq (sExpr (xCall F_size_from (rCons (xVar 0) (rCons (xC (.int 1)) rNil)))) (sSeq (sSet 1 (x2 gRep (xN gLst (aCons (xC .non) aNil)) (x2 Ya.gSub (x2 gShl (xC (.int 1)) (xVar 0)) (xC (.int 2))))) (sRet (xMake "Rule" F_Rule___init (aCons (xVar 0) (aCons (x2 gCat (x2 gCat (xN gLst (aCons (xC (.int 0)) aNil)) (xVarF 1)) (xN gLst (aCons (xC (.int 1)) aNil))) aNil))))))
abbrev F_alike_rule : Fn := fnD 1 2 b_alike_rule
theorem sc_alike_rule : FnScope ["size", "middle"] ["size"] (defScope s_alike_rule) := ⟨rfl, rfl, rfl, by decide +kernel, rfl, by decide +kernel, by decide +kernel⟩
theorem do_alike_rule (T : Txt K mg) {fd : FuncData} (Fn : Fun K "alike_rule" "alike_rule" s_alike_rule (He.ga K "alike_rule") fd) : FnOk P w K mg base (L2.CX P w) 6 (He.ga K "alike_rule") fd ["size"] (spF K (He.ga K) 1 F_alike_rule) :=
  Ya.fn_ok (P := P) (w := w) (mg := mg) (base := base) (cl := He.ga K) (k := 5) (N := ["size", "middle"]) (ps := ["size"]) (b := b_alike_rule) Fn sc_alike_rule (by decide) (fun cdv A outer s H E hr =>
    (sb_cons (ss_expr (Ya.w_call (ok_size_from T) (hr.mono (by decide)) T.g_size_from (by rfl) (sr_cons (se_var 0 (pv 0)) (sr_cons se_int sr_nil)) (by rfl) (rl_cons (rl_cons rl_nil)))) (sb_cons (ss_set sc_alike_rule.nd (by rfl) (by first | exact Or.inl rfl | exact Or.inr rfl) (Ya.w_rep (se_lst (sa_cons se_non sa_nil)) (Ya.w_sub (Ya.w_shl se_int (se_var 0 (pv 0))) se_int))) (sb_one (ss_ret (Ya.w_make (C := 0) T.mk_Rule (ok_Rule___init T) (hr.mono (by decide)) T.g_Rule (by rfl) (sa_cons (se_var 0 (pv 0)) (sa_cons (Ya.w_cat (Ya.w_cat (se_lst (sa_cons se_int sa_nil)) (se_varF 1 (pv 1))) (se_lst (sa_cons se_int sa_nil))) sa_nil)) (by rfl) (al_cons (al_cons al_nil))))))))
theorem ok_alike_rule (T : Txt K mg) : Ok1 P w K mg base (He.ga K) 6 (He.ga K "alike_rule") ["size"] F_alike_rule := by
  obtain ⟨fd, Fn⟩ := T.f_alike_rule
  exact ⟨fd, do_alike_rule T Fn, Fn.binds fun _ _ _ _ _ _ us hl => match us, hl with | [_], _ => rfl, Fn.kp⟩
/-! Rule_from_yes: slots cls size places signs at place -/
def b_Rule_from_yes : Xs :=
  (sSeq (sExpr (xCall F_check_size (rCons (xVar 1) rNil))) (sSeq (sIf (uNot (uTst (x1 gIsiLT (xVar 2)))) sNever sNil) (sSeq (sSet 3 (x2 gRep (xN gLst (aCons (xC (.int 0)) aNil)) (x2 gShl (xC (.int 1)) (xVar 1)))) (sSeq (sFor (iEnmL (aCons (xVar 2) aNil)) (gxTup [4, 5]) (sSeq (sIf (uOr (uNot (uTst (xCall F_is_number (rCons (xVar 5) rNil)))) (uOr (uNot (uTst (xChain gLe gLt (xC (.int 0)) (xVar 5) (xLenO 3)))) (uTst (x2 gEq (xIxO 3 (xVar 5)) (xC (.int 1)))))) sNever sNil) (sPutIx 3 (xVar 5) (xC (.int 1))))) (sRet (xMakeL 0 "Rule" F_Rule___init (aCons (xVar 1) (aCons (xVarF 3) aNil))))))))
abbrev F_Rule_from_yes : Fn := fnD 3 6 b_Rule_from_yes
theorem sc_Rule_from_yes : FnScope ["cls", "size", "places", "signs", "at", "place"] ["cls", "size", "places"] (defScope s_Rule_from_yes) := ⟨rfl, rfl, rfl, by decide +kernel, rfl, by decide +kernel, by decide +kernel⟩
theorem do_Rule_from_yes (T : Txt K mg) {fd : FuncData} (Fn : Fun K "from_yes" "Rule.from_yes" s_Rule_from_yes (recAd K (He.ma K (He.ga K "Rule") "from_yes") "classmethod") fd) : FnOk P w K mg base (L2.CX P w) 6 (recAd K (He.ma K (He.ga K "Rule") "from_yes") "classmethod") fd ["cls", "size", "places"] (spF K (He.ga K) 3 F_Rule_from_yes) :=
  Ya.fn_ok (P := P) (w := w) (mg := mg) (base := base) (cl := He.ga K) (k := 5) (N := ["cls", "size", "places", "signs", "at", "place"]) (ps := ["cls", "size", "places"]) (b := b_Rule_from_yes) Fn sc_Rule_from_yes (by decide) (fun cdv A outer s H E hr =>
    (sb_cons (ss_expr (Ya.w_call (ok_check_size T) (hr.mono (by decide)) T.g_check_size (by rfl) (sr_cons (se_var 1 (pv 1)) sr_nil) (by rfl) (rl_cons rl_nil))) (sb_cons (ss_if (st_not (st_val (se_isiLT (by rfl) T.n_isinstance (by rfl) T.n_list (by rfl) T.n_tuple (se_var 2 (pv 2))))) (sb_one ss_never) sb_nil) (sb_cons (ss_set sc_Rule_from_yes.nd (by rfl) (by first | exact Or.inl rfl | exact Or.inr rfl) (Ya.w_rep (se_lst (sa_cons se_int sa_nil)) (Ya.w_shl se_int (se_var 1 (pv 1))))) (sb_cons (ss_for .leaving rfl (si_enumL (by rfl) T.n_enumerate (sa_cons (se_var 2 (pv 2)) sa_nil)) (sg_tup rfl (sgs_cons sc_Rule_from_yes.nd (by rfl) (by first | exact Or.inl rfl | exact Or.inr rfl) (sgs_cons sc_Rule_from_yes.nd (by rfl) (by first | exact Or.inl rfl | exact Or.inr rfl) sgs_nil))) (sb_cons (ss_if (sw_pt (sw_or (st_not (st_val (Ya.w_call (ok_is_number T) (hr.mono (by decide)) T.g_is_number (by rfl) (sr_cons (se_var 5 (pv 5)) sr_nil) (by rfl) (rl_cons rl_nil)))) (sw_or (st_not (st_chain op_le op_lt ok_B ok_B se_int (se_var 5 (pv 5)) (Ya.w_lenO T.n_len (by rfl) (pv 3)))) (sw_or1 (Ya.v_eq hr.units (se_ixO (pv 3) (se_var 5 (pv 5)) (fun _ _ => rfl)) se_int))))) (sb_one ss_never) sb_nil) (sb_one (Ya.w_putIx (pv 3) (se_var 5 (pv 5)) se_int)))) (sb_one (ss_ret (Ya.w_makeL T.mk_Rule (ok_Rule___init T) (hr.mono (by decide)) (by rfl) (by first | exact Or.inl rfl | exact Or.inr (Or.inl rfl)) (sa_cons (se_var 1 (pv 1)) (sa_cons (se_varF 3 (pv 3)) sa_nil)) (by rfl) (al_cons (al_cons al_nil))))))))))
theorem ok_Rule_from_yes (T : Txt K mg) : Ok1 P w K mg base (He.ga K) 6 (recAd K (He.ma K (He.ga K "Rule") "from_yes") "classmethod") ["cls", "size", "places"] F_Rule_from_yes := by
  obtain ⟨fd, Fn⟩ := T.f_Rule_from_yes
  exact ⟨fd, do_Rule_from_yes T Fn, Fn.binds fun _ _ _ _ _ _ us hl => match us, hl with | [_, _, _], _ => rfl, Fn.kp⟩
/-! and_rule: slots size -/
def b_and_rule : Xs :=
  (sSeq (sExpr (xCall F_size_from (rCons (xVar 0) (rCons (xC (.int 1)) rNil)))) (sRet (xCMeth "Rule" F_Rule_from_yes (aCons (xVar 0) (aCons (xN gLst (aCons (x2 Ya.gSub (x2 gShl (xC (.int 1)) (xVar 0)) (xC (.int 1))) aNil)) aNil)))))
abbrev F_and_rule : Fn := fnD 1 1 b_and_rule
theorem sc_and_rule : FnScope ["size"] ["size"] (defScope s_and_rule) := ⟨rfl, rfl, rfl, by decide +kernel, rfl, by decide +kernel, by decide +kernel⟩
theorem do_and_rule (T : Txt K mg) {fd : FuncData} (Fn : Fun K "and_rule" "and_rule" s_and_rule (He.ga K "and_rule") fd) : FnOk P w K mg base (L2.CX P w) 7 (He.ga K "and_rule") fd ["size"] (spF K (He.ga K) 1 F_and_rule) :=
  Ya.fn_ok (P := P) (w := w) (mg := mg) (base := base) (cl := He.ga K) (k := 6) (N := ["size"]) (ps := ["size"]) (b := b_and_rule) Fn sc_and_rule (by decide) (fun cdv A outer s H E hr =>
    (sb_cons (ss_expr (Ya.w_call (ok_size_from T) (hr.mono (by decide)) T.g_size_from (by rfl) (sr_cons (se_var 0 (pv 0)) (sr_cons se_int sr_nil)) (by rfl) (rl_cons (rl_cons rl_nil)))) (sb_one (ss_ret (Ya.w_cmeth T.cr_Rule T.cm_Rule_from_yes (ok_Rule_from_yes T) (hr.mono (by decide)) T.g_Rule (by rfl) (sa_cons (se_var 0 (pv 0)) (sa_cons (se_lst (sa_cons (Ya.w_sub (Ya.w_shl se_int (se_var 0 (pv 0))) se_int) sa_nil)) sa_nil)) (by rfl) (al_cons (al_cons al_nil)))))))
theorem ok_and_rule (T : Txt K mg) : Ok1 P w K mg base (He.ga K) 7 (He.ga K "and_rule") ["size"] F_and_rule := by
  obtain ⟨fd, Fn⟩ := T.f_and_rule
  exact ⟨fd, do_and_rule T Fn, Fn.binds fun _ _ _ _ _ _ us hl => match us, hl with | [_], _ => rfl, Fn.kp⟩
/-! law: slots _law_script _law_feed_here _law_rare _law_drawn _law_size_here _law_signs_here _law_rule _law_sides _law_due _law_total _law_word _law_large _law_k _law_bad _law_at _law_side_here _law_place -/
def b_law : Xs :=
  (sSeq (sSet 1 (xCall F_law_feed (rCons (xVar 0) rNil))) (sSeq (sSet 2 (xCall F_law_pick (rIo 1 (rCons (xC (.int 24)) rNil)))) (sSeq (sSet 3 (xCall F_law_case (rIo 1 (rCons (xC (.int 4)) rNil)))) (sSeq (sSet 4 (x2 gIx (xVarF 3) (xC (.int 0)))) (sSeq (sSet 5 (x2 gIx (xVarF 3) (xC (.int 1)))) (sSeq (sSet 6 (xMake "Rule" F_Rule___init (aCons (xVar 4) (aCons (xVar 5) aNil)))) (sSeq (sSet 7 (xLc [14] (iRg1 (aCons (xVar 4) aNil)) (gxName 14) uYes (xCall F_law_some_side_full (rCons (xVarF 6) (rCons (xVar 4) (rCons (xVar 5) (rCons (xVar 14) rNil))))))) (sSeq (sIf (uTst (x2 gGt (xN gLen (aCons (xLc [15] (iData (xVarF 7)) (gxName 15) (uTst (x2 gIs (xVar 15) (xC .non))) (xVar 15)) aNil)) (xC (.int 0)))) (sRet (xC (.bl false))) sNil) (sSeq (sSet 8 (xOrB (x2 gEq (xVar 4) (xC (.int 0))) (xAndB (xCall F_law_live (rCons (xVar 5) rNil)) (x2 gEq (xN gLen (aCons (xLc [15] (iData (xVarF 7)) (gxName 15) (uNot (uTru (xVar 15))) (xVar 15)) aNil)) (xC (.int 0)))))) (sSeq (sIf (uTst (x2 gNe (xCall F_is_full (rCons (xVarF 6) rNil)) (xVarF 8))) (sRet (xC (.bl false))) sNil) (sSeq (sSet 9 (xCall F_law_total_case (rIo 1 (rCons (xC (.int 4)) rNil)))) (sSeq (sIf (uNot (uTst (xCall F_law_counts (rCons (x2 gIx (xVarF 9) (xC (.int 0))) (rCons (x2 gIx (xVarF 9) (xC (.int 1))) rNil))))) (sRet (xC (.bl false))) sNil) (sSeq (sSet 10 (xCall F_law_pick (rIo 1 (rCons (xC (.int 2)) rNil)))) (sSeq (sIf (uTst (x2 gNe (xCall F_law_door (rCons (xVarF 10) (rCons (xVarF 6) rNil))) (xCall F_law_door_due (rCons (xVar 5) rNil)))) (sRet (xC (.bl false))) sNil) (sSeq (sIf (uTst (x2 gEq (xVarF 2) (xC (.int 1)))) (sSeq (sSet 11 (xLc [16] (iRg1 (aCons (x2 gShl (xC (.int 1)) (x2 gAdd (xC (.int 7)) (xCall F_law_pick (rIo 1 (rCons (xC (.int 2)) rNil))))) aNil)) (gxName 16) uYes (xC (.int 0)))) (sSeq (sFor (iRg1 (aCons (x2 gAdd (xC (.int 1)) (xCall F_law_pick (rIo 1 (rCons (xC (.int 5)) rNil)))) aNil)) (gxName 12) (sPutIx 11 (x2 gMod (x2 gAdd (x2 gMul (xCall F_law_pick (rIo 1 (rCons (xC (.int 16)) rNil))) (xC (.int 16))) (xCall F_law_pick (rIo 1 (rCons (xC (.int 16)) rNil)))) (xLenO 11)) (xC (.int 1)))) (sRet (xCall F_law_counts (rCons (x2 gAdd (xC (.int 7)) (xN gInt (aCons (x2 gEq (xLenO 11) (xC (.int 256))) aNil))) (rCons (xVarF 11) rNil)))))) sNil) (sSeq (sIf (uTst (x2 gEq (x2 gMod (xN gInt (aCons (xVarF 2) aNil)) (xC (.int 6))) (xC (.int 2)))) (sSeq (sSet 13 (x2 gIx (xN gLst (aCons (xC .non) (aCons (xC (.int 0)) (aCons (xC (.str "rule")) (aCons (xVar 5) (aCons (xN Ya.gTup (aCons (xC (.int 0)) (aCons (xC (.int 1)) aNil))) (aCons (xC (.bl false)) aNil))))))) (xCall F_law_pick (rIo 1 (rCons (xC (.int 6)) rNil))))) (sSeq (sIf (uOr (uTst (x2 gNe (xCall F_law_door (rCons (xVarF 10) (rCons (xVar 13) rNil))) (xN gLst (aCons (xC (.str "signs")) (aCons (x1 gNeg (xC (.int 1))) aNil))))) (uTst (x2 gNe (xCall F_law_door (rCons (xVarF 10) (rCons (xCall F_alike_rule (rCons (xC (.int 9)) rNil)) rNil))) (xN gLst (aCons (xC (.str "total")) (aCons (xC (.int 1)) aNil)))))) (sRet (xC (.bl false))) sNil) (sRet (xAndB (x2 gEq (xCall F_law_door (rCons (xVarF 10) (rCons (xCall F_and_rule (rCons (xC (.int 9)) rNil)) rNil))) (xN gLst (aCons (xC (.str "many")) (aCons (xC (.int 8)) aNil)))) (x2 gEq (xCall F_law_door (rCons (xVarF 10) (rCons (xCall F_and_rule (rCons (xC (.int 8)) rNil)) rNil))) (xN gLst (aCons (xC (.str "let")) aNil))))))) sNil) (sRet (xC (.bl true)))))))))))))))))))
abbrev F_law : Fn := fnD 1 17 b_law
theorem sc_law : FnScope ["_law_script", "_law_feed_here", "_law_rare", "_law_drawn", "_law_size_here", "_law_signs_here", "_law_rule", "_law_sides", "_law_due", "_law_total", "_law_word", "_law_large", "_law_k", "_law_bad", "_law_at", "_law_side_here", "_law_place"] ["_law_script"] (defScope s_law) := ⟨rfl, rfl, rfl, by decide +kernel, rfl, by decide +kernel, by decide +kernel⟩
theorem do_law (T : Txt K mg) {fd : FuncData} (Fn : Fun K "law" "law" s_law (He.ga K "law") fd) : FnOk P w K mg base (L2.CX P w) 10 (He.ga K "law") fd ["_law_script"] (spF K (He.ga K) 1 F_law) :=
  Ya.fn_ok (P := P) (w := w) (mg := mg) (base := base) (cl := He.ga K) (k := 9) (N := ["_law_script", "_law_feed_here", "_law_rare", "_law_drawn", "_law_size_here", "_law_signs_here", "_law_rule", "_law_sides", "_law_due", "_law_total", "_law_word", "_law_large", "_law_k", "_law_bad", "_law_at", "_law_side_here", "_law_place"]) (ps := ["_law_script"]) (b := b_law) Fn sc_law (by decide) (fun cdv A outer s H E hr =>
    (sb_cons (ss_set sc_law.nd (by rfl) (by first | exact Or.inl rfl | exact Or.inr rfl) (Ya.w_call (ok_law_feed T) (hr.mono (by decide)) T.g__law_feed (by rfl) (sr_cons (se_var 0 (pv 0)) sr_nil) (by rfl) (rl_cons rl_nil))) (sb_cons (ss_set sc_law.nd (by rfl) (by first | exact Or.inl rfl | exact Or.inr rfl) (Ya.w_call (ok_law_pick T) (hr.mono (by decide)) T.g__law_pick (by rfl) (sr_io 1 (pv 1) (sr_cons se_int sr_nil)) (by rfl) (rl_io (rl_cons rl_nil)))) (sb_cons (ss_set sc_law.nd (by rfl) (by first | exact Or.inl rfl | exact Or.inr rfl) (Ya.w_call (ok_law_case T) (hr.mono (by decide)) T.g__law_case (by rfl) (sr_io 1 (pv 1) (sr_cons se_int sr_nil)) (by rfl) (rl_io (rl_cons rl_nil)))) (sb_cons (ss_set sc_law.nd (by rfl) (by first | exact Or.inl rfl | exact Or.inr rfl) (Ya.w_ix (se_varF 3 (pv 3)) se_int)) (sb_cons (ss_set sc_law.nd (by rfl) (by first | exact Or.inl rfl | exact Or.inr rfl) (Ya.w_ix (se_varF 3 (pv 3)) se_int)) (sb_cons (ss_set sc_law.nd (by rfl) (by first | exact Or.inl rfl | exact Or.inr rfl) (Ya.w_make (C := 0) T.mk_Rule (ok_Rule___init T) (hr.mono (by decide)) T.g_Rule (by rfl) (sa_cons (se_var 4 (pv 4)) (sa_cons (se_var 5 (pv 5)) sa_nil)) (by rfl) (al_cons (al_cons al_nil)))) (sb_cons (Ya.w_setLc [("_law_at", 14)] rfl rfl sc_law.nd (by rfl) (by rfl) (by rfl) (si_range1 (by rfl) T.n_range (sa_cons (se_var 4 (pv 4)) sa_nil)) (blkOk_by (N := ["_law_script", "_law_feed_here", "_law_rare", "_law_drawn", "_law_size_here", "_law_signs_here", "_law_rule", "_law_sides", "_law_due", "_law_total", "_law_word", "_law_large", "_law_k", "_law_bad", "_law_at", "_law_side_here", "_law_place"]) (sc := defScope s_law) (own := [("_law_at", 14)]) (by decide +kernel)) (by decide) (fun s0 H0 C0 c0 p0 => (sg_name sc_law.nd (by rfl) (by first | exact Or.inl rfl | exact Or.inr rfl))) blkST_nil ⟨fun s0 H0 C0 c0 p0 => (Ya.w_call (ok_law_some_side_full T) (hr.mono (by decide)) T.g__law_some_side_full (by rfl) (sr_cons (se_varF 6 (pv 6)) (sr_cons (se_var 4 (pv 4)) (sr_cons (se_var 5 (pv 5)) (sr_cons (se_var 14 (pv 14)) sr_nil)))) (by rfl) (rl_cons (rl_cons (rl_cons (rl_cons rl_nil)))))⟩) (sb_cons (ss_if (Ya.v_gt (Ya.w_len T.n_len (by rfl) (sa_cons (Ya.w_lc [("_law_side_here", 15)] rfl rfl sc_law.nd (si_list (se_varF 7 (pv 7))) (blkOk_by (N := ["_law_script", "_law_feed_here", "_law_rare", "_law_drawn", "_law_size_here", "_law_signs_here", "_law_rule", "_law_sides", "_law_due", "_law_total", "_law_word", "_law_large", "_law_k", "_law_bad", "_law_at", "_law_side_here", "_law_place"]) (sc := defScope s_law) (own := [("_law_side_here", 15)]) (by decide +kernel)) (by decide) (fun s0 H0 C0 c0 p0 => (sg_name sc_law.nd (by rfl) (by first | exact Or.inl rfl | exact Or.inr rfl))) (blkST_one (fun s0 H0 C0 c0 p0 => (Ya.v_is (se_var 15 (pv 15)) se_non))) ⟨fun s0 H0 C0 c0 p0 => (se_var 15 (pv 15))⟩) sa_nil)) se_int) (sb_one (ss_ret se_bl)) sb_nil) (sb_cons (ss_set sc_law.nd (by rfl) (by first | exact Or.inl rfl | exact Or.inr rfl) (se_or (Ya.w_eq hr.units (se_var 4 (pv 4)) se_int) (se_one (se_and (Ya.w_call (ok_law_live T) (hr.mono (by decide)) T.g__law_live (by rfl) (sr_cons (se_var 5 (pv 5)) sr_nil) (by rfl) (rl_cons rl_nil)) (se_one (Ya.w_eq hr.units (Ya.w_len T.n_len (by rfl) (sa_cons (Ya.w_lc [("_law_side_here", 15)] rfl rfl sc_law.nd (si_list (se_varF 7 (pv 7))) (blkOk_by (N := ["_law_script", "_law_feed_here", "_law_rare", "_law_drawn", "_law_size_here", "_law_signs_here", "_law_rule", "_law_sides", "_law_due", "_law_total", "_law_word", "_law_large", "_law_k", "_law_bad", "_law_at", "_law_side_here", "_law_place"]) (sc := defScope s_law) (own := [("_law_side_here", 15)]) (by decide +kernel)) (by decide) (fun s0 H0 C0 c0 p0 => (sg_name sc_law.nd (by rfl) (by first | exact Or.inl rfl | exact Or.inr rfl))) (blkST_one (fun s0 H0 C0 c0 p0 => (st_not (st_tru (se_var 15 (pv 15)))))) ⟨fun s0 H0 C0 c0 p0 => (se_var 15 (pv 15))⟩) sa_nil)) se_int)))))) (sb_cons (ss_if (Ya.v_ne hr.units (Ya.w_call (ok_is_full T) (hr.mono (by decide)) T.g_is_full (by rfl) (sr_cons (se_varF 6 (pv 6)) sr_nil) (by rfl) (rl_cons rl_nil)) (se_varF 8 (pv 8))) (sb_one (ss_ret se_bl)) sb_nil) (sb_cons (ss_set sc_law.nd (by rfl) (by first | exact Or.inl rfl | exact Or.inr rfl) (Ya.w_call (ok_law_total_case T) (hr.mono (by decide)) T.g__law_total_case (by rfl) (sr_io 1 (pv 1) (sr_cons se_int sr_nil)) (by rfl) (rl_io (rl_cons rl_nil)))) (sb_cons (ss_if (st_not (st_val (Ya.w_call (ok_law_counts T) (hr.mono (by decide)) T.g__law_counts (by rfl) (sr_cons (Ya.w_ix (se_varF 9 (pv 9)) se_int) (sr_cons (Ya.w_ix (se_varF 9 (pv 9)) se_int) sr_nil)) (by rfl) (rl_cons (rl_cons rl_nil))))) (sb_one (ss_ret se_bl)) sb_nil) (sb_cons (ss_set sc_law.nd (by rfl) (by first | exact Or.inl rfl | exact Or.inr rfl) (Ya.w_call (ok_law_pick T) (hr.mono (by decide)) T.g__law_pick (by rfl) (sr_io 1 (pv 1) (sr_cons se_int sr_nil)) (by rfl) (rl_io (rl_cons rl_nil)))) (sb_cons (ss_if (Ya.v_ne hr.units (Ya.w_call (ok_law_door T) (hr.mono (by decide)) T.g__law_door (by rfl) (sr_cons (se_varF 10 (pv 10)) (sr_cons (se_varF 6 (pv 6)) sr_nil)) (by rfl) (rl_cons (rl_cons rl_nil))) (Ya.w_call (ok_law_door_due T) (hr.mono (by decide)) T.g__law_door_due (by rfl) (sr_cons (se_var 5 (pv 5)) sr_nil) (by rfl) (rl_cons rl_nil))) (sb_one (ss_ret se_bl)) sb_nil) (sb_cons (ss_if (Ya.v_eq hr.units (se_varF 2 (pv 2)) se_int) (sb_cons (Ya.w_setLc [("_law_place", 16)] rfl rfl sc_law.nd (by rfl) (by rfl) (by rfl) (si_range1 (by rfl) T.n_range (sa_cons (Ya.w_shl se_int (Ya.w_add se_int (Ya.w_call (ok_law_pick T) (hr.mono (by decide)) T.g__law_pick (by rfl) (sr_io 1 (pv 1) (sr_cons se_int sr_nil)) (by rfl) (rl_io (rl_cons rl_nil))))) sa_nil)) (blkOk_by (N := ["_law_script", "_law_feed_here", "_law_rare", "_law_drawn", "_law_size_here", "_law_signs_here", "_law_rule", "_law_sides", "_law_due", "_law_total", "_law_word", "_law_large", "_law_k", "_law_bad", "_law_at", "_law_side_here", "_law_place"]) (sc := defScope s_law) (own := [("_law_place", 16)]) (by decide +kernel)) (by decide) (fun s0 H0 C0 c0 p0 => (sg_name sc_law.nd (by rfl) (by first | exact Or.inl rfl | exact Or.inr rfl))) blkST_nil ⟨fun s0 H0 C0 c0 p0 => se_int⟩) (sb_cons (ss_for .leaving rfl (si_range1 (by rfl) T.n_range (sa_cons (Ya.w_add se_int (Ya.w_call (ok_law_pick T) (hr.mono (by decide)) T.g__law_pick (by rfl) (sr_io 1 (pv 1) (sr_cons se_int sr_nil)) (by rfl) (rl_io (rl_cons rl_nil)))) sa_nil)) (sg_name sc_law.nd (by rfl) (by first | exact Or.inl rfl | exact Or.inr rfl)) (sb_one (Ya.w_putIx (pv 11) (Ya.w_mod (Ya.w_add (Ya.w_mul (Ya.w_call (ok_law_pick T) (hr.mono (by decide)) T.g__law_pick (by rfl) (sr_io 1 (pv 1) (sr_cons se_int sr_nil)) (by rfl) (rl_io (rl_cons rl_nil))) se_int) (Ya.w_call (ok_law_pick T) (hr.mono (by decide)) T.g__law_pick (by rfl) (sr_io 1 (pv 1) (sr_cons se_int sr_nil)) (by rfl) (rl_io (rl_cons rl_nil)))) (Ya.w_lenO T.n_len (by rfl) (pv 11))) se_int))) (sb_one (ss_ret (Ya.w_call (ok_law_counts T) (hr.mono (by decide)) T.g__law_counts (by rfl) (sr_cons (Ya.w_add se_int (Ya.w_int T.n_int (by rfl) (sa_cons (Ya.w_eq hr.units (Ya.w_lenO T.n_len (by rfl) (pv 11)) se_int) sa_nil))) (sr_cons (se_varF 11 (pv 11)) sr_nil)) (by rfl) (rl_cons (rl_cons rl_nil))))))) sb_nil) (sb_cons (ss_if (Ya.v_eq hr.units (Ya.w_mod (Ya.w_int T.n_int (by rfl) (sa_cons (se_varF 2 (pv 2)) sa_nil)) se_int) se_int) (sb_cons (ss_set sc_law.nd (by rfl) (by first | exact Or.inl rfl | exact Or.inr rfl) (Ya.w_ix (se_lst (sa_cons se_non (sa_cons se_int (sa_cons se_str (sa_cons (se_var 5 (pv 5)) (sa_cons (se_tup (sa_cons se_int (sa_cons se_int sa_nil))) (sa_cons se_bl sa_nil))))))) (Ya.w_call (ok_law_pick T) (hr.mono (by decide)) T.g__law_pick (by rfl) (sr_io 1 (pv 1) (sr_cons se_int sr_nil)) (by rfl) (rl_io (rl_cons rl_nil))))) (sb_cons (ss_if (sw_pt (sw_or (Ya.v_ne hr.units (Ya.w_call (ok_law_door T) (hr.mono (by decide)) T.g__law_door (by rfl) (sr_cons (se_varF 10 (pv 10)) (sr_cons (se_var 13 (pv 13)) sr_nil)) (by rfl) (rl_cons (rl_cons rl_nil))) (se_lst (sa_cons se_str (sa_cons (Ya.w_neg se_int) sa_nil)))) (sw_or1 (Ya.v_ne hr.units (Ya.w_call (ok_law_door T) (hr.mono (by decide)) T.g__law_door (by rfl) (sr_cons (se_varF 10 (pv 10)) (sr_cons (Ya.w_call (ok_alike_rule T) (hr.mono (by decide)) T.g_alike_rule (by rfl) (sr_cons se_int sr_nil) (by rfl) (rl_cons rl_nil)) sr_nil)) (by rfl) (rl_cons (rl_cons rl_nil))) (se_lst (sa_cons se_str (sa_cons se_int sa_nil))))))) (sb_one (ss_ret se_bl)) sb_nil) (sb_one (ss_ret (se_and (Ya.w_eq hr.units (Ya.w_call (ok_law_door T) (hr.mono (by decide)) T.g__law_door (by rfl) (sr_cons (se_varF 10 (pv 10)) (sr_cons (Ya.w_call (ok_and_rule T) (hr.mono (by decide)) T.g_and_rule (by rfl) (sr_cons se_int sr_nil) (by rfl) (rl_cons rl_nil)) sr_nil)) (by rfl) (rl_cons (rl_cons rl_nil))) (se_lst (sa_cons se_str (sa_cons se_int sa_nil)))) (se_one (Ya.w_eq hr.units (Ya.w_call (ok_law_door T) (hr.mono (by decide)) T.g__law_door (by rfl) (sr_cons (se_varF 10 (pv 10)) (sr_cons (Ya.w_call (ok_and_rule T) (hr.mono (by decide)) T.g_and_rule (by rfl) (sr_cons se_int sr_nil) (by rfl) (rl_cons rl_nil)) sr_nil)) (by rfl) (rl_cons (rl_cons rl_nil))) (se_lst (sa_cons se_str sa_nil))))))))) sb_nil) (sb_one (ss_ret se_bl)))))))))))))))))))
theorem ok_law (T : Txt K mg) : Ok1 P w K mg base (He.ga K) 10 (He.ga K "law") ["_law_script"] F_law := by
  obtain ⟨fd, Fn⟩ := T.f_law
  exact ⟨fd, do_law T Fn, Fn.binds fun _ _ _ _ _ _ us hl => match us, hl with | [_], _ => rfl, Fn.kp⟩
abbrev lawLvl : Nat := 10
def lawIx : Nat := 79
def loose : List PySem.Str := (["_wall", "RuleError", "BadSize", "BadSigns", "NoTold", "BadRow", "BadPart", "BadSwitch", "BadNumber", "NotTotal", "NotYesNo", "TooMany", "is_number", "is_position", "check_position", "check_switch", "lot_at", "MOST", "check_size", "check_row", "place_in", "Rule", "check_rule", "need_total", "need_yesno", "sign_factor", "blended", "side_by_side", "check_part", "spread"] : List PySem.Str) ++ (["open_of", "part_signs", "rule_or_none", "part", "take_out", "check_summed", "signed_sum", "odd_full", "signed_full", "_sized_rule", "_full_mark", "_full_marks", "is_full", "size_from", "and_rule", "alike_rule", "_law_feed", "_law_pick", "_law_bit", "_law_lot_of", "_law_size", "_law_told", "_law_live", "_law_order_signs", "_law_known_signs", "_law_signs", "_law_case", "_law_total_case", "_law_blend", "_law_weights"] : List PySem.Str) ++ (["_law_digit", "_law_table", "_law_ask", "_law_side", "_law_door", "_law_door_due", "_law_signed", "_law_some_side_full", "_law_counts"] : List PySem.Str)
end K67

namespace K67
/-! plain laws: full parts -/
abbrev Sg := Nat → Option Int
def mk (s : Sg) : Nat → List Nat → Nat → Bool
  | 0, _, p => (s p).isSome
  | 1, L, p => match L with | [e] => (s p).isSome && (s (p + 2 ^ e)).isSome && s p != s (p + 2 ^ e) | _ => false
  | k + 2, L, p => L.all fun e => mk s (k + 1) (L.erase e) p || mk s (k + 1) (L.erase e) (p + 2 ^ e)
def blend (a b : Option (Option Int)) : Option (Option Int) := if a = some none then b else if b = some none ∨ a = b then a else none
def bl (s : Sg) : List Nat → Nat → Option (Option Int)
  | [], p => some (s p)
  | e :: R, p => blend (bl s R p) (bl s R (p + 2 ^ e))
theorem blend_l (b : Option (Option Int)) : blend none b = none := by
  unfold blend
  rw [if_neg (by simp)]
  split <;> rfl
theorem blend_r (a : Option (Option Int)) : blend a none = none := by
  unfold blend
  split
  · rfl
  · split
    · rename_i h; rcases h with h | h
      · cases h
      · exact h
    · rfl
theorem mk_mixed (s : Sg) : ∀ (k : Nat) (L : List Nat) (p : Nat), L.length = k + 1 → mk s (k + 1) L p = true → bl s L p = none
  | 0, L, p, hl, h => by
    match L, hl with
    | [e], _ =>
      have h : ((s p).isSome && (s (p + 2 ^ e)).isSome && s p != s (p + 2 ^ e)) = true := h
      simp only [Bool.and_eq_true, bne_iff_ne, ne_eq] at h
      obtain ⟨⟨h1, h2⟩, h3⟩ := h
      show blend (some (s p)) (some (s (p + 2 ^ e))) = none
      unfold blend
      rw [if_neg (fun z => by injection z with z; rw [z] at h1; cases h1), if_neg (fun z => by
        rcases z with z | z
        · injection z with z; rw [z] at h2; cases h2
        · injection z with z; exact h3 z)]
  | k + 1, L, p, hl, h => by
    match L, hl with
    | e :: R, hl =>
      have h : ((e :: R).all fun e' => mk s (k + 1) ((e :: R).erase e') p || mk s (k + 1) ((e :: R).erase e') (p + 2 ^ e')) = true := h
      have h1 := List.all_eq_true.mp h e List.mem_cons_self
      rw [List.erase_cons_head, Bool.or_eq_true] at h1
      have hR : R.length = k + 1 := by simpa using hl
      show blend (bl s R p) (bl s R (p + 2 ^ e)) = none
      rcases h1 with h1 | h1
      · rw [mk_mixed s k R p hR h1]; exact blend_l _
      · rw [mk_mixed s k R _ hR h1]; exact blend_r _
/-- the least of numbers -/
def leastN : List Nat → Nat
  | [] => 0
  | a :: r => r.foldl min a
theorem foldl_min (r : List Nat) (a m : Nat) : m ≤ r.foldl min a ↔ m ≤ a ∧ ∀ x ∈ r, m ≤ x := by
  induction r generalizing a with
  | nil => simp
  | cons b r ih =>
    rw [List.foldl_cons, ih]
    simp only [List.mem_cons, forall_eq_or_imp, Nat.le_min]
    constructor
    · rintro ⟨⟨h1, h2⟩, h3⟩; exact ⟨h1, h2, h3⟩
    · rintro ⟨h1, h2, h3⟩; exact ⟨⟨h1, h2⟩, h3⟩
theorem leastN_le {l : List Nat} (h : l ≠ []) (m : Nat) : m ≤ leastN l ↔ ∀ x ∈ l, m ≤ x := by
  cases l with
  | nil => exact absurd rfl h
  | cons a r => unfold leastN; rw [foldl_min]; simp
def cost (s : Sg) : Nat → List Nat → Nat → Nat
  | 0, _, _ => 0
  | k + 1, L, p => if bl s L p = none then leastN (L.map fun e => 1 + max (cost s k (L.erase e) p) (cost s k (L.erase e) (p + 2 ^ e))) else 0
theorem cost_le (s : Sg) : ∀ (k : Nat) (L : List Nat) (p : Nat), L.length = k → cost s k L p ≤ k
  | 0, L, p, _ => Nat.le_refl _
  | k + 1, L, p, hl => by
    unfold cost
    split
    · match L, hl with
      | e :: R, hl =>
        have hR : R.length = k := by simpa using hl
        have h1 := cost_le s k R p hR
        have h2 := cost_le s k R (p + 2 ^ e) hR
        have := (leastN_le (l := (e :: R).map fun e' => 1 + max (cost s k ((e :: R).erase e') p) (cost s k ((e :: R).erase e') (p + 2 ^ e'))) (by simp) _).mp (Nat.le_refl _) (1 + max (cost s k R p) (cost s k R (p + 2 ^ e))) (by
          rw [List.map_cons, List.erase_cons_head]; exact List.mem_cons_self)
        omega
    · exact Nat.zero_le _
theorem len_erase {L : List Nat} {e k : Nat} (h : e ∈ L) (hl : L.length = k + 1) : (L.erase e).length = k := by
  rw [List.length_erase_of_mem h, hl]; rfl
theorem cost_eq (s : Sg) : ∀ (k : Nat) (L : List Nat) (p : Nat), L.length = k + 1 → ((cost s (k + 1) L p = k + 1) ↔ mk s (k + 1) L p = true)
  | 0, L, p, hl => by
    match L, hl with
    | [e], _ =>
      show (if blend (some (s p)) (some (s (p + 2 ^ e))) = none then leastN [1 + max 0 0] else 0) = 0 + 1 ↔ ((s p).isSome && (s (p + 2 ^ e)).isSome && s p != s (p + 2 ^ e)) = true
      unfold blend
      cases h1 : s p with
      | none => simp
      | some a =>
        cases h2 : s (p + 2 ^ e) with
        | none => simp
        | some b =>
          by_cases h3 : a = b
          · subst h3; simp
          · simp [h3, leastN]
  | k + 1, L, p, hl => by
    have all : mk s (k + 2) L p = true ↔ ∀ e ∈ L, cost s (k + 1) (L.erase e) p = k + 1 ∨ cost s (k + 1) (L.erase e) (p + 2 ^ e) = k + 1 := by
      show (L.all fun e => mk s (k + 1) (L.erase e) p || mk s (k + 1) (L.erase e) (p + 2 ^ e)) = true ↔ _
      rw [List.all_eq_true]
      constructor
      · intro h e he
        have := h e he
        rw [Bool.or_eq_true, ← cost_eq s k _ _ (len_erase he hl), ← cost_eq s k _ _ (len_erase he hl)] at this
        exact this
      · intro h e he
        rw [Bool.or_eq_true, ← cost_eq s k _ _ (len_erase he hl), ← cost_eq s k _ _ (len_erase he hl)]
        exact h e he
    have ne : (L.map fun e => 1 + max (cost s (k + 1) (L.erase e) p) (cost s (k + 1) (L.erase e) (p + 2 ^ e))) ≠ [] := by
      intro z
      have := congrArg List.length z
      rw [List.length_map, hl] at this
      cases this
    have up := cost_le s (k + 2) L p hl
    constructor
    · intro h
      rw [all]
      intro e he
      have h' : (if bl s L p = none then leastN (L.map fun e => 1 + max (cost s (k + 1) (L.erase e) p) (cost s (k + 1) (L.erase e) (p + 2 ^ e))) else 0) = k + 2 := h
      split at h'
      · have := (leastN_le ne (k + 2)).mp (by omega) _ (List.mem_map.mpr ⟨e, he, rfl⟩)
        have u1 := cost_le s (k + 1) (L.erase e) p (len_erase he hl)
        have u2 := cost_le s (k + 1) (L.erase e) (p + 2 ^ e) (len_erase he hl)
        omega
      · cases h'
    · intro h
      have hm := mk_mixed s (k + 1) L p hl h
      rw [all] at h
      have h2 : k + 2 ≤ leastN (L.map fun e => 1 + max (cost s (k + 1) (L.erase e) p) (cost s (k + 1) (L.erase e) (p + 2 ^ e))) := by
        rw [leastN_le ne]
        intro x hx
        obtain ⟨e, he, rfl⟩ := List.mem_map.mp hx
        rcases h e he with h | h <;> omega
      have h3 : cost s (k + 2) L p = leastN (L.map fun e => 1 + max (cost s (k + 1) (L.erase e) p) (cost s (k + 1) (L.erase e) (p + 2 ^ e))) := by
        show (if bl s L p = none then _ else 0) = _
        rw [if_pos hm]
      show cost s (k + 2) L p = k + 2
      omega
/-! a mixed part has two told rows unlike in sign -/
def msk (L : List Nat) : Nat := (L.map fun e => 2 ^ e).sum
theorem msk_cons (e : Nat) (L : List Nat) : msk (e :: L) = 2 ^ e + msk L := by simp [msk]
theorem bl_told (s : Sg) : ∀ (L : List Nat) (p : Nat) (i : Int), bl s L p = some (some i) → ∃ q, q ≤ p + msk L ∧ s q = some i
  | [], p, i, h => ⟨p, by simp [msk], by injection h⟩
  | e :: R, p, i, h => by
    have h : blend (bl s R p) (bl s R (p + 2 ^ e)) = some (some i) := h
    unfold blend at h
    rw [msk_cons]
    generalize hw : 2 ^ e = w at h ⊢
    split at h
    · obtain ⟨q, h1, h2⟩ := bl_told s R _ i h
      exact ⟨q, by omega, h2⟩
    · split at h
      · obtain ⟨q, h1, h2⟩ := bl_told s R _ i h
        exact ⟨q, by omega, h2⟩
      · cases h
theorem bl_mixed (s : Sg) : ∀ (L : List Nat) (p : Nat), bl s L p = none → ∃ q r, q ≤ p + msk L ∧ r ≤ p + msk L ∧ s q ≠ none ∧ s r ≠ none ∧ s q ≠ s r
  | [], p, h => by cases h
  | e :: R, p, h => by
    have h : blend (bl s R p) (bl s R (p + 2 ^ e)) = none := h
    rw [msk_cons]
    generalize hw : 2 ^ e = w at h ⊢
    cases h1 : bl s R p with
    | none =>
      obtain ⟨q, r, a, b, c, d, f⟩ := bl_mixed s R p h1
      exact ⟨q, r, by omega, by omega, c, d, f⟩
    | some x =>
      cases h2 : bl s R (p + w) with
      | none =>
        obtain ⟨q, r, a, b, c, d, f⟩ := bl_mixed s R _ h2
        exact ⟨q, r, by omega, by omega, c, d, f⟩
      | some y =>
        rw [h1, h2] at h
        unfold blend at h
        split at h
        · cases h
        · split at h
          · cases h
          · rename_i n1 n2
            cases x with
            | none => exact absurd rfl n1
            | some i =>
              cases y with
              | none => exact absurd (.inl rfl) n2
              | some j =>
                obtain ⟨q, a1, a2⟩ := bl_told s R p i h1
                obtain ⟨r, b1, b2⟩ := bl_told s R _ j h2
                refine ⟨q, r, by omega, by omega, by rw [a2]; simp, by rw [b2]; simp, ?_⟩
                rw [a2, b2]
                intro z
                injection z with z
                exact n2 (.inr (by rw [z]))
theorem msk_range : ∀ n, msk (List.range n) + 1 = 2 ^ n
  | 0 => rfl
  | n + 1 => by
    have := msk_range n
    unfold msk at *
    rw [List.range_succ, List.map_append, List.sum_append]
    simp only [List.map_cons, List.map_nil, List.sum_cons, List.sum_nil]
    rw [Nat.pow_succ]; omega
/-! sums of a part -/
def sm (t : Nat → Int) : List Nat → Nat → Int
  | [], p => t p
  | e :: R, p => sm t R p + sm t R (p + 2 ^ e)
def sn (t : Nat → Int) : List Nat → Nat → Int
  | [], p => t p
  | e :: R, p => sn t R p - sn t R (p + 2 ^ e)
theorem sm_erase (t : Nat → Int) : ∀ (L : List Nat) (e p : Nat), e ∈ L → sm t L p = sm t (L.erase e) p + sm t (L.erase e) (p + 2 ^ e)
  | a :: R, e, p, h => by
    by_cases z : a = e
    · subst z; rw [List.erase_cons_head]; rfl
    · have h' : e ∈ R := by rcases List.mem_cons.mp h with h | h; exact absurd h.symm z; exact h
      rw [List.erase_cons_tail (by simpa using z)]
      show sm t R p + sm t R (p + 2 ^ a) = (sm t (R.erase e) p + sm t (R.erase e) (p + 2 ^ a)) + (sm t (R.erase e) (p + 2 ^ e) + sm t (R.erase e) (p + 2 ^ e + 2 ^ a))
      rw [sm_erase t R e p h', sm_erase t R e (p + 2 ^ a) h', show p + 2 ^ a + 2 ^ e = p + 2 ^ e + 2 ^ a by omega]
      omega
theorem sn_erase (t : Nat → Int) : ∀ (L : List Nat) (e p : Nat), e ∈ L → sn t L p = sn t (L.erase e) p - sn t (L.erase e) (p + 2 ^ e)
  | a :: R, e, p, h => by
    by_cases z : a = e
    · subst z; rw [List.erase_cons_head]; rfl
    · have h' : e ∈ R := by rcases List.mem_cons.mp h with h | h; exact absurd h.symm z; exact h
      rw [List.erase_cons_tail (by simpa using z)]
      show sn t R p - sn t R (p + 2 ^ a) = (sn t (R.erase e) p - sn t (R.erase e) (p + 2 ^ a)) - (sn t (R.erase e) (p + 2 ^ e) - sn t (R.erase e) (p + 2 ^ e + 2 ^ a))
      rw [sn_erase t R e p h', sn_erase t R e (p + 2 ^ a) h', show p + 2 ^ a + 2 ^ e = p + 2 ^ e + 2 ^ a by omega]
      omega
/-- a part that is not full has an even number of yes rows, and the signed sum 0 -/
theorem even_of_not (t : Nat → Int) : ∀ (k : Nat) (L : List Nat) (p : Nat), L.length = k + 1 → mk (fun q => some (t q)) (k + 1) L p = false → sm t L p % 2 = 0 ∧ sn t L p = 0
  | 0, L, p, hl, h => by
    match L, hl with
    | [e], _ =>
      have h : ((some (t p)).isSome && (some (t (p + 2 ^ e))).isSome && some (t p) != some (t (p + 2 ^ e))) = false := h
      have h' : t p = t (p + 2 ^ e) := by
        simpa using h
      show (t p + t (p + 2 ^ e)) % 2 = 0 ∧ t p - t (p + 2 ^ e) = 0
      omega
  | k + 1, L, p, hl, h => by
    have h : (L.all fun e => mk (fun q => some (t q)) (k + 1) (L.erase e) p || mk (fun q => some (t q)) (k + 1) (L.erase e) (p + 2 ^ e)) = false := h
    obtain ⟨e, he, h1⟩ := List.all_eq_false.mp h
    have h1 : mk (fun q => some (t q)) (k + 1) (L.erase e) p = false ∧ mk (fun q => some (t q)) (k + 1) (L.erase e) (p + 2 ^ e) = false := by simpa using h1
    obtain ⟨a1, a2⟩ := even_of_not t k _ _ (len_erase he hl) h1.1
    obtain ⟨b1, b2⟩ := even_of_not t k _ _ (len_erase he hl) h1.2
    rw [sm_erase t L e p he, sn_erase t L e p he]
    omega
/-- sums over the first places -/
def tot (t : Nat → Int) : Nat → Int
  | 0 => 0
  | m + 1 => tot t m + t m
theorem tot_add (t : Nat → Int) (a : Nat) : ∀ b, tot t (a + b) = tot t a + tot (fun q => t (a + q)) b
  | 0 => by simp [tot]
  | b + 1 => by
    show tot t (a + b) + t (a + b) = _
    rw [tot_add t a b]
    show _ = tot t a + (tot (fun q => t (a + q)) b + t (a + b))
    omega
theorem tot_congr {t u : Nat → Int} {m : Nat} (h : ∀ q, q < m → t q = u q) : tot t m = tot u m := by
  induction m with
  | zero => rfl
  | succ m ih => show tot t m + t m = tot u m + u m; rw [ih fun q hq => h q (by omega), h m (by omega)]
theorem tot_neg {t u : Nat → Int} {m : Nat} (h : ∀ q, q < m → t q = - u q) : tot t m = - tot u m := by
  induction m with
  | zero => rfl
  | succ m ih => show tot t m + t m = -(tot u m + u m); rw [ih fun q hq => h q (by omega), h m (by omega)]; omega
theorem range_erase (n : Nat) : (List.range (n + 1)).erase n = List.range n := by
  rw [List.range_succ, List.erase_append_right _ (by simp), List.erase_cons_head, List.append_nil]
theorem sm_tot (t : Nat → Int) : ∀ (n p : Nat), sm t (List.range n) p = tot (fun q => t (p + q)) (2 ^ n)
  | 0, p => by simp [sm, tot]
  | n + 1, p => by
    rw [sm_erase t _ n p (by simp), range_erase, sm_tot t n, sm_tot t n, Nat.pow_succ, show 2 ^ n * 2 = 2 ^ n + 2 ^ n by omega, tot_add]
    rw [tot_congr (t := fun q => t (p + 2 ^ n + q)) (u := fun q => t (p + (2 ^ n + q))) fun q _ => by rw [Nat.add_assoc]]
/-- with a sign that turns with each higher bit -/
theorem sn_tot (t : Nat → Int) (g : Nat → Int) (g0 : g 0 = 1) : ∀ (n : Nat), (∀ m, m < n → ∀ q, q < 2 ^ m → g (2 ^ m + q) = - g q) → ∀ p, sn t (List.range n) p = tot (fun q => g q * t (p + q)) (2 ^ n)
  | 0, _, p => by simp [sn, tot, g0]
  | n + 1, hg, p => by
    have ih := sn_tot t g g0 n fun m hm => hg m (by omega)
    rw [sn_erase t _ n p (by simp), range_erase, ih, ih, Nat.pow_succ, show 2 ^ n * 2 = 2 ^ n + 2 ^ n by omega, tot_add]
    rw [tot_neg (t := fun q => g (2 ^ n + q) * t (p + (2 ^ n + q))) (u := fun q => g q * t (p + 2 ^ n + q)) fun q hq => by
      rw [hg n (by omega) q hq, Int.neg_mul, Nat.add_assoc]]
    omega
/-! places by bits -/
def bitsL (n f : Nat) : List Nat := (List.range n).filter fun e => f.testBit e
theorem or_add (x y : Nat) (h : x &&& y = 0) : x + y = x ||| y := by
  have hw : ∀ z, z ≤ x + y → z < 2 ^ (x + y + 1) := fun z hz => Nat.lt_of_le_of_lt hz (Nat.lt_trans Nat.lt_two_pow_self (Nat.pow_lt_pow_right (by decide) (Nat.lt_succ_self _)))
  have k := BitVec.add_eq_or_of_and_eq_zero (BitVec.ofNat (x + y + 1) x) (BitVec.ofNat (x + y + 1) y) (by
    apply BitVec.eq_of_toNat_eq
    rw [BitVec.toNat_and, BitVec.toNat_ofNat, BitVec.toNat_ofNat, Nat.mod_eq_of_lt (hw x (by omega)), Nat.mod_eq_of_lt (hw y (by omega)), h]
    simp)
  have k := congrArg BitVec.toNat k
  rw [BitVec.toNat_add, BitVec.toNat_or, BitVec.toNat_ofNat, BitVec.toNat_ofNat, Nat.mod_eq_of_lt (hw x (by omega)), Nat.mod_eq_of_lt (hw y (by omega)), Nat.mod_eq_of_lt (hw _ (Nat.le_refl _))] at k
  exact k
theorem and_pow {p e : Nat} (h : p.testBit e = false) : p &&& 2 ^ e = 0 := by
  apply Nat.eq_of_testBit_eq
  intro j
  rw [Nat.testBit_and, Nat.testBit_two_pow, Nat.zero_testBit]
  by_cases z : e = j
  · subst z; rw [h]; rfl
  · simp [z]
theorem bit_add {p e : Nat} (h : p.testBit e = false) (j : Nat) : (p + 2 ^ e).testBit j = (p.testBit j || decide (e = j)) := by
  rw [or_add _ _ (and_pow h), Nat.testBit_or, Nat.testBit_two_pow]
theorem bit_sub {f e : Nat} (h : f.testBit e = true) : 2 ^ e ≤ f ∧ ∀ j, (f - 2 ^ e).testBit j = (f.testBit j && !decide (e = j)) := by
  have hx : (f ^^^ 2 ^ e).testBit e = false := by rw [Nat.testBit_xor, Nat.testBit_two_pow, h]; simp
  have key : (f ^^^ 2 ^ e) + 2 ^ e = f := by
    apply Nat.eq_of_testBit_eq
    intro j
    rw [bit_add hx, Nat.testBit_xor, Nat.testBit_two_pow]
    by_cases z : e = j
    · subst z; rw [h]; simp
    · simp [z]
  have e1 : f - 2 ^ e = f ^^^ 2 ^ e := by omega
  refine ⟨by omega, fun j => ?_⟩
  rw [e1, Nat.testBit_xor, Nat.testBit_two_pow]
  by_cases z : e = j
  · subst z; rw [h]; simp
  · simp [z]
theorem and_zero {a b : Nat} : a &&& b = 0 ↔ ∀ j, (a.testBit j && b.testBit j) = false := by
  constructor
  · intro h j
    have := congrArg (fun x => x.testBit j) h
    simpa [Nat.testBit_and] using this
  · intro h
    apply Nat.eq_of_testBit_eq
    intro j
    rw [Nat.testBit_and, h j, Nat.zero_testBit]
theorem bits_mem {n f e : Nat} : e ∈ bitsL n f ↔ e < n ∧ f.testBit e = true := by
  unfold bitsL
  rw [List.mem_filter, List.mem_range]
theorem bits_nodup (n f : Nat) : (bitsL n f).Nodup := List.Pairwise.filter _ List.nodup_range
theorem bits_sub {n f e : Nat} (h : e ∈ bitsL n f) : bitsL n (f - 2 ^ e) = (bitsL n f).erase e := by
  obtain ⟨h1, h2⟩ := bits_mem.mp h
  rw [(bits_nodup n f).erase_eq_filter]
  unfold bitsL
  rw [List.filter_filter]
  apply List.filter_congr
  intro j _
  rw [(bit_sub h2).2 j, Bool.and_comm]
  congr 1
  by_cases z : e = j
  · subst z; simp
  · have : ¬ j = e := fun w => z w.symm
    simp [z, this]
structure PF (n f p : Nat) : Prop where
  hf : f < 2 ^ n
  hp : p < 2 ^ n
  d : f &&& p = 0
theorem pf_step {n f p e : Nat} (h : PF n f p) (he : e ∈ bitsL n f) : f - 2 ^ e < f ∧ PF n (f - 2 ^ e) p ∧ PF n (f - 2 ^ e) (p + 2 ^ e) := by
  obtain ⟨h1, h2⟩ := bits_mem.mp he
  obtain ⟨s1, s2⟩ := bit_sub h2
  have hz := and_zero.mp h.d
  have pe : p.testBit e = false := by have := hz e; rw [h2] at this; simpa using this
  have pos : 0 < 2 ^ e := Nat.two_pow_pos e
  refine ⟨by omega, ⟨Nat.lt_of_le_of_lt (Nat.sub_le _ _) h.hf, h.hp, and_zero.mpr fun j => ?_⟩, Nat.lt_of_le_of_lt (Nat.sub_le _ _) h.hf, ?_, and_zero.mpr fun j => ?_⟩
  · rw [s2 j]
    have := hz j
    revert this
    cases f.testBit j <;> cases p.testBit j <;> simp
  · apply Nat.lt_pow_two_of_testBit
    intro j hj
    rw [bit_add pe, Nat.testBit_lt_two_pow (Nat.lt_of_lt_of_le h.hp (Nat.pow_le_pow_right (by decide) hj))]
    have : ¬ e = j := by omega
    simp [this]
  · rw [s2 j, bit_add pe j]
    have := hz j
    revert this
    cases f.testBit j <;> cases p.testBit j <;> simp
    try exact fun w => w.symm
theorem bits_nil {n f : Nat} (h : f < 2 ^ n) (hb : bitsL n f = []) : f = 0 := by
  apply Nat.eq_of_testBit_eq
  intro j
  rw [Nat.zero_testBit]
  cases z : f.testBit j with
  | false => rfl
  | true =>
    have hj : j < n := by
      rcases Nat.lt_or_ge j n with w | w
      · exact w
      · rw [Nat.testBit_lt_two_pow (Nat.lt_of_lt_of_le h (Nat.pow_le_pow_right (by decide) w))] at z; cases z
    have : j ∈ bitsL n f := bits_mem.mpr ⟨hj, z⟩
    rw [hb] at this; cases this
theorem bits_one {n f e : Nat} (h : f < 2 ^ n) (hb : bitsL n f = [e]) : f = 2 ^ e := by
  have he : e ∈ bitsL n f := by rw [hb]; exact List.mem_cons_self
  have h2 := bits_sub he
  rw [hb, List.erase_cons_head] at h2
  have := bits_nil (Nat.lt_of_le_of_lt (Nat.sub_le _ _) h) h2
  have := (bit_sub (bits_mem.mp he).2).1
  omega
theorem bits_all (n : Nat) : bitsL n (2 ^ n - 1) = List.range n := by
  unfold bitsL
  rw [List.filter_eq_self]
  intro e he
  rw [Nat.testBit_two_pow_sub_one]
  simpa using he
theorem bit_div (p e : Nat) : p / 2 ^ e % 2 = if p.testBit e then 1 else 0 := by
  rw [Nat.testBit_eq_decide_div_mod_eq]
  have := Nat.mod_two_eq_zero_or_one (p / 2 ^ e)
  rcases this with h | h <;> simp [h]
end K67

set_option maxHeartbeats 4000000
namespace K67
open PySem PySem.Spec PyProof.Rows L2 Ya
/-! what each def does on encoded data -/
def fl (o : Option Nat) (f : List Int) : S := .own o (.lst (f.map D.int))
def sg : Option Int → D | none => .non | some i => .int i
def sgs (s : List (Option Int)) : List D := s.map sg
def ruleD (n : Nat) (s : List (Option Int)) : D := .ins "Rule" ["size", "signs"] [.int n, .tup (sgs s)]
theorem s_bit (a b : Int) (h : 0 ≤ b) : F_law_bit [.val (.int a), .val (.int b)] = .ret (.val (.int (a / 2 ^ b.toNat % 2))) [.val (.int a), .val (.int b)] := by
  refine fn_ret (e := [.val (.int a), .val (.int b)]) rfl ?_
  simp [r_sSeq, b_law_bit, h]
theorem s_pick (m : Int) (f : List Int) (hm : 0 < m) : ∃ v f', 0 ≤ v ∧ v < m ∧ F_law_pick [fl (some 0) f, .val (.int m)] = .ret (.val (.int v)) [fl (some 0) f', .val (.int m)] := by
  rcases List.eq_nil_or_concat f with rfl | ⟨f', x, rfl⟩
  · refine ⟨0, [], Int.le_refl _, hm, ?_⟩
    refine fn_ret (e := [fl (some 0) [], .val (.int m)]) rfl ?_
    simp [r_sSeq, b_law_pick, fl]
  · refine ⟨x % m, f', Int.emod_nonneg _ (by omega), Int.emod_lt_of_pos _ hm, ?_⟩
    refine fn_ret (e := [fl (some 0) f', .val (.int m)]) rfl ?_
    have h0 : ¬ ((f'.length : Int) + 1 = 0) := by omega
    simp [r_sSeq, b_law_pick, fl, hm, h0]
/-- a pick as an expression: the feed in slot i -/
theorem x_pick {i : Nat} {o : Option Nat} {f : List Int} {env : En} (m : Int) (hm : 0 < m) (he : env[i]? = some (fl o f)) : ∃ v f', 0 ≤ v ∧ v < m ∧ xCall F_law_pick (rIo i (rCons (xC (.int m)) rNil)) env = .ok (.val (.int v)) (env.set i (fl o f')) := by
  obtain ⟨v, f', h1, h2, h3⟩ := s_pick m f hm
  exact ⟨v, f', h1, h2, io1 (e := env) (by rw [he]; rfl) rfl he h3⟩
theorem s_size (most : Int) (f : List Int) (hm : 0 ≤ most) : ∃ (v : Nat) (f' : List Int), (v : Int) ≤ most ∧ v ≤ 5 ∧ F_law_size [fl (some 0) f, .val (.int most)] = .ret (.val (.int v)) [fl (some 0) f', .val (.int most)] := by
  obtain ⟨v, f', h1, h2, h3⟩ := x_pick (i := 0) (o := some 0) (f := f) (env := [fl (some 0) f, .val (.int most)]) 10 (by decide) rfl
  have main : ∀ w : Nat, atI ([.int 2, .int 3, .int 1, .int 3, .int 4, .int 2, .int 3, .int 0, .int 4, .int 5] : List D) v = some (.int w) → w ≤ 5 → ∃ (v : Nat) (f' : List Int), (v : Int) ≤ most ∧ v ≤ 5 ∧ F_law_size [fl (some 0) f, .val (.int most)] = .ret (.val (.int v)) [fl (some 0) f', .val (.int most)] := fun w hw hw5 => by
    have hr : ∃ r : Nat, (if (w : Int) < most then (w : Int) else most) = r ∧ (r : Int) ≤ most ∧ r ≤ 5 := by
      by_cases c : (w : Int) < most
      · exact ⟨w, by rw [if_pos c], by omega, hw5⟩
      · exact ⟨most.toNat, by rw [if_neg c]; omega, by omega, by omega⟩
    obtain ⟨r, r1, r2, r3⟩ := hr
    refine ⟨r, f', r2, r3, ?_⟩
    refine fn_ret (e := [fl (some 0) f', .val (.int most)]) rfl ?_
    simp only [b_law_size, List.length_cons, List.length_nil, Nat.sub_self, List.replicate_zero, List.append_nil, List.cons_append, List.nil_append]
    simp [gIx, hw, Ya.gLst, Ya.gMin2, gII, r1, h3, List.replicate]
  have hv : v = 0 ∨ v = 1 ∨ v = 2 ∨ v = 3 ∨ v = 4 ∨ v = 5 ∨ v = 6 ∨ v = 7 ∨ v = 8 ∨ v = 9 := by omega
  rcases hv with rfl | rfl | rfl | rfl | rfl | rfl | rfl | rfl | rfl | rfl
  · exact main 2 (by rfl) (by decide)
  · exact main 3 (by rfl) (by decide)
  · exact main 1 (by rfl) (by decide)
  · exact main 3 (by rfl) (by decide)
  · exact main 4 (by rfl) (by decide)
  · exact main 2 (by rfl) (by decide)
  · exact main 3 (by rfl) (by decide)
  · exact main 0 (by rfl) (by decide)
  · exact main 4 (by rfl) (by decide)
  · exact main 5 (by rfl) (by decide)
def sat (s : List (Option Int)) (i : Nat) : Option Int := s.getD i none
def hd0 (l : List Nat) : Nat := l.headD 0
/-- the places told -/
def toldL (s : List (Option Int)) : List Nat := (List.range s.length).filter fun i => (sat s i).isSome
theorem sgs_at {s : List (Option Int)} {i : Nat} (h : i < s.length) : atI (sgs s) (i : Nat) = some (sg (sat s i)) := by
  have : (sgs s)[i]? = some (sg (sat s i)) := by
    unfold sgs
    rw [List.getElem?_map, List.getElem?_eq_getElem h]
    simp [sat, List.getD, List.getElem?_eq_getElem h]
  exact atI_nat this
theorem sgs_len {s : List (Option Int)} : (sgs s).length = s.length := by simp [sgs]
theorem nis_sg (x : Option Int) : gNis (sg x) .non = some (.val (.bl x.isSome)) := by cases x <;> rfl
theorem is_sg (x : Option Int) : gIs (sg x) .non = some (.val (.bl x.isNone)) := by cases x <;> rfl
theorem s_told (s : List (Option Int)) (h : s.length ≤ 1000000) : F_law_told [.val (.lst (sgs s))] = .ret (.own none (.lst ((toldL s).map fun i => .int (i : Nat)))) [.val (.lst (sgs s))] := by
  refine fn_ret (e := [.val (.lst (sgs s)), .und]) rfl ?_
  unfold b_law_told
  rw [r_sRet]
  have e := lcR (j := 1) (env := [.val (.lst (sgs s)), .und]) (env0 := [.val (.lst (sgs s)), .und]) (n := s.length) (fi := iRg1 (aCons (xN gLen (aCons (xVar 0) aNil)) aNil)) (t := uTst (x2 gNis (x2 gIx (xVar 0) (xVar 1)) (xC .non))) (f := xVar 1)
    (by rw [rg1 (m := (s.length : Int)) (env0 := [.val (.lst (sgs s)), .und]) (by simp [sgs_len]) (by omega) (by omega)]; simp) h (fun i => (sat s i).isSome) (fun i => .int (i : Nat))
    (fun i hi => by simp [gIx, sgs_at hi, nis_sg]) (fun i hi _ => ⟨_, by simp; rfl, rfl⟩)
  show (xLc [1] _ _ _ _ [S.val (.lst (sgs s)), .und]).bind _ = _
  rw [e]
  rfl
theorem ne_sg (a b : Option Int) : gNe (sg a) (sg b) = some (.val (.bl (a != b))) := by
  cases a with
  | none => cases b <;> rfl
  | some i =>
    cases b with
    | none => rfl
    | some j =>
      show some (S.val (D.bl (!(i == j)))) = some (.val (.bl (some i != some j)))
      congr 3
theorem toldL_lt {s : List (Option Int)} {i : Nat} (h : i ∈ toldL s) : i < s.length := by
  unfold toldL at h
  exact List.mem_range.mp (List.mem_filter.mp h).1
def liveB (s : List (Option Int)) : Bool := (toldL s).any fun i => sat s i != sat s (hd0 (toldL s))
theorem s_live (s : List (Option Int)) (h : s.length ≤ 1000000) : F_law_live [.val (.lst (sgs s))] = .ret (.val (.bl (liveB s))) [.val (.lst (sgs s))] := by
  refine fn_ret (e := [.val (.lst (sgs s)), .val (.lst ((toldL s).map fun i => .int (i : Nat))), .und]) rfl ?_
  unfold b_law_live
  have e1 : sSet 1 (xCall F_law_told (rCons (xVar 0) rNil)) [S.val (.lst (sgs s)), .und, .und] = .ok .nx [S.val (.lst (sgs s)), .own none (.lst ((toldL s).map fun i => .int (i : Nat))), .und] := by
    have := s_told s h
    simp [this]
  have tl : (toldL s).length ≤ 1000000 := Nat.le_trans (by unfold toldL; exact Nat.le_trans (List.length_filter_le _ _) (by simp)) h
  have mem : ∀ d ∈ ((toldL s).map fun i => (D.int (i : Nat))), ∃ i, i ∈ toldL s ∧ d = .int (i : Nat) := fun d hd => by
    obtain ⟨i, hi, rfl⟩ := List.mem_map.mp hd
    exact ⟨i, hi, rfl⟩
  have head : ∀ i, i ∈ toldL s → atI ((toldL s).map fun i => (D.int (i : Nat))) 0 = some (.int (hd0 (toldL s) : Nat)) ∧ hd0 (toldL s) < s.length := fun i hi => by
    cases z : toldL s with
    | nil => rw [z] at hi; cases hi
    | cons a r => exact ⟨atI_nat (j := 0) (xs := (a :: r).map fun i => (D.int (i : Nat))) (v := .int (hd0 (a :: r) : Nat)) rfl, toldL_lt (by rw [z]; exact List.mem_cons_self)⟩
  have e2 := lcD (j := 2) (env := [S.val (.lst (sgs s)), .own none (.lst ((toldL s).map fun i => .int (i : Nat))), .und]) (env0 := [S.val (.lst (sgs s)), .val (.lst ((toldL s).map fun i => .int (i : Nat))), .und]) (ds := (toldL s).map fun i => .int (i : Nat)) (fi := iData (xVarF 1))
    (t := uTst (x2 gNe (x2 gIx (xVar 0) (xVar 2)) (x2 gIx (xVar 0) (x2 gIx (xVarF 1) (xC (.int 0)))))) (f := xVar 2) (by simp [iData]) (by simpa using tl) (fun d => match d with | .int i => sat s i.toNat != sat s (hd0 (toldL s)) | _ => false) (fun d => d)
    (fun d hd => by
      obtain ⟨i, hi, rfl⟩ := mem d hd
      obtain ⟨h1, h2⟩ := head i hi
      simp [gIx, sgs_at (toldL_lt hi), h1, sgs_at h2, ne_sg]) (fun d hd _ => by
      obtain ⟨i, hi, rfl⟩ := mem d hd
      exact ⟨_, by simp; rfl, rfl⟩)
  show ((sSet 1 _ [S.val (.lst (sgs s)), .und, .und]).bind _) = _
  rw [e1]
  simp only [r_bind_ok, r_sRet, r_x2, r_xN, r_aCons, r_aNil]
  rw [e2]
  simp only [r_data_lst, r_bind_ok, g_len_l, r_opt_some, r_data_ok, r_c, g_gt_ii, List.set]
  have fin : decide ((0 : Int) < ((((toldL s).map fun i => (D.int (i : Nat))).filter (fun d => match d with | .int i => sat s i.toNat != sat s (hd0 (toldL s)) | _ => false)).map (fun d => d)).length) = liveB s := by
    unfold liveB
    rw [List.map_id', List.filter_map, List.length_map, Bool.eq_iff_iff]
    simp only [decide_eq_true_eq, List.any_eq_true]
    rw [Int.natCast_pos, List.length_pos_iff_exists_mem]
    constructor
    · rintro ⟨i, hi⟩
      obtain ⟨h1, h2⟩ := List.mem_filter.mp hi
      exact ⟨i, h1, h2⟩
    · rintro ⟨i, h1, h2⟩
      exact ⟨i, List.mem_filter.mpr ⟨h1, h2⟩⟩
  rw [fin]
/-! the program's checks -/
theorem s_isnum (i : Int) : F_is_number [.val (.int i)] = .ret (.val (.bl true)) [.val (.int i)] := by
  refine fn_ret (e := [.val (.int i)]) rfl ?_
  simp [r_sSeq, b_is_number, gIsi, tyN, isB]
theorem s_isnumN : F_is_number [.val .non] = .ret (.val (.bl false)) [.val .non] := by
  refine fn_ret (e := [.val .non]) rfl ?_
  simp [r_sSeq, b_is_number, gIsi, tyN, isB]
theorem s_ispos (i : Int) : F_is_position [.val (.int i)] = .ret (.val (.bl (decide (0 ≤ i ∧ i ≤ 1)))) [.val (.int i)] := by
  refine fn_ret (e := [.val (.int i)]) rfl ?_
  by_cases h : 0 ≤ i <;> by_cases h2 : i ≤ 1 <;> simp [r_sSeq, b_is_position, s_isnum, h, h2]
theorem s_csize (i : Int) (h : 0 ≤ i) (h2 : i ≤ 10) : F_check_size [.val (.int i)] = .ret (.val (.int i)) [.val (.int i)] := by
  refine fn_ret (e := [.val (.int i)]) rfl ?_
  simp [r_sSeq, b_check_size, s_isnum, h, h2]
theorem s_cpos (i : Int) (h : 0 ≤ i) (h2 : i ≤ 1) : F_check_position [.val (.int i)] = .ret (.val (.int i)) [.val (.int i)] := by
  refine fn_ret (e := [.val (.int i)]) rfl ?_
  simp [r_sSeq, b_check_position, s_ispos, h, h2]
theorem s_cswitch (i n : Int) (h : 0 ≤ i) (h2 : i < n) : F_check_switch [.val (.int i), .val (.int n)] = .ret (.val (.int i)) [.val (.int i), .val (.int n)] := by
  refine fn_ret (e := [.val (.int i), .val (.int n)]) rfl ?_
  simp [r_sSeq, b_check_switch, s_isnum, h, h2]
theorem s_crule (n : Nat) (s : List (Option Int)) : F_check_rule [.val (ruleD n s)] = .ret (.val (ruleD n s)) [.val (ruleD n s)] := by
  refine fn_ret (e := [.val (ruleD n s)]) rfl ?_
  simp [r_sSeq, b_check_rule, gIsiC, ruleD]
theorem s_cruleX (d : D) (h : tyN d ≠ none) (hd : ∀ c ns ds, d ≠ .ins c ns ds) : F_check_rule [.val d] = .exc "BadSigns" ["place"] [.int (-1)] [.val d] := by
  refine fn_exc (e := [.val d]) rfl ?_
  cases d <;> first | (exact absurd rfl (hd _ _ _)) | (exact absurd rfl h) | simp [r_sSeq, b_check_rule, gIsiC, tyN]
theorem attr_size (n : Nat) (s : List (Option Int)) : gAttr "Rule" "size" (ruleD n s) = some (.val (.int n)) := rfl
theorem attr_signs (n : Nat) (s : List (Option Int)) : gAttr "Rule" "signs" (ruleD n s) = some (.val (.tup (sgs s))) := rfl
theorem enumD_at {ds : List D} {j : Nat} {d : D} (h : (enumD ds)[j]? = some d) : ∃ x, ds[j]? = some x ∧ d = .tup [.int (j : Nat), x] := enumD_get h
theorem sgs_get {s : List (Option Int)} {j : Nat} {d : D} (h : (sgs s)[j]? = some d) : ∃ x, s[j]? = some x ∧ d = sg x := by
  unfold sgs at h
  rw [List.getElem?_map] at h
  cases z : s[j]? with
  | none => rw [z] at h; cases h
  | some x => rw [z] at h; injection h with h; exact ⟨x, rfl, h.symm⟩
theorem s_cpart (p : List (Option Int)) (sz : D) (hsz : sz = .non ∨ sz = .int p.length) (hp : ∀ x ∈ p, x = none ∨ x = some 0 ∨ x = some 1) : F_check_part [.val (.lst (sgs p)), .val sz] = .ret (.val (.lst (sgs p))) [.val (.lst (sgs p)), .val sz] := by
  obtain ⟨e', h1, a, b, h2⟩ := for_inv0 (gf := gxTup [2, 3]) (f := sIf (uAnd (uTst (x2 gNis (xVar 3) (xC .non))) (uNot (uTst (xCall F_is_position (rCons (xVar 3) rNil))))) sNever sNil) (ds := enumD (sgs p)) (e := [.val (.lst (sgs p)), .val sz, .und, .und]) (fun _ e => ∃ a b, e = [.val (.lst (sgs p)), .val sz, a, b]) ⟨_, _, rfl⟩
    (fun j d e hd ⟨a, b, he⟩ => by
      subst he
      obtain ⟨x, hx, rfl⟩ := enumD_at hd
      obtain ⟨y, hy, rfl⟩ := sgs_get hx
      refine ⟨_, _, rfl, .inl ?_, .int (j : Nat) |> S.val, .val (sg y), rfl⟩
      rcases hp y (List.mem_of_getElem? hy) with rfl | rfl | rfl
      · simp [setsE, sg]
      · simp [setsE, sg, s_ispos]
      · simp [setsE, sg, s_ispos])
  subst h2
  refine fn_ret (e := [.val (.lst (sgs p)), .val sz, a, b]) rfl ?_
  rcases hsz with rfl | rfl
  · simp [r_sSeq, b_check_part, gIsiLT, tyN, isB, sFor, iEnmL, h1]
  · simp [r_sSeq, b_check_part, gIsiLT, tyN, isB, sFor, iEnmL, h1, sgs_len]
/-- a rule's signs: of that length, none or not negative, one told -/
structure SgOk (n : Nat) (s : List (Option Int)) : Prop where
  n10 : n ≤ 10
  len : s.length = 2 ^ n
  pos : ∀ x ∈ s, ∀ i, x = some i → 0 ≤ i
  told : ∃ x ∈ s, x ≠ none
theorem isN_all (s : List (Option Int)) : gAllL [.lst (s.map fun x => D.bl x.isNone)] = some (.val (.bl (s.all fun x => x.isNone))) := by
  have e : (s.map fun x => D.bl x.isNone) = (s.map fun x => x.isNone).map D.bl := by rw [List.map_map]; rfl
  rw [e]
  show ((blsOf ((s.map fun x => x.isNone).map D.bl)).map fun bs => S.val (.bl (bs.all id))) = _
  rw [blsOf_map]
  simp [List.all_map]
theorem x_lcN {env : En} {i j : Nat} {s : List (Option Int)} (hi : env[i]? = some (.val (.lst (sgs s)))) (hj : j < env.length) (hs : s.length ≤ 1000000) (hij : i ≠ j) : xLc [j] (iData (xVar i)) (gxName j) uYes (x2 gIs (xVar j) (xC .non)) env = .ok (.own none (.lst (s.map fun x => D.bl x.isNone))) (env.set j .und) := by
  have e := lcD' (j := j) (env := env) (env0 := env) (ds := sgs s) (fi := iData (xVar i)) (f := x2 gIs (xVar j) (xC .non)) (by simp [iData, hi]) (by rw [sgs_len]; exact hs) (fun d => match d with | .non => .bl true | _ => .bl false) (fun d hd => by
    obtain ⟨x, _, rfl⟩ := List.mem_map.mp hd
    have hj2 : ((env.set j S.und).set j (.val (sg x)))[j]? = some (.val (sg x)) := by rw [List.getElem?_set]; simp [hj]
    refine ⟨.val (.bl x.isNone), ?_, ?_⟩
    · simp only [r_x2, r_var, hj2, r_data_ok, r_c, is_sg, r_opt_some]
    · cases x <;> rfl)
  rw [e]
  have e2 : ((sgs s).map fun d => match d with | .non => D.bl true | _ => .bl false) = s.map fun x => D.bl x.isNone := by
    unfold sgs
    rw [List.map_map]
    apply List.map_congr_left
    intro x _
    cases x <;> rfl
  rw [e2]
theorem s_init {n : Nat} {s : List (Option Int)} (h : SgOk n s) : ∃ ss, F_Rule___init [.own (some 0) (.obj "Rule" [] []), .val (.int n), .val (.lst (sgs s))] = .ret (.val .non) (.own (some 0) (.obj "Rule" ["size", "signs"] [.int n, .tup (sgs s)]) :: ss) := by
  have hlen : s.length ≤ 1000000 := by rw [h.len]; exact Nat.le_trans (Nat.pow_le_pow_right (by decide) h.n10) (by decide)
  obtain ⟨e', h1, a, b, h2⟩ := for_inv0 (gf := gxTup [3, 4]) (f := sIf (uAnd (uTst (x2 gNis (xVar 4) (xC .non))) (uOr (uNot (uTst (xCall F_is_number (rCons (xVar 4) rNil)))) (uTst (x2 gLt (xVar 4) (xC (.int 0)))))) sNever sNil) (ds := enumD (sgs s))
    (e := [.own (some 0) (.obj "Rule" [] []), .val (.int n), .val (.lst (sgs s)), .und, .und, .und]) (fun _ e => ∃ a b, e = [.own (some 0) (.obj "Rule" [] []), .val (.int n), .val (.lst (sgs s)), a, b, .und]) ⟨_, _, rfl⟩
    (fun j d e hd ⟨a, b, he⟩ => by
      subst he
      obtain ⟨x, hx, rfl⟩ := enumD_at hd
      obtain ⟨y, hy, rfl⟩ := sgs_get hx
      refine ⟨_, _, rfl, .inl ?_, .int (j : Nat) |> S.val, .val (sg y), rfl⟩
      cases y with
      | none => simp [setsE, sg]
      | some v =>
        have := h.pos _ (List.mem_of_getElem? hy) v rfl
        have h0 : ¬ v < 0 := by omega
        simp [setsE, sg, s_isnum, h0])
  subst h2
  have hall : (s.all fun x => x.isNone) = false := by
    obtain ⟨x, hx, hn⟩ := h.told
    rw [List.all_eq_false]
    exact ⟨x, hx, by cases x with | none => exact absurd rfl hn | some v => simp⟩
  have hA := x_lcN (env := [.own (some 0) (.obj "Rule" [] []), .val (.int n), .val (.lst (sgs s)), a, b, .und]) (i := 2) (j := 5) rfl (by simp) hlen (by decide)
  have e2 : ((s.length : Int) == 2 ^ (n : Int).toNat) = true := by
    rw [h.len, Int.toNat_natCast]; simp
  refine ⟨_, fn_nx (e := [.own (some 0) (.obj "Rule" ["size", "signs"] [.int n, .tup (sgs s)]), .val (.int n), .val (.lst (sgs s)), a, b, .und]) rfl ?_⟩
  have hn0 : (0 : Int) ≤ (n : Int) := by omega
  have hn1 : (n : Int) ≤ 1000000 := by have := h.n10; omega
  have hcs := s_csize (n : Int) hn0 (by have := h.n10; omega)
  simp [r_sSeq, b_Rule___init, hcs, gIsiLT, tyN, isB, sgs_len, hn1, h.len, sFor, iEnmL, h1, sAttr, putN, gTuple, hA, isN_all, hall, show ¬ (Str.ofString "size" = Str.ofString "signs") by decide]
theorem x_make {n : Nat} {s : List (Option Int)} (h : SgOk n s) {fa : Xa} {env e : En} (hf : fa env = .ok [.int n, .lst (sgs s)] e) : xMake "Rule" F_Rule___init fa env = .ok (.own none (.obj "Rule" ["size", "signs"] [.int n, .tup (sgs s)])) e := by
  obtain ⟨ss, q⟩ := s_init h
  unfold xMake
  rw [hf]
  show makeF "Rule" F_Rule___init [.int n, .lst (sgs s)] e = _
  unfold makeF
  show (match F_Rule___init [.own (some 0) (.obj "Rule" [] []), .val (.int n), .val (.lst (sgs s))] with
  | .ret (.val .non) (.own (some 0) (.obj c ns xs) :: _) => Res.ok (S.own none (.obj c ns xs)) e
  | .exc c ns xs _ => .exc c ns xs e
  | _ => .bad) = _
  rw [q]
  rfl
end K67

set_option maxHeartbeats 4000000
namespace K67
open PySem PySem.Spec PyProof.Rows L2 Ya
/-! stepping: the first thing that is stuck comes to the front -/
section
variable {α β γ : Type} {e env env0 : En} {i j : Nat}
@[simp] theorem q_bb {r : Res α} {k : α → En → Res β} {k2 : β → En → Res γ} : (r.bind k).bind k2 = r.bind fun a e => (k a e).bind k2 := by cases r <;> rfl
@[simp] theorem q_db {r : Res S} {k : D → En → Res β} {k2 : β → En → Res γ} : (r.data k).bind k2 = r.data fun a e => (k a e).bind k2 := by
  cases r with
  | ok a e => unfold Res.data; dsimp only; cases frz a <;> rfl
  | exc => rfl
  | bad => rfl
@[simp] theorem q_bd {r : Res α} {k : α → En → Res S} {k2 : D → En → Res γ} : (r.bind k).data k2 = r.bind fun a e => (k a e).data k2 := by cases r <;> rfl
@[simp] theorem q_dd {r : Res S} {k : D → En → Res S} {k2 : D → En → Res γ} : (r.data k).data k2 = r.data fun a e => (k a e).data k2 := by
  cases r with
  | ok a e => unfold Res.data; dsimp only; cases frz a <;> rfl
  | exc => rfl
  | bad => rfl
@[simp] theorem q_for {fi : Xi} {gf : Xg} {f : Xs} : sFor fi gf f env = (fi env).bind fun ds e => forS gf f ds e := rfl
def rgK : List D → En → Res (List D) := fun ds e => match ds with | [.int m] => if small62 m = true then .ok (rngD 0 m.toNat) e else .bad | _ => .bad
theorem q_rg {fa : Xa} : iRg1 fa env = (fa env).bind rgK := rfl
theorem q_rgK {m : Int} (h0 : 0 ≤ m) (h2 : m ≤ 1000000) : rgK [.int m] e = .ok (rngD 0 m.toNat) e := by
  show (if small62 m = true then _ else _) = _
  rw [if_pos (by unfold small62; simp; omega)]
@[simp] theorem q_data {f : Xp} : iData f env = (f env).data fun d e => match d with | .lst ds => .ok ds e | .scr ns => .ok (ns.map D.int) e | _ => .bad := rfl
@[simp] theorem q_dataT {f : Xp} : iDataT f env = (f env).data fun d e => match d with | .tup ds => .ok ds e | _ => .bad := rfl
@[simp] theorem q_enmT {f : Xa} : iEnmT f env = (f env).bind fun ds e => match ds with | [.tup xs] => .ok (enumD xs) e | _ => .bad := rfl
@[simp] theorem q_enmL {f : Xa} : iEnmL f env = (f env).bind fun ds e => match ds with | [.lst xs] => .ok (enumD xs) e | _ => .bad := rfl
theorem fn_val {n N : Nat} {b : Xs} {ds : List D} {r : S} (hn : ds.length = n) (h : ∃ e, b (ds.map S.val ++ List.replicate (N - n) .und) = .ok (.rt r) e) : fnD n N b (ds.map S.val) = .ret r (ds.map S.val) := by
  obtain ⟨e, h⟩ := h
  rw [fn_ret (by rw [List.length_map]; exact hn) h, ends_val fun s hs => by
    obtain ⟨d, _, rfl⟩ := List.mem_map.mp hs; exact ⟨d, rfl⟩]
theorem fn_valN {n N : Nat} {b : Xs} {ds : List D} (hn : ds.length = n) (h : ∃ e, b (ds.map S.val ++ List.replicate (N - n) .und) = .ok .nx e) : fnD n N b (ds.map S.val) = .ret (.val .non) (ds.map S.val) := by
  obtain ⟨e, h⟩ := h
  rw [fn_nx (by rw [List.length_map]; exact hn) h, ends_val fun s hs => by
    obtain ⟨d, _, rfl⟩ := List.mem_map.mp hs; exact ⟨d, rfl⟩]
theorem fn_valX {n N : Nat} {b : Xs} {ds xs : List D} {c : Str} {ns : List Str} (hn : ds.length = n) (h : ∃ e, b (ds.map S.val ++ List.replicate (N - n) .und) = .exc c ns xs e) : fnD n N b (ds.map S.val) = .exc c ns xs (ds.map S.val) := by
  obtain ⟨e, h⟩ := h
  rw [fn_exc (by rw [List.length_map]; exact hn) h, ends_val fun s hs => by
    obtain ⟨d, _, rfl⟩ := List.mem_map.mp hs; exact ⟨d, rfl⟩]
/-- a loop that may return early, then the rest -/
theorem for_qi {gf : Xg} {f : Xs} {k : Fl → En → Res β} (Q : Res β → Prop) (I : Nat → En → Prop) : ∀ (ds : List D) (i : Nat) (e : En), I i e → (∀ j d e, ds[j]? = some d → I (i + j) e → ∃ e1, gf d e = some e1 ∧
      ((∃ e2, (f e1 = .ok .nx e2 ∨ f e1 = .ok .ct e2) ∧ I (i + j + 1) e2) ∨ (∃ r e2, f e1 = .ok (.rt r) e2 ∧ Q (k (.rt r) e2)) ∨ (∃ c ns xs e2, f e1 = .exc c ns xs e2 ∧ Q (.exc c ns xs e2)))) →
    (∀ e', I (i + ds.length) e' → Q (k .nx e')) → Q ((forS gf f ds e).bind k)
  | [], i, e, h, _, hk => hk e h
  | d :: ds, i, e, h, hs, hk => by
    obtain ⟨e1, h1, h2⟩ := hs 0 d e rfl h
    unfold forS
    rw [h1]
    rcases h2 with ⟨e2, h2, h3⟩ | ⟨r, e2, h2, h3⟩ | ⟨c, ns, xs, e2, h2, h3⟩
    · have q := for_qi (k := k) (gf := gf) (f := f) Q I ds (i + 1) e2 h3 (fun j d' e3 hd hI => by
        have := hs (j + 1) d' e3 (by simpa using hd) (by rw [show i + (j + 1) = i + 1 + j by omega]; exact hI)
        rw [show i + (j + 1) + 1 = i + 1 + j + 1 by omega] at this
        exact this) (fun e' h' => hk e' (by rw [List.length_cons, show i + (ds.length + 1) = i + 1 + ds.length by omega]; exact h'))
      rcases h2 with h2 | h2
      · simp only [h2]; exact q
      · simp only [h2]; exact q
    · simp only [h2]; exact h3
    · simp only [h2]; exact h3
theorem for_q {gf : Xg} {f : Xs} {ds : List D} {k : Fl → En → Res β} (Q : Res β → Prop) (I : Nat → En → Prop) (h : I 0 e) (hs : ∀ j d e, ds[j]? = some d → I j e → ∃ e1, gf d e = some e1 ∧
      ((∃ e2, (f e1 = .ok .nx e2 ∨ f e1 = .ok .ct e2) ∧ I (j + 1) e2) ∨ (∃ r e2, f e1 = .ok (.rt r) e2 ∧ Q (k (.rt r) e2)) ∨ (∃ c ns xs e2, f e1 = .exc c ns xs e2 ∧ Q (.exc c ns xs e2))))
    (hk : ∀ e', I ds.length e' → Q (k .nx e')) : Q ((forS gf f ds e).bind k) :=
  for_qi Q I ds 0 e h (fun j d e hd hI => by rw [Nat.zero_add] at hI ⊢; exact hs j d e hd hI) fun e' h' => hk e' (by rwa [Nat.zero_add] at h')
theorem rng_at {n i : Nat} {d : D} (hd : (rngD 0 (n : Nat))[i]? = some d) : i < n ∧ d = .int (i : Nat) := by
  unfold rngD at hd
  rw [List.getElem?_map] at hd
  cases z : (List.range n)[i]? with
  | none => rw [z] at hd; cases hd
  | some w =>
    rw [z] at hd
    obtain ⟨z1, z2⟩ := List.getElem?_eq_some_iff.mp z
    rw [List.getElem_range] at z2
    subst z2
    injection hd with hd
    exact ⟨by simpa using z1, by rw [← hd]; show D.int (0 + (i : Int)) = _; rw [Int.zero_add]⟩
/-- over a range, one name -/
theorem for_r {f : Xs} {n : Nat} {k : Fl → En → Res β} (Q : Res β → Prop) (I : Nat → En → Prop) (h : I 0 e) (hs : ∀ i e, i < n → I i e → (∃ e2, f (e.set j (.val (.int (i : Nat)))) = .ok .nx e2 ∧ I (i + 1) e2) ∨ (∃ r e2, f (e.set j (.val (.int (i : Nat)))) = .ok (.rt r) e2 ∧ Q (k (.rt r) e2)))
    (hk : ∀ e', I n e' → Q (k .nx e')) : Q ((forS (gxName j) f (rngD 0 (n : Nat)) e).bind k) := by
  refine for_q Q I h (fun i d e hd hI => ?_) fun e' h' => hk e' (by rwa [rngD_len] at h')
  obtain ⟨hi, rfl⟩ := rng_at hd
  rcases hs i e hi hI with ⟨e2, h1, h2⟩ | ⟨r, e2, h1, h2⟩
  · exact ⟨_, rfl, .inl ⟨e2, .inl h1, h2⟩⟩
  · exact ⟨_, rfl, .inr (.inl ⟨r, e2, h1, h2⟩)⟩
/-- how a turn may end -/
def Outc (Q : Res β → Prop) (k : Fl → En → Res β) (I : En → Prop) : Res Fl → Prop
  | .ok .nx e => I e
  | .ok .ct e => I e
  | .ok (.rt r) e => Q (k (.rt r) e)
  | .exc c ns xs e => Q (.exc c ns xs e)
  | _ => False
theorem for_o {gf : Xg} {f : Xs} {ds : List D} {k : Fl → En → Res β} (Q : Res β → Prop) (I : Nat → En → Prop) (h : I 0 e) (hs : ∀ j d e, ds[j]? = some d → I j e → ∃ e1, gf d e = some e1 ∧ Outc Q k (I (j + 1)) (f e1)) (hk : ∀ e', I ds.length e' → Q (k .nx e')) : Q ((forS gf f ds e).bind k) := by
  refine for_q Q I h (fun j d e hd hI => ?_) hk
  obtain ⟨e1, h1, h2⟩ := hs j d e hd hI
  refine ⟨e1, h1, ?_⟩
  cases hf : f e1 with
  | bad => rw [hf] at h2; exact h2.elim
  | exc c ns xs e2 => rw [hf] at h2; exact .inr (.inr ⟨_, _, _, _, rfl, h2⟩)
  | ok l e2 =>
    rw [hf] at h2
    cases l with
    | nx => exact .inl ⟨e2, .inl rfl, h2⟩
    | ct => exact .inl ⟨e2, .inr rfl, h2⟩
    | bk => exact h2.elim
    | rt r => exact .inr (.inl ⟨r, e2, rfl, h2⟩)
theorem for_ro {f : Xs} {n : Nat} {k : Fl → En → Res β} (Q : Res β → Prop) (I : Nat → En → Prop) (h : I 0 e) (hs : ∀ i e, i < n → I i e → Outc Q k (I (i + 1)) (f (e.set j (.val (.int (i : Nat)))))) (hk : ∀ e', I n e' → Q (k .nx e')) : Q ((forS (gxName j) f (rngD 0 (n : Nat)) e).bind k) := by
  refine for_o Q I h (fun i d e hd hI => ?_) fun e' h' => hk e' (by rwa [rngD_len] at h')
  obtain ⟨hi, rfl⟩ := rng_at hd
  exact ⟨_, rfl, hs i e hi hI⟩
theorem bind_id {α : Type} {r : Res α} : (r.bind fun a e => .ok a e) = r := by cases r <;> rfl
theorem for_rt {f : Xs} {n : Nat} (Q : Res Fl → Prop) (I : Nat → En → Prop) (h : I 0 e) (hs : ∀ i e, i < n → I i e → Outc Q (fun l e => .ok l e) (I (i + 1)) (f (e.set j (.val (.int (i : Nat)))))) (hk : ∀ e', I n e' → Q (.ok .nx e')) : Q (forS (gxName j) f (rngD 0 (n : Nat)) e) := by
  rw [← bind_id (r := forS (gxName j) f (rngD 0 (n : Nat)) e)]
  exact for_ro Q I h hs hk
/-- a comprehension over a range, then the rest -/
theorem lc_q {n : Nat} {fi : Xi} {t : Xt} {f : Xp} {k : D → En → Res β} (Q : Res β → Prop) (hfi : fi env = .ok (rngD 0 n) env0) (hn : n ≤ 1000000) (p : Nat → Bool) (y : Nat → D)
    (ht : ∀ i, i < n → t ((env0.set j .und).set j (.val (.int i))) = .ok (p i) ((env0.set j .und).set j (.val (.int i))))
    (hf : ∀ i, i < n → p i = true → ∃ r, f ((env0.set j .und).set j (.val (.int i))) = .ok r ((env0.set j .und).set j (.val (.int i))) ∧ frz r = some (y i))
    (hk : Q (k (.lst (((List.range n).filter p).map y)) (env0.set j .und))) : Q ((xLc [j] fi (gxName j) t f env).data k) := by
  rw [lcR hfi hn p y ht hf]; exact hk
theorem lc_qo {n : Nat} {fi : Xi} {t : Xt} {f : Xp} {k : S → En → Res β} (Q : Res β → Prop) (hfi : fi env = .ok (rngD 0 n) env0) (hn : n ≤ 1000000) (p : Nat → Bool) (y : Nat → D)
    (ht : ∀ i, i < n → t ((env0.set j .und).set j (.val (.int i))) = .ok (p i) ((env0.set j .und).set j (.val (.int i))))
    (hf : ∀ i, i < n → p i = true → ∃ r, f ((env0.set j .und).set j (.val (.int i))) = .ok r ((env0.set j .und).set j (.val (.int i))) ∧ frz r = some (y i))
    (hk : Q (k (.own none (.lst (((List.range n).filter p).map y))) (env0.set j .und))) : Q ((xLc [j] fi (gxName j) t f env).bind k) := by
  rw [lcR hfi hn p y ht hf]; exact hk
theorem lm_q {n : Nat} {fi : Xi} {f : Xp} {k : D → En → Res β} (Q : Res β → Prop) (hfi : fi env = .ok (rngD 0 n) env0) (hn : n ≤ 1000000) (y : Nat → D)
    (hf : ∀ i, i < n → ∃ r, f ((env0.set j .und).set j (.val (.int i))) = .ok r ((env0.set j .und).set j (.val (.int i))) ∧ frz r = some (y i))
    (hk : Q (k (.lst ((List.range n).map y)) (env0.set j .und))) : Q ((xLc [j] fi (gxName j) uYes f env).data k) := by
  rw [lcR' hfi hn y hf]; exact hk
theorem lm_qo {n : Nat} {fi : Xi} {f : Xp} {k : S → En → Res β} (Q : Res β → Prop) (hfi : fi env = .ok (rngD 0 n) env0) (hn : n ≤ 1000000) (y : Nat → D)
    (hf : ∀ i, i < n → ∃ r, f ((env0.set j .und).set j (.val (.int i))) = .ok r ((env0.set j .und).set j (.val (.int i))) ∧ frz r = some (y i))
    (hk : Q (k (.own none (.lst ((List.range n).map y))) (env0.set j .und))) : Q ((xLc [j] fi (gxName j) uYes f env).bind k) := by
  rw [lcR' hfi hn y hf]; exact hk
theorem ld_q {ds : List D} {fi : Xi} {t : Xt} {f : Xp} {k : D → En → Res β} (Q : Res β → Prop) (hfi : fi env = .ok ds env0) (hn : ds.length ≤ 1000000) (p : D → Bool) (y : D → D) (ht : ∀ d ∈ ds, t ((env0.set j .und).set j (.val d)) = .ok (p d) ((env0.set j .und).set j (.val d)))
    (hf : ∀ d ∈ ds, p d = true → ∃ r, f ((env0.set j .und).set j (.val d)) = .ok r ((env0.set j .und).set j (.val d)) ∧ frz r = some (y d))
    (hk : Q (k (.lst ((ds.filter p).map y)) (env0.set j .und))) : Q ((xLc [j] fi (gxName j) t f env).data k) := by
  rw [lcD hfi hn p y ht hf]; exact hk
theorem ldm_q {ds : List D} {fi : Xi} {f : Xp} {k : D → En → Res β} (Q : Res β → Prop) (hfi : fi env = .ok ds env0) (hn : ds.length ≤ 1000000) (y : D → D)
    (hf : ∀ d ∈ ds, ∃ r, f ((env0.set j .und).set j (.val d)) = .ok r ((env0.set j .und).set j (.val d)) ∧ frz r = some (y d))
    (hk : Q (k (.lst (ds.map y)) (env0.set j .und))) : Q ((xLc [j] fi (gxName j) uYes f env).data k) := by
  rw [lcD' hfi hn y hf]; exact hk
theorem ldm_qo {ds : List D} {fi : Xi} {f : Xp} {k : S → En → Res β} (Q : Res β → Prop) (hfi : fi env = .ok ds env0) (hn : ds.length ≤ 1000000) (y : D → D)
    (hf : ∀ d ∈ ds, ∃ r, f ((env0.set j .und).set j (.val d)) = .ok r ((env0.set j .und).set j (.val d)) ∧ frz r = some (y d))
    (hk : Q (k (.own none (.lst (ds.map y))) (env0.set j .und))) : Q ((xLc [j] fi (gxName j) uYes f env).bind k) := by
  rw [lcD' hfi hn y hf]; exact hk
/-- a comprehension over a range, whose environment may change -/
theorem lm_qi {n : Nat} {fi : Xi} {f : Xp} {k : D → En → Res β} (Q : Res β → Prop) (hfi : fi env = .ok (rngD 0 n) env0) (hn : n ≤ 1000000) (y : Nat → D) (P : En → Prop) (h0 : P (env0.set j .und))
    (hf : ∀ i e, i < n → P e → ∃ r e2, f (e.set j (.val (.int (i : Nat)))) = .ok r e2 ∧ frz r = some (y i) ∧ P (e2.set j .und)) (hk : ∀ e, P e → Q (k (.lst ((List.range n).map y)) e)) : Q ((xLc [j] fi (gxName j) uYes f env).data k) := by
  obtain ⟨out, e', h1, h2, h3⟩ := lc_inv (vs := [j]) (gf := gxName j) (t := uYes) (f := f) (fun i e acc => P e ∧ acc = (List.range i).map y) (rngD 0 n) 0 (env0.set j .und) [] ⟨h0, rfl⟩ (fun i d e acc hd hI => by
    rw [Nat.zero_add] at hI ⊢
    obtain ⟨hi, rfl⟩ := rng_at hd
    obtain ⟨hI, rfl⟩ := hI
    obtain ⟨r, e2, q1, q2, q3⟩ := hf i e hi hI
    exact ⟨_, rfl, .inl ⟨_, r, e2, y i, rfl, q1, q2, q3, by rw [List.range_succ, List.map_append]; rfl⟩⟩)
  rw [rngD_len, Nat.zero_add] at h3
  have e1 : xLc [j] fi (gxName j) uYes f env = .ok (.own none (.lst out)) e' := by
    unfold xLc
    rw [hfi]
    show (if (rngD 0 n).length ≤ 1000000 then _ else _) = _
    rw [if_pos (by rw [rngD_len]; exact hn)]
    show (match lcS [j] (gxName j) uYes f (rngD 0 n) (env0.set j .und) [] with | some (out, e') => Res.ok (S.own none (.lst out)) e' | none => .bad) = _
    rw [h1]
  rw [e1, h3]
  exact hk e' h2
theorem rgN {fa : Xa} {n : Nat} (h : fa env = .ok [.int n] env0) (h2 : n ≤ 1000000) : iRg1 fa env = .ok (rngD 0 n) env0 := by rw [rg1 h (by omega) (by omega), Int.toNat_natCast]
theorem seq_q {p q : Xs} (Q : Res Fl → Prop) (h : Q ((p env).bind fun l e => match l with | .nx => q e | l => .ok l e)) : Q (sSeq p q env) := h
theorem intsOf_map2 : ∀ (l : List Nat) (g : Nat → Int), intsOf (l.map fun i => D.int (g i)) = some (l.map g)
  | [], _ => rfl
  | a :: l, g => by
    rw [List.map_cons]
    show (intsOf (l.map fun i => D.int (g i))).map (g a :: ·) = _
    rw [intsOf_map2 l g]; rfl
/-! lists over a range, by place -/
theorem atR {g : Nat → D} {c i : Nat} (h : i < c) : atI ((List.range c).map g) (i : Nat) = some (g i) := atI_nat (j := i) (xs := (List.range c).map g) (v := g i) (by simp [h])
end
theorem r_call3 {F : Fn} {f g h : Xp} {env : En} : xCall F (rCons f (rCons g (rCons h rNil))) env = (f env).data fun d e => (g e).data fun d2 e2 => (h e2).data fun d3 e3 => ofF (F [.val d, .val d2, .val d3]) e3 := by
  cases hf : f env with
  | bad => unfold xCall rCons; rw [hf]; rfl
  | exc c ns ds e => unfold xCall rCons; rw [hf]; rfl
  | ok r e =>
    cases hz : frz r with
    | none => unfold xCall rCons Res.data; rw [hf]; simp only [hz]; rfl
    | some d =>
      rw [show (Res.ok r e).data (fun d e => (g e).data fun d2 e2 => (h e2).data fun d3 e3 => ofF (F [.val d, .val d2, .val d3]) e3) = (g e).data fun d2 e2 => (h e2).data fun d3 e3 => ofF (F [.val d, .val d2, .val d3]) e3 from by unfold Res.data; simp only [hz]]
      cases hg : g e with
      | bad => unfold xCall rCons Res.data; rw [hf]; simp only [hz, hg]; rfl
      | exc c ns ds e => unfold xCall rCons Res.data; rw [hf]; simp only [hz, hg]; rfl
      | ok r2 e2 =>
        cases hz2 : frz r2 with
        | none => unfold xCall rCons Res.data; rw [hf]; simp only [hz, hg, hz2]; rfl
        | some d2 =>
          rw [show (Res.ok r2 e2).data (fun d2 e2 => (h e2).data fun d3 e3 => ofF (F [.val d, .val d2, .val d3]) e3) = (h e2).data fun d3 e3 => ofF (F [.val d, .val d2, .val d3]) e3 from by unfold Res.data; simp only [hz2]]
          cases hh : h e2 with
          | bad => unfold xCall rCons Res.data; rw [hf]; simp only [hz, hg, hz2, hh]; rfl
          | exc c ns ds e => unfold xCall rCons Res.data; rw [hf]; simp only [hz, hg, hz2, hh]; rfl
          | ok r3 e3 =>
            cases hz3 : frz r3 with
            | none => unfold xCall rCons Res.data; rw [hf]; simp only [hz, hg, hz2, hh, hz3]; rfl
            | some d3 =>
              rw [call_inl (ds := [d, d2, d3]) (e := e3) (by unfold rCons rNil Res.data; rw [hf]; simp only [hz, hg, hz2, hh, hz3]; rfl)]
              unfold Res.data; simp only [hz3]; rfl
/-- calls whose arguments are plain -/
theorem r_callN {F : Fn} {fr : Xr} {env e : En} {ds : List D} (h : fr env = .ok (ds.map .inl) e) : xCall F fr env = ofF (F (ds.map .val)) e := call_inl h
end K67

set_option maxHeartbeats 4000000
namespace K67
open PySem PySem.Spec PyProof.Rows L2 Ya
/-! parts of small rules -/
def keepL (n e pos : Nat) : List Nat := (List.range (2 ^ n)).filter fun q => q / 2 ^ e % 2 == pos
def pick4 (P : Nat → Nat → Nat → Prop) (h : ∀ n, n ≤ 4 → ∀ e, e < n → ∀ pos, pos < 2 → P n e pos) : True := trivial
/-- all small cases -/
theorem small4 {P : Nat → Nat → Nat → Prop} (h10 : P 1 0 0) (h11 : P 1 0 1) (h20 : P 2 0 0) (h21 : P 2 0 1) (h22 : P 2 1 0) (h23 : P 2 1 1) (h30 : P 3 0 0) (h31 : P 3 0 1) (h32 : P 3 1 0) (h33 : P 3 1 1) (h34 : P 3 2 0) (h35 : P 3 2 1)
    (h40 : P 4 0 0) (h41 : P 4 0 1) (h42 : P 4 1 0) (h43 : P 4 1 1) (h44 : P 4 2 0) (h45 : P 4 2 1) (h46 : P 4 3 0) (h47 : P 4 3 1) (n e pos : Nat) (hn : n ≤ 4) (he : e < n) (hp : pos < 2) : P n e pos := by
  have hn' : n = 1 ∨ n = 2 ∨ n = 3 ∨ n = 4 := by omega
  have hp' : pos = 0 ∨ pos = 1 := by omega
  rcases hn' with rfl | rfl | rfl | rfl
  · have he' : e = 0 := by omega
    rcases hp' with rfl | rfl <;> rcases he' with rfl <;> assumption
  · have he' : e = 0 ∨ e = 1 := by omega
    rcases hp' with rfl | rfl <;> rcases he' with rfl | rfl <;> assumption
  · have he' : e = 0 ∨ e = 1 ∨ e = 2 := by omega
    rcases hp' with rfl | rfl <;> rcases he' with rfl | rfl | rfl <;> assumption
  · have he' : e = 0 ∨ e = 1 ∨ e = 2 ∨ e = 3 := by omega
    rcases hp' with rfl | rfl <;> rcases he' with rfl | rfl | rfl | rfl <;> assumption
def SideP (n e pos : Nat) : Prop := ∀ f : Nat → D, F_law_side [.val (.int n), .val (.lst ((List.range (2 ^ n)).map f)), .val (.int e), .val (.int pos)] = .ret (.own none (.lst ((keepL n e pos).map f))) [.val (.int n), .val (.lst ((List.range (2 ^ n)).map f)), .val (.int e), .val (.int pos)]
theorem side_all (n e pos : Nat) (hn : n ≤ 4) (he : e < n) (hp : pos < 2) : SideP n e pos := by
  refine small4 ?_ ?_ ?_ ?_ ?_ ?_ ?_ ?_ ?_ ?_ ?_ ?_ ?_ ?_ ?_ ?_ ?_ ?_ ?_ ?_ n e pos hn he hp <;> (intro f; kernel_rfl)
def prow (n e pos : Nat) : List D := ((List.replicate n D.non).set e (.int pos))
def PartP (n e pos : Nat) : Prop := ∀ f : Nat → D, F_part_signs [.val (.ins "Rule" ["size", "signs"] [.int n, .tup ((List.range (2 ^ n)).map f)]), .val (.lst (prow n e pos))] = .ret (.own none (.lst ((keepL n e pos).map f))) [.val (.ins "Rule" ["size", "signs"] [.int n, .tup ((List.range (2 ^ n)).map f)]), .val (.lst (prow n e pos))]
theorem part_all (n e pos : Nat) (hn : n ≤ 4) (he : e < n) (hp : pos < 2) : PartP n e pos := by
  refine small4 ?_ ?_ ?_ ?_ ?_ ?_ ?_ ?_ ?_ ?_ ?_ ?_ ?_ ?_ ?_ ?_ ?_ ?_ ?_ ?_ n e pos hn he hp <;> (intro f; kernel_rfl)
def OpenP (n e pos : Nat) : Prop := F_open_of [.val (.lst (prow n e pos))] = .ret (.val (.tup (((List.range n).filter fun i => i != e).map fun i => .int (i : Nat)))) [.val (.lst (prow n e pos))]
theorem open_all (n e pos : Nat) (hn : n ≤ 4) (he : e < n) (hp : pos < 2) : OpenP n e pos := by
  refine small4 ?_ ?_ ?_ ?_ ?_ ?_ ?_ ?_ ?_ ?_ ?_ ?_ ?_ ?_ ?_ ?_ ?_ ?_ ?_ ?_ n e pos hn he hp <;> (unfold OpenP; kernel_rfl)
def PutP (n e pos : Nat) : Prop := F_check_part [.val (.lst (prow n e pos)), .val (.int n)] = .ret (.val (.lst (prow n e pos))) [.val (.lst (prow n e pos)), .val (.int n)]
theorem put_all (n e pos : Nat) (hn : n ≤ 4) (he : e < n) (hp : pos < 2) : PutP n e pos := by
  refine small4 ?_ ?_ ?_ ?_ ?_ ?_ ?_ ?_ ?_ ?_ ?_ ?_ ?_ ?_ ?_ ?_ ?_ ?_ ?_ ?_ n e pos hn he hp <;> (unfold PutP; kernel_rfl)
theorem open_len : ∀ n, n < 5 → ∀ e, e < n → ((List.range n).filter fun i => i != e).length = n - 1 := by decide
theorem keep_len : ∀ n, n < 5 → ∀ e, e < n → ∀ pos, pos < 2 → (keepL n e pos).length = 2 ^ (n - 1) := by decide +kernel
/-- a list by its places -/
theorem sat_map (s : List (Option Int)) {m : Nat} (h : s.length = m) : s = (List.range m).map (sat s) := by
  apply List.ext_getElem?
  intro i
  rw [List.getElem?_map]
  by_cases hi : i < m
  · rw [List.getElem?_range hi]
    simp [sat, List.getD, List.getElem?_eq_getElem (h ▸ hi)]
  · rw [List.getElem?_eq_none (by omega), List.getElem?_eq_none (by simpa using hi)]; rfl
theorem sgs_map (s : List (Option Int)) {m : Nat} (h : s.length = m) : sgs s = (List.range m).map fun i => sg (sat s i) := by
  rw [sgs]
  conv => lhs; rw [sat_map s h]
  rw [List.map_map]
  rfl
/-- the side's signs -/
def keptS (n e pos : Nat) (s : List (Option Int)) : List (Option Int) := (keepL n e pos).map (sat s)
theorem kept_sgs (n e pos : Nat) (s : List (Option Int)) : (keepL n e pos).map (fun i => sg (sat s i)) = sgs (keptS n e pos s) := by
  unfold sgs keptS; rw [List.map_map]; rfl
theorem s_side {n e pos : Nat} {s : List (Option Int)} (hn : n ≤ 4) (he : e < n) (hp : pos < 2) (hs : s.length = 2 ^ n) : F_law_side [.val (.int n), .val (.lst (sgs s)), .val (.int e), .val (.int pos)] = .ret (.own none (.lst (sgs (keptS n e pos s)))) [.val (.int n), .val (.lst (sgs s)), .val (.int e), .val (.int pos)] := by
  have h := side_all n e pos hn he hp fun i => sg (sat s i)
  rw [← sgs_map s hs, kept_sgs] at h
  exact h
theorem s_psigns {n e pos : Nat} {s : List (Option Int)} (hn : n ≤ 4) (he : e < n) (hp : pos < 2) (hs : s.length = 2 ^ n) : F_part_signs [.val (ruleD n s), .val (.lst (prow n e pos))] = .ret (.own none (.lst (sgs (keptS n e pos s)))) [.val (ruleD n s), .val (.lst (prow n e pos))] := by
  have h := part_all n e pos hn he hp fun i => sg (sat s i)
  rw [← sgs_map s hs, kept_sgs] at h
  exact h
theorem kept_ok {n e pos : Nat} {s : List (Option Int)} (h : SgOk n s) (hn : n ≤ 4) (he : e < n) (hp : pos < 2) (ht : (keptS n e pos s).all (fun x => x.isNone) = false) : SgOk (n - 1) (keptS n e pos s) := by
  refine ⟨by omega, by unfold keptS; rw [List.length_map]; exact keep_len n (by omega) e he pos hp, fun x hx i hi => ?_, ?_⟩
  · unfold keptS at hx
    obtain ⟨q, hq, rfl⟩ := List.mem_map.mp hx
    refine h.pos _ ?_ i hi
    unfold sat List.getD at hi ⊢
    cases z : s[q]? with
    | none => rw [z] at hi; cases hi
    | some y => exact List.mem_of_getElem? z
  · obtain ⟨x, hx, hn⟩ := List.all_eq_false.mp ht
    exact ⟨x, hx, fun z => by subst z; exact hn rfl⟩
theorem s_ron {n : Nat} {s : List (Option Int)} (hs : s.length ≤ 1000000) (h : s.all (fun x => x.isNone) = false → SgOk n s) : F_rule_or_none [.val (.int n), .val (.lst (sgs s))] = .ret (if s.all (fun x => x.isNone) = true then .val .non else .own none (.obj "Rule" ["size", "signs"] [.int n, .tup (sgs s)])) [.val (.int n), .val (.lst (sgs s))] := by
  refine fn_val (ds := [.int n, .lst (sgs s)]) rfl ?_
  have e1 := x_lcN (env := [.val (.int n), .val (.lst (sgs s)), .und]) (i := 1) (j := 2) rfl (by simp) hs (by decide)
  cases ha : s.all (fun x => x.isNone) with
  | true => 
    simp only [isN_all, ha, b_rule_or_none, e1, r_sSeq, r_sIf, r_uTst, r_xN, r_aCons, r_aNil, r_data_lst, r_bind_ok, q_bb, q_db, q_dd, r_opt_some, r_data_ok, List.map, List.cons_append, List.nil_append, List.length_cons, List.length_nil, Nat.sub_self, List.replicate, r_sRet, r_c, List.set]
    exact ⟨_, rfl⟩
  | false =>
    have e2 := x_make (h ha) (fa := aCons (xVar 0) (aCons (xVar 1) aNil)) (env := [.val (.int n), .val (.lst (sgs s)), .und]) (e := [.val (.int n), .val (.lst (sgs s)), .und]) (by simp)
    simp [r_sSeq, isN_all, ha, b_rule_or_none, e1, e2]
theorem s_partR {n e pos : Nat} {s : List (Option Int)} (h : SgOk n s) (hn : n ≤ 4) (he : e < n) (hp : pos < 2) : F_part [.val (ruleD n s), .val (.lst (prow n e pos))] = .ret (if (keptS n e pos s).all (fun x => x.isNone) = true then .val .non else .own none (.obj "Rule" ["size", "signs"] [.int (n - 1 : Nat), .tup (sgs (keptS n e pos s))])) [.val (ruleD n s), .val (.lst (prow n e pos))] := by
  refine fn_val (ds := [ruleD n s, .lst (prow n e pos)]) rfl ?_
  have o := open_all n e pos hn he hp
  unfold OpenP at o
  have u := put_all n e pos hn he hp
  unfold PutP at u
  have k := kept_ok h hn he hp
  have hk : (keptS n e pos s).length ≤ 1000000 := by
    unfold keptS; rw [List.length_map]; rw [keep_len n (by omega) e he pos hp]
    exact Nat.le_trans (Nat.pow_le_pow_right (by decide) (show n - 1 ≤ 3 by omega)) (by decide)
  have r := s_ron hk k
  have ol := open_len n (by omega) e he
  simp [r_sSeq, b_part, s_crule, attr_size, u, o, ol, s_psigns hn he hp h.len, r]
theorem s_tout {n e pos : Nat} {s : List (Option Int)} (h : SgOk n s) (hn : n ≤ 4) (he : e < n) (hp : pos < 2) : F_take_out [.val (ruleD n s), .val (.int e), .val (.int pos)] = .ret (if (keptS n e pos s).all (fun x => x.isNone) = true then .val .non else .own none (.obj "Rule" ["size", "signs"] [.int (n - 1 : Nat), .tup (sgs (keptS n e pos s))])) [.val (ruleD n s), .val (.int e), .val (.int pos)] := by
  refine fn_val (ds := [ruleD n s, .int e, .int pos]) rfl ?_
  have h1 := s_cswitch (e : Int) (n : Int) (by omega) (by omega)
  have h2 := s_cpos (pos : Int) (by omega) (by omega)
  have h3 : gRep (.lst [.non]) (.int n) = some (.own none (.lst (List.replicate n D.non))) := by
    show (if (0 : Int) ≤ n ∧ (n : Int) ≤ 1000000 ∧ 1 * (n : Int).toNat ≤ 1000000 then _ else _) = _
    rw [if_pos (by omega)]
    simp
  have h4 : ixN n (e : Int) = some e := by
    have hn' : n = 1 ∨ n = 2 ∨ n = 3 ∨ n = 4 := by omega
    rcases hn' with rfl | rfl | rfl | rfl
    · have : e = 0 := by omega
      subst this; rfl
    · have : e = 0 ∨ e = 1 := by omega
      rcases this with rfl | rfl <;> rfl
    · have : e = 0 ∨ e = 1 ∨ e = 2 := by omega
      rcases this with rfl | rfl | rfl <;> rfl
    · have : e = 0 ∨ e = 1 ∨ e = 2 ∨ e = 3 := by omega
      rcases this with rfl | rfl | rfl | rfl <;> rfl
  have h5 := s_partR h hn he hp
  unfold prow at h5
  simp [r_sSeq, b_take_out, s_crule, attr_size, h1, h2, h3, Ya.gLst, sPutIx, h4, h5]
end K67

set_option maxHeartbeats 4000000
namespace K67
open PySem PySem.Spec PyProof.Rows L2 Ya
/-! the law's table of costs, for at most 3 switches -/
def vD : Option (Option Int) → D | none => .str "mixed" | some x => sg x
theorem is_vD (x : Option (Option Int)) : gIs (vD x) .non = some (.val (.bl (decide (x = some none)))) := by
  match x with
  | none => rfl
  | some none => rfl
  | some (some i) => rfl
theorem eq_vD (x y : Option (Option Int)) : gEq (vD x) (vD y) = some (.val (.bl (decide (x = y)))) := by
  match x, y with
  | none, none => kernel_rfl
  | none, some none => kernel_rfl
  | none, some (some i) => kernel_rfl
  | some none, none => kernel_rfl
  | some none, some none => rfl
  | some none, some (some i) => rfl
  | some (some i), none => kernel_rfl
  | some (some i), some none => rfl
  | some (some i), some (some j) =>
    show some (S.val (D.bl (i == j))) = _
    rw [show (i == j) = decide (some (some i) = some (some j)) by
      rw [Bool.eq_iff_iff]; simp]
theorem s_blend (a b : Option (Option Int)) : F_law_blend [.val (vD a), .val (vD b)] = .ret (.val (vD (blend a b))) [.val (vD a), .val (vD b)] := by
  refine fn_val (ds := [vD a, vD b]) rfl ?_
  by_cases h1 : a = some none
  · simp [r_sSeq, b_law_blend, is_vD, h1, blend]
  · by_cases h2 : b = some none
    · simp [r_sSeq, b_law_blend, is_vD, eq_vD, h1, h2, blend]
    · by_cases h3 : a = b
      · subst h3
        simp [r_sSeq, b_law_blend, is_vD, eq_vD, h1, blend]
      · simp [r_sSeq, b_law_blend, is_vD, eq_vD, h1, h2, h3, blend]
        rfl
theorem s_digit (c w : Nat) (h0 : 0 < w) (h : w < 1073741824) : F_law_digit [.val (.int c), .val (.int w)] = .ret (.val (.int ((c / w % 3 : Nat) : Int))) [.val (.int c), .val (.int w)] := by
  refine fn_val (ds := [.int c, .int w]) rfl ?_
  have e1 : (0 : Int) < (w : Int) := by omega
  have e2 : (w : Int) < 1073741824 := by omega
  have hd : gDiv (.int c) (.int w) = some (.val (.int ((c : Int) / w))) := g_div_ii e1 e2
  simp [r_sSeq, b_law_digit, hd]
def wts (n : Nat) : List D := (List.range (n + 1)).map fun e => .int ((3 ^ e : Nat) : Int)
theorem s_weights (n : Nat) (hn : n ≤ 3) : F_law_weights [.val (.int n)] = .ret (.own none (.lst (wts n))) [.val (.int n)] := by
  have hn' : n = 0 ∨ n = 1 ∨ n = 2 ∨ n = 3 := by omega
  rcases hn' with rfl | rfl | rfl | rfl <;> kernel_rfl
theorem wts_at {n e : Nat} (h : e ≤ n) : atI (wts n) (e : Nat) = some (.int ((3 ^ e : Nat) : Int)) := atR (g := fun e => .int ((3 ^ e : Nat) : Int)) (by omega)
def freeL (n c : Nat) : List Nat := (List.range n).filter fun e => c / 3 ^ e % 3 == 2
def plc (n c : Nat) : Nat := ((List.range n).map fun e => if c / 3 ^ e % 3 = 1 then 2 ^ e else 0).sum
theorem tab_step : ∀ n, n < 4 → ∀ c, c < 3 ^ n → ∀ e, e ∈ freeL n c → 2 * 3 ^ e ≤ c ∧ freeL n (c - 2 * 3 ^ e) = (freeL n c).erase e ∧ plc n (c - 2 * 3 ^ e) = plc n c ∧ freeL n (c - 3 ^ e) = (freeL n c).erase e ∧ plc n (c - 3 ^ e) = plc n c + 2 ^ e := by decide +kernel
theorem tab_leaf : ∀ n, n < 4 → ∀ c, c < 3 ^ n → freeL n c = [] → ((List.range n).map fun e => (c / 3 ^ e % 3) * 2 ^ e).sum = plc n c ∧ plc n c < 2 ^ n := by decide +kernel
theorem tab_end : ∀ n, n < 4 → freeL n (3 ^ n - 1) = List.range n ∧ plc n (3 ^ n - 1) = 0 := by decide +kernel
def sv (f : Sg) (n c : Nat) : Option (Option Int) := bl f (freeL n c) (plc n c)
def cv (f : Sg) (n c : Nat) : Nat := cost f (freeL n c).length (freeL n c) (plc n c)
def seL (f : Sg) (n c : Nat) : List D := (List.range c).map fun i => vD (sv f n i)
def coL (f : Sg) (n c : Nat) : List D := (List.range c).map fun i => .int (cv f n i : Nat)
theorem seL_succ (f : Sg) (n c : Nat) : seL f n (c + 1) = seL f n c ++ [vD (sv f n c)] := by unfold seL; rw [List.range_succ, List.map_append]; rfl
theorem coL_succ (f : Sg) (n c : Nat) : coL f n (c + 1) = coL f n c ++ [.int (cv f n c : Nat)] := by unfold coL; rw [List.range_succ, List.map_append]; rfl
theorem seL_len (f : Sg) (n c : Nat) : (seL f n c).length = c := by simp [seL]
theorem coL_len (f : Sg) (n c : Nat) : (coL f n c).length = c := by simp [coL]
theorem seL_at {f : Sg} {n c i : Nat} (h : i < c) : atI (seL f n c) (i : Nat) = some (vD (sv f n i)) := atR (g := fun i => vD (sv f n i)) h
theorem coL_at {f : Sg} {n c i : Nat} (h : i < c) : atI (coL f n c) (i : Nat) = some (.int (cv f n i : Nat)) := atR (g := fun i => .int (cv f n i : Nat)) h
theorem intsOf_map : ∀ (l : List Nat) (g : Nat → Int), intsOf (l.map fun i => D.int (g i)) = some (l.map g)
  | [], _ => rfl
  | a :: l, g => by
    rw [List.map_cons]
    show (intsOf (l.map fun i => D.int (g i))).map (g a :: ·) = _
    rw [intsOf_map l g]; rfl
theorem free_map (n c : Nat) : (((List.range n).filter fun i => c / 3 ^ i % 3 == 2).map fun i => D.int (i : Nat)) = (freeL n c).map fun i => D.int (i : Nat) := rfl
theorem gShl_d (d e : Nat) (hd : d < 3) (he : e ≤ 1000000) : gShl (.int d) (.int e) = some (.val (.int ((d * 2 ^ e : Nat) : Int))) := by
  show (if cPow d e = true then _ else _) = _
  rw [if_pos (by unfold cPow; simp; omega)]
  show some (S.val (D.int ((d : Int) * 2 ^ (e : Int).toNat))) = _
  rw [Int.toNat_natCast]
  congr 3
theorem g_mul2 (j : Int) : gMul (.int 2) (.int j) = some (.val (.int (2 * j))) := by
  show (if cMul 2 j = true then some (S.val (.int (2 * j))) else none) = _
  rw [if_pos (by simp [cMul])]
theorem sum_cast (l : List Nat) : (l.map fun i => ((i : Nat) : Int)).sum = ((l.sum : Nat) : Int) := by
  induction l with
  | nil => rfl
  | cons a l ih => rw [List.map_cons, List.sum_cons, ih, List.sum_cons]; omega
def mAt (M : List Nat) (i : Nat) : Nat := M.getD i 0
theorem mAt_range (M : List Nat) : ((List.range M.length).map fun i => 1 + mAt M i) = M.map fun m => 1 + m := by
  apply List.ext_getElem?
  intro i
  rw [List.getElem?_map, List.getElem?_map]
  by_cases h : i < M.length
  · rw [List.getElem?_range h]; show some (1 + M[i]?.getD 0) = _; rw [List.getElem?_eq_getElem h]; rfl
  · rw [List.getElem?_eq_none (by simpa using h), List.getElem?_eq_none (by omega)]; rfl
theorem foldl_cast : ∀ (l : List Nat) (a : Nat) (g : Nat → Nat), (l.map fun i => ((g i : Nat) : Int)).foldl min (a : Int) = (((l.map g).foldl min a : Nat) : Int)
  | [], a, g => rfl
  | b :: l, a, g => by
    rw [List.map_cons, List.map_cons, List.foldl_cons, List.foldl_cons, ← foldl_cast l (min a (g b)) g]
    congr 1
    omega
theorem leastI_nat (l : List Nat) (g : Nat → Nat) : leastI (l.map fun i => ((g i : Nat) : Int)) = ((leastN (l.map g) : Nat) : Int) := by
  cases l with
  | nil => rfl
  | cons a l => exact foldl_cast l (g a) g
def TI (n : Nat) (s : List (Option Int)) (c : Nat) (e : En) : Prop := ∃ x6 x7 x8 x9 x10 x11, e = [.val (.int n), .val (.lst (sgs s)), .val (.lst (List.replicate n (.int 1))), .val (.lst (wts n)), .own none (.lst (seL (sat s) n c)), .own none (.lst (coL (sat s) n c)), x6, x7, x8, x9, x10, x11, .und, .und]
def TQ (n : Nat) (s : List (Option Int)) (c : Nat) (R : Res Fl) : Prop := ∃ e2, R = Res.ok Fl.nx e2 ∧ TI n s (c + 1) e2
theorem s_table {n : Nat} {s : List (Option Int)} (hn : n ≤ 3) (hs : s.length = 2 ^ n) : F_law_table [.val (.int n), .val (.lst (sgs s)), .val (.lst (List.replicate n (.int 1)))] = .ret (.own none (.lst (coL (sat s) n (3 ^ n)))) [.val (.int n), .val (.lst (sgs s)), .val (.lst (List.replicate n (.int 1)))] := by
  refine fn_val (ds := [.int n, .lst (sgs s), .lst (List.replicate n (.int 1))]) rfl ?_
  have w0 := s_weights n hn
  have w1 := wts_at (n := n) (e := n) (Nat.le_refl _)
  have p3 : 3 ^ n ≤ 27 := Nat.le_trans (Nat.pow_le_pow_right (by decide) hn) (by decide)
  have p4 : (3 : Int) ^ n = ((3 ^ n : Nat) : Int) := by simp
  unfold b_law_table
  refine seq_q (fun R => ∃ e, R = Res.ok (Fl.rt (.own none (.lst (coL (sat s) n (3 ^ n))))) e) ?_
  simp -implicitDefEqProofs [w0]
  refine seq_q (fun R => ∃ e, R = Res.ok (Fl.rt (.own none (.lst (coL (sat s) n (3 ^ n))))) e) ?_
  simp -implicitDefEqProofs [Ya.gLst]
  refine seq_q (fun R => ∃ e, R = Res.ok (Fl.rt (.own none (.lst (coL (sat s) n (3 ^ n))))) e) ?_
  simp -implicitDefEqProofs [Ya.gLst]
  refine seq_q (fun R => ∃ e, R = Res.ok (Fl.rt (.own none (.lst (coL (sat s) n (3 ^ n))))) e) ?_
  simp -implicitDefEqProofs [gIx, w1, q_rg]
  rw [p4]
  generalize hN : 3 ^ n = N at p3 w1 p4 ⊢
  rw [q_rgK (by omega) (by omega), Int.toNat_natCast]
  simp only [r_bind_ok, q_bb]
  refine for_r (fun R => ∃ e, R = Res.ok (Fl.rt (.own none (.lst (coL (sat s) n N)))) e) (TI n s) ⟨_, _, _, _, _, _, rfl⟩ ?_ ?_
  · rintro c e hc ⟨x6, x7, x8, x9, x10, x11, rfl⟩
    refine .inl ?_
    have leaf := tab_leaf n (by omega) c (by omega)
    have step := tab_step n (by omega) c (by omega)
    refine seq_q (TQ n s c) ?_
    simp -implicitDefEqProofs [q_rg]
    refine lc_qo (TQ n s c) (n := n) (env0 := [.val (.int n), .val (.lst (sgs s)), .val (.lst (List.replicate n (.int 1))), .val (.lst (wts n)), .own none (.lst (seL (sat s) n c)), .own none (.lst (coL (sat s) n c)), .val (.int c), x7, x8, x9, x10, x11, .und, .und]) (rgN (by simp) (by omega)) (by omega) (fun i => c / 3 ^ i % 3 == 2) (fun i => .int (i : Nat)) ?_ ?_ ?_
    · intro i hi
      have w2 := wts_at (n := n) (e := i) (by omega)
      have d2 := s_digit c (3 ^ i) (Nat.pow_pos (by decide)) (Nat.lt_of_le_of_lt (Nat.pow_le_pow_right (by decide) (show i ≤ 3 by omega)) (by decide))
      generalize hd : c / 3 ^ i % 3 = d at d2 ⊢
      generalize hw : 3 ^ i = w at w2 d2 ⊢
      simp -implicitDefEqProofs [gIx, w2, d2]
      rw [Bool.eq_iff_iff, beq_iff_eq, beq_iff_eq]
      omega
    · intro i hi _
      exact ⟨.val (.int i), by simp, rfl⟩
    · rw [free_map]
      simp -implicitDefEqProofs
      refine seq_q (TQ n s c) ?_
      simp -implicitDefEqProofs
      refine seq_q (TQ n s c) ?_
      cases hL : freeL n c with
      | nil =>
        obtain ⟨l1, l2⟩ := leaf hL
        have hsv : sv (sat s) n c = some (sat s (plc n c)) := by unfold sv; rw [hL]; rfl
        have hcv : cv (sat s) n c = 0 := by unfold cv; rw [hL]; rfl
        simp -implicitDefEqProofs
        refine seq_q (fun R => TQ n s c (R.bind _)) ?_
        simp -implicitDefEqProofs [q_rg]
        refine lm_q (TQ n s c) (n := n) (env0 := [.val (.int n), .val (.lst (sgs s)), .val (.lst (List.replicate n (.int 1))), .val (.lst (wts n)), .own none (.lst (seL (sat s) n c)), .own none (.lst (coL (sat s) n c)), .val (.int c), .val (.lst []), .val (.int 0), x9, x10, x11, .und, .und]) (rgN (by simp) (by omega)) (by omega) (fun i => .int ((c / 3 ^ i % 3 * 2 ^ i : Nat) : Int)) ?_ ?_
        · intro i hi
          have w2 := wts_at (n := n) (e := i) (by omega)
          have d2 := s_digit c (3 ^ i) (Nat.pow_pos (by decide)) (Nat.lt_of_le_of_lt (Nat.pow_le_pow_right (by decide) (show i ≤ 3 by omega)) (by decide))
          have d3 := gShl_d (c / 3 ^ i % 3) i (Nat.mod_lt _ (by decide)) (by omega)
          generalize hd : c / 3 ^ i % 3 = d at d2 d3 ⊢
          generalize hw : 3 ^ i = w at w2 d2 ⊢
          generalize hx : d * 2 ^ i = x at d3 ⊢
          simp only [gIx, w2, d2, d3, r_x2, r_call2, r_var, r_varF, List.getElem?_set, List.getElem?_cons_succ, List.getElem?_cons_zero, r_data_ok, List.set, Option.map, r_opt_some, ofF_ret]
          exact ⟨_, rfl, rfl⟩
        · rw [show gSum [.lst ((List.range n).map fun i => D.int ((c / 3 ^ i % 3 * 2 ^ i : Nat) : Int))] = some (.val (.int ((plc n c : Nat) : Int))) by
            show ((intsOf ((List.range n).map fun i => D.int ((c / 3 ^ i % 3 * 2 ^ i : Nat) : Int))).map fun ns => S.val (.int ns.sum)) = _
            rw [intsOf_map (List.range n) fun i => ((c / 3 ^ i % 3 * 2 ^ i : Nat) : Int), ← l1, ← sum_cast, List.map_map]
            rfl]
          have g1 := sgs_at (s := s) (i := plc n c) (by omega)
          have c1 : c < 1000000 := by omega
          simp -implicitDefEqProofs [gIx, g1, seL_len, coL_len, c1]
          refine ⟨_, rfl, ?_⟩
          have q1 := seL_succ (sat s) n c
          have q2 := coL_succ (sat s) n c
          rw [hsv] at q1
          rw [hcv] at q2
          exact ⟨_, _, _, _, _, _, by rw [q1, q2]; rfl⟩
      | cons e0 R =>
        have hm : e0 ∈ freeL n c := by rw [hL]; exact List.mem_cons_self
        obtain ⟨t1, t2, t3, t4, t5⟩ := step e0 hm
        have he0 : e0 < n := by unfold freeL at hm; exact List.mem_range.mp (List.mem_filter.mp hm).1
        have hsv : sv (sat s) n c = blend (sv (sat s) n (c - 2 * 3 ^ e0)) (sv (sat s) n (c - 3 ^ e0)) := by
          unfold sv
          rw [t2, t3, t4, t5, hL, List.erase_cons_head]
          rfl
        have a0 : atI (D.int (e0 : Nat) :: (R.map fun i => D.int (i : Nat))) 0 = some (.int (e0 : Nat)) := atI_nat (j := 0) (xs := D.int (e0 : Nat) :: (R.map fun i => D.int (i : Nat))) (v := .int (e0 : Nat)) rfl
        have w2 := wts_at (n := n) (e := e0) (by omega)
        have pw : 0 < 3 ^ e0 := Nat.pow_pos (by decide)
        have b1 := seL_at (f := sat s) (n := n) (c := c) (i := c - 2 * 3 ^ e0) (by omega)
        have b2 := seL_at (f := sat s) (n := n) (c := c) (i := c - 3 ^ e0) (by omega)
        have b3 := s_blend (sv (sat s) n (c - 2 * 3 ^ e0)) (sv (sat s) n (c - 3 ^ e0))
        rw [← hsv] at b3
        generalize hw : 3 ^ e0 = w at w2 t1 b1 b2 b3 pw
        have l1 : (c : Int) - 2 * (w : Int) = ((c - 2 * w : Nat) : Int) := by omega
        have l2 : ((c - 2 * w : Nat) : Int) + (w : Int) = ((c - w : Nat) : Int) := by omega
        have c1 : c < 1000000 := by omega
        have q1 := seL_succ (sat s) n c
        have b4 := seL_at (f := sat s) (n := n) (c := c + 1) (i := c) (by omega)
        have b5 : gEq (vD (sv (sat s) n c)) (.str "mixed") = some (.val (.bl (decide (sv (sat s) n c = none)))) := eq_vD _ none
        simp -implicitDefEqProofs
        refine seq_q (fun R => TQ n s c (R.bind _)) ?_
        simp -implicitDefEqProofs [gIx, a0, w2, g_mul2, l1]
        refine seq_q (fun R => TQ n s c (R.bind _)) ?_
        simp -implicitDefEqProofs [gIx, a0, w2, b1, b2, l2, b3, seL_len, c1]
        rw [← q1]
        simp -implicitDefEqProofs [b4, b5]
        have hlen : R.length ≤ 3 := by
          have : (freeL n c).length ≤ n := by unfold freeL; exact Nat.le_trans (List.length_filter_le _ _) (by simp)
          rw [hL, List.length_cons] at this
          omega
        have q2 := coL_succ (sat s) n c
        have hcs : ∀ e ∈ e0 :: R, cv (sat s) n (c - 2 * 3 ^ e) = cost (sat s) R.length ((e0 :: R).erase e) (plc n c) ∧ cv (sat s) n (c - 3 ^ e) = cost (sat s) R.length ((e0 :: R).erase e) (plc n c + 2 ^ e) ∧ e < n ∧ 2 * 3 ^ e ≤ c := fun e he => by
          obtain ⟨t1, t2, t3, t4, t5⟩ := step e (by rw [hL]; exact he)
          have ll : ((e0 :: R).erase e).length = R.length := by rw [List.length_erase_of_mem he]; rfl
          have he' : e ∈ freeL n c := by rw [hL]; exact he
          unfold cv
          rw [t2, t3, t4, t5, hL, ll]
          refine ⟨rfl, rfl, ?_, t1⟩
          unfold freeL at he'
          exact List.mem_range.mp (List.mem_filter.mp he').1
        have hcv : cv (sat s) n c = if sv (sat s) n c = none then leastN ((e0 :: R).map fun e => 1 + max (cv (sat s) n (c - 2 * 3 ^ e)) (cv (sat s) n (c - 3 ^ e))) else 0 := by
          have e1 : cv (sat s) n c = cost (sat s) (R.length + 1) (e0 :: R) (plc n c) := by unfold cv; rw [hL]; rfl
          have e2 : sv (sat s) n c = bl (sat s) (e0 :: R) (plc n c) := by unfold sv; rw [hL]
          rw [e1, e2]
          have e3 : ((e0 :: R).map fun e => 1 + max (cv (sat s) n (c - 2 * 3 ^ e)) (cv (sat s) n (c - 3 ^ e))) = (e0 :: R).map fun e => 1 + max (cost (sat s) R.length ((e0 :: R).erase e) (plc n c)) (cost (sat s) R.length ((e0 :: R).erase e) (plc n c + 2 ^ e)) := List.map_congr_left fun e he => by
            obtain ⟨r1, r2, _⟩ := hcs e he
            rw [r1, r2]
          rw [e3]
          rfl
        by_cases hz : sv (sat s) n c = none
        · rw [if_pos hz] at hcv ⊢
          refine seq_q (fun R => TQ n s c (R.bind _)) ?_
          simp -implicitDefEqProofs
          refine ldm_qo (TQ n s c) (ds := (e0 :: R).map fun i => D.int (i : Nat)) (env0 := [.val (.int n), .val (.lst (sgs s)), .val (.lst (List.replicate n (.int 1))), .val (.lst (wts n)), .own none (.lst (seL (sat s) n (c + 1))), .own none (.lst (coL (sat s) n c)), .val (.int c), .val (.lst ((e0 :: R).map fun i => D.int (i : Nat))), .val (.int 0), x9, .val (.int (c - 2 * w : Nat)), x11, .und, .und]) (by simp) (by simp; omega) (fun d => match d with | .int i => .int ((max (cv (sat s) n (c - 2 * 3 ^ i.toNat)) (cv (sat s) n (c - 3 ^ i.toNat)) : Nat) : Int) | _ => .non) ?_ ?_
          · intro d hd
            obtain ⟨e, he, rfl⟩ := List.mem_map.mp hd
            obtain ⟨_, _, r3, r4⟩ := hcs e he
            have w3 := wts_at (n := n) (e := e) (by omega)
            have pw3 : 0 < 3 ^ e := Nat.pow_pos (by decide)
            have b6 := coL_at (f := sat s) (n := n) (c := c) (i := c - 2 * 3 ^ e) (by omega)
            have b7 := coL_at (f := sat s) (n := n) (c := c) (i := c - 3 ^ e) (by omega)
            show ∃ r, _ ∧ frz r = some (D.int ((max (cv (sat s) n (c - 2 * 3 ^ (e : Int).toNat)) (cv (sat s) n (c - 3 ^ (e : Int).toNat)) : Nat) : Int))
            rw [Int.toNat_natCast]
            generalize hw3 : 3 ^ e = w3' at w3 b6 b7 r4 pw3 ⊢
            have l3 : (c : Int) - 2 * (w3' : Int) = ((c - 2 * w3' : Nat) : Int) := by omega
            have l4 : (c : Int) - (w3' : Int) = ((c - w3' : Nat) : Int) := by omega
            generalize cv (sat s) n (c - 2 * w3') = m1 at b6 ⊢
            generalize cv (sat s) n (c - w3') = m2 at b7 ⊢
            refine ⟨.val (.int ((max m1 m2 : Nat) : Int)), ?_, rfl⟩
            simp -implicitDefEqProofs [gIx, w3, g_mul2, l3, l4, b6, b7, gII]
            omega
          · have hmm : ((e0 :: R).map fun i => D.int (i : Nat)).map (fun d => match d with | .int i => D.int ((max (cv (sat s) n (c - 2 * 3 ^ i.toNat)) (cv (sat s) n (c - 3 ^ i.toNat)) : Nat) : Int) | _ => .non) = (e0 :: R).map fun e => D.int ((max (cv (sat s) n (c - 2 * 3 ^ e)) (cv (sat s) n (c - 3 ^ e)) : Nat) : Int) := by
              rw [List.map_map]
              apply List.map_congr_left
              intro e _
              show D.int ((max (cv (sat s) n (c - 2 * 3 ^ (e : Int).toNat)) (cv (sat s) n (c - 3 ^ (e : Int).toNat)) : Nat) : Int) = _
              rw [Int.toNat_natCast]
            rw [hmm]
            generalize hM : ((e0 :: R).map fun e => max (cv (sat s) n (c - 2 * 3 ^ e)) (cv (sat s) n (c - 3 ^ e))) = M
            have hM2 : (e0 :: R).map (fun e => D.int ((max (cv (sat s) n (c - 2 * 3 ^ e)) (cv (sat s) n (c - 3 ^ e)) : Nat) : Int)) = M.map fun m => D.int (m : Nat) := by
              rw [← hM, List.map_map]; rfl
            have hMl : M.length = (e0 :: R).length := by rw [← hM, List.length_map]
            have hcv' : cv (sat s) n c = leastN (M.map fun m => 1 + m) := by
              rw [hcv, ← hM, List.map_map]; rfl
            rw [hM2]
            simp -implicitDefEqProofs
            have hMl' : M.length = R.length + 1 := by rw [hMl]; rfl
            refine lm_qi (TQ n s c) (n := M.length) (env0 := [.val (.int n), .val (.lst (sgs s)), .val (.lst (List.replicate n (.int 1))), .val (.lst (wts n)), .own none (.lst (seL (sat s) n (c + 1))), .own none (.lst (coL (sat s) n c)), .val (.int c), .val (.lst ((e0 :: R).map fun i => D.int (i : Nat))), .val (.int 0), x9, .val (.int (c - 2 * w : Nat)), .own none (.lst (M.map fun i => D.int (i : Nat))), .und, .und]) (rgN (by simp; omega) (by omega)) (by omega) (fun i => .int ((1 + mAt M i : Nat) : Int))
              (fun e => ∃ x, e = [.val (.int n), .val (.lst (sgs s)), .val (.lst (List.replicate n (.int 1))), .val (.lst (wts n)), .own none (.lst (seL (sat s) n (c + 1))), .own none (.lst (coL (sat s) n c)), .val (.int c), .val (.lst ((e0 :: R).map fun i => D.int (i : Nat))), .val (.int 0), x9, .val (.int (c - 2 * w : Nat)), x, .und, .und] ∧ (x = .own none (.lst (M.map fun i => D.int (i : Nat))) ∨ x = .val (.lst (M.map fun i => D.int (i : Nat))))) ⟨_, rfl, .inl rfl⟩ ?_ ?_
            · rintro i e hi ⟨x, rfl, hx⟩
              obtain ⟨e, he, he'⟩ : ∃ e, (e0 :: R)[i]? = some e ∧ e < n := by
                have : i < (e0 :: R).length := by rw [← hMl]; exact hi
                exact ⟨_, List.getElem?_eq_getElem this, (hcs _ (List.getElem_mem this)).2.2.1⟩
              have r1 : atI ((e0 :: R).map fun i => D.int (i : Nat)) (i : Nat) = some (.int (e : Nat)) := atI_nat (j := i) (xs := (e0 :: R).map fun i => D.int (i : Nat)) (v := .int (e : Nat)) (by rw [List.getElem?_map, he]; rfl)
              have r2 : atI (List.replicate n (D.int 1)) (e : Nat) = some (.int 1) := atI_nat (j := e) (xs := List.replicate n (D.int 1)) (v := .int 1) (by rw [List.getElem?_replicate, if_pos he'])
              have r3 : atI (M.map fun i => D.int (i : Nat)) (i : Nat) = some (.int (mAt M i : Nat)) := atI_nat (j := i) (xs := M.map fun i => D.int (i : Nat)) (v := .int (mAt M i : Nat)) (by rw [List.getElem?_map]; unfold mAt List.getD; rw [List.getElem?_eq_getElem hi]; rfl)
              refine ⟨.val (.int ((1 + mAt M i : Nat) : Int)), [.val (.int n), .val (.lst (sgs s)), .val (.lst (List.replicate n (.int 1))), .val (.lst (wts n)), .own none (.lst (seL (sat s) n (c + 1))), .own none (.lst (coL (sat s) n c)), .val (.int c), .val (.lst ((e0 :: R).map fun i => D.int (i : Nat))), .val (.int 0), x9, .val (.int (c - 2 * w : Nat)), .val (.lst (M.map fun i => D.int (i : Nat))), .und, .val (.int i)], ?_, rfl, ⟨_, rfl, .inr rfl⟩⟩
              rw [List.map_cons] at r1
              rcases hx with rfl | rfl <;> simp -implicitDefEqProofs [gIx, r1, r2, r3]
            · rintro e ⟨x, rfl, _⟩
              have g : gMinL [.lst ((List.range M.length).map fun i => D.int ((1 + mAt M i : Nat) : Int))] = some (.val (.int (cv (sat s) n c : Nat))) := by
                show (match intsOf ((List.range M.length).map fun i => D.int ((1 + mAt M i : Nat) : Int)) with | some ns => if 0 < ns.length then some (S.val (.int (leastI ns))) else none | none => none) = _
                rw [intsOf_map (List.range M.length) fun i => ((1 + mAt M i : Nat) : Int)]
                show (if 0 < ((List.range M.length).map fun i => ((1 + mAt M i : Nat) : Int)).length then some (S.val (.int (leastI ((List.range M.length).map fun i => ((1 + mAt M i : Nat) : Int))))) else none) = _
                rw [if_pos (by simp; omega), hcv', leastI_nat, mAt_range M]
              rw [g]
              simp -implicitDefEqProofs [coL_len, c1]
              refine ⟨_, rfl, ?_⟩
              exact ⟨_, _, _, _, _, _, by rw [q2]⟩
        · rw [if_neg hz] at hcv ⊢
          simp -implicitDefEqProofs [coL_len, c1]
          rw [hcv] at q2
          refine ⟨_, rfl, ?_⟩
          exact ⟨_, _, _, _, _, _, by rw [q2]; rfl⟩
  · rintro e ⟨x6, x7, x8, x9, x10, x11, rfl⟩
    simp -implicitDefEqProofs
theorem s_ask {n : Nat} {s : List (Option Int)} (hn : n ≤ 3) (hs : s.length = 2 ^ n) : F_law_ask [.val (.int n), .val (.lst (sgs s)), .val (.lst (List.replicate n (.int 1)))] = .ret (.val (.int (cost (sat s) n (List.range n) 0 : Nat))) [.val (.int n), .val (.lst (sgs s)), .val (.lst (List.replicate n (.int 1)))] := by
  refine fn_val (ds := [.int n, .lst (sgs s), .lst (List.replicate n (.int 1))]) rfl ?_
  have h := s_table hn hs
  have pos : 0 < 3 ^ n := Nat.pow_pos (by decide)
  obtain ⟨t1, t2⟩ := tab_end n (by omega)
  have hc : cv (sat s) n (3 ^ n - 1) = cost (sat s) n (List.range n) 0 := by unfold cv; rw [t1, t2, List.length_range]
  have b := coL_at (f := sat s) (n := n) (c := 3 ^ n) (i := 3 ^ n - 1) (by omega)
  rw [hc] at b
  generalize hN : 3 ^ n = N at h pos b
  have l1 : (N : Int) - 1 = ((N - 1 : Nat) : Int) := by omega
  unfold b_law_ask
  refine seq_q (fun R => ∃ e, R = Res.ok (Fl.rt (S.val (.int (cost (sat s) n (List.range n) 0 : Nat)))) e) ?_
  simp -implicitDefEqProofs [r_call3, h, coL_len, l1, gIx, b]
end K67

set_option maxHeartbeats 4000000
namespace K67
open PySem PySem.Spec PyProof.Rows L2 Ya
/-! marks of full parts -/
theorem bA (p f : Nat) : Builtin.bitAnd (p : Int) (f : Int) = ((p &&& f : Nat) : Int) := by
  rw [bitAnd_pp (by omega) (by omega)]; rfl
theorem bt (f i : Nat) : (Builtin.bitAnd ((f : Int) / 2 ^ i) 1 == 1) = f.testBit i := by
  have h1 : (f : Int) / 2 ^ i % 2 = ((f / 2 ^ i % 2 : Nat) : Int) := by simp
  rw [bitAnd_m1, h1, bit_div]
  cases f.testBit i <;> rfl
/-- handed the dict in slot 1, between data -/
theorem io_mid {F : Fn} {d0 d3 d4 : D} {c c' : C} {o o' : Option Nat} {r x0 x2 x3 : S} {env e : En} {fr : Xr} (h : fr env = .ok [.inl d0, .inr 1, .inl d3, .inl d4] e) (he : e[1]? = some (.own o c)) (hF : F [.val d0, .own (some 1) c, .val d3, .val d4] = .ret r [x0, .own o' c', x2, x3]) : xCall F fr env = .ok r (e.set 1 (.own o c')) := by
  unfold xCall
  rw [h]
  have ok : ioOk e [.inl d0, .inr 1, .inl d3, .inl d4] = true := by
    show (([1] : List Nat).all (fun i => isOwn e[i]?) && decide ([1] : List Nat).Nodup) = true
    simp [he, isOwn]
  show (if ioOk e [.inl d0, .inr 1, .inl d3, .inl d4] = true then _ else _) = _
  rw [if_pos ok]
  have ag : ([.inl d0, .inr 1, .inl d3, .inl d4] : List Ag).mapIdx (agS e) = [.val d0, .own (some 1) c, .val d3, .val d4] := by
    show [S.val d0, (match e[1]? with | some (S.own _ c) => S.own (some 1) c | _ => .und), S.val d3, S.val d4] = _
    rw [he]
  rw [ag, hF]
  show Res.ok r (backE e [.inl d0, .inr 1, .inl d3, .inl d4] [x0, .own o' c', x2, x3]) = _
  congr 1
  unfold backE
  apply List.ext_getElem?
  intro j
  rw [List.getElem?_mapIdx, List.getElem?_set]
  by_cases z : 1 = j
  · subst z
    rw [he, if_pos rfl, if_pos (List.getElem?_eq_some_iff.mp he).1]
    rfl
  · have key : ([.inl d0, .inr 1, .inl d3, .inl d4] : List Ag).findIdx? (isIo j) = none := by
      rw [List.findIdx?_eq_none_iff]
      intro x hx
      simp only [List.mem_cons, List.not_mem_nil, or_false] at hx
      rcases hx with rfl | rfl | rfl | rfl
      · rfl
      · show (1 == j) = false
        simpa using z
      · rfl
      · rfl
    rw [if_neg z]
    cases e[j]? with
    | none => rfl
    | some s =>
      show some (match ([.inl d0, .inr 1, .inl d3, .inl d4] : List Ag).findIdx? (isIo j) with | some k => _ | none => s) = _
      rw [key]
abbrev Dt := List (List Key × D)
/-- the full part's mark -/
def mkF (s : List (Option Int)) (n f p : Nat) : Bool := mk (sat s) (bitsL n f).length (bitsL n f) p
/-- the marks of the parts with fewer free switches -/
def MkOk (s : List (Option Int)) (n : Nat) (m : Dt) (f p : Nat) : Prop := ∀ f' p', PF n f' p' → (f' < f ∨ (f' = f ∧ p' < p)) → valD m [.inl (f' : Int), .inl (p' : Int)] = some (.bl (mkF s n f' p'))
theorem r_xDGet {i : Nat} {fk : Xp} {env : En} : xDGet i fk env = if isDt env[i]? = true then (fk env).data fun k e => (match e[i]?, keyT k with
  | some (.own _ (.dt m)), some ks => .opt ((valD m ks).map S.val) e
  | _, _ => .bad) else .bad := rfl
theorem keyT2 (a b : Int) : keyT (.tup [.int a, .int b]) = some [.inl a, .inl b] := rfl
theorem isDt_own {o : Option Nat} {m : Dt} : isDt (some (.own o (.dt m))) = true := rfl
theorem gTup2 (a b : D) : Ya.gTup [a, b] = some (.val (.tup [a, b])) := rfl
def VV (s : List (Option Int)) (n f p a : Nat) : Bool := mkF s n (f - 2 ^ a) p || mkF s n (f - 2 ^ a) (p + 2 ^ a)
def MQ (b : Bool) (m : Dt) (R : Res Fl) : Prop := ∃ e, R = .ok (.rt (.val (.bl b))) e ∧ e[1]? = some (.own (some 1) (.dt m))
theorem s_mark {n f p : Nat} {s : List (Option Int)} {m : Dt} (hn : n ≤ 8) (hs : s.length = 2 ^ n) (hp : PF n f p) (hm : MkOk s n m f p) : F_full_mark [.val (ruleD n s), .own (some 1) (.dt m), .val (.int f), .val (.int p)] = .ret (.val (.bl (mkF s n f p))) [.val (ruleD n s), .own (some 1) (.dt m), .val (.int f), .val (.int p)] := by
  have main : MQ (mkF s n f p) m (b_full_mark ([S.val (ruleD n s), .own (some 1) (.dt m), .val (.int f), .val (.int p)] ++ List.replicate (9 - 4) .und)) := by
    unfold b_full_mark
    refine seq_q (MQ (mkF s n f p) m) ?_
    simp -implicitDefEqProofs
    refine lc_qo (MQ (mkF s n f p) m) (n := n) (env0 := [S.val (ruleD n s), .own (some 1) (.dt m), .val (.int f), .val (.int p), .und, .und, .und, .und, .und]) (rgN (by simp [attr_size]) (by omega)) (by omega) (fun i => f.testBit i) (fun i => .int (i : Nat)) ?_ ?_ ?_
    · intro i hi
      have := bt f i
      simp -implicitDefEqProofs [this]
    · intro i hi _
      exact ⟨.val (.int i), by simp, rfl⟩
    · rw [show ((List.range n).filter fun i => f.testBit i) = bitsL n f from rfl]
      simp -implicitDefEqProofs
      refine seq_q (MQ (mkF s n f p) m) ?_
      have hmk : mkF s n f p = mk (sat s) (bitsL n f).length (bitsL n f) p := rfl
      have hps : p < s.length := by rw [hs]; exact hp.hp
      have g1 := sgs_at hps
      cases hL : bitsL n f with
      | nil =>
        rw [hL] at hmk
        have hmk : mkF s n f p = (sat s p).isSome := hmk
        simp -implicitDefEqProofs [attr_signs, gIx, g1, nis_sg, hmk]
        exact ⟨_, rfl, rfl⟩
      | cons e0 R =>
        cases R with
        | nil =>
          rw [hL] at hmk
          have hmk : mkF s n f p = ((sat s p).isSome && (sat s (p + 2 ^ e0)).isSome && sat s p != sat s (p + 2 ^ e0)) := hmk
          have hf := bits_one hp.hf hL
          have he0 : e0 ∈ bitsL n f := by rw [hL]; exact List.mem_cons_self
          have hs2 := (pf_step hp he0).2.2.hp
          have g2 := sgs_at (s := s) (i := p + f) (by rw [hs, hf]; exact hs2)
          rw [← hf] at hmk
          have l1 : (p : Int) + (f : Int) = ((p + f : Nat) : Int) := by omega
          simp -implicitDefEqProofs
          refine seq_q (MQ (mkF s n f p) m) ?_
          simp -implicitDefEqProofs
          refine seq_q (fun R => MQ (mkF s n f p) m (R.bind _)) ?_
          simp -implicitDefEqProofs [attr_signs, gIx, g1]
          refine seq_q (fun R => MQ (mkF s n f p) m (R.bind _)) ?_
          generalize p + f = pf at l1 g2 hmk
          simp -implicitDefEqProofs [attr_signs, gIx, g2, l1, nis_sg, ne_sg]
          cases h1 : (sat s p).isSome with
          | false => simp [hmk, h1]; exact ⟨_, rfl, rfl⟩
          | true =>
            cases h2 : (sat s pf).isSome with
            | false => simp [hmk, h1, h2]; exact ⟨_, rfl, rfl⟩
            | true => simp [hmk, h1, h2]; exact ⟨_, rfl, rfl⟩
        | cons e1 R =>
          rw [hL] at hmk
          have hV : ∀ e, e ∈ e0 :: e1 :: R → PF n (f - 2 ^ e) p ∧ PF n (f - 2 ^ e) (p + 2 ^ e) ∧ 2 ^ e ≤ f ∧ e < n ∧ mkF s n (f - 2 ^ e) p = mk (sat s) (R.length + 1) ((e0 :: e1 :: R).erase e) p ∧ mkF s n (f - 2 ^ e) (p + 2 ^ e) = mk (sat s) (R.length + 1) ((e0 :: e1 :: R).erase e) (p + 2 ^ e) ∧
              valD m [.inl ((f - 2 ^ e : Nat) : Int), .inl (p : Int)] = some (.bl (mkF s n (f - 2 ^ e) p)) ∧ valD m [.inl ((f - 2 ^ e : Nat) : Int), .inl ((p + 2 ^ e : Nat) : Int)] = some (.bl (mkF s n (f - 2 ^ e) (p + 2 ^ e))) := fun e he => by
            have he' : e ∈ bitsL n f := by rw [hL]; exact he
            obtain ⟨q1, q2, q3⟩ := pf_step hp he'
            have q4 := bits_sub he'
            rw [hL] at q4
            have q5 : ((e0 :: e1 :: R).erase e).length = R.length + 1 := by rw [List.length_erase_of_mem he]; rfl
            refine ⟨q2, q3, (bit_sub (bits_mem.mp he').2).1, (bits_mem.mp he').1, ?_, ?_, hm _ _ q2 (.inl q1), hm _ _ q3 (.inl q1)⟩
            · unfold mkF; rw [q4, q5]
            · unfold mkF; rw [q4, q5]
          have hall : mkF s n f p = (e0 :: e1 :: R).all fun e => mkF s n (f - 2 ^ e) p || mkF s n (f - 2 ^ e) (p + 2 ^ e) := by
            rw [hmk]
            show ((e0 :: e1 :: R).all fun e => mk (sat s) (R.length + 1) ((e0 :: e1 :: R).erase e) p || mk (sat s) (R.length + 1) ((e0 :: e1 :: R).erase e) (p + 2 ^ e)) = _
            rw [Bool.eq_iff_iff, List.all_eq_true, List.all_eq_true]
            constructor
            · intro h e he
              obtain ⟨_, _, _, _, r1, r2, _, _⟩ := hV e he
              rw [r1, r2]; exact h e he
            · intro h e he
              obtain ⟨_, _, _, _, r1, r2, _, _⟩ := hV e he
              rw [← r1, ← r2]; exact h e he
          generalize hLL : e0 :: e1 :: R = L at hV hall
          have hl2 : 2 ≤ L.length := by rw [← hLL]; simp
          have hdec : ¬ (L.map fun i => D.int (i : Nat)) = [] ∧ ¬ ((L.map fun i => D.int (i : Nat)).length : Int) = 1 ∧ ¬ (L.map fun i => D.int (i : Nat)).length = 1 := by
            refine ⟨fun z => ?_, by rw [List.length_map]; omega, by rw [List.length_map]; omega⟩
            have := congrArg List.length z
            rw [List.length_map, List.length_nil] at this
            omega
          obtain ⟨hd0, hd1, hd2⟩ := hdec
          generalize hX : (L.map fun i => D.int (i : Nat)) = X at hd0 hd1 hd2 ⊢
          simp -implicitDefEqProofs [hd0]
          refine seq_q (MQ (mkF s n f p) m) ?_
          simp -implicitDefEqProofs [hd1, hd2]
          refine seq_q (MQ (mkF s n f p) m) ?_
          simp -implicitDefEqProofs
          subst hX
          refine for_o (MQ (mkF s n f p) m) (fun j e => (∃ x7 x8, e = [S.val (ruleD n s), .own (some 1) (.dt m), .val (.int f), .val (.int p), .val (.lst (L.map fun i => D.int (i : Nat))), .und, .und, x7, x8]) ∧ ∀ i, i < j → ∀ a, L[i]? = some a → VV s n f p a = true) ⟨⟨_, _, rfl⟩, fun i hi => absurd hi (Nat.not_lt_zero i)⟩ ?_ ?_
          · rintro j d e hd ⟨⟨x7, x8, rfl⟩, hpre⟩
            rw [List.getElem?_map] at hd
            cases ha : L[j]? with
            | none => rw [ha] at hd; cases hd
            | some a =>
              rw [ha] at hd
              injection hd with hd
              subst hd
              have hmem := List.mem_of_getElem? ha
              obtain ⟨v1, v2, v3, v4, _, _, v7, v8⟩ := hV a hmem
              refine ⟨_, rfl, ?_⟩
              have hall2 : (mkF s n (f - 2 ^ a) p || mkF s n (f - 2 ^ a) (p + 2 ^ a)) = false → mkF s n f p = false := fun h => by
                rw [hall]
                exact List.all_eq_false.mpr ⟨a, hmem, by rw [h]; simp⟩
              have sh := g_shl_1 (j := (a : Int)) (by omega) (by omega)
              rw [Int.toNat_natCast, show (2 : Int) ^ a = ((2 ^ a : Nat) : Int) by simp] at sh
              have next : VV s n f p a = true → ∀ i, i < j + 1 → ∀ a, L[i]? = some a → VV s n f p a = true := fun h i hi b hb => by
                by_cases z : i < j
                · exact hpre i z b hb
                · have : i = j := by omega
                  subst this
                  rw [ha] at hb
                  injection hb with hb
                  rw [← hb]; exact h
              have hvv : VV s n f p a = (mkF s n (f - 2 ^ a) p || mkF s n (f - 2 ^ a) (p + 2 ^ a)) := rfl
              generalize 2 ^ a = w at v3 v7 v8 hall2 sh hvv ⊢
              have l1 : (f : Int) - (w : Int) = ((f - w : Nat) : Int) := by omega
              have l2 : (p : Int) + (w : Int) = ((p + w : Nat) : Int) := by omega
              generalize mkF s n (f - w) p = b1 at v7 hall2 hvv ⊢
              generalize mkF s n (f - w) (p + w) = b2 at v8 hall2 hvv ⊢
              generalize f - w = fw at l1 v7 v8 ⊢
              generalize p + w = pw at l2 v8 ⊢
              refine seq_q (Outc _ _ _) ?_
              cases b1 with
              | true =>
                simp -implicitDefEqProofs [sh, l1, l2, r_xDGet, isDt_own, gTup2, keyT2, v7, v8]
                exact ⟨⟨_, _, rfl⟩, next (by rw [hvv]; rfl)⟩
              | false =>
                simp -implicitDefEqProofs [sh, l1, l2, r_xDGet, isDt_own, gTup2, keyT2, v7, v8]
                cases b2 with
                | true =>
                  simp -implicitDefEqProofs
                  exact ⟨⟨_, _, rfl⟩, next (by rw [hvv]; rfl)⟩
                | false =>
                  simp -implicitDefEqProofs
                  rw [hall2 rfl]
                  exact ⟨_, rfl, rfl⟩
          · rintro e ⟨⟨x7, x8, rfl⟩, hpre⟩
            have : mkF s n f p = true := by
              rw [hall, List.all_eq_true]
              intro a ha
              obtain ⟨i, hi, rfl⟩ := List.getElem_of_mem ha
              exact hpre i (by simpa using hi) _ (List.getElem?_eq_getElem hi)
            simp [this]
            exact ⟨_, rfl, rfl⟩
  obtain ⟨e, h1, h2⟩ := main
  have h0 := fn_ret (n := 4) (N := 9) (b := b_full_mark) (ss := [.val (ruleD n s), .own (some 1) (.dt m), .val (.int f), .val (.int p)]) rfl h1
  have h3 : endsE [.val (ruleD n s), .own (some 1) (.dt m), .val (.int f), .val (.int p)] e = [.val (ruleD n s), .own (some 1) (.dt m), .val (.int f), .val (.int p)] := by
    have : endsE [.val (ruleD n s), .own (some 1) (.dt m), .val (.int f), .val (.int p)] e = [S.val (ruleD n s), (match e[1]? with | some (S.own (some k') c) => if k' = 1 then S.own (some 1) c else .und | _ => .und), S.val (.int f), S.val (.int p)] := rfl
    rw [this, h2]
    rfl
  rw [h3] at h0
  exact h0
theorem r_sDPutO {i : Nat} {fk fv : Xp} {env : En} : sDPutO i fk fv env = (fv env).data fun d e1 => if isDt e1[i]? = true then (fk e1).data fun k e => (match e[i]?, keyT k with
  | some (.own o (.dt m)), some ks => if m.length < 1000000 then .ok .nx (e.set i (.own o (.dt (putD m ks d)))) else .bad
  | _, _ => .bad) else .bad := rfl
theorem valD_put (m : Dt) (k k' : List Key) (d : D) : valD (putD m k d) k' = if k = k' then some d else valD m k' := by
  unfold valD putD
  by_cases ha : (m.any fun kv => decide (kv.1 = k)) = true
  · rw [if_pos ha]
    induction m with
    | nil => cases ha
    | cons kv m ih =>
      rw [List.map_cons, List.find?_cons, List.find?_cons]
      by_cases h1 : kv.1 = k
      · rw [if_pos h1]
        by_cases h2 : k = k'
        · rw [show decide ((kv.1, d).1 = k') = true by simpa [h1] using h2, if_pos h2]; rfl
        · rw [show decide (kv.1 = k') = false by simpa [h1] using h2]
          by_cases h3 : (m.any fun kv => decide (kv.1 = k)) = true
          · exact ih h3
          · rw [if_neg h2]
            have : m.map (fun kv => if kv.1 = k then (kv.1, d) else kv) = m := by
              conv => rhs; rw [← List.map_id m]
              apply List.map_congr_left
              intro x hx
              have : ¬ x.1 = k := fun z => h3 (List.any_eq_true.mpr ⟨x, hx, by simpa using z⟩)
              rw [if_neg this]; rfl
            rw [this]
      · rw [if_neg h1]
        have h3 : (m.any fun kv => decide (kv.1 = k)) = true := by simpa [h1] using ha
        by_cases h4 : kv.1 = k'
        · rw [show decide (kv.1 = k') = true by simpa using h4]
          have : ¬ k = k' := fun z => h1 (by rw [h4, z])
          rw [if_neg this]
        · rw [show decide (kv.1 = k') = false by simpa using h4]
          exact ih h3
  · rw [if_neg ha, List.find?_append]
    by_cases h2 : k = k'
    · subst h2
      have : (m.find? fun kv => decide (kv.1 = k)) = none := by
        rw [List.find?_eq_none]
        intro x hx z
        exact ha (List.any_eq_true.mpr ⟨x, hx, z⟩)
      rw [this, if_pos rfl]
      simp
    · rw [if_neg h2]
      cases z : m.find? fun kv => decide (kv.1 = k') with
      | some x => rfl
      | none => simp [h2]
theorem putD_len (m : Dt) (k : List Key) (d : D) : (putD m k d).length ≤ m.length + 1 := by
  unfold putD
  split
  · rw [List.length_map]; omega
  · rw [List.length_append]; exact Nat.le_refl _
def MQ2 (s : List (Option Int)) (n N : Nat) (R : Res Fl) : Prop := ∃ m e, R = .ok (.rt (.own none (.dt m))) e ∧ MkOk s n m N 0
def MI (s : List (Option Int)) (n N f p : Nat) (x3 : S → Prop) (e : En) : Prop := ∃ m y3 x4, e = [S.val (ruleD n s), .own none (.dt m), .val (.int N), y3, x4] ∧ x3 y3 ∧ m.length ≤ f * N + p ∧ MkOk s n m f p
/-- the dict of marks -/
theorem s_marks {n : Nat} {s : List (Option Int)} (hn : n ≤ 8) (hs : s.length = 2 ^ n) : ∃ m : Dt, F_full_marks [.val (ruleD n s)] = .ret (.own none (.dt m)) [.val (ruleD n s)] ∧ MkOk s n m (2 ^ n) 0 := by
  have p2 : 2 ^ n ≤ 256 := Nat.le_trans (Nat.pow_le_pow_right (by decide) hn) (by decide)
  have sh := g_shl_1 (j := (n : Int)) (by omega) (by omega)
  rw [Int.toNat_natCast, show (2 : Int) ^ n = ((2 ^ n : Nat) : Int) by simp] at sh
  have main : MQ2 s n (2 ^ n) (b_full_marks ([ruleD n s].map S.val ++ List.replicate (5 - 1) .und)) := by
    unfold b_full_marks
    generalize hN : 2 ^ n = N at p2 sh ⊢
    refine seq_q (MQ2 s n N) ?_
    simp -implicitDefEqProofs [xDNew]
    refine seq_q (MQ2 s n N) ?_
    simp -implicitDefEqProofs [attr_size, sh]
    refine seq_q (MQ2 s n N) ?_
    simp -implicitDefEqProofs [q_rg]
    rw [q_rgK (by omega) (by omega), Int.toNat_natCast]
    simp -implicitDefEqProofs
    refine for_ro (MQ2 s n N) (fun f => MI s n N f 0 fun _ => True) ⟨[], _, _, rfl, trivial, Nat.zero_le _, fun f' p' _ h => by omega⟩ ?_ ?_
    · intro f e hf hI
      obtain ⟨m, x3, x4, he, _, hml, hm⟩ := hI
      subst he
      simp -implicitDefEqProofs [q_rg]
      rw [q_rgK (by omega) (by omega), Int.toNat_natCast]
      simp -implicitDefEqProofs
      refine for_rt (Outc (MQ2 s n N) _ _) (fun p => MI s n N f p fun y => y = .val (.int f)) ⟨m, _, _, rfl, rfl, hml, hm⟩ ?_ ?_
      · intro p e hp hI
        obtain ⟨m, x3, x4, he, h3, hml, hm⟩ := hI
        subst h3
        subst he
        have hbA := bA p f
        have small : m.length < 1000000 := by
          have : f * N ≤ 255 * 256 := Nat.mul_le_mul (by omega) p2
          omega
        by_cases hz : f &&& p = 0
        · have hz' : p &&& f = 0 := by rw [Nat.and_comm]; exact hz
          rw [hz'] at hbA
          have pf : PF n f p := ⟨by omega, by omega, hz⟩
          have sm := s_mark hn hs pf hm
          have ic := io_mid (env := [S.val (ruleD n s), .own none (.dt m), .val (.int N), .val (.int f), .val (.int p)]) (fr := rCons (xVar 0) (rIo 1 (rCons (xVar 3) (rCons (xVar 4) rNil)))) (e := [S.val (ruleD n s), .own none (.dt m), .val (.int N), .val (.int f), .val (.int p)]) rfl rfl sm
          simp -implicitDefEqProofs [hbA, r_sDPutO, ic, isDt_own, gTup2, keyT2, small]
          refine ⟨_, _, _, rfl, rfl, ?_, ?_⟩
          · have := putD_len m [.inl (f : Int), .inl (p : Int)] (.bl (mkF s n f p))
            omega
          · intro f' p' hpf hlt
            rw [valD_put]
            by_cases hk : ([.inl (f : Int), .inl (p : Int)] : List Key) = [.inl (f' : Int), .inl (p' : Int)]
            · rw [if_pos hk]
              have e1 : f' = f ∧ p' = p := by
                simp at hk
                omega
              rw [e1.1, e1.2]
            · rw [if_neg hk]
              refine hm f' p' hpf ?_
              rcases hlt with h | ⟨h, h'⟩
              · exact .inl h
              · refine .inr ⟨h, ?_⟩
                rcases Nat.lt_or_ge p' p with q | q
                · exact q
                · have : p' = p := by omega
                  subst this; subst h
                  exact absurd rfl hk
        · have hz' : ¬ p &&& f = 0 := by rw [Nat.and_comm]; exact hz
          have hz2 : ¬ ((p &&& f : Nat) : Int) = 0 := by omega
          simp -implicitDefEqProofs [hbA, hz2, hz']
          refine ⟨_, _, _, rfl, rfl, by omega, ?_⟩
          intro f' p' hpf hlt
          refine hm f' p' hpf ?_
          rcases hlt with h | ⟨h, h'⟩
          · exact .inl h
          · refine .inr ⟨h, ?_⟩
            rcases Nat.lt_or_ge p' p with q | q
            · exact q
            · have : p' = p := by omega
              subst this; subst h
              exact absurd hpf.d hz
      · rintro e ⟨m, _, x4, rfl, rfl, hml, hm⟩
        refine ⟨m, _, _, rfl, trivial, by rw [Nat.succ_mul]; exact hml, fun f' p' hpf hlt => ?_⟩
        refine hm f' p' hpf ?_
        have := hpf.hp
        rw [hN] at this
        omega
    · rintro e ⟨m, x3, x4, rfl, _, hml, hm⟩
      simp -implicitDefEqProofs
      exact ⟨_, _, rfl, hm⟩
  obtain ⟨m, e, h1, h2⟩ := main
  exact ⟨m, fn_val (ds := [ruleD n s]) rfl ⟨e, h1⟩, h2⟩
theorem s_sized (n : Nat) (hn : n ≤ 8) (s : List (Option Int)) : F_sized_rule [.val (ruleD n s), .val (.int 8)] = .ret (.val .non) [.val (ruleD n s), .val (.int 8)] := by
  refine fn_valN (ds := [ruleD n s, .int 8]) rfl ?_
  have h0 : ¬ (8 : Int) < (n : Int) := by omega
  have h1 : ¬ 8 < n := by omega
  simp [r_sSeq, b_sized_rule, s_crule, attr_size, h0, h1]
theorem r_xDGetN {f fk : Xp} {env : En} : xDGetN f fk env = (f env).bind fun r e1 => match r with
  | .own none (.dt m) => (fk e1).data fun k e => (match keyT k with | some ks => .opt ((valD m ks).map S.val) e | none => .bad)
  | _ => .bad := rfl
theorem s_isfull {n : Nat} {s : List (Option Int)} (hn : n ≤ 8) (hs : s.length = 2 ^ n) : F_is_full [.val (ruleD n s)] = .ret (.val (.bl (mk (sat s) n (List.range n) 0))) [.val (ruleD n s)] := by
  refine fn_val (ds := [ruleD n s]) rfl ?_
  obtain ⟨m, h1, h2⟩ := s_marks hn hs
  have h0 := s_sized n hn s
  have sh := g_shl_1 (j := (n : Int)) (by omega) (by omega)
  rw [Int.toNat_natCast, show (2 : Int) ^ n = ((2 ^ n : Nat) : Int) by simp] at sh
  have pp : 0 < 2 ^ n := Nat.two_pow_pos n
  have h3 := h2 (2 ^ n - 1) 0 ⟨by omega, pp, by simp⟩ (.inl (by omega))
  have h4 : mkF s n (2 ^ n - 1) 0 = mk (sat s) n (List.range n) 0 := by unfold mkF; rw [bits_all, List.length_range]
  rw [h4] at h3
  generalize 2 ^ n = N at sh pp h3
  have l1 : (N : Int) - 1 = ((N - 1 : Nat) : Int) := by omega
  have l0 : ((0 : Nat) : Int) = 0 := rfl
  rw [l0] at h3
  generalize N - 1 = M at l1 h3
  unfold b_is_full
  refine seq_q (fun R => ∃ e, R = Res.ok (Fl.rt (S.val (.bl (mk (sat s) n (List.range n) 0)))) e) ?_
  simp -implicitDefEqProofs [h0]
  simp -implicitDefEqProofs [h1, r_xDGetN, attr_size, sh, l1, gTup2, keyT2, h3]
end K67

set_option maxHeartbeats 4000000
namespace K67
open PySem PySem.Spec PyProof.Rows L2 Ya
/-! doors -/
/-- the first place that is not told -/
def fN (s : List (Option Int)) : Option Nat := (List.range s.length).find? fun i => (sat s i).isNone
/-- the first place with a sign above 1 -/
def fY (s : List (Option Int)) : Option Nat := (List.range s.length).find? fun i => match sat s i with | some v => decide (1 < v) | none => false
theorem enum_sgs {s : List (Option Int)} {j : Nat} {d : D} (h : (enumD (sgs s))[j]? = some d) : j < s.length ∧ d = .tup [.int (j : Nat), sg (sat s j)] := by
  obtain ⟨x, hx, rfl⟩ := enumD_at h
  obtain ⟨y, hy, rfl⟩ := sgs_get hx
  obtain ⟨h1, h2⟩ := List.getElem?_eq_some_iff.mp hy
  refine ⟨h1, ?_⟩
  simp [sat, List.getD, hy]
theorem enum_len {s : List (Option Int)} : (enumD (sgs s)).length = s.length := by simp [enumD, sgs]
theorem find_none {n : Nat} {p : Nat → Bool} (h : ∀ i, i < n → p i = false) : (List.range n).find? p = none := by
  rw [List.find?_eq_none]
  intro i hi
  rw [h i (List.mem_range.mp hi)]
  simp
theorem find_some {n j : Nat} {p : Nat → Bool} (hj : j < n) (hp : p j = true) (h : ∀ i, i < j → p i = false) : (List.range n).find? p = some j := by
  rw [List.find?_range_eq_some]
  refine ⟨hp, List.mem_range.mpr hj, fun i hi => ?_⟩
  simp [h i hi]
def NQ (r : S) (o : Option Nat) (c : Str) (R : Res Fl) : Prop := match o with | none => ∃ e, R = .ok (.rt r) e | some i => ∃ e, R = .exc c ["place"] [.int i] e
theorem s_ntot0 (n : Nat) (s : List (Option Int)) : NQ (.val (ruleD n s)) (fN s) "NotTotal" (b_need_total ([ruleD n s].map S.val ++ List.replicate (3 - 1) .und)) := by
  unfold b_need_total
  refine seq_q (NQ _ _ _) ?_
  simp -implicitDefEqProofs [s_crule]
  refine seq_q (NQ _ _ _) ?_
  simp -implicitDefEqProofs [attr_signs]
  refine for_o (NQ _ _ _) (fun j e => (∃ a b, e = [.val (ruleD n s), a, b]) ∧ ∀ i, i < j → (sat s i).isNone = false) ⟨⟨_, _, rfl⟩, fun i hi => absurd hi (Nat.not_lt_zero i)⟩ ?_ ?_
  · intro j d e hd hI
    obtain ⟨⟨a, b, he⟩, hpre⟩ := hI
    subst he
    obtain ⟨hj, rfl⟩ := enum_sgs hd
    refine ⟨_, rfl, ?_⟩
    have next : (sat s j).isNone = false → ∀ i, i < j + 1 → (sat s i).isNone = false := fun h i hi => by
      by_cases z : i < j
      · exact hpre i z
      · have : i = j := by omega
        rw [this]; exact h
    cases hx : sat s j with
    | none =>
      simp -implicitDefEqProofs [setsE, sg]
      have : fN s = some j := find_some hj (by rw [hx]; rfl) hpre
      rw [this]
      exact ⟨_, rfl⟩
    | some v =>
      rw [hx] at next
      simp -implicitDefEqProofs [setsE, sg, -Option.isNone_eq_false_iff]
      exact ⟨⟨_, _, rfl⟩, next rfl⟩
  · intro e hI
    obtain ⟨⟨a, b, he⟩, hpre⟩ := hI
    subst he
    rw [enum_len] at hpre
    have : fN s = none := find_none hpre
    simp -implicitDefEqProofs [this]
    exact ⟨_, rfl⟩
theorem s_ntot (n : Nat) (s : List (Option Int)) : F_need_total [.val (ruleD n s)] = match fN s with | none => .ret (.val (ruleD n s)) [.val (ruleD n s)] | some i => .exc "NotTotal" ["place"] [.int i] [.val (ruleD n s)] := by
  have h := s_ntot0 n s
  cases hf : fN s with
  | none => rw [hf] at h; exact fn_val (ds := [ruleD n s]) rfl h
  | some i => rw [hf] at h; exact fn_valX (ds := [ruleD n s]) rfl h
theorem s_nyn0 (n : Nat) (s : List (Option Int)) : NQ (.val (ruleD n s)) (fY s) "NotYesNo" (b_need_yesno ([ruleD n s].map S.val ++ List.replicate (3 - 1) .und)) := by
  unfold b_need_yesno
  refine seq_q (NQ _ _ _) ?_
  simp -implicitDefEqProofs [s_crule]
  refine seq_q (NQ _ _ _) ?_
  simp -implicitDefEqProofs [attr_signs]
  refine for_o (NQ _ _ _) (fun j e => (∃ a b, e = [.val (ruleD n s), a, b]) ∧ ∀ i, i < j → (match sat s i with | some v => decide (1 < v) | none => false) = false) ⟨⟨_, _, rfl⟩, fun i hi => absurd hi (Nat.not_lt_zero i)⟩ ?_ ?_
  · intro j d e hd hI
    obtain ⟨⟨a, b, he⟩, hpre⟩ := hI
    subst he
    obtain ⟨hj, rfl⟩ := enum_sgs hd
    refine ⟨_, rfl, ?_⟩
    have next : (match sat s j with | some v => decide (1 < v) | none => false) = false → ∀ i, i < j + 1 → (match sat s i with | some v => decide (1 < v) | none => false) = false := fun h i hi => by
      by_cases z : i < j
      · exact hpre i z
      · have : i = j := by omega
        rw [this]; exact h
    cases hx : sat s j with
    | none =>
      rw [hx] at next
      simp -implicitDefEqProofs [setsE, sg]
      exact ⟨⟨_, _, rfl⟩, next rfl⟩
    | some v =>
      rw [hx] at next
      by_cases hv : 1 < v
      · simp -implicitDefEqProofs [setsE, sg, hv]
        have : fY s = some j := find_some hj (by rw [hx]; simpa using hv) hpre
        rw [this]
        exact ⟨_, rfl⟩
      · simp -implicitDefEqProofs [setsE, sg, hv]
        exact ⟨⟨_, _, rfl⟩, next (by simpa using hv)⟩
  · intro e hI
    obtain ⟨⟨a, b, he⟩, hpre⟩ := hI
    subst he
    rw [enum_len] at hpre
    have : fY s = none := find_none hpre
    simp -implicitDefEqProofs [this]
    exact ⟨_, rfl⟩
theorem s_nyn (n : Nat) (s : List (Option Int)) : F_need_yesno [.val (ruleD n s)] = match fY s with | none => .ret (.val (ruleD n s)) [.val (ruleD n s)] | some i => .exc "NotYesNo" ["place"] [.int i] [.val (ruleD n s)] := by
  have h := s_nyn0 n s
  cases hf : fY s with
  | none => rw [hf] at h; exact fn_val (ds := [ruleD n s]) rfl h
  | some i => rw [hf] at h; exact fn_valX (ds := [ruleD n s]) rfl h
/-- how a door ends -/
def doorO (n : Nat) (s : List (Option Int)) : Option (Str × Str × Int) := match fN s with
  | some i => some ("NotTotal", "place", i)
  | none => match fY s with
    | some i => some ("NotYesNo", "place", i)
    | none => if 8 < n then some ("TooMany", "limit", 8) else none
def DQ (r : S) (o : Option (Str × Str × Int)) (R : Res Fl) : Prop := match o with
  | none => ∃ e, R = .ok (.rt r) e
  | some (c, f, i) => ∃ e, R = .exc c [f] [.int i] e
/-- the number of yes rows, by the signs -/
def sumS (s : List (Option Int)) : Int := (s.map fun x => x.getD 0).sum
theorem sgs_ints {s : List (Option Int)} (h : ∀ x ∈ s, x ≠ none) : intsOf (sgs s) = some (s.map fun x => x.getD 0) := by
  induction s with
  | nil => rfl
  | cons x s ih =>
    have hx := h x List.mem_cons_self
    cases x with
    | none => exact absurd rfl hx
    | some v =>
      show (intsOf (sgs s)).map (v :: ·) = _
      rw [ih fun y hy => h y (List.mem_cons_of_mem _ hy)]
      rfl
theorem fN_none {s : List (Option Int)} (h : fN s = none) : ∀ x ∈ s, x ≠ none := by
  intro x hx z
  subst z
  obtain ⟨i, hi, he⟩ := List.getElem_of_mem hx
  have := List.find?_eq_none.mp h i (List.mem_range.mpr hi)
  apply this
  simp [sat, List.getD, List.getElem?_eq_getElem hi, he]
theorem gSum_sgs {s : List (Option Int)} (h : ∀ x ∈ s, x ≠ none) : gSum [.tup (sgs s)] = some (.val (.int (sumS s))) ∧ gSum [.lst (sgs s)] = some (.val (.int (sumS s))) := by
  constructor
  · show (intsOf (sgs s)).map (fun ns => S.val (.int ns.sum)) = _
    rw [sgs_ints h]; rfl
  · show (intsOf (sgs s)).map (fun ns => S.val (.int ns.sum)) = _
    rw [sgs_ints h]; rfl
theorem s_odd0 (n : Nat) (s : List (Option Int)) : DQ (.val (.bl (sumS s % 2 == 1))) (doorO n s) (b_odd_full ([ruleD n s].map S.val ++ List.replicate (1 - 1) .und)) := by
  have h1 := s_ntot n s
  have h2 := s_nyn n s
  unfold b_odd_full doorO
  refine seq_q (DQ _ _) ?_
  simp -implicitDefEqProofs [s_crule]
  refine seq_q (DQ _ _) ?_
  cases e1 : fN s with
  | some i =>
    rw [e1] at h1
    simp -implicitDefEqProofs [h1]
    exact ⟨_, rfl⟩
  | none =>
    rw [e1] at h1
    simp -implicitDefEqProofs [h1]
    refine seq_q (DQ _ _) ?_
    cases e2 : fY s with
    | some i =>
      rw [e2] at h2
      simp -implicitDefEqProofs [h2]
      exact ⟨_, rfl⟩
    | none =>
      rw [e2] at h2
      simp -implicitDefEqProofs [h2]
      refine seq_q (DQ _ _) ?_
      by_cases h8 : 8 < n
      · have h8' : (8 : Int) < (n : Int) := by omega
        simp -implicitDefEqProofs [attr_size, h8, h8']
        exact ⟨_, rfl⟩
      · have h8' : ¬ (8 : Int) < (n : Int) := by omega
        simp -implicitDefEqProofs [attr_size, h8, h8', attr_signs, (gSum_sgs (fN_none e1)).1, bitAnd_m1]
        exact ⟨_, rfl⟩
theorem s_odd (n : Nat) (s : List (Option Int)) : F_odd_full [.val (ruleD n s)] = match doorO n s with | none => .ret (.val (.bl (sumS s % 2 == 1))) [.val (ruleD n s)] | some (c, f, i) => .exc c [f] [.int i] [.val (ruleD n s)] := by
  have h := s_odd0 n s
  cases hf : doorO n s with
  | none => rw [hf] at h; exact fn_val (ds := [ruleD n s]) rfl h
  | some i => obtain ⟨c, f, i⟩ := i; rw [hf] at h; exact fn_valX (ds := [ruleD n s]) rfl h
def DQN (o : Option (Str × Str × Int)) (R : Res Fl) : Prop := match o with
  | none => ∃ e, R = .ok .nx e
  | some (c, f, i) => ∃ e, R = .exc c [f] [.int i] e
theorem s_csum0 (n : Nat) (s : List (Option Int)) : DQN (doorO n s) (b_check_summed ([ruleD n s].map S.val ++ List.replicate (1 - 1) .und)) := by
  have h1 := s_ntot n s
  have h2 := s_nyn n s
  unfold b_check_summed doorO
  refine seq_q (DQN _) ?_
  cases e1 : fN s with
  | some i =>
    rw [e1] at h1
    simp -implicitDefEqProofs [h1]
    exact ⟨_, rfl⟩
  | none =>
    rw [e1] at h1
    simp -implicitDefEqProofs [h1]
    refine seq_q (DQN _) ?_
    cases e2 : fY s with
    | some i =>
      rw [e2] at h2
      simp -implicitDefEqProofs [h2]
      exact ⟨_, rfl⟩
    | none =>
      rw [e2] at h2
      simp -implicitDefEqProofs [h2]
      by_cases h8 : 8 < n
      · have h8' : (8 : Int) < (n : Int) := by omega
        simp -implicitDefEqProofs [attr_size, h8, h8']
        exact ⟨_, rfl⟩
      · have h8' : ¬ (8 : Int) < (n : Int) := by omega
        simp -implicitDefEqProofs [attr_size, h8, h8']
        exact ⟨_, rfl⟩
theorem s_csum (n : Nat) (s : List (Option Int)) : F_check_summed [.val (ruleD n s)] = match doorO n s with | none => .ret (.val .non) [.val (ruleD n s)] | some (c, f, i) => .exc c [f] [.int i] [.val (ruleD n s)] := by
  have h := s_csum0 n s
  cases hf : doorO n s with
  | none => rw [hf] at h; exact fn_valN (ds := [ruleD n s]) rfl h
  | some i => obtain ⟨c, f, i⟩ := i; rw [hf] at h; exact fn_valX (ds := [ruleD n s]) rfl h
end K67

set_option maxHeartbeats 4000000
namespace K67
open PySem PySem.Spec PyProof.Rows L2 Ya
/-! the signed sum -/
theorem lcE_all {ds : List D} {fi : Xi} {t : Xt} {f : Xp} {env env0 : En} {j1 j2 : Nat} (hfi : fi env = .ok (enumD ds) env0) (hn : ds.length ≤ 1000000) (y : Nat → D)
    (h : ∀ i d, ds[i]? = some d → ∃ e1, gxTup [j1, j2] (.tup [.int (i : Nat), d]) (wipeE env0 [j1, j2]) = some e1 ∧ t e1 = .ok true e1 ∧ ∃ r, f e1 = .ok r e1 ∧ frz r = some (y i) ∧ wipeE e1 [j1, j2] = wipeE env0 [j1, j2]) :
    xLc [j1, j2] fi (gxTup [j1, j2]) t f env = .ok (.own none (.lst ((List.range ds.length).map y))) (wipeE env0 [j1, j2]) := by
  obtain ⟨out, e', h1, h2, h3⟩ := lc_inv (vs := [j1, j2]) (gf := gxTup [j1, j2]) (t := t) (f := f) (fun i e acc => e = wipeE env0 [j1, j2] ∧ acc = (List.range i).map y) (enumD ds) 0 (wipeE env0 [j1, j2]) [] ⟨rfl, rfl⟩ (fun i d e acc hd hI => by
    rw [Nat.zero_add] at hI ⊢
    obtain ⟨x, hx, rfl⟩ := enumD_at hd
    obtain ⟨rfl, rfl⟩ := hI
    obtain ⟨e1, q1, q2, r, q3, q4, q5⟩ := h i x hx
    exact ⟨_, q1, .inl ⟨_, r, _, y i, q2, q3, q4, q5, by rw [List.range_succ, List.map_append]; rfl⟩⟩)
  have el : (enumD ds).length = ds.length := by simp [enumD]
  rw [el, Nat.zero_add] at h3
  unfold xLc
  rw [hfi]
  show (if (enumD ds).length ≤ 1000000 then _ else _) = _
  rw [if_pos (by rw [el]; exact hn)]
  show (match lcS [j1, j2] (gxTup [j1, j2]) t f (enumD ds) (wipeE env0 [j1, j2]) [] with | some (out, e') => Res.ok (S.own none (.lst out)) e' | none => .bad) = _
  rw [h1, h2, h3]
theorem s_rtold {n : Nat} {s : List (Option Int)} (hl : s.length ≤ 1000000) (h : ∀ x ∈ s, x ≠ none) : F_Rule_told [.val (ruleD n s)] = .ret (.val (.tup ((List.range s.length).map fun i => .int (i : Nat)))) [.val (ruleD n s)] := by
  refine fn_val (ds := [ruleD n s]) rfl ?_
  have e := lcE_all (ds := sgs s) (fi := iEnmT (aCons (x1 (gAttr "Rule" "signs") (xVar 0)) aNil)) (t := uTst (x2 gNis (xVar 2) (xC .non))) (f := xVar 1) (env := [S.val (ruleD n s), .und, .und]) (env0 := [S.val (ruleD n s), .und, .und]) (j1 := 1) (j2 := 2) (by simp [attr_signs]) (by rw [sgs_len]; exact hl) (fun i => .int (i : Nat)) (fun i d hd => by
    obtain ⟨x, hx, rfl⟩ := sgs_get hd
    have hx' := h x (List.mem_of_getElem? hx)
    refine ⟨[S.val (ruleD n s), .val (.int i), .val (sg x)], rfl, ?_, .val (.int i), by simp, rfl, rfl⟩
    cases x with
    | none => exact absurd rfl hx'
    | some v => simp [nis_sg])
  rw [sgs_len] at e
  unfold b_Rule_told
  simp [e, gTuple]
theorem s_lotat (n q : Nat) (hn : n ≤ 1000000) : F_lot_at [.val (.int n), .val (.int q)] = .ret (.val (.tup ((bitsL n q).map fun i => .int (i : Nat)))) [.val (.int n), .val (.int q)] := by
  refine fn_val (ds := [.int n, .int q]) rfl ?_
  have e := lcR (j := 2) (env := [S.val (.int n), .val (.int q), .und]) (env0 := [S.val (.int n), .val (.int q), .und]) (n := n) (fi := iRg1 (aCons (xVar 0) aNil)) (t := uTru (x2 gAnd (x2 gShr (xVar 1) (xVar 2)) (xC (.int 1)))) (f := xVar 2) (rgN (by simp) hn) hn (fun i => q.testBit i) (fun i => .int (i : Nat)) (fun i hi => by
      have h1 : (q : Int) / 2 ^ i % 2 = ((q / 2 ^ i % 2 : Nat) : Int) := by simp
      simp [truD, bitAnd_m1]
      rw [h1, bit_div]
      cases q.testBit i <;> rfl) (fun i hi _ => ⟨.val (.int i), by simp, rfl⟩)
  rw [show ((List.range n).filter fun i => q.testBit i) = bitsL n q from rfl] at e
  unfold b_lot_at
  simp [e, gTuple]
theorem s_lotof (n q : Nat) (hn : n ≤ 1000000) : F_law_lot_of [.val (.int n), .val (.int q)] = .ret (.own none (.lst ((bitsL n q).map fun i => .int (i : Nat)))) [.val (.int n), .val (.int q)] := by
  refine fn_val (ds := [.int n, .int q]) rfl ?_
  have e := lcR (j := 2) (env := [S.val (.int n), .val (.int q), .und]) (env0 := [S.val (.int n), .val (.int q), .und]) (n := n) (fi := iRg1 (aCons (xVar 0) aNil)) (t := uTst (x2 gEq (xCall F_law_bit (rCons (xVar 1) (rCons (xVar 2) rNil))) (xC (.int 1)))) (f := xVar 2) (rgN (by simp) hn) hn (fun i => q.testBit i) (fun i => .int (i : Nat)) (fun i hi => by
      have h1 : (q : Int) / 2 ^ i % 2 = ((q / 2 ^ i % 2 : Nat) : Int) := by simp
      have h2 := s_bit (q : Int) (i : Int) (by omega)
      rw [Int.toNat_natCast] at h2
      simp [h2]
      rw [h1, bit_div]
      cases q.testBit i <;> rfl) (fun i hi _ => ⟨.val (.int i), by simp, rfl⟩)
  rw [show ((List.range n).filter fun i => q.testBit i) = bitsL n q from rfl] at e
  unfold b_law_lot_of
  simp [e]
/-- a row's sign as a number; the sign of its lot's size -/
def tt (s : List (Option Int)) (q : Nat) : Int := (sat s q).getD 0
def gg (n q : Nat) : Int := 1 - 2 * (((bitsL n q).length % 2 : Nat) : Int)
theorem tot_sum (t : Nat → Int) : ∀ m, ((List.range m).map t).sum = tot t m
  | 0 => rfl
  | m + 1 => by
    rw [List.range_succ, List.map_append, List.sum_append, tot_sum t m]
    simp [tot]
theorem sumS_tot (s : List (Option Int)) : sumS s = tot (tt s) s.length := by
  rw [← tot_sum]
  unfold sumS
  congr 1
  apply List.ext_getElem?
  intro i
  rw [List.getElem?_map, List.getElem?_map]
  by_cases h : i < s.length
  · rw [List.getElem?_range h, List.getElem?_eq_getElem h]
    simp [tt, sat, List.getD, List.getElem?_eq_getElem h]
  · rw [List.getElem?_eq_none (by omega), List.getElem?_eq_none (by simpa using h)]; rfl
theorem sat_told {s : List (Option Int)} (h : ∀ x ∈ s, x ≠ none) {q : Nat} (hq : q < s.length) : sat s q = some (tt s q) := by
  have e : sat s q = s[q] := by simp [sat, List.getD, List.getElem?_eq_getElem hq]
  have := h _ (List.getElem_mem hq)
  unfold tt
  rw [e]
  cases z : s[q] with
  | none => exact absurd z this
  | some v => rfl
theorem gMul1 {a b : Int} (h : -(2 ^ 64) < a ∧ a < 2 ^ 64) : gMul (.int a) (.int b) = some (.val (.int (a * b))) := by
  show (if cMul a b = true then some (S.val (.int (a * b))) else none) = _
  rw [if_pos (by unfold cMul; simp; omega)]
theorem gg_val (n q : Nat) : gg n q = 1 ∨ gg n q = -1 := by
  unfold gg; omega
theorem s_ssum {n : Nat} {s : List (Option Int)} (hn : n ≤ 8) (hs : s.length = 2 ^ n) (hd : doorO n s = none) (h : ∀ x ∈ s, x ≠ none) : F_signed_sum [.val (ruleD n s)] = .ret (.val (.int (tot (fun q => gg n q * tt s q) (2 ^ n)))) [.val (ruleD n s)] := by
  refine fn_val (ds := [ruleD n s]) rfl ?_
  have h1 := s_csum n s
  rw [hd] at h1
  have p2 : 2 ^ n ≤ 256 := Nat.le_trans (Nat.pow_le_pow_right (by decide) hn) (by decide)
  have h2 := s_rtold (n := n) (s := s) (by omega) h
  have hp : xProp "Rule" F_Rule_told (xVar 0) [S.val (ruleD n s), .und] = .ok (.val (.tup ((List.range s.length).map fun i => .int (i : Nat)))) [S.val (ruleD n s), .und] := by
    unfold xProp
    show (if ("Rule" : Str) = "Rule" then (match F_Rule_told [S.val (ruleD n s)] with | .ret r _ => Res.ok r [S.val (ruleD n s), .und] | _ => .bad) else .bad) = _
    rw [if_pos rfl, h2]
  unfold b_signed_sum
  refine seq_q (fun R => ∃ e, R = Res.ok (Fl.rt (S.val (.int (tot (fun q => gg n q * tt s q) (2 ^ n))))) e) ?_
  simp -implicitDefEqProofs [h1]
  refine ldm_q (fun R => ∃ e, R = Res.ok (Fl.rt (S.val (.int (tot (fun q => gg n q * tt s q) (2 ^ n))))) e) (env0 := [S.val (ruleD n s), .und]) (ds := (List.range s.length).map fun i => .int (i : Nat)) (by simp [hp]) (by simp; omega) (fun d => match d with | .int i => .int (gg n i.toNat * tt s i.toNat) | _ => .non) ?_ ?_
  · intro d hd
    obtain ⟨q, hq, rfl⟩ := List.mem_map.mp hd
    have hq := List.mem_range.mp hq
    have l1 := s_lotat n q (by omega)
    have g1 := sgs_at hq
    rw [sat_told h hq] at g1
    have hgg : (1 : Int) - 2 * (((bitsL n q).length : Int) % 2) = gg n q := by unfold gg; omega
    have m2 := gMul1 (a := 2) (b := ((bitsL n q).length : Int) % 2) (by omega)
    have m1 := gMul1 (a := gg n q) (b := tt s q) (by rcases gg_val n q with z | z <;> rw [z] <;> decide)
    refine ⟨.val (.int (gg n q * tt s q)), ?_, by rw [show frz (S.val (.int (gg n q * tt s q))) = some (D.int (gg n q * tt s q)) from rfl]; simp⟩
    rw [show sg (some (tt s q)) = D.int (tt s q) from rfl] at g1
    simp -implicitDefEqProofs [attr_size, attr_signs, l1, bitAnd_m1, m2, hgg, gIx, g1, m1]
  · rw [List.map_map]
    have hmm : ((fun d => match d with | .int i => D.int (gg n i.toNat * tt s i.toNat) | _ => .non) ∘ fun i : Nat => D.int (i : Nat)) = fun i : Nat => D.int (gg n i * tt s i) := by
      funext i; simp
    rw [hmm]
    have hi := intsOf_map2 (List.range s.length) fun i => gg n i * tt s i
    have hg : gSum [.lst ((List.range s.length).map fun i : Nat => D.int (gg n i * tt s i))] = some (.val (.int (tot (fun q => gg n q * tt s q) (2 ^ n)))) := by
      show (intsOf ((List.range s.length).map fun i : Nat => D.int (gg n i * tt s i))).map (fun ns => S.val (.int ns.sum)) = _
      rw [hi, ← hs, ← tot_sum]; rfl
    rw [hg]
    simp
end K67

set_option maxHeartbeats 4000000
namespace K67
open PySem PySem.Spec PyProof.Rows L2 Ya
theorem r_sAug {i : Nat} {g : D → D → Option S} {f : Xp} {env : En} : sAug i g f env = match env[i]? with
  | some (.val dx) => (f env).data fun dy e => (match g dx dy with | some (.val d) => .ok .nx (e.set i (.val d)) | _ => .bad)
  | _ => .bad := rfl
theorem gI_ii {k : Int → Int → Int} {i j : Int} : gI k (.int i) (.int j) = some (.val (.int (k i j))) := rfl
/-- total, signs 0 and 1 -/
structure Tot01 (s : List (Option Int)) : Prop where
  told : ∀ x ∈ s, x ≠ none
  b : ∀ q, q < s.length → tt s q = 0 ∨ tt s q = 1
theorem s_lsigned {s : List (Option Int)} (hl : s.length ≤ 1000000) (h : Tot01 s) : F_law_signed [.val (.lst (sgs s))] = .ret (.val (.int (tot (fun q => gg 8 q * tt s q) s.length))) [.val (.lst (sgs s))] := by
  refine fn_val (ds := [.lst (sgs s)]) rfl ?_
  unfold b_law_signed
  refine seq_q (fun R => ∃ e, R = Res.ok (Fl.rt (S.val (.int (tot (fun q => gg 8 q * tt s q) s.length)))) e) ?_
  simp -implicitDefEqProofs
  refine seq_q (fun R => ∃ e, R = Res.ok (Fl.rt (S.val (.int (tot (fun q => gg 8 q * tt s q) s.length)))) e) ?_
  simp -implicitDefEqProofs [q_rg, sgs_len]
  rw [q_rgK (by omega) (by omega), Int.toNat_natCast]
  simp -implicitDefEqProofs
  refine for_ro (fun R => ∃ e, R = Res.ok (Fl.rt (S.val (.int (tot (fun q => gg 8 q * tt s q) s.length)))) e) (fun i e => ∃ x, e = [.val (.lst (sgs s)), .val (.int (tot (fun q => gg 8 q * tt s q) i)), x]) ⟨_, rfl⟩ ?_ ?_
  · intro q e hq hI
    obtain ⟨x, he⟩ := hI
    subst he
    have g1 := sgs_at hq
    rw [sat_told h.told hq] at g1
    rw [show sg (some (tt s q)) = D.int (tt s q) from rfl] at g1
    have l1 := s_lotof 8 q (by omega)
    have l1 : F_law_lot_of [.val (.int 8), .val (.int q)] = .ret (.own none (.lst ((bitsL 8 q).map fun i => .int (i : Nat)))) [.val (.int 8), .val (.int q)] := l1
    have hgg : gg 8 q = 1 - 2 * (((bitsL 8 q).length % 2 : Nat) : Int) := rfl
    have hnext : tot (fun q => gg 8 q * tt s q) (q + 1) = tot (fun q => gg 8 q * tt s q) q + gg 8 q * tt s q := rfl
    rcases h.b q hq with z | z
    · rw [z] at g1
      simp -implicitDefEqProofs [gIx, g1]
      exact ⟨_, by rw [hnext, z, Int.mul_zero, Int.add_zero]⟩
    · rw [z] at g1
      by_cases hp : ((bitsL 8 q).length : Int) % 2 = 0
      · simp -implicitDefEqProofs [gIx, g1, l1, hp, r_sAug, gI_ii]
        have hg1 : gg 8 q = 1 := by rw [hgg]; omega
        exact ⟨_, by rw [hnext, z, hg1]; rfl⟩
      · simp -implicitDefEqProofs [gIx, g1, l1, hp, r_sAug, gI_ii]
        have hg1 : gg 8 q = -1 := by rw [hgg]; omega
        exact ⟨_, by rw [hnext, z, hg1]; rfl⟩
  · intro e hI
    obtain ⟨x, he⟩ := hI
    subst he
    simp
theorem msk_erase {L : List Nat} {e : Nat} (h : e ∈ L) : msk (L.erase e) + 2 ^ e = msk L := by
  induction L with
  | nil => cases h
  | cons a R ih =>
    by_cases z : a = e
    · subst z; rw [List.erase_cons_head, msk_cons]; omega
    · have h' : e ∈ R := by rcases List.mem_cons.mp h with h | h; exact absurd h.symm z; exact h
      rw [List.erase_cons_tail (by simpa using z), msk_cons, msk_cons]
      have := ih h'
      omega
theorem mk_congr {s t : Sg} : ∀ (k : Nat) (L : List Nat) (p : Nat), L.length = k → (∀ q, q ≤ p + msk L → s q = t q) → mk s k L p = mk t k L p
  | 0, L, p, hl, h => by
    show (s p).isSome = (t p).isSome
    rw [h p (by omega)]
  | 1, L, p, hl, h => by
    match L, hl with
    | [e], _ =>
      have hm : msk [e] = 2 ^ e := by simp [msk]
      show ((s p).isSome && (s (p + 2 ^ e)).isSome && s p != s (p + 2 ^ e)) = ((t p).isSome && (t (p + 2 ^ e)).isSome && t p != t (p + 2 ^ e))
      rw [h p (by omega), h (p + 2 ^ e) (by omega)]
  | k + 2, L, p, hl, h => by
    show (L.all fun e => mk s (k + 1) (L.erase e) p || mk s (k + 1) (L.erase e) (p + 2 ^ e)) = (L.all fun e => mk t (k + 1) (L.erase e) p || mk t (k + 1) (L.erase e) (p + 2 ^ e))
    have key : ∀ e ∈ L, (mk s (k + 1) (L.erase e) p || mk s (k + 1) (L.erase e) (p + 2 ^ e)) = (mk t (k + 1) (L.erase e) p || mk t (k + 1) (L.erase e) (p + 2 ^ e)) := fun e he => by
      have hm := msk_erase he
      have hpp := Nat.two_pow_pos e
      rw [mk_congr (k + 1) _ p (len_erase he hl) fun q hq => h q (by omega), mk_congr (k + 1) _ (p + 2 ^ e) (len_erase he hl) fun q hq => h q (by omega)]
    rw [Bool.eq_iff_iff, List.all_eq_true, List.all_eq_true]
    exact ⟨fun w e he => by rw [← key e he]; exact w e he, fun w e he => by rw [key e he]; exact w e he⟩
theorem gg_turn : ∀ m, m < 8 → ∀ q, q < 2 ^ m → gg 8 (2 ^ m + q) = - gg 8 q := by decide +kernel
theorem gg_8 : ∀ n, n < 9 → ∀ q, q < 2 ^ n → gg n q = gg 8 q := by decide +kernel
/-- odd or signed: full -/
theorem full_of {n : Nat} {s : List (Option Int)} (hn : n ≤ 8) (hs : s.length = 2 ^ n) (h : Tot01 s) (hc : sumS s % 2 = 1 ∨ tot (fun q => gg 8 q * tt s q) s.length ≠ 0) : mk (sat s) n (List.range n) 0 = true := by
  have hmr := msk_range n
  have pp := Nat.two_pow_pos n
  have hcg : mk (sat s) n (List.range n) 0 = mk (fun q => some (tt s q)) n (List.range n) 0 := mk_congr n _ 0 (by simp) fun q hq => sat_told h.told (by omega)
  rw [hcg]
  match n, hn, hs, hmr with
  | 0, _, _, _ => rfl
  | k + 1, hn, hs, hmr =>
    cases hz : mk (fun q => some (tt s q)) (k + 1) (List.range (k + 1)) 0 with
    | true => rfl
    | false =>
      obtain ⟨e1, e2⟩ := even_of_not (tt s) k (List.range (k + 1)) 0 (by simp) hz
      rw [sm_tot] at e1
      rw [sn_tot (tt s) (gg 8) (by decide) (k + 1) fun m hm q hq => gg_turn m (by omega) q hq] at e2
      simp only [Nat.zero_add] at e1 e2
      rw [← hs] at e1 e2
      rw [sumS_tot] at hc
      have e1 : tot (tt s) s.length % 2 = 0 := e1
      rcases hc with hc | hc
      · omega
      · exact absurd e2 hc
theorem door_none {n : Nat} {s : List (Option Int)} (hn : n ≤ 8) (h : Tot01 s) : doorO n s = none := by
  have h1 : fN s = none := find_none fun i hi => by rw [sat_told h.told hi]; rfl
  have h2 : fY s = none := find_none fun i hi => by
    rw [sat_told h.told hi]
    rcases h.b i hi with z | z <;> rw [z] <;> rfl
  unfold doorO
  rw [h1, h2]
  have : ¬ 8 < n := by omega
  simp [this]
theorem s_sfull {n : Nat} {s : List (Option Int)} (hn : n ≤ 8) (hs : s.length = 2 ^ n) (h : Tot01 s) : F_signed_full [.val (ruleD n s)] = .ret (.val (.bl (!(tot (fun q => gg 8 q * tt s q) s.length == 0)))) [.val (ruleD n s)] := by
  refine fn_val (ds := [ruleD n s]) rfl ?_
  have h1 := s_ssum hn hs (door_none hn h) h.told
  rw [tot_congr (t := fun q => gg n q * tt s q) (u := fun q => gg 8 q * tt s q) (fun q hq => by rw [gg_8 n (by omega) q hq]), ← hs] at h1
  unfold b_signed_full
  simp -implicitDefEqProofs [h1]
theorem s_counts {n : Nat} {s : List (Option Int)} (hn : n ≤ 8) (ho : SgOk n s) (h : Tot01 s) : F_law_counts [.val (.int n), .val (.lst (sgs s))] = .ret (.val (.bl true)) [.val (.int n), .val (.lst (sgs s))] := by
  refine fn_val (ds := [.int n, .lst (sgs s)]) rfl ?_
  have hs := ho.len
  have p2 : 2 ^ n ≤ 256 := Nat.le_trans (Nat.pow_le_pow_right (by decide) hn) (by decide)
  have m1 := x_make ho (fa := aCons (xVar 0) (aCons (xVar 1) aNil)) (env := [.val (.int n), .val (.lst (sgs s)), .und, .und, .und]) (e := [.val (.int n), .val (.lst (sgs s)), .und, .und, .und]) (by simp)
  have a1 := (gSum_sgs h.told).2
  have a2 := s_lsigned (by omega) h
  have a3 := s_odd n s
  rw [door_none hn h] at a3
  have a4 := s_sfull hn hs h
  have a5 := s_isfull hn hs
  have a6 := full_of hn hs h
  generalize hT : tot (fun q => gg 8 q * tt s q) s.length = T at a2 a4 a6
  generalize hX : sumS s = X at a1 a3 a6
  unfold b_law_counts
  refine seq_q (fun R => ∃ e, R = Res.ok (Fl.rt (S.val (.bl true))) e) ?_
  simp -implicitDefEqProofs [m1]
  refine seq_q (fun R => ∃ e, R = Res.ok (Fl.rt (S.val (.bl true))) e) ?_
  simp -implicitDefEqProofs [a1]
  refine seq_q (fun R => ∃ e, R = Res.ok (Fl.rt (S.val (.bl true))) e) ?_
  simp -implicitDefEqProofs [a2]
  refine seq_q (fun R => ∃ e, R = Res.ok (Fl.rt (S.val (.bl true))) e) ?_
  have a3 : F_odd_full [.val (.ins "Rule" ["size", "signs"] [.int n, .tup (sgs s)])] = .ret (.val (.bl (X % 2 == 1))) [.val (ruleD n s)] := a3
  have a4 : F_signed_full [.val (.ins "Rule" ["size", "signs"] [.int n, .tup (sgs s)])] = .ret (.val (.bl (!(T == 0)))) [.val (ruleD n s)] := a4
  have a5 : F_is_full [.val (.ins "Rule" ["size", "signs"] [.int n, .tup (sgs s)])] = .ret (.val (.bl (mk (sat s) n (List.range n) 0))) [.val (ruleD n s)] := a5
  simp -implicitDefEqProofs [a3, a4]
  refine seq_q (fun R => ∃ e, R = Res.ok (Fl.rt (S.val (.bl true))) e) ?_
  simp -implicitDefEqProofs [a3, a4, gIsi, tyN, isB]
  cases hb : (X % 2 == 1) with
  | true =>
    rw [a6 (.inl (by simpa using hb))] at a5
    simp -implicitDefEqProofs [a5]
  | false =>
    cases hb2 : (T == 0) with
    | true => simp -implicitDefEqProofs
    | false =>
      rw [a6 (.inr (by simpa using hb2))] at a5
      simp -implicitDefEqProofs [a5]
end K67

set_option maxHeartbeats 4000000
namespace K67
open PySem PySem.Spec PyProof.Rows L2 Ya
/-! the law's door -/
theorem s_sfX {n : Nat} {s : List (Option Int)} {c f : Str} {i : Int} (h : doorO n s = some (c, f, i)) : F_signed_full [.val (ruleD n s)] = .exc c [f] [.int i] [.val (ruleD n s)] := by
  have h1 := s_csum n s
  rw [h] at h1
  have h2 : F_signed_sum [.val (ruleD n s)] = .exc c [f] [.int i] [.val (ruleD n s)] := by
    refine fn_valX (ds := [ruleD n s]) rfl ?_
    unfold b_signed_sum
    refine seq_q (fun R => ∃ e, R = Res.exc c [f] [.int i] e) ?_
    simp -implicitDefEqProofs [h1]
  refine fn_valX (ds := [ruleD n s]) rfl ?_
  unfold b_signed_full
  simp -implicitDefEqProofs [h2]
theorem s_ntX (d : D) (h : tyN d ≠ none) (hd : ∀ c ns ds, d ≠ .ins c ns ds) : F_need_total [.val d] = .exc "BadSigns" ["place"] [.int (-1)] [.val d] := by
  have h1 := s_cruleX d h hd
  refine fn_valX (ds := [d]) rfl ?_
  unfold b_need_total
  refine seq_q (fun R => ∃ e, R = Res.exc "BadSigns" ["place"] [.int (-1)] e) ?_
  simp -implicitDefEqProofs [h1]
theorem s_oddX (d : D) (h : tyN d ≠ none) (hd : ∀ c ns ds, d ≠ .ins c ns ds) : F_odd_full [.val d] = .exc "BadSigns" ["place"] [.int (-1)] [.val d] := by
  have h1 := s_cruleX d h hd
  refine fn_valX (ds := [d]) rfl ?_
  unfold b_odd_full
  refine seq_q (fun R => ∃ e, R = Res.exc "BadSigns" ["place"] [.int (-1)] e) ?_
  simp -implicitDefEqProofs [h1]
theorem s_sfXX (d : D) (h : tyN d ≠ none) (hd : ∀ c ns ds, d ≠ .ins c ns ds) : F_signed_full [.val d] = .exc "BadSigns" ["place"] [.int (-1)] [.val d] := by
  have h1 := s_ntX d h hd
  have h2 : F_check_summed [.val d] = .exc "BadSigns" ["place"] [.int (-1)] [.val d] := by
    refine fn_valX (ds := [d]) rfl ?_
    unfold b_check_summed
    refine seq_q (fun R => ∃ e, R = Res.exc "BadSigns" ["place"] [.int (-1)] e) ?_
    simp -implicitDefEqProofs [h1]
  have h3 : F_signed_sum [.val d] = .exc "BadSigns" ["place"] [.int (-1)] [.val d] := by
    refine fn_valX (ds := [d]) rfl ?_
    unfold b_signed_sum
    refine seq_q (fun R => ∃ e, R = Res.exc "BadSigns" ["place"] [.int (-1)] e) ?_
    simp -implicitDefEqProofs [h2]
  refine fn_valX (ds := [d]) rfl ?_
  unfold b_signed_full
  simp -implicitDefEqProofs [h3]
theorem try_exc {f : Xs} {hs : List HF} {env e : En} {c : Str} {ns : List Str} {ds : List D} (h : f env = .exc c ns ds e) : sTry f hs env = runH hs c ns ds e := by
  unfold sTry; rw [h]
theorem try_ok {f : Xs} {hs : List HF} {env e : En} {l : Fl} (h : f env = .ok l e) : sTry f hs env = .ok l e := by
  unfold sTry; rw [h]
theorem gLst1 (a : D) : Ya.gLst [a] = some (.own none (.lst [a])) := rfl
theorem s_door0 {w : Int} {d : D} {v : S} {ss1 ss2 : List S} {v2 : S} (h1 : F_odd_full [.val d] = .ret v ss1) (h2 : F_signed_full [.val d] = .ret v2 ss2) : F_law_door [.val (.int w), .val d] = .ret (.val (.lst [.str "let"])) [.val (.int w), .val d] := by
  refine fn_val (ds := [.int w, d]) rfl ?_
  unfold b_law_door
  refine seq_q (fun R => ∃ e, R = Res.ok (Fl.rt (S.val (.lst [.str "let"]))) e) ?_
  simp -implicitDefEqProofs [gLst1]
  refine seq_q (fun R => ∃ e, R = Res.ok (Fl.rt (S.val (.lst [.str "let"]))) e) ?_
  rw [try_ok (e := [S.val (.int w), S.val d, .own none (.lst [.str "let"]), .und]) (l := .nx) (by
    by_cases hw : w = 0
    · simp -implicitDefEqProofs [hw, h1]
    · simp -implicitDefEqProofs [hw, h2])]
  simp -implicitDefEqProofs
theorem s_doorX {w : Int} {d : D} {c f : Str} {i : Int} {ss1 ss2 : List S} (h1 : F_odd_full [.val d] = .exc c [f] [.int i] ss1) (h2 : F_signed_full [.val d] = .exc c [f] [.int i] ss2) (x : Str) (hx : (c = ("BadSigns" : Str) ∧ f = ("place" : Str) ∧ x = ("signs" : Str)) ∨ (c = ("NotTotal" : Str) ∧ f = ("place" : Str) ∧ x = ("total" : Str)) ∨ (c = ("NotYesNo" : Str) ∧ f = ("place" : Str) ∧ x = ("yesno" : Str)) ∨ (c = ("TooMany" : Str) ∧ f = ("limit" : Str) ∧ x = ("many" : Str))) :
    F_law_door [.val (.int w), .val d] = .ret (.val (.lst [.str x, .int i])) [.val (.int w), .val d] := by
  refine fn_val (ds := [.int w, d]) rfl ?_
  unfold b_law_door
  refine seq_q (fun R => ∃ e, R = Res.ok (Fl.rt (S.val (.lst [.str x, .int i]))) e) ?_
  simp -implicitDefEqProofs [gLst1]
  refine seq_q (fun R => ∃ e, R = Res.ok (Fl.rt (S.val (.lst [.str x, .int i]))) e) ?_
  rw [try_exc (e := [S.val (.int w), S.val d, .own none (.lst [.str "let"]), .und]) (c := c) (ns := [f]) (ds := [.int i]) (by
    by_cases hw : w = 0
    · simp -implicitDefEqProofs [hw, h1]
    · simp -implicitDefEqProofs [hw, h2])]
  refine ⟨[S.val (.int w), S.val d, .val (.lst [.str x, .int i]), .und], ?_⟩
  rcases hx with ⟨rfl, rfl, rfl⟩ | ⟨rfl, rfl, rfl⟩ | ⟨rfl, rfl, rfl⟩ | ⟨rfl, rfl, rfl⟩ <;> kernel_rfl
def doorD (n : Nat) (s : List (Option Int)) : D := match fN s with
  | some i => .lst [.str "total", .int i]
  | none => match fY s with
    | some i => .lst [.str "yesno", .int i]
    | none => if 8 < n then .lst [.str "many", .int 8] else .lst [.str "let"]
theorem s_doorR (w : Int) (n : Nat) (s : List (Option Int)) (h : doorO n s = none → n ≤ 8 → s.length = 2 ^ n ∧ Tot01 s) : F_law_door [.val (.int w), .val (ruleD n s)] = .ret (.val (doorD n s)) [.val (.int w), .val (ruleD n s)] := by
  have h1 := s_odd n s
  have h2 : ∀ {c f : Str} {i : Int}, doorO n s = some (c, f, i) → F_signed_full [.val (ruleD n s)] = .exc c [f] [.int i] [.val (ruleD n s)] := fun e => s_sfX e
  unfold doorD
  unfold doorO at h1 h2 h
  cases e1 : fN s with
  | some i =>
    rw [e1] at h1 h2
    exact s_doorX h1 (h2 rfl) _ (.inr (.inl ⟨rfl, rfl, rfl⟩))
  | none =>
    rw [e1] at h1 h2 h
    cases e2 : fY s with
    | some i =>
      rw [e2] at h1 h2
      exact s_doorX h1 (h2 rfl) _ (.inr (.inr (.inl ⟨rfl, rfl, rfl⟩)))
    | none =>
      rw [e2] at h1 h2 h
      by_cases h8 : 8 < n
      · simp only [h8, if_true] at h1 h2 ⊢
        exact s_doorX h1 (h2 rfl) _ (.inr (.inr (.inr ⟨rfl, rfl, rfl⟩)))
      · simp only [h8, if_false] at h1 h
        obtain ⟨hs, ht⟩ := h trivial (by omega)
        simp only [h8, if_false]
        exact s_door0 h1 (s_sfull (by omega) hs ht)
/-! what is due at the door -/
theorem filt_find {n : Nat} {p : Nat → Bool} : ((List.range n).find? p = none → (List.range n).filter p = []) ∧ (∀ i, (List.range n).find? p = some i → ∃ r, (List.range n).filter p = i :: r) := by
  generalize List.range n = l
  induction l with
  | nil => exact ⟨fun _ => rfl, fun i h => by cases h⟩
  | cons a l ih =>
    rw [List.find?_cons, List.filter_cons]
    cases h : p a with
    | true =>
      refine ⟨fun z => (by cases z), fun i z => ?_⟩
      have z : some a = some i := z
      injection z with z
      subst z
      exact ⟨_, rfl⟩
    | false => exact ih
theorem at0 (a : D) (r : List D) : atI (a :: r) 0 = some a := atI_nat (j := 0) (xs := a :: r) (v := a) rfl
theorem gLst2 (a b : D) : Ya.gLst [a, b] = some (.own none (.lst [a, b])) := rfl
def doorDue (s : List (Option Int)) : D := match fN s with
  | some i => .lst [.str "total", .int i]
  | none => match fY s with
    | some i => .lst [.str "yesno", .int i]
    | none => .lst [.str "let"]
def DDQ (d : D) (R : Res Fl) : Prop := ∃ r e, R = .ok (.rt r) e ∧ frz r = some d
theorem s_due {s : List (Option Int)} (hl : s.length ≤ 1000000) : ∃ r, F_law_door_due [.val (.lst (sgs s))] = .ret r [.val (.lst (sgs s))] ∧ frz r = some (doorDue s) := by
  have main : DDQ (doorDue s) (b_law_door_due ([D.lst (sgs s)].map S.val ++ List.replicate (4 - 1) .und)) := by
    unfold b_law_door_due
    refine seq_q (DDQ _) ?_
    simp -implicitDefEqProofs
    refine lc_qo (DDQ _) (n := s.length) (env0 := [S.val (.lst (sgs s)), .und, .und, .und]) (rgN (by simp [sgs_len]) hl) hl (fun i => (sat s i).isNone) (fun i => .int (i : Nat)) ?_ ?_ ?_
    · intro i hi
      simp -implicitDefEqProofs [gIx, sgs_at hi, is_sg]
    · intro i hi _
      exact ⟨.val (.int i), by simp, rfl⟩
    · simp -implicitDefEqProofs
      refine seq_q (DDQ _) ?_
      obtain ⟨f1, f2⟩ := filt_find (n := s.length) (p := fun i => (sat s i).isNone)
      unfold doorDue
      cases e1 : fN s with
      | some i =>
        obtain ⟨r, hr⟩ := f2 i e1
        have hr2 : ((List.range s.length).filter fun i => (sat s i).isNone) = i :: r := hr
        rw [hr2]
        have hp : ∀ k : Nat, (0 : Int) < (k : Int) + 1 := fun k => by omega
        simp -implicitDefEqProofs [gIx, at0, gLst2, hp]
        exact ⟨_, _, rfl, rfl⟩
      | none =>
        have hr2 : ((List.range s.length).filter fun i => (sat s i).isNone) = [] := f1 e1
        rw [hr2]
        simp -implicitDefEqProofs
        refine seq_q (DDQ _) ?_
        simp -implicitDefEqProofs
        refine lc_qo (DDQ _) (n := s.length) (env0 := [S.val (.lst (sgs s)), .val (.lst []), .und, .und]) (rgN (by simp [sgs_len]) hl) hl (fun i => match sat s i with | some v => decide (1 < v) | none => false) (fun i => .int (i : Nat)) ?_ ?_ ?_
        · intro i hi
          have g1 := sgs_at hi
          rw [sat_told (fN_none e1) hi] at g1
          rw [show sg (some (tt s i)) = D.int (tt s i) from rfl] at g1
          simp -implicitDefEqProofs [gIx, g1, sat_told (fN_none e1) hi]
        · intro i hi _
          exact ⟨.val (.int i), by simp, rfl⟩
        · simp -implicitDefEqProofs
          refine seq_q (DDQ _) ?_
          obtain ⟨f1, f2⟩ := filt_find (n := s.length) (p := fun i => match sat s i with | some v => decide (1 < v) | none => false)
          cases e2 : fY s with
          | some i =>
            obtain ⟨r, hr⟩ := f2 i e2
            have hr2 : ((List.range s.length).filter fun i => match sat s i with | some v => decide (1 < v) | none => false) = i :: r := hr
            rw [hr2]
            have hp : ∀ k : Nat, (0 : Int) < (k : Int) + 1 := fun k => by omega
            simp -implicitDefEqProofs [gIx, at0, gLst2, hp]
            exact ⟨_, _, rfl, rfl⟩
          | none =>
            have hr2 : ((List.range s.length).filter fun i => match sat s i with | some v => decide (1 < v) | none => false) = [] := f1 e2
            rw [hr2]
            simp -implicitDefEqProofs [gLst1]
            exact ⟨_, _, rfl, rfl⟩
  obtain ⟨r, e, h1, h2⟩ := main
  exact ⟨r, fn_val (ds := [.lst (sgs s)]) rfl ⟨e, h1⟩, h2⟩
theorem door_same {n : Nat} {s : List (Option Int)} (hn : n ≤ 8) : gNe (doorD n s) (doorDue s) = some (.val (.bl false)) := by
  have h8 : ¬ 8 < n := by omega
  have key : ∀ (i : Int), gNe (.lst [.str "total", .int i]) (.lst [.str "total", .int i]) = some (.val (.bl false)) ∧ gNe (.lst [.str "yesno", .int i]) (.lst [.str "yesno", .int i]) = some (.val (.bl false)) := fun i => by
    have hi : (i == i) = true := by simp
    constructor
    · have : gNe (.lst [.str "total", .int i]) (.lst [.str "total", .int i]) = some (.val (.bl (!(true && ((i == i) && true))))) := by kernel_rfl
      rw [this, hi]; rfl
    · have : gNe (.lst [.str "yesno", .int i]) (.lst [.str "yesno", .int i]) = some (.val (.bl (!(true && ((i == i) && true))))) := by kernel_rfl
      rw [this, hi]; rfl
  unfold doorD doorDue
  cases fN s with
  | some i => exact (key i).1
  | none =>
    cases fY s with
    | some i => exact (key i).2
    | none =>
      simp only [h8, if_false]
      kernel_rfl
end K67

set_option maxHeartbeats 4000000
namespace K67
open PySem PySem.Spec PyProof.Rows L2 Ya
/-! the feed -/
theorem seq_c {p q : Xs} {env : En} (Q : Res Fl → Prop) (P : En → Prop) (h1 : ∃ e', p env = .ok .nx e' ∧ P e') (h2 : ∀ e', P e' → Q (q e')) : Q (sSeq p q env) := by
  obtain ⟨e', h, hp⟩ := h1
  refine seq_q Q ?_
  rw [h]
  exact h2 e' hp
def FQ (R : Res Fl) : Prop := ∃ (f : List Int) (e : En), R = .ok (.rt (.own none (.lst (f.map D.int)))) e
def FI (ns : List Int) (i : Nat) (e : En) : Prop := ∃ (f : List Int) (x2 x3 x4 x5 x6 : S), e = [.val (.scr ns), fl none f, x2, x3, x4, x5, x6] ∧ f.length ≤ 48 * i
def FC (ns : List Int) (i : Nat) (e : En) : Prop := ∃ (f : List Int) (x5 x6 : S) (c m : Int), e = [.val (.scr ns), fl none f, .val (.int i), .val (.int c), .val (.int m), x5, x6] ∧ f.length ≤ 48 * i
def FB (ns : List Int) (i k : Nat) (e : En) : Prop := ∃ (f : List Int) (x5 x6 : S) (c m : Int), e = [.val (.scr ns), fl none f, .val (.int i), .val (.int c), .val (.int m), x5, x6] ∧ f.length ≤ 48 * i + k
def FX (ns f : List Int) (i : Nat) (c m : Int) (x5 : S) (e : En) : Prop := ∃ (x : Int), e = [.val (.scr ns), fl none f, .val (.int i), .val (.int c), .val (.int m), x5, .val (.int x)] ∧ 0 ≤ x ∧ x < 1000003
def FW (ns : List Int) (i : Nat) (c m : Int) (k : Nat) (e : En) : Prop := ∃ (f : List Int) (x5 : S) (x : Int), e = [.val (.scr ns), fl none f, .val (.int i), .val (.int c), .val (.int m), x5, .val (.int x)] ∧ 0 ≤ x ∧ x < 1000003 ∧ f.length ≤ 48 * i + k
theorem pow18 : gPow (.int 10) (.int 18) = some (.val (.int 1000000000000000000)) := by kernel_rfl
theorem gMulc {a b : Int} (h : -(2 ^ 64) < b ∧ b < 2 ^ 64) : gMul (.int a) (.int b) = some (.val (.int (a * b))) := by
  show (if cMul a b = true then some (S.val (.int (a * b))) else none) = _
  rw [if_pos (by unfold cMul; simp; omega)]
theorem fl_app {f : List Int} {x : Int} : f.map D.int ++ [D.int x] = (f ++ [x]).map D.int := by simp
theorem s_feed {ns : List Int} (h : ns.length ≤ 63) : ∃ f : List Int, F_law_feed [.val (.scr ns)] = .ret (.own none (.lst (f.map D.int))) [.val (.scr ns)] := by
  have main : FQ (b_law_feed ([D.scr ns].map S.val ++ List.replicate (7 - 1) .und)) := by
    unfold b_law_feed
    refine seq_q FQ ?_
    simp -implicitDefEqProofs [Ya.gLst]
    refine seq_q FQ ?_
    have hmin : (if (63 : Int) < (ns.length : Int) then 63 else (ns.length : Int)) = (ns.length : Int) := by rw [if_neg (by omega)]
    simp -implicitDefEqProofs [q_rg, gII, gLen, hmin]
    rw [q_rgK (by omega) (by omega), Int.toNat_natCast]
    simp -implicitDefEqProofs
    refine for_ro FQ (FI ns) ⟨[], _, _, _, _, _, rfl, Nat.le_refl _⟩ ?_ ?_
    · intro i e hi hI
      obtain ⟨f, x2, x3, x4, x5, x6, he, hf⟩ := hI
      subst he
      have hns : atI ns (i : Nat) = some ns[i] := atI_nat (List.getElem?_eq_getElem hi)
      generalize ns[i] = c at hns
      refine seq_q (Outc _ _ _) ?_
      simp -implicitDefEqProofs [gIx, hns]
      refine seq_q (Outc _ _ _) ?_
      simp -implicitDefEqProofs
      refine seq_c (Outc _ _ _) (FC ns i) ?_ ?_
      · by_cases hc : c < 0
        · simp -implicitDefEqProofs [hc, gAbs, r_sSeq]
          exact ⟨_, _, _, _, _, rfl, hf⟩
        · simp -implicitDefEqProofs [hc]
          exact ⟨_, _, _, _, _, rfl, hf⟩
      · intro e hI
        obtain ⟨f, x5, x6, c, m, he, hf⟩ := hI
        subst he
        by_cases hbig : 1000000000000000000 ≤ c
        · simp -implicitDefEqProofs [pow18, hbig, q_rg]
          rw [q_rgK (by omega) (by omega)]
          simp -implicitDefEqProofs
          refine for_rt (n := 48) (Outc FQ _ _) (FB ns i) ⟨f, _, _, _, _, rfl, hf⟩ ?_ ?_
          · intro k e hk hI
            obtain ⟨f, x5, x6, c, m, he, hf⟩ := hI
            subst he
            have hlen : f.length < 1000000 := by omega
            by_cases hc : 0 < c
            · simp -implicitDefEqProofs [hc]
              refine seq_q (Outc _ _ _) ?_
              simp -implicitDefEqProofs [fl, hlen]
              exact ⟨f ++ [c % 30], _, _, _, _, by rw [fl_app]; rfl, by simp; omega⟩
            · simp -implicitDefEqProofs [hc]
              exact ⟨f, _, _, _, _, rfl, by omega⟩
          · intro e hI
            obtain ⟨f, x5, x6, c, m, he, hf⟩ := hI
            subst he
            exact ⟨f, _, _, _, _, _, rfl, by omega⟩
        · simp -implicitDefEqProofs [pow18, hbig]
          refine seq_c (Outc _ _ _) (FX ns f i c m x5) ?_ ?_
          · have m1 := gMulc (a := c) (b := 7919) (by decide)
            have m2 := gMulc (a := (i : Int)) (b := 104729) (by decide)
            have m3 := gMulc (a := m) (b := 331) (by decide)
            simp -implicitDefEqProofs [m1, m2, m3]
            exact ⟨_, rfl, Int.emod_nonneg _ (by decide), Int.emod_lt_of_pos _ (by decide)⟩
          · intro e hI
            obtain ⟨x, he, hx0, hx1⟩ := hI
            subst he
            simp -implicitDefEqProofs [q_rg]
            rw [q_rgK (by omega) (by omega)]
            simp -implicitDefEqProofs
            refine for_rt (n := 5) (Outc FQ _ _) (FW ns i c m) ⟨f, _, _, rfl, hx0, hx1, hf⟩ ?_ ?_
            · intro k e hk hI
              obtain ⟨f, x5, x, he, hx0, hx1, hf⟩ := hI
              subst he
              have hlen : f.length < 1000000 := by omega
              have m1 := gMulc (a := x) (b := x) (by omega)
              have m2 := gMulc (a := (k : Int)) (b := 613) (by decide)
              have m3 := gMulc (a := (i : Int)) (b := 17) (by decide)
              refine seq_q (Outc _ _ _) ?_
              simp -implicitDefEqProofs [m1, m2, m3, fl, hlen]
              exact ⟨f ++ [_], _, _, by rw [fl_app]; rfl, Int.emod_nonneg _ (by decide), Int.emod_lt_of_pos _ (by decide), by simp; omega⟩
            · intro e hI
              obtain ⟨f, x5, x, he, hx0, hx1, hf⟩ := hI
              subst he
              exact ⟨f, _, _, _, _, _, rfl, by omega⟩
    · intro e hI
      obtain ⟨f, x2, x3, x4, x5, x6, he, hf⟩ := hI
      subst he
      refine seq_q FQ ?_
      simp -implicitDefEqProofs [fl]
      exact ⟨f.reverse, _, by rw [List.map_reverse]⟩
  obtain ⟨f, e, h⟩ := main
  exact ⟨f, fn_val (ds := [.scr ns]) rfl ⟨e, h⟩⟩
/-! drawn signs -/
section
variable {β : Type} {Q : Res β → Prop} {k : Fl → En → Res β} {I : En → Prop} {e env : En}
/-- how a turn may end, sealed -/
inductive Outi {β : Type} (Q : Res β → Prop) (k : Fl → En → Res β) (I : En → Prop) (r : Res Fl) : Prop where
  | mk (h : Outc Q k I r)
theorem oc_nx (h : I e) : Outi Q k I (.ok .nx e) := ⟨h⟩
theorem oc_rt {r : S} (h : Q (k (.rt r) e)) : Outi Q k I (.ok (.rt r) e) := ⟨h⟩
theorem oc_exc {c : Str} {ns : List Str} {xs : List D} (h : Q (.exc c ns xs e)) : Outi Q k I (.exc c ns xs e) := ⟨h⟩
theorem seq_o {p q : Xs} (h : Outi Q k I ((p env).bind fun l e => match l with | .nx => q e | l => .ok l e)) : Outi Q k I (sSeq p q env) := h
theorem for_roi {j n : Nat} {f : Xs} (Q : Res β → Prop) (I : Nat → En → Prop) (h : I 0 e) (hs : ∀ i e, i < n → I i e → Outi Q k (I (i + 1)) (f (e.set j (.val (.int (i : Nat)))))) (hk : ∀ e', I n e' → Q (k .nx e')) : Q ((forS (gxName j) f (rngD 0 (n : Nat)) e).bind k) :=
  for_ro Q I h (fun i e hi hI => (hs i e hi hI).1) hk
end

theorem sgs_app {s : List (Option Int)} {x : Option Int} : sgs s ++ [sg x] = sgs (s ++ [x]) := by simp [sgs]
def OQ (n : Nat) (R : Res Fl) : Prop := ∃ (s : List (Option Int)) (f : List Int) (e : En), R = .ok (.rt (.own none (.lst (sgs s)))) e ∧ e[0]? = some (fl (some 0) f) ∧ s.length = 2 ^ n ∧ (∀ x ∈ s, x = some 0 ∨ x = some 1)
def OM (n : Nat) (k : Nat) (e : En) : Prop := ∃ (f l : List Int) (x3 x4 x5 : S), e = [fl (some 0) f, .val (.int n), .own none (.lst (l.map D.int)), x3, x4, x5, .und, .und] ∧ l.length ≤ k
def OE (n : Nat) (l : List Int) (x3 : S) (_k : Nat) (e : En) : Prop := ∃ (f : List Int) (x5 : S) (m : Int), e = [fl (some 0) f, .val (.int n), .own none (.lst (l.map D.int)), x3, .val (.int m), x5, .und, .und]
def OP (n : Nat) (l : List Int) (k : Nat) (e : En) : Prop := ∃ (f : List Int) (y2 x3 x4 x5 x7 : S) (s : List (Option Int)), e = [fl (some 0) f, .val (.int n), y2, x3, x4, x5, .own none (.lst (sgs s)), x7] ∧ (y2 = .own none (.lst (l.map D.int)) ∨ y2 = .val (.lst (l.map D.int))) ∧ s.length = k ∧ ∀ x ∈ s, x = some 0 ∨ x = some 1
theorem s_order {n : Nat} (hn : n ≤ 10) (f : List Int) : ∃ (s : List (Option Int)) (f' : List Int), F_law_order_signs [fl (some 0) f, .val (.int n)] = .ret (.own none (.lst (sgs s))) [fl (some 0) f', .val (.int n)] ∧ s.length = 2 ^ n ∧ (∀ x ∈ s, x = some 0 ∨ x = some 1) := by
  have p2 : 2 ^ n ≤ 1024 := Nat.le_trans (Nat.pow_le_pow_right (by decide) hn) (by decide)
  have sh := g_shl_1 (j := (n : Int)) (by omega) (by omega)
  rw [Int.toNat_natCast, show (2 : Int) ^ n = ((2 ^ n : Nat) : Int) by simp] at sh
  generalize hN : 2 ^ n = N at p2 sh ⊢
  have main : OQ n (b_law_order_signs ([fl (some 0) f, .val (.int n)] ++ List.replicate (8 - 2) .und)) := by
    unfold b_law_order_signs
    refine seq_q (OQ n) ?_
    simp -implicitDefEqProofs [Ya.gLst]
    obtain ⟨v, f1, hv0, hv1, hv⟩ := x_pick (i := 0) (o := some 0) (f := f) (env := [fl (some 0) f, .val (.int n), .own none (.lst []), .und, .und, .und, .und, .und]) 4 (by decide) rfl
    refine seq_q (OQ n) ?_
    simp -implicitDefEqProofs [q_rg, hv]
    rw [q_rgK (by omega) (by omega)]
    obtain ⟨w, hw⟩ : ∃ w : Nat, (1 + v).toNat = w ∧ w ≤ 4 := ⟨_, rfl, by omega⟩
    rw [hw.1]
    simp -implicitDefEqProofs
    refine for_roi (OQ n) (OM n) ⟨f1, [], .und, .und, .und, rfl, Nat.zero_le _⟩ ?_ ?_
    · intro k e hk hI
      obtain ⟨f, l, x3, x4, x5, he, hl⟩ := hI
      subst he
      refine seq_o ?_
      simp -implicitDefEqProofs
      refine seq_o ?_
      simp -implicitDefEqProofs [q_rg]
      rw [q_rgK (by omega) (by omega), Int.toNat_natCast]
      simp -implicitDefEqProofs
      refine for_roi (Outi (OQ n) _ _) (OE n l (.val (.int k))) ⟨f, _, 0, rfl⟩ ?_ ?_
      · intro i e hi hI
        obtain ⟨f, x5, m, he⟩ := hI
        subst he
        obtain ⟨v, f1, hv0, hv1, hv⟩ := x_pick (i := 0) (o := some 0) (f := f) (env := [fl (some 0) f, .val (.int n), .own none (.lst (l.map D.int)), .val (.int k), .val (.int m), .val (.int i), .und, .und]) 2 (by decide) rfl
        by_cases hz : v = 0
        · subst hz
          have sh2 := g_shl_1 (j := (i : Int)) (by omega) (by omega)
          simp -implicitDefEqProofs [hv, r_sAug, sh2, gI_ii]
          exact oc_nx ⟨_, _, _, rfl⟩
        · simp -implicitDefEqProofs [hv, hz]
          exact oc_nx ⟨_, _, _, rfl⟩
      · intro e hI
        obtain ⟨f, x5, m, he⟩ := hI
        subst he
        have hlen : l.length < 1000000 := by omega
        simp -implicitDefEqProofs [hlen]
        exact oc_nx ⟨f, l ++ [m], _, _, _, by rw [fl_app], by simp; omega⟩
    · intro e hI
      obtain ⟨f, l, x3, x4, x5, he, hl⟩ := hI
      subst he
      have hl5 : l.length ≤ 4 := by omega
      refine seq_q (OQ n) ?_
      simp -implicitDefEqProofs [Ya.gLst]
      refine seq_q (OQ n) ?_
      simp -implicitDefEqProofs [q_rg, sh]
      rw [q_rgK (by omega) (by omega), Int.toNat_natCast]
      simp -implicitDefEqProofs
      refine for_roi (OQ n) (OP n l) ⟨f, _, _, _, _, _, [], rfl, .inl rfl, rfl, fun x hx => by cases hx⟩ ?_ ?_
      · intro k e hk hI
        obtain ⟨f, y2, x3, x4, x5, x7, s, he, hx2, hs, h01⟩ := hI
        subst he
        have hlen : s.length < 1000000 := by omega
        have fin : ∀ ds : List D, xLc [4] (iData (xVarF 2)) (gxName 4) (uTst (x2 gEq (x2 gAnd (xVar 4) (xVar 7)) (xVar 4))) (xVar 4) [fl (some 0) f, .val (.int n), y2, x3, x4, x5, .own none (.lst (sgs s)), .val (.int k)] = .ok (.own none (.lst ds)) [fl (some 0) f, .val (.int n), .val (.lst (l.map D.int)), x3, .und, x5, .own none (.lst (sgs s)), .val (.int k)] → Outi (OQ n) (fun l e => match l with | Fl.nx => sRet (xMove 6) e | l => Res.ok l e) (OP n l (k + 1)) (sExpr (xApp 6 (xN gInt (aCons (x2 gGt (xN gLen (aCons (xLc [4] (iData (xVarF 2)) (gxName 4) (uTst (x2 gEq (x2 gAnd (xVar 4) (xVar 7)) (xVar 4))) (xVar 4)) aNil)) (xC (.int 0))) aNil))) [fl (some 0) f, .val (.int n), y2, x3, x4, x5, .own none (.lst (sgs s)), .val (.int k)]) := fun ds hds => by
          simp -implicitDefEqProofs [hds, sgs_len, hlen]
          refine oc_nx ⟨f, _, _, _, _, _, s ++ [some (if 0 < ds.length then 1 else 0)], by rw [← sgs_app]; rfl, .inr rfl, by simp [hs], fun x hx => ?_⟩
          rcases List.mem_append.mp hx with hx | hx
          · exact h01 x hx
          · rw [List.mem_singleton] at hx
            subst hx
            by_cases z : 0 < ds.length
            · right; rw [if_pos z]
            · left; rw [if_neg z]
        have hll : l.length ≤ 1000000 := by omega
        rcases hx2 with rfl | rfl
        · exact fin _ (lcD (j := 4) (ds := l.map D.int) (env0 := [fl (some 0) f, .val (.int n), .val (.lst (l.map D.int)), x3, x4, x5, .own none (.lst (sgs s)), .val (.int k)]) (by simp) (by simpa using hll) (fun d => match d with | .int m => Builtin.bitAnd m k == m | _ => false) (fun d => d) (fun d hd => by
            obtain ⟨m, _, rfl⟩ := List.mem_map.mp hd
            simp) (fun d hd _ => by
            obtain ⟨m, _, rfl⟩ := List.mem_map.mp hd
            exact ⟨.val (.int m), by simp, rfl⟩))
        · exact fin _ (lcD (j := 4) (ds := l.map D.int) (env0 := [fl (some 0) f, .val (.int n), .val (.lst (l.map D.int)), x3, x4, x5, .own none (.lst (sgs s)), .val (.int k)]) (by simp) (by simpa using hll) (fun d => match d with | .int m => Builtin.bitAnd m k == m | _ => false) (fun d => d) (fun d hd => by
            obtain ⟨m, _, rfl⟩ := List.mem_map.mp hd
            simp) (fun d hd _ => by
            obtain ⟨m, _, rfl⟩ := List.mem_map.mp hd
            exact ⟨.val (.int m), by simp, rfl⟩))
      · intro e hI
        obtain ⟨f, y2, x3, x4, x5, x7, s, he, hx2, hs, h01⟩ := hI
        subst he
        simp -implicitDefEqProofs
        exact ⟨s, f, _, rfl, rfl, by rw [hs, hN], h01⟩
  obtain ⟨s, f', e, h1, h2, h3, h4⟩ := main
  refine ⟨s, f', ?_, h3.trans hN, h4⟩
  have h0 := fn_ret (n := 2) (N := 8) (b := b_law_order_signs) (ss := [fl (some 0) f, .val (.int n)]) rfl h1
  have h5 : endsE [fl (some 0) f, .val (.int n)] e = [fl (some 0) f', .val (.int n)] := by
    have : endsE [fl (some 0) f, .val (.int n)] e = [(match e[0]? with | some (S.own (some k') c) => if k' = 0 then S.own (some 0) c else .und | _ => .und), S.val (.int n)] := rfl
    rw [this, h2]
    rfl
  rw [h5] at h0
  exact h0
end K67

set_option maxHeartbeats 4000000
namespace K67
open PySem PySem.Spec PyProof.Rows L2 Ya
/-! cases -/
theorem s_told_io (s : List (Option Int)) (h : s.length ≤ 1000000) : F_law_told_io [.own (some 0) (.lst (sgs s))] = .ret (.own none (.lst ((toldL s).map fun i => .int (i : Nat)))) [.own (some 0) (.lst (sgs s))] := by
  refine fn_ret (e := [.own (some 0) (.lst (sgs s)), .und]) rfl ?_
  unfold b_law_told_io
  rw [r_sRet]
  have e := lcR (j := 1) (env := [.own (some 0) (.lst (sgs s)), .und]) (env0 := [.own (some 0) (.lst (sgs s)), .und]) (n := s.length) (fi := iRg1 (aCons (xLenO 0) aNil)) (t := uTst (x2 gNis (xIxO 0 (xVar 1)) (xC .non))) (f := xVar 1)
    (rgN (by simp [sgs_len]) h) h (fun i => (sat s i).isSome) (fun i => .int (i : Nat))
    (fun i hi => by simp [sgs_at hi, nis_sg]) (fun i hi _ => ⟨_, by simp; rfl, rfl⟩)
  show (xLc [1] _ _ _ _ [S.own (some 0) (.lst (sgs s)), .und]).bind _ = _
  rw [e]
  rfl
def CS (x : Option Int) : Prop := x = none ∨ x = some 0 ∨ x = some 1 ∨ x = some 2
theorem sgok_of {n : Nat} {s : List (Option Int)} (hn : n ≤ 10) (hl : s.length = 2 ^ n) (hs : ∀ x ∈ s, CS x) (ht : ∃ x ∈ s, x ≠ none) : SgOk n s := by
  refine ⟨hn, hl, fun x hx i hi => ?_, ht⟩
  subst hi
  rcases hs _ hx with h | h | h | h <;> (first | (cases h; done) | (injection h with h; omega))
def KQ (R : Res Fl) : Prop := ∃ (n : Nat) (s : List (Option Int)) (f : List Int) (e : En), R = .ok (.rt (.own none (.lst [.int n, .lst (sgs s)]))) e ∧ e[0]? = some (fl (some 0) f) ∧ n ≤ 4 ∧ SgOk n s
instance : ∀ x, Decidable (CS x) := fun x => by unfold CS; infer_instance
theorem s_known (f : List Int) : ∃ (n : Nat) (s : List (Option Int)) (f' : List Int), F_law_known_signs [fl (some 0) f] = .ret (.own none (.lst [.int n, .lst (sgs s)])) [fl (some 0) f'] ∧ n ≤ 4 ∧ SgOk n s := by
  have main : KQ (b_law_known_signs ([fl (some 0) f] ++ List.replicate (4 - 1) .und)) := by
    unfold b_law_known_signs
    obtain ⟨v, f1, hv0, hv1, hv⟩ := x_pick (i := 0) (o := some 0) (f := f) (env := [fl (some 0) f, .und, .und, .und]) 6 (by decide) rfl
    refine seq_q KQ ?_
    simp -implicitDefEqProofs [hv]
    have hv' : v = 0 ∨ v = 1 ∨ v = 2 ∨ v = 3 ∨ v = 4 ∨ v = 5 := by omega
    rcases hv' with rfl | rfl | rfl | rfl | rfl | rfl
    · exact ⟨3, [some 0, some 0, some 1, some 0, some 0, some 1, some 1, some 1], f1, [fl (some 0) f1, .val (.int 0), .und, .und], by kernel_rfl, rfl, by decide, sgok_of (by decide) rfl (by decide) ⟨some 0, by decide, by decide⟩⟩
    · exact ⟨4, [some 0, some 0, some 0, some 1, some 0, some 0, some 1, some 1, some 0, some 0, some 0, some 1, some 1, some 1, some 1, some 1], f1, [fl (some 0) f1, .val (.int 1), .val (.lst [.int 3, .int 6, .int 7, .int 11, .int 12, .int 13, .int 14, .int 15]), .und], by kernel_rfl, rfl, by decide, sgok_of (by decide) rfl (by decide) ⟨some 0, by decide, by decide⟩⟩
    · exact ⟨4, [some 1, some 1, some 0, some 1, some 0, some 0, some 0, some 1, some 1, some 0, some 0, some 0, some 1, some 0, some 1, some 1], f1, [fl (some 0) f1, .val (.int 2), .val (.lst [.int 0, .int 8, .int 12, .int 14, .int 15, .int 7, .int 3, .int 1]), .und], by kernel_rfl, rfl, by decide, sgok_of (by decide) rfl (by decide) ⟨some 0, by decide, by decide⟩⟩
    · exact ⟨3, [some 0, some 1, some 1, some 1, some 1, some 1, some 1, some 0], f1, [fl (some 0) f1, .val (.int 3), .und, .und], by kernel_rfl, rfl, by decide, sgok_of (by decide) rfl (by decide) ⟨some 0, by decide, by decide⟩⟩
    · exact ⟨2, [some 0, none, none, some 1], f1, [fl (some 0) f1, .val (.int 4), .und, .und], by kernel_rfl, rfl, by decide, sgok_of (by decide) rfl (by decide) ⟨some 0, by decide, by decide⟩⟩
    · exact ⟨3, [some 0, some 0, some 0, some 1, some 0, some 1, some 1, some 1], f1, [fl (some 0) f1, .val (.int 5), .und, .und], by kernel_rfl, rfl, by decide, sgok_of (by decide) rfl (by decide) ⟨some 0, by decide, by decide⟩⟩
  obtain ⟨n, s, f', e, h1, h2, h3, h4⟩ := main
  refine ⟨n, s, f', ?_, h3, h4⟩
  have h0 := fn_ret (n := 1) (N := 4) (b := b_law_known_signs) (ss := [fl (some 0) f]) rfl h1
  have h5 : endsE [fl (some 0) f] e = [fl (some 0) f'] := by
    have : endsE [fl (some 0) f] e = [(match e[0]? with | some (S.own (some k') c) => if k' = 0 then S.own (some 0) c else .und | _ => .und)] := rfl
    rw [this, h2]
    rfl
  rw [h5] at h0
  exact h0
theorem gIn34 (w : Int) : gIn (.int w) (.tup [.int 3, .int 4]) = some (.val (.bl ((3 == w) || ((4 == w) || false)))) := by kernel_rfl
def SQ (n : Nat) (R : Res Fl) : Prop := ∃ (s : List (Option Int)) (f : List Int) (e : En), R = .ok (.rt (.own none (.lst (sgs s)))) e ∧ e[0]? = some (fl (some 0) f) ∧ SgOk n s
def SI1 (n : Nat) (w : Int) (k : Nat) (e : En) : Prop := ∃ (f : List Int) (s : List (Option Int)) (x4 x5 : S), e = [fl (some 0) f, .val (.int n), .val (.int w), .own none (.lst (sgs s)), x4, x5] ∧ s.length = k ∧ ∀ x ∈ s, CS x
def SP1 (n : Nat) (w b : Int) (k : Nat) (s : List (Option Int)) (e : En) : Prop := ∃ (f : List Int) (v : Int), e = [fl (some 0) f, .val (.int n), .val (.int w), .own none (.lst (sgs s)), .val (.int k), .val (.int v)] ∧ 0 ≤ v ∧ v < b
def SP2 (n : Nat) (w : Int) (k : Nat) (s : List (Option Int)) (e : En) : Prop := ∃ (f : List Int) (x : Option Int), e = [fl (some 0) f, .val (.int n), .val (.int w), .own none (.lst (sgs s)), .val (.int k), .val (sg x)] ∧ CS x ∧ (w = 5 → x ≠ none)
theorem cs_of {v b : Int} (h0 : 0 ≤ v) (h1 : v < b) (hb : b ≤ 3) : CS (some v) := by
  have : v = 0 ∨ v = 1 ∨ v = 2 := by omega
  rcases this with rfl | rfl | rfl
  · exact .inr (.inl rfl)
  · exact .inr (.inr (.inl rfl))
  · exact .inr (.inr (.inr rfl))
theorem s_signs {n : Nat} (hn : n ≤ 10) (f : List Int) : ∃ (s : List (Option Int)) (f' : List Int), F_law_signs [fl (some 0) f, .val (.int n)] = .ret (.own none (.lst (sgs s))) [fl (some 0) f', .val (.int n)] ∧ SgOk n s := by
  have p2 : 2 ^ n ≤ 1024 := Nat.le_trans (Nat.pow_le_pow_right (by decide) hn) (by decide)
  have pp := Nat.two_pow_pos n
  have sh := g_shl_1 (j := (n : Int)) (by omega) (by omega)
  rw [Int.toNat_natCast, show (2 : Int) ^ n = ((2 ^ n : Nat) : Int) by simp] at sh
  have main : SQ n (b_law_signs ([fl (some 0) f, .val (.int n)] ++ List.replicate (6 - 2) .und)) := by
    unfold b_law_signs
    obtain ⟨w, f1, hv0, hv1, hv⟩ := x_pick (i := 0) (o := some 0) (f := f) (env := [fl (some 0) f, .val (.int n), .und, .und, .und, .und]) 6 (by decide) rfl
    refine seq_q (SQ n) ?_
    simp -implicitDefEqProofs [hv]
    refine seq_q (SQ n) ?_
    by_cases hw2 : w = 2
    · subst hw2
      obtain ⟨s, f2, o1, o2, o3⟩ := s_order hn f1
      have o4 := io1 (F := F_law_order_signs) (f := xVar 1) (env := [fl (some 0) f1, .val (.int n), .val (.int 2), .und, .und, .und]) (i := 0) (o := some 0) (e := [fl (some 0) f1, .val (.int n), .val (.int 2), .und, .und, .und]) rfl rfl rfl o1
      simp -implicitDefEqProofs [o4]
      refine ⟨s, f2, _, rfl, rfl, sgok_of hn o2 (fun x hx => ?_) ?_⟩
      · rcases o3 x hx with h | h
        · exact .inr (.inl h)
        · exact .inr (.inr (.inl h))
      · have : 0 < s.length := by omega
        refine ⟨s[0], List.getElem_mem this, ?_⟩
        rcases o3 _ (List.getElem_mem this) with h | h <;> rw [h] <;> simp
    · simp -implicitDefEqProofs [hw2]
      refine seq_q (SQ n) ?_
      simp -implicitDefEqProofs [Ya.gLst]
      refine seq_q (SQ n) ?_
      generalize hN : 2 ^ n = N at p2 pp sh
      simp -implicitDefEqProofs [q_rg, sh]
      rw [q_rgK (by omega) (by omega), Int.toNat_natCast]
      simp -implicitDefEqProofs
      refine for_roi (SQ n) (SI1 n w) ⟨f1, [], .und, .und, rfl, rfl, fun x hx => by cases hx⟩ ?_ ?_
      · intro k e hk hI
        obtain ⟨f, s, x4, x5, he, hs, hcs⟩ := hI
        subst he
        refine seq_c (Outi _ _ _) (SP1 n w 2 k s) ?_ ?_
        · obtain ⟨v, f1, hv0, hv1, hv⟩ := x_pick (i := 0) (o := some 0) (f := f) (env := [fl (some 0) f, .val (.int n), .val (.int w), .own none (.lst (sgs s)), .val (.int k), x5]) 2 (by decide) rfl
          simp -implicitDefEqProofs [hv]
          exact ⟨_, _, rfl, hv0, hv1⟩
        intro e hI
        refine seq_c (Outi _ _ _) (SP1 n w 3 k s) ?_ ?_
        · obtain ⟨f, v, he, hv0, hv1⟩ := hI
          subst he
          by_cases hw : w = 4
          · subst hw
            obtain ⟨v, f1, hv0, hv1, hv⟩ := x_pick (i := 0) (o := some 0) (f := f) (env := [fl (some 0) f, .val (.int n), .val (.int 4), .own none (.lst (sgs s)), .val (.int k), .val (.int v)]) 3 (by decide) rfl
            simp -implicitDefEqProofs [hv]
            exact ⟨_, _, rfl, hv0, hv1⟩
          · simp -implicitDefEqProofs [hw]
            exact ⟨_, _, rfl, hv0, by omega⟩
        intro e hI
        refine seq_c (Outi _ _ _) (SP2 n w k s) ?_ ?_
        · obtain ⟨f, v, he, hv0, hv1⟩ := hI
          subst he
          obtain ⟨v2, f1, hv20, hv21, hv2⟩ := x_pick (i := 0) (o := some 0) (f := f) (env := [fl (some 0) f, .val (.int n), .val (.int w), .own none (.lst (sgs s)), .val (.int k), .val (.int v)]) 3 (by decide) rfl
          by_cases hw : w = 3 ∨ w = 4
          · have hin : gIn (.int w) (.tup [.int 3, .int 4]) = some (.val (.bl true)) := by rw [gIn34]; rcases hw with rfl | rfl <;> rfl
            have h5 : w ≠ 5 := by omega
            by_cases hz : v2 = 1
            · simp -implicitDefEqProofs [gTup2, hin, hv2, hz]
              exact ⟨_, none, rfl, .inl rfl, fun h => absurd h h5⟩
            · simp -implicitDefEqProofs [gTup2, hin, hv2, hz]
              exact ⟨_, some v, rfl, cs_of hv0 hv1 (by omega), fun _ => by simp⟩
          · have hin : gIn (.int w) (.tup [.int 3, .int 4]) = some (.val (.bl false)) := by
              rw [gIn34]
              have hb : ((3 == w) || ((4 == w) || false)) = false := by
                rw [Bool.or_eq_false_iff, Bool.or_eq_false_iff, beq_eq_false_iff_ne, beq_eq_false_iff_ne]
                exact ⟨by omega, by omega, rfl⟩
              rw [hb]
            simp -implicitDefEqProofs [gTup2, hin]
            exact ⟨_, some v, rfl, cs_of hv0 hv1 (by omega), fun _ => by simp⟩
        intro e hI
        refine seq_c (Outi _ _ _) (SP2 n w k s) ?_ ?_
        · obtain ⟨f, x, he, hx, hx5⟩ := hI
          subst he
          by_cases hw : w = 5
          · subst hw
            cases x with
            | none => exact absurd rfl (hx5 rfl)
            | some v =>
              have l1 := s_lotof n k (by omega)
              have m1 := gMulc (a := v) (b := 1) (by decide)
              have m0 := gMulc (a := v) (b := 0) (by decide)
              have fin : ∀ c : Int, CS (some (c % 2)) := fun c => cs_of (Int.emod_nonneg _ (by decide)) (Int.emod_lt_of_pos _ (by decide)) (by decide)
              by_cases hn3 : 3 < n
              · have hn3' : (3 : Int) < (n : Int) := by omega
                simp -implicitDefEqProofs [l1, sg, m1, hn3, hn3']
                exact ⟨_, some _, rfl, fin _, fun _ => by simp⟩
              · have hn3' : ¬ (3 : Int) < (n : Int) := by omega
                simp -implicitDefEqProofs [l1, sg, m0, hn3, hn3']
                exact ⟨_, some _, rfl, fin _, fun _ => by simp⟩
          · simp -implicitDefEqProofs [hw]
            exact ⟨_, x, rfl, hx, hx5⟩
        intro e hI
        obtain ⟨f, x, he, hx, hx5⟩ := hI
        subst he
        have hlen : s.length < 1000000 := by omega
        simp -implicitDefEqProofs [sgs_len, hlen]
        refine oc_nx ⟨f, s ++ [x], _, _, by rw [sgs_app], by simp [hs], fun y hy => ?_⟩
        rcases List.mem_append.mp hy with hy | hy
        · exact hcs y hy
        · rw [List.mem_singleton] at hy; subst hy; exact hx
      · intro e hI
        obtain ⟨f, s, x4, x5, he, hs, hcs⟩ := hI
        subst he
        have ht := s_told_io s (by omega)
        have o4 := io0 (F := F_law_told_io) (env := [fl (some 0) f, .val (.int n), .val (.int w), .own none (.lst (sgs s)), x4, x5]) (i := 3) (o := none) rfl ht
        refine seq_q (SQ n) ?_
        have hs0 : 0 < s.length := by omega
        by_cases hz : toldL s = []
        · simp -implicitDefEqProofs [o4, hz, sPutIx, sgs_len]
          rw [show ixN s.length 0 = some 0 from by unfold ixN; rw [if_pos (by decide), if_pos (by omega)]; rfl]
          have hset : (sgs s).set 0 (D.int 0) = sgs (s.set 0 (some 0)) := by unfold sgs; rw [List.map_set]; rfl
          simp -implicitDefEqProofs [hset]
          refine ⟨_, f, _, rfl, rfl, sgok_of hn (by rw [List.length_set, hs, hN]) (fun x hx => ?_) ⟨some 0, ?_, by simp⟩⟩
          · rcases List.mem_or_eq_of_mem_set hx with h | h
            · exact hcs x h
            · subst h; exact .inr (.inl rfl)
          · rw [List.mem_iff_getElem]
            exact ⟨0, by rw [List.length_set]; exact hs0, by simp⟩
        · simp -implicitDefEqProofs [o4, hz]
          refine ⟨s, f, _, rfl, rfl, sgok_of hn (by rw [hs, hN]) hcs ?_⟩
          cases ht2 : toldL s with
          | nil => exact absurd ht2 hz
          | cons i r =>
            have hi : i ∈ toldL s := by rw [ht2]; exact List.mem_cons_self
            have hlt := toldL_lt hi
            unfold toldL at hi
            have hsome := (List.mem_filter.mp hi).2
            refine ⟨s[i], List.getElem_mem hlt, fun z => ?_⟩
            have : sat s i = none := by simp [sat, List.getD, List.getElem?_eq_getElem hlt, z]
            rw [this] at hsome
            cases hsome
  obtain ⟨s, f', e, h1, h2, h3⟩ := main
  refine ⟨s, f', ?_, h3⟩
  have h0 := fn_ret (n := 2) (N := 6) (b := b_law_signs) (ss := [fl (some 0) f, .val (.int n)]) rfl h1
  have h5 : endsE [fl (some 0) f, .val (.int n)] e = [fl (some 0) f', .val (.int n)] := by
    have : endsE [fl (some 0) f, .val (.int n)] e = [(match e[0]? with | some (S.own (some k') c) => if k' = 0 then S.own (some 0) c else .und | _ => .und), S.val (.int n)] := rfl
    rw [this, h2]
    rfl
  rw [h5] at h0
  exact h0
def CQ (R : Res Fl) : Prop := ∃ (n : Nat) (s : List (Option Int)) (f : List Int) (r : S) (e : En), R = .ok (.rt r) e ∧ frz r = some (.lst [.int n, .lst (sgs s)]) ∧ (r = .val (.lst [.int n, .lst (sgs s)]) ∨ r = .own none (.lst [.int n, .lst (sgs s)])) ∧ e[0]? = some (fl (some 0) f) ∧ n ≤ 4 ∧ SgOk n s
theorem s_case (f : List Int) : ∃ (n : Nat) (s : List (Option Int)) (f' : List Int) (r : S), F_law_case [fl (some 0) f, .val (.int 4)] = .ret r [fl (some 0) f', .val (.int 4)] ∧ (r = .val (.lst [.int n, .lst (sgs s)]) ∨ r = .own none (.lst [.int n, .lst (sgs s)])) ∧ n ≤ 4 ∧ SgOk n s := by
  have rest : ∀ (f : List Int) (x2 : S), CQ (sSeq (sSet 3 (xCall F_law_size (rIo 0 (rCons (xVar 1) rNil)))) (sRet (xN Ya.gLst (aCons (xVarF 3) (aCons (xCall F_law_signs (rIo 0 (rCons (xVarF 3) rNil))) aNil)))) [fl (some 0) f, .val (.int 4), x2, .und]) := by
    intro f x2
    obtain ⟨n, f1, hn4, hn5, h1⟩ := s_size 4 f (by decide)
    have o1 := io1 (F := F_law_size) (f := xVar 1) (env := [fl (some 0) f, .val (.int 4), x2, .und]) (i := 0) (o := some 0) (e := [fl (some 0) f, .val (.int 4), x2, .und]) rfl rfl rfl h1
    refine seq_q CQ ?_
    simp -implicitDefEqProofs [o1]
    obtain ⟨s, f2, h2, h3⟩ := s_signs (n := n) (by omega) f1
    have o2 := io1 (F := F_law_signs) (f := xVarF 3) (env := [fl (some 0) f1, .val (.int 4), x2, .val (.int n)]) (i := 0) (o := some 0) (e := [fl (some 0) f1, .val (.int 4), x2, .val (.int n)]) rfl (by simp) rfl h2
    have o3 : xCall F_law_signs (rIo 0 (rCons (xVarF 3) rNil)) [S.own (some 0) (C.lst (f1.map D.int)), .val (.int 4), x2, .val (.int n)] = .ok (.own none (.lst (sgs s))) [fl (some 0) f2, .val (.int 4), x2, .val (.int n)] := o2
    simp -implicitDefEqProofs [o3, gLst2]
    exact ⟨n, s, f2, _, _, rfl, rfl, .inr rfl, rfl, by omega, h3⟩
  have main : CQ (b_law_case ([fl (some 0) f, .val (.int 4)] ++ List.replicate (4 - 2) .und)) := by
    unfold b_law_case
    obtain ⟨v, f1, hv0, hv1, hv⟩ := x_pick (i := 0) (o := some 0) (f := f) (env := [fl (some 0) f, .val (.int 4), .und, .und]) 3 (by decide) rfl
    refine seq_q CQ ?_
    by_cases hz : v = 2
    · subst hz
      simp -implicitDefEqProofs [hv]
      refine seq_q (fun R => CQ (R.bind _)) ?_
      obtain ⟨n, s, f2, h1, h2, h3⟩ := s_known f1
      have o4 := io0 (F := F_law_known_signs) (env := [fl (some 0) f1, .val (.int 4), .und, .und]) (i := 0) (o := some 0) rfl h1
      have hn : (n : Int) ≤ 4 := by omega
      simp -implicitDefEqProofs [o4, gIx, at0, hn, h2]
      exact ⟨n, s, f2, _, _, rfl, rfl, .inl rfl, rfl, h2, h3⟩
    · simp -implicitDefEqProofs [hv, hz]
      exact rest f1 .und
  obtain ⟨n, s, f', r, e, h1, h2, h3, h4, h5, h6⟩ := main
  refine ⟨n, s, f', r, ?_, h3, h5, h6⟩
  have h0 := fn_ret (n := 2) (N := 4) (b := b_law_case) (ss := [fl (some 0) f, .val (.int 4)]) rfl h1
  have h7 : endsE [fl (some 0) f, .val (.int 4)] e = [fl (some 0) f', .val (.int 4)] := by
    have : endsE [fl (some 0) f, .val (.int 4)] e = [(match e[0]? with | some (S.own (some k') c) => if k' = 0 then S.own (some 0) c else .und | _ => .und), S.val (.int 4)] := rfl
    rw [this, h4]
    rfl
  rw [h7] at h0
  exact h0
/-! total ones -/
def totS (s : List (Option Int)) : List (Option Int) := s.map fun x => if x = some 0 ∨ x = some 1 then x else some 1
theorem tot_ok {n : Nat} {s : List (Option Int)} (h : SgOk n s) : SgOk n (totS s) ∧ Tot01 (totS s) := by
  have h01 : ∀ x ∈ totS s, x = some 0 ∨ x = some 1 := fun x hx => by
    unfold totS at hx
    obtain ⟨y, _, rfl⟩ := List.mem_map.mp hx
    by_cases z : y = some 0 ∨ y = some 1
    · rw [if_pos z]; exact z
    · rw [if_neg z]; exact .inr rfl
  have hl : (totS s).length = 2 ^ n := by unfold totS; rw [List.length_map]; exact h.len
  have pp := Nat.two_pow_pos n
  have hne : ∀ x ∈ totS s, x ≠ none := fun x hx => by rcases h01 x hx with h | h <;> rw [h] <;> simp
  refine ⟨sgok_of h.n10 hl (fun x hx => ?_) ?_, hne, fun q hq => ?_⟩
  · rcases h01 x hx with h | h
    · exact .inr (.inl h)
    · exact .inr (.inr (.inl h))
  · have : 0 < (totS s).length := by omega
    exact ⟨_, List.getElem_mem this, hne _ (List.getElem_mem this)⟩
  · have := sat_told hne hq
    have hm : sat (totS s) q = (totS s)[q] := by simp [sat, List.getD, List.getElem?_eq_getElem hq]
    have h2 := h01 _ (List.getElem_mem hq)
    rw [← hm, this] at h2
    rcases h2 with h | h
    · left; injection h
    · right; injection h
theorem gIn01 (x : Option Int) : gIn (sg x) (.tup [.int 0, .int 1]) = some (.val (.bl (decide (x = some 0 ∨ x = some 1)))) := by
  cases x with
  | none => kernel_rfl
  | some v =>
    have : gIn (sg (some v)) (.tup [.int 0, .int 1]) = some (.val (.bl ((0 == v) || ((1 == v) || false)))) := by kernel_rfl
    rw [this]
    have e : ((0 == v) || ((1 == v) || false)) = decide (some v = some 0 ∨ some v = some 1) := by
      rw [Bool.eq_iff_iff]
      simp
      omega
    rw [e]
def YQ (n : Nat) (s : List (Option Int)) (R : Res Fl) : Prop := ∃ (f : List Int) (e : En), R = .ok (.rt (.own none (.lst [.int n, .lst (sgs s)]))) e ∧ e[0]? = some (fl (some 0) f)
theorem s_total (f : List Int) : ∃ (n : Nat) (s : List (Option Int)) (f' : List Int), F_law_total_case [fl (some 0) f, .val (.int 4)] = .ret (.own none (.lst [.int n, .lst (sgs s)])) [fl (some 0) f', .val (.int 4)] ∧ n ≤ 4 ∧ SgOk n s ∧ Tot01 s := by
  obtain ⟨n, s, f1, r, h1, h2, h3, h4⟩ := s_case f
  have hl : s.length ≤ 1000000 := by rw [h4.len]; exact Nat.le_trans (Nat.pow_le_pow_right (by decide) h3) (by decide)
  have o1 := io1 (F := F_law_case) (f := xVar 1) (env := [fl (some 0) f, .val (.int 4), .und, .und, .und]) (i := 0) (o := some 0) (e := [fl (some 0) f, .val (.int 4), .und, .und, .und]) rfl rfl rfl h1
  obtain ⟨k1, k2⟩ := tot_ok h4
  have at1 : ∀ a b : D, atI [a, b] 1 = some b := fun a b => atI_nat (j := 1) (xs := [a, b]) (v := b) rfl
  have main : YQ n (totS s) (b_law_total_case ([fl (some 0) f, .val (.int 4)] ++ List.replicate (5 - 2) .und)) := by
    unfold b_law_total_case
    refine seq_q (YQ n (totS s)) ?_
    simp -implicitDefEqProofs [o1]
    have step : ∀ {f1 : List Int} {z : S} {k : S → En → Res Fl}, iData (x2 gIx (xVarF 2) (xC (.int 1))) [fl (some 0) f1, .val (.int 4), z, .und, .und] = .ok (sgs s) [fl (some 0) f1, .val (.int 4), .val (.lst [.int n, .lst (sgs s)]), .und, .und] → YQ n (totS s) (k (.own none (.lst (sgs (totS s)))) [fl (some 0) f1, .val (.int 4), .val (.lst [.int n, .lst (sgs s)]), .und, .und]) →
        YQ n (totS s) ((xLc [4] (iData (x2 gIx (xVarF 2) (xC (.int 1)))) (gxName 4) uYes (xIf (uTst (x2 gIn (xVar 4) (xN Ya.gTup (aCons (xC (.int 0)) (aCons (xC (.int 1)) aNil))))) (xVar 4) (xC (.int 1))) [fl (some 0) f1, .val (.int 4), z, .und, .und]).bind k) := by
      intro f1 z k hfi hk
      refine ldm_qo (YQ n (totS s)) (ds := sgs s) (env0 := [fl (some 0) f1, .val (.int 4), .val (.lst [.int n, .lst (sgs s)]), .und, .und]) hfi (by rw [sgs_len]; exact hl) (fun d => match d with | .int v => if v = 0 ∨ v = 1 then .int v else .int 1 | _ => .int 1) ?_ ?_
      · intro d hd
        obtain ⟨x, _, rfl⟩ := List.mem_map.mp hd
        have hg := gIn01 x
        by_cases hx : x = some 0 ∨ x = some 1
        · rw [show decide (x = some 0 ∨ x = some 1) = true by simpa using hx] at hg
          refine ⟨.val (sg x), by simp -implicitDefEqProofs [gTup2, hg], ?_⟩
          rcases hx with rfl | rfl <;> rfl
        · rw [show decide (x = some 0 ∨ x = some 1) = false by simpa using hx] at hg
          refine ⟨.val (.int 1), by simp -implicitDefEqProofs [gTup2, hg], ?_⟩
          cases x with
          | none => rfl
          | some v =>
            have : ¬ (v = 0 ∨ v = 1) := fun z => hx (by rcases z with rfl | rfl; exact .inl rfl; exact .inr rfl)
            show _ = some (if v = 0 ∨ v = 1 then D.int v else D.int 1)
            rw [if_neg this]; rfl
      · have e1 : ((sgs s).map fun d => match d with | .int v => if v = 0 ∨ v = 1 then D.int v else .int 1 | _ => .int 1) = sgs (totS s) := by
          unfold sgs totS
          rw [List.map_map, List.map_map]
          apply List.map_congr_left
          intro x _
          cases x with
          | none => rfl
          | some v =>
            show (if v = 0 ∨ v = 1 then D.int v else D.int 1) = sg (if some v = some 0 ∨ some v = some 1 then some v else some 1)
            by_cases hv : v = 0 ∨ v = 1
            · rw [if_pos hv, if_pos (by rcases hv with rfl | rfl; exact .inl rfl; exact .inr rfl)]; rfl
            · rw [if_neg hv, if_neg (fun z => hv (by rcases z with z | z; exact .inl (by injection z); exact .inr (by injection z)))]; rfl
        rw [e1]
        exact hk
    rcases h2 with rfl | rfl
    · simp -implicitDefEqProofs
      refine seq_q (YQ n (totS s)) ?_
      rw [r_sSet]
      simp only [q_bb]
      refine step (by simp -implicitDefEqProofs [gIx, at1]) ?_
      simp -implicitDefEqProofs [gIx, at0, gLst2]
      exact ⟨f1, _, rfl, rfl⟩
    · simp -implicitDefEqProofs
      refine seq_q (YQ n (totS s)) ?_
      rw [r_sSet]
      simp only [q_bb]
      refine step (by simp -implicitDefEqProofs [gIx, at1]) ?_
      simp -implicitDefEqProofs [gIx, at0, gLst2]
      exact ⟨f1, _, rfl, rfl⟩
  obtain ⟨f', e, h5, h6⟩ := main
  refine ⟨n, totS s, f', ?_, h3, k1, k2⟩
  have h0 := fn_ret (n := 2) (N := 5) (b := b_law_total_case) (ss := [fl (some 0) f, .val (.int 4)]) rfl h5
  have h7 : endsE [fl (some 0) f, .val (.int 4)] e = [fl (some 0) f', .val (.int 4)] := by
    have : endsE [fl (some 0) f, .val (.int 4)] e = [(match e[0]? with | some (S.own (some k') c) => if k' = 0 then S.own (some 0) c else .und | _ => .und), S.val (.int 4)] := rfl
    rw [this, h6]
    rfl
  rw [h7] at h0
  exact h0
end K67

set_option maxHeartbeats 4000000
namespace K67
open PySem PySem.Spec PyProof.Rows L2 Ya
/-! sides: the plain law -/
def KeptP (n e pos : Nat) : Prop := ∀ f : Nat → Option Int, mk (fun q => ((keepL n e pos).map f).getD q none) (n - 1) (List.range (n - 1)) 0 = mk f (n - 1) ((List.range n).erase e) (pos * 2 ^ e)
theorem kept_all (n e pos : Nat) (hn : n ≤ 4) (he : e < n) (hp : pos < 2) : KeptP n e pos := by
  refine small4 ?_ ?_ ?_ ?_ ?_ ?_ ?_ ?_ ?_ ?_ ?_ ?_ ?_ ?_ ?_ ?_ ?_ ?_ ?_ ?_ n e pos hn he hp <;> (intro f; kernel_rfl)
def toldB (s : List (Option Int)) : Bool := !s.all fun x => x.isNone
theorem toldB_iff {s : List (Option Int)} : toldB s = true ↔ ∃ i, i < s.length ∧ sat s i ≠ none := by
  unfold toldB
  rw [Bool.not_eq_true', List.all_eq_false]
  constructor
  · rintro ⟨x, hx, hn⟩
    obtain ⟨i, hi, rfl⟩ := List.getElem_of_mem hx
    refine ⟨i, hi, fun z => hn ?_⟩
    have : sat s i = s[i] := by simp [sat, List.getD, List.getElem?_eq_getElem hi]
    rw [this] at z
    rw [z]; rfl
  · rintro ⟨i, hi, hn⟩
    refine ⟨s[i], List.getElem_mem hi, fun z => hn ?_⟩
    have : sat s i = s[i] := by simp [sat, List.getD, List.getElem?_eq_getElem hi]
    rw [this]
    cases h : s[i] with
    | none => rfl
    | some v => rw [h] at z; cases z
theorem toldL_mem {s : List (Option Int)} {i : Nat} : i ∈ toldL s ↔ i < s.length ∧ sat s i ≠ none := by
  unfold toldL
  rw [List.mem_filter, List.mem_range]
  cases sat s i <;> simp
theorem toldL_pos (s : List (Option Int)) : decide ((0 : Int) < ((toldL s).length : Int)) = toldB s := by
  rw [Bool.eq_iff_iff, toldB_iff, decide_eq_true_eq]
  constructor
  · intro h
    have h : 0 < (toldL s).length := by omega
    exact ⟨_, toldL_mem.mp (List.getElem_mem h)⟩
  · rintro ⟨i, h⟩
    have := List.length_pos_of_mem (toldL_mem.mpr h)
    omega
theorem live_iff {s : List (Option Int)} : liveB s = true ↔ ∃ i j, i < s.length ∧ j < s.length ∧ sat s i ≠ none ∧ sat s j ≠ none ∧ sat s i ≠ sat s j := by
  unfold liveB
  rw [List.any_eq_true]
  have hd : ∀ i, i ∈ toldL s → hd0 (toldL s) ∈ toldL s := fun i hi => by
    cases z : toldL s with
    | nil => rw [z] at hi; cases hi
    | cons a r => exact List.mem_cons_self
  constructor
  · rintro ⟨i, hi, h⟩
    have h1 := toldL_mem.mp hi
    have h2 := toldL_mem.mp (hd i hi)
    exact ⟨i, _, h1.1, h2.1, h1.2, h2.2, by simpa using h⟩
  · rintro ⟨i, j, hi, hj, ti, tj, h⟩
    have mi := toldL_mem.mpr ⟨hi, ti⟩
    have mj := toldL_mem.mpr ⟨hj, tj⟩
    by_cases z : sat s i = sat s (hd0 (toldL s))
    · exact ⟨j, mj, by simpa using fun w => h (z.trans w.symm)⟩
    · exact ⟨i, mi, by simpa using z⟩
/-- a side is told and full -/
def sideB (n e : Nat) (s : List (Option Int)) (pos : Nat) : Bool := toldB (keptS n e pos s) && mk (sat (keptS n e pos s)) (n - 1) (List.range (n - 1)) 0
def SB (n e : Nat) (s : List (Option Int)) : Bool := sideB n e s 0 || sideB n e s 1
theorem mk_told {s : List (Option Int)} {m : Nat} (hs : s.length = 2 ^ m) (h : mk (sat s) m (List.range m) 0 = true) : toldB s = true := by
  rw [toldB_iff]
  cases m with
  | zero =>
    have h : (sat s 0).isSome = true := h
    exact ⟨0, by rw [hs]; decide, fun z => by rw [z] at h; cases h⟩
  | succ k =>
    obtain ⟨q, r, h1, h2, h3, _⟩ := bl_mixed _ _ _ (mk_mixed (sat s) k (List.range (k + 1)) 0 (by simp) h)
    have := msk_range (k + 1)
    exact ⟨q, by omega, h3⟩
theorem mk_live {s : List (Option Int)} {m : Nat} (hs : s.length = 2 ^ (m + 1)) (h : mk (sat s) (m + 1) (List.range (m + 1)) 0 = true) : liveB s = true := by
  rw [live_iff]
  obtain ⟨q, r, h1, h2, h3, h4, h5⟩ := bl_mixed _ _ _ (mk_mixed (sat s) m (List.range (m + 1)) 0 (by simp) h)
  have := msk_range (m + 1)
  exact ⟨q, r, by omega, by omega, h3, h4, h5⟩
theorem kept_len {n e pos : Nat} {s : List (Option Int)} (hn : n ≤ 4) (he : e < n) (hp : pos < 2) : (keptS n e pos s).length = 2 ^ (n - 1) := by
  unfold keptS; rw [List.length_map]; exact keep_len n (by omega) e he pos hp
theorem side_mk {n e pos : Nat} {s : List (Option Int)} (hn : n ≤ 4) (he : e < n) (hp : pos < 2) : sideB n e s pos = mk (sat s) (n - 1) ((List.range n).erase e) (pos * 2 ^ e) := by
  have h1 : mk (sat (keptS n e pos s)) (n - 1) (List.range (n - 1)) 0 = mk (sat s) (n - 1) ((List.range n).erase e) (pos * 2 ^ e) := kept_all n e pos hn he hp (sat s)
  unfold sideB
  cases h : mk (sat (keptS n e pos s)) (n - 1) (List.range (n - 1)) 0 with
  | true => rw [mk_told (kept_len hn he hp) h, ← h1, h]; rfl
  | false => rw [Bool.and_false, ← h1, h]
/-- what the law asks of a full rule -/
theorem due_law {n : Nat} {s : List (Option Int)} (hn : n ≤ 4) (h : SgOk n s) : mk (sat s) n (List.range n) 0 = (n == 0 || (liveB s && (List.range n).all fun e => SB n e s)) := by
  have hs := h.len
  match n, hn, h, hs with
  | 0, _, h, hs =>
    obtain ⟨x, hx, hne⟩ := h.told
    obtain ⟨i, hi, rfl⟩ := List.getElem_of_mem hx
    have : i = 0 := by rw [hs] at hi; omega
    subst this
    show (sat s 0).isSome = true
    have e : sat s 0 = s[0] := by simp [sat, List.getD, List.getElem?_eq_getElem hi]
    rw [e]
    cases z : s[0] with
    | none => exact absurd z hne
    | some v => rfl
  | 1, _, h, hs =>
    have hs : s.length = 2 := hs
    have e1 : ((1 : Nat) == 0 || (liveB s && (List.range 1).all fun e => SB 1 e s)) = (liveB s && SB 1 0 s) := by
      show (false || (liveB s && (SB 1 0 s && true))) = _
      rw [Bool.false_or, Bool.and_true]
    rw [e1, Bool.eq_iff_iff, Bool.and_eq_true]
    have hS : SB 1 0 s = ((sat s 0).isSome || (sat s 1).isSome) := by
      unfold SB
      rw [side_mk (by decide) (by decide) (by decide), side_mk (by decide) (by decide) (by decide)]
      rfl
    constructor
    · intro hm
      refine ⟨mk_live (m := 0) hs hm, ?_⟩
      have hm : ((sat s 0).isSome && (sat s (0 + 2 ^ 0)).isSome && sat s 0 != sat s (0 + 2 ^ 0)) = true := hm
      rw [hS]
      simp only [Bool.and_eq_true] at hm
      rw [hm.1.1]; rfl
    · rintro ⟨hl, _⟩
      obtain ⟨i, j, hi, hj, ti, tj, hne⟩ := live_iff.mp hl
      show ((sat s 0).isSome && (sat s 1).isSome && sat s 0 != sat s 1) = true
      have so : ∀ x : Option Int, x ≠ none → x.isSome = true := fun x hx => by cases x with | none => exact absurd rfl hx | some v => rfl
      have hi' : i = 0 ∨ i = 1 := by omega
      have hj' : j = 0 ∨ j = 1 := by omega
      rcases hi' with rfl | rfl <;> rcases hj' with rfl | rfl
      · exact absurd rfl hne
      · simp [so _ ti, so _ tj, hne]
      · simp [so _ ti, so _ tj, Ne.symm hne]
      · exact absurd rfl hne
  | k + 2, hn, h, hs =>
    have e1 : ((k + 2 : Nat) == 0 || (liveB s && (List.range (k + 2)).all fun e => SB (k + 2) e s)) = (liveB s && (List.range (k + 2)).all fun e => SB (k + 2) e s) := by
      rw [show ((k + 2 : Nat) == 0) = false from rfl, Bool.false_or]
    have e2 : mk (sat s) (k + 2) (List.range (k + 2)) 0 = (List.range (k + 2)).all fun e => SB (k + 2) e s := by
      show ((List.range (k + 2)).all fun e => mk (sat s) (k + 1) ((List.range (k + 2)).erase e) 0 || mk (sat s) (k + 1) ((List.range (k + 2)).erase e) (0 + 2 ^ e)) = _
      have key : ∀ e ∈ List.range (k + 2), (mk (sat s) (k + 1) ((List.range (k + 2)).erase e) 0 || mk (sat s) (k + 1) ((List.range (k + 2)).erase e) (0 + 2 ^ e)) = SB (k + 2) e s := fun e he => by
        have he := List.mem_range.mp he
        unfold SB
        rw [side_mk hn he (by decide), side_mk hn he (by decide), Nat.zero_mul, Nat.one_mul, Nat.zero_add]
        rfl
      rw [Bool.eq_iff_iff, List.all_eq_true, List.all_eq_true]
      exact ⟨fun w e he => by rw [← key e he]; exact w e he, fun w e he => by rw [key e he]; exact w e he⟩
    rw [e1]
    cases hm : mk (sat s) (k + 2) (List.range (k + 2)) 0 with
    | true => rw [mk_live hs hm, ← e2, hm]; rfl
    | false => rw [← e2, hm, Bool.and_false]
theorem ask_full {t : List (Option Int)} {m : Nat} (ht : toldB t = true) (hl : t.length = 2 ^ m) : ((cost (sat t) m (List.range m) 0 : Int) == (m : Int)) = mk (sat t) m (List.range m) 0 := by
  cases m with
  | zero =>
    obtain ⟨i, hi, hne⟩ := toldB_iff.mp ht
    have : i = 0 := by rw [hl] at hi; omega
    subst this
    show true = (sat t 0).isSome
    cases z : sat t 0 with
    | none => exact absurd z hne
    | some v => rfl
  | succ k =>
    have := cost_eq (sat t) k (List.range (k + 1)) 0 (by simp)
    rw [Bool.eq_iff_iff, ← this, beq_iff_eq]
    omega
end K67

set_option maxHeartbeats 4000000
namespace K67
open PySem PySem.Spec PyProof.Rows L2 Ya
/-! known rules at the doors -/
def ruleC (n : Nat) (s : List (Option Int)) : S := .own none (.obj "Rule" ["size", "signs"] [.int n, .tup (sgs s)])
def alikeS : List (Option Int) := some 0 :: (List.replicate 510 none ++ [some 1])
def andS (m : Nat) : List (Option Int) := List.replicate m (some 0) ++ [some 1]
theorem s_alike9 : F_alike_rule [.val (.int 9)] = .ret (ruleC 9 alikeS) [.val (.int 9)] := by kernel_rfl
theorem s_and9 : F_and_rule [.val (.int 9)] = .ret (ruleC 9 (andS 511)) [.val (.int 9)] := by kernel_rfl
theorem s_and8 : F_and_rule [.val (.int 8)] = .ret (ruleC 8 (andS 255)) [.val (.int 8)] := by kernel_rfl
theorem d_alike9 : doorD 9 alikeS = .lst [.str "total", .int 1] := by kernel_rfl
theorem d_and9 : doorD 9 (andS 511) = .lst [.str "many", .int 8] := by kernel_rfl
theorem d_and8 : doorD 8 (andS 255) = .lst [.str "let"] := by kernel_rfl
theorem t_and8 : Tot01 (andS 255) := by
  have h01 : ∀ x ∈ andS 255, x = some 0 ∨ x = some 1 := by decide +kernel
  refine ⟨fun x hx => by rcases h01 x hx with h | h <;> rw [h] <;> simp, fun q hq => ?_⟩
  have hm : sat (andS 255) q = (andS 255)[q] := by simp [sat, List.getD, List.getElem?_eq_getElem hq]
  have h2 := h01 _ (List.getElem_mem hq)
  unfold tt
  rw [hm]
  rcases h2 with h | h <;> rw [h]
  · left; rfl
  · right; rfl
theorem dr_alike9 (w : Int) : F_law_door [.val (.int w), .val (ruleD 9 alikeS)] = .ret (.val (.lst [.str "total", .int 1])) [.val (.int w), .val (ruleD 9 alikeS)] := by
  rw [s_doorR w 9 alikeS fun _ h => absurd h (by decide), d_alike9]
theorem dr_and9 (w : Int) : F_law_door [.val (.int w), .val (ruleD 9 (andS 511))] = .ret (.val (.lst [.str "many", .int 8])) [.val (.int w), .val (ruleD 9 (andS 511))] := by
  rw [s_doorR w 9 (andS 511) fun _ h => absurd h (by decide), d_and9]
theorem dr_and8 (w : Int) : F_law_door [.val (.int w), .val (ruleD 8 (andS 255))] = .ret (.val (.lst [.str "let"])) [.val (.int w), .val (ruleD 8 (andS 255))] := by
  rw [s_doorR w 8 (andS 255) fun _ _ => ⟨by decide, t_and8⟩, d_and8]
theorem dr_bad (w : Int) (d : D) (h : tyN d ≠ none) (hd : ∀ c ns ds, d ≠ .ins c ns ds) : F_law_door [.val (.int w), .val d] = .ret (.val (.lst [.str "signs", .int (-1)])) [.val (.int w), .val d] :=
  s_doorX (s_oddX d h hd) (s_sfXX d h hd) _ (.inl ⟨rfl, rfl, rfl⟩)
theorem n1 : gNe (.lst [.str "signs", .int (-1)]) (.lst [.str "signs", .int (-1)]) = some (.val (.bl false)) := by kernel_rfl
theorem n2 : gNe (.lst [.str "total", .int 1]) (.lst [.str "total", .int 1]) = some (.val (.bl false)) := by kernel_rfl
theorem n3 : gEq (.lst [.str "many", .int 8]) (.lst [.str "many", .int 8]) = some (.val (.bl true)) := by kernel_rfl
theorem n4 : gEq (.lst [.str "let"]) (.lst [.str "let"]) = some (.val (.bl true)) := by kernel_rfl
end K67

set_option maxHeartbeats 4000000
namespace K67
open PySem PySem.Spec PyProof.Rows L2 Ya
/-! one switch's sides -/
def VQ (r : S) (R : Res Fl) : Prop := ∃ e, R = .ok (.rt r) e
def ZI (n e : Nat) (s : List (Option Int)) (k : Nat) (env : En) : Prop := ∃ x5 x6 x7 x8 x9, env = [.val (ruleD n s), .val (.int n), .val (.lst (sgs s)), .val (.int e), .val (.bl ((List.range k).any fun pos => sideB n e s pos)), x5, x6, x7, x8, x9, .und]
theorem s_some {n e : Nat} {s : List (Option Int)} (h : SgOk n s) (hn : n ≤ 4) (he : e < n) : F_law_some_side_full [.val (ruleD n s), .val (.int n), .val (.lst (sgs s)), .val (.int e)] = .ret (.val (.bl (SB n e s))) [.val (ruleD n s), .val (.int n), .val (.lst (sgs s)), .val (.int e)] := by
  refine fn_val (ds := [ruleD n s, .int n, .lst (sgs s), .int e]) rfl ?_
  have hany : ((List.range 2).any fun pos => sideB n e s pos) = SB n e s := by
    show (sideB n e s 0 || (sideB n e s 1 || false)) = _
    rw [Bool.or_false]; rfl
  rw [← hany]
  unfold b_law_some_side_full
  refine seq_q (VQ _) ?_
  simp -implicitDefEqProofs
  refine seq_q (VQ _) ?_
  simp -implicitDefEqProofs [q_rg]
  rw [q_rgK (by decide) (by decide)]
  simp -implicitDefEqProofs
  refine for_roi (n := 2) (VQ _) (ZI n e s) ⟨.und, .und, .und, .und, .und, rfl⟩ ?_ ?_
  · intro k env hk hI
    obtain ⟨x5, x6, x7, x8, x9, hz⟩ := hI
    subst hz
    have t1 := s_side hn he hk h.len
    have t2 := s_tout h hn he hk
    have kl := kept_len (s := s) hn he hk
    have p8 : 2 ^ (n - 1) ≤ 8 := Nat.le_trans (Nat.pow_le_pow_right (by decide) (show n - 1 ≤ 3 by omega)) (by decide)
    have t3 := s_told (keptS n e k s) (by omega)
    have hnext : ((List.range (k + 1)).any fun pos => sideB n e s pos) = (((List.range k).any fun pos => sideB n e s pos) || sideB n e s k) := by
      rw [List.range_succ, List.any_append]; simp
    have hsb : sideB n e s k = (toldB (keptS n e k s) && mk (sat (keptS n e k s)) (n - 1) (List.range (n - 1)) 0) := rfl
    have htl := toldL_pos (keptS n e k s)
    have hta : (keptS n e k s).all (fun x => x.isNone) = !toldB (keptS n e k s) := by unfold toldB; rw [Bool.not_not]
    have hful : toldB (keptS n e k s) = true → ((cost (sat (keptS n e k s)) (n - 1) (List.range (n - 1)) 0 : Int) == ((n - 1 : Nat) : Int)) = mk (sat (keptS n e k s)) (n - 1) (List.range (n - 1)) 0 := fun w => ask_full w kl
    have t4 := s_ask (n := n - 1) (s := keptS n e k s) (by omega) kl
    have t5 := s_isfull (n := n - 1) (s := keptS n e k s) (by omega) kl
    have l1 : (n : Int) - 1 = ((n - 1 : Nat) : Int) := by omega
    have hm : n - 1 ≤ 3 := by omega
    have c4 : xCall F_law_side (rCons (xVar 1) (rCons (xVar 2) (rCons (xVar 3) (rCons (xVar 5) rNil)))) [.val (ruleD n s), .val (.int n), .val (.lst (sgs s)), .val (.int e), .val (.bl ((List.range k).any fun pos => sideB n e s pos)), .val (.int k), x6, x7, x8, x9, .und] = ofF (F_law_side [.val (.int n), .val (.lst (sgs s)), .val (.int e), .val (.int k)]) [.val (ruleD n s), .val (.int n), .val (.lst (sgs s)), .val (.int e), .val (.bl ((List.range k).any fun pos => sideB n e s pos)), .val (.int k), x6, x7, x8, x9, .und] := r_callN (ds := [.int n, .lst (sgs s), .int e, .int k]) rfl
    rw [t1] at c4
    generalize keptS n e k s = t at *
    generalize ((List.range k).any fun pos => sideB n e s pos) = found at *
    refine seq_o ?_
    simp -implicitDefEqProofs [c4]
    refine seq_o ?_
    cases hb : toldB t with
    | false =>
      rw [hb] at hsb htl hta
      rw [if_pos (by rw [hta]; rfl)] at t2
      have htl' : ¬ 0 < ((toldL t).length : Int) := by simpa using htl
      have htl2 : toldL t = [] := by
        cases z : toldL t with
        | nil => rfl
        | cons a r => rw [z] at htl'; simp at htl'
      simp -implicitDefEqProofs [r_call3, t2]
      refine seq_o ?_
      simp -implicitDefEqProofs [t3, htl2]
      refine seq_o ?_
      simp -implicitDefEqProofs
      exact oc_nx ⟨_, _, _, _, _, by rw [hnext, hsb, Bool.false_and, Bool.or_false]⟩
    | true =>
      rw [hb] at hsb htl hta
      rw [if_neg (by rw [hta]; decide)] at t2
      have htl' : 0 < ((toldL t).length : Int) := by simpa using htl
      have htl2 : 0 < (toldL t).length := by omega
      have hful := hful hb
      simp -implicitDefEqProofs [r_call3, t2]
      refine seq_o ?_
      simp -implicitDefEqProofs [t3, htl', htl2]
      refine seq_o ?_
      simp -implicitDefEqProofs [gIs, isN]
      refine seq_o ?_
      simp -implicitDefEqProofs [r_call3, l1]
      have hr : (List.range (n - 1)).map (fun _ => D.int 1) = List.replicate (n - 1) (.int 1) := by
        rw [List.map_const', List.length_range]
      have t5 : F_is_full [.val (.ins "Rule" ["size", "signs"] [.int (n - 1 : Nat), .tup (sgs t)])] = .ret (.val (.bl (mk (sat t) (n - 1) (List.range (n - 1)) 0))) [.val (ruleD (n - 1) t)] := t5
      refine lm_q (Outi _ _ _) (n := n - 1) (env0 := [S.val (ruleD n s), .val (.int n), .val (.lst (sgs s)), .val (.int e), .val (.bl found), .val (.int k), .val (.lst (sgs t)), .val (.ins "Rule" ["size", "signs"] [.int (n - 1 : Nat), .tup (sgs t)]), .val (.bl true), x9, .und]) (rgN (by simp -implicitDefEqProofs [l1]) (by omega)) (by omega) (fun _ => .int 1) ?_ ?_
      · intro i hi
        exact ⟨.val (.int 1), by simp -implicitDefEqProofs, rfl⟩
      · rw [hr]
        generalize hM : mk (sat t) (n - 1) (List.range (n - 1)) 0 = M at *
        generalize cost (sat t) (n - 1) (List.range (n - 1)) 0 = co at *
        simp -implicitDefEqProofs [t4, l1, hful]
        refine seq_o ?_
        rw [hsb, Bool.true_and] at hnext
        cases found with
        | true =>
          simp -implicitDefEqProofs [t5]
          exact oc_nx ⟨_, _, _, _, _, by rw [hnext]; rfl⟩
        | false =>
          simp -implicitDefEqProofs [t5]
          exact oc_nx ⟨_, _, _, _, _, by rw [hnext]; rfl⟩
  · intro env hI
    obtain ⟨x5, x6, x7, x8, x9, hz⟩ := hI
    subst hz
    simp -implicitDefEqProofs
    exact ⟨_, rfl⟩
end K67

set_option maxHeartbeats 4000000
namespace K67
open PySem PySem.Spec PyProof.Rows L2 Ya
/-! the law -/
theorem lm_qio {β : Type} {env env0 : En} {j n : Nat} {fi : Xi} {f : Xp} {k : S → En → Res β} (Q : Res β → Prop) (hfi : fi env = .ok (rngD 0 n) env0) (hn : n ≤ 1000000) (y : Nat → D) (P : En → Prop) (h0 : P (env0.set j .und))
    (hf : ∀ i e, i < n → P e → ∃ r e2, f (e.set j (.val (.int (i : Nat)))) = .ok r e2 ∧ frz r = some (y i) ∧ P (e2.set j .und)) (hk : ∀ e, P e → Q (k (.own none (.lst ((List.range n).map y))) e)) : Q ((xLc [j] fi (gxName j) uYes f env).bind k) := by
  obtain ⟨out, e', h1, h2, h3⟩ := lc_inv (vs := [j]) (gf := gxName j) (t := uYes) (f := f) (fun i e acc => P e ∧ acc = (List.range i).map y) (rngD 0 n) 0 (env0.set j .und) [] ⟨h0, rfl⟩ (fun i d e acc hd hI => by
    rw [Nat.zero_add] at hI ⊢
    obtain ⟨hi, rfl⟩ := rng_at hd
    obtain ⟨hI, rfl⟩ := hI
    obtain ⟨r, e2, q1, q2, q3⟩ := hf i e hi hI
    exact ⟨_, rfl, .inl ⟨_, r, e2, y i, rfl, q1, q2, q3, by rw [List.range_succ, List.map_append]; rfl⟩⟩)
  rw [rngD_len, Nat.zero_add] at h3
  have e1 : xLc [j] fi (gxName j) uYes f env = .ok (.own none (.lst out)) e' := by
    unfold xLc
    rw [hfi]
    show (if (rngD 0 n).length ≤ 1000000 then _ else _) = _
    rw [if_pos (by rw [rngD_len]; exact hn)]
    show (match lcS [j] (gxName j) uYes f (rngD 0 n) (env0.set j .und) [] with | some (out, e') => Res.ok (S.own none (.lst out)) e' | none => .bad) = _
    rw [h1]
  rw [e1, h3]
  exact hk e' h2
theorem data_frz {β : Type} {r : S} {e : En} {d : D} {k : D → En → Res β} (h : frz r = some d) : (Res.ok r e).data k = k d e := by
  unfold Res.data; simp only [h]
theorem fY_none {s : List (Option Int)} (h : fY s = none) : ∀ q, q < s.length → ∀ v, sat s q = some v → ¬ 1 < v := by
  intro q hq v hv h1
  have := List.find?_eq_none.mp h q (List.mem_range.mpr hq)
  rw [hv] at this
  exact this (by simpa using h1)
theorem tot_of_door {n : Nat} {s : List (Option Int)} (h : SgOk n s) (hd : doorO n s = none) : Tot01 s := by
  unfold doorO at hd
  cases e1 : fN s with
  | some i => rw [e1] at hd; cases hd
  | none =>
    rw [e1] at hd
    cases e2 : fY s with
    | some i => rw [e2] at hd; cases hd
    | none =>
      refine ⟨fN_none e1, fun q hq => ?_⟩
      have h1 := sat_told (fN_none e1) hq
      have h2 := fY_none e2 q hq _ h1
      have h3 := h.pos (sat s q) (by
        have : sat s q = s[q] := by simp [sat, List.getD, List.getElem?_eq_getElem hq]
        rw [this]; exact List.getElem_mem hq) _ h1
      omega
/-! a rare large rule -/
def LI (a0 a2 a3 a4 a5 a6 a7 a8 a9 a10 a13 a14 a15 : S) (N : Nat) (e : En) : Prop := ∃ (f : List Int) (s : List (Option Int)) (x12 : S), e = [a0, fl none f, a2, a3, a4, a5, a6, a7, a8, a9, a10, .own none (.lst (sgs s)), x12, a13, a14, a15, .und] ∧ s.length = N ∧ ∀ x ∈ s, x = some 0 ∨ x = some 1
theorem tot01_of {s : List (Option Int)} (h01 : ∀ x ∈ s, x = some 0 ∨ x = some 1) : Tot01 s := by
  refine ⟨fun x hx => by rcases h01 x hx with h | h <;> rw [h] <;> simp, fun q hq => ?_⟩
  have hm : sat s q = s[q] := by simp [sat, List.getD, List.getElem?_eq_getElem hq]
  have h2 := h01 _ (List.getElem_mem hq)
  unfold tt
  rw [hm]
  rcases h2 with h | h <;> rw [h]
  · left; rfl
  · right; rfl
theorem large {f : List Int} {a0 a2 a3 a4 a5 a6 a7 a8 a9 a10 a11 a12 a13 a14 a15 : S} : VQ (.val (.bl true)) (sSeq (sSet 11 (xLc [16] (iRg1 (aCons (x2 gShl (xC (.int 1)) (x2 gAdd (xC (.int 7)) (xCall F_law_pick (rIo 1 (rCons (xC (.int 2)) rNil))))) aNil)) (gxName 16) uYes (xC (.int 0)))) (sSeq (sFor (iRg1 (aCons (x2 gAdd (xC (.int 1)) (xCall F_law_pick (rIo 1 (rCons (xC (.int 5)) rNil)))) aNil)) (gxName 12) (sPutIx 11 (x2 gMod (x2 gAdd (x2 gMul (xCall F_law_pick (rIo 1 (rCons (xC (.int 16)) rNil))) (xC (.int 16))) (xCall F_law_pick (rIo 1 (rCons (xC (.int 16)) rNil)))) (xLenO 11)) (xC (.int 1)))) (sRet (xCall F_law_counts (rCons (x2 gAdd (xC (.int 7)) (xN gInt (aCons (x2 gEq (xLenO 11) (xC (.int 256))) aNil))) (rCons (xVarF 11) rNil)))))
    [a0, fl none f, a2, a3, a4, a5, a6, a7, a8, a9, a10, a11, a12, a13, a14, a15, .und]) := by
  obtain ⟨v, f1, hv0, hv1, hv⟩ := x_pick (i := 1) (o := none) (f := f) (env := [a0, fl none f, a2, a3, a4, a5, a6, a7, a8, a9, a10, a11, a12, a13, a14, a15, .und]) 2 (by decide) rfl
  obtain ⟨m, hm, hm78⟩ : ∃ m : Nat, 7 + v = m ∧ (m = 7 ∨ m = 8) := ⟨(7 + v).toNat, by omega, by omega⟩
  have sh := g_shl_1 (j := (m : Int)) (by omega) (by omega)
  rw [Int.toNat_natCast, show (2 : Int) ^ m = ((2 ^ m : Nat) : Int) by simp] at sh
  have p2 : 2 ^ m ≤ 256 := by rcases hm78 with rfl | rfl <;> decide
  have p1 : 128 ≤ 2 ^ m := by rcases hm78 with rfl | rfl <;> decide
  have hfin : ((7 : Int) + if ((2 ^ m : Nat) : Int) = 256 then 1 else 0) = m := by rcases hm78 with rfl | rfl <;> decide
  generalize hN : 2 ^ m = N at sh p2 p1 hfin
  refine seq_q (VQ _) ?_
  simp -implicitDefEqProofs
  refine lm_qio (VQ _) (n := N) (env0 := [a0, fl none f1, a2, a3, a4, a5, a6, a7, a8, a9, a10, a11, a12, a13, a14, a15, .und]) (rgN (by simp -implicitDefEqProofs [hv, hm, sh]) (by omega)) (by omega) (fun _ => .int 0) (fun e => e = [a0, fl none f1, a2, a3, a4, a5, a6, a7, a8, a9, a10, a11, a12, a13, a14, a15, .und]) rfl ?_ ?_
  · intro i e hi he
    subst he
    exact ⟨.val (.int 0), _, rfl, rfl, rfl⟩
  · intro e he
    subst he
    have hr : (List.range N).map (fun _ => D.int 0) = sgs (List.replicate N (some 0)) := by
      rw [List.map_const', List.length_range]; unfold sgs; rw [List.map_replicate]; rfl
    rw [hr]
    simp -implicitDefEqProofs
    obtain ⟨v2, f2, hw0, hw1, hw⟩ := x_pick (i := 1) (o := none) (f := f1) (env := [a0, fl none f1, a2, a3, a4, a5, a6, a7, a8, a9, a10, .own none (.lst (sgs (List.replicate N (some 0)))), a12, a13, a14, a15, .und]) 5 (by decide) rfl
    refine seq_q (VQ _) ?_
    simp -implicitDefEqProofs [q_rg, hw]
    rw [q_rgK (by omega) (by omega)]
    simp -implicitDefEqProofs
    refine for_roi (VQ _) (fun _ => LI a0 a2 a3 a4 a5 a6 a7 a8 a9 a10 a13 a14 a15 N) ⟨f2, _, _, rfl, by simp, fun x hx => .inl (List.eq_of_mem_replicate hx)⟩ ?_ ?_
    · intro k e hk hI
      obtain ⟨f, s, x12, he, hs, h01⟩ := hI
      subst he
      obtain ⟨u, g1, hu0, hu1, hu⟩ := x_pick (i := 1) (o := none) (f := f) (env := [a0, fl none f, a2, a3, a4, a5, a6, a7, a8, a9, a10, .own none (.lst (sgs s)), .val (.int k), a13, a14, a15, .und]) 16 (by decide) rfl
      obtain ⟨t, g2, ht0, ht1, ht⟩ := x_pick (i := 1) (o := none) (f := g1) (env := [a0, fl none g1, a2, a3, a4, a5, a6, a7, a8, a9, a10, .own none (.lst (sgs s)), .val (.int k), a13, a14, a15, .und]) 16 (by decide) rfl
      have m1 := gMulc (a := u) (b := 16) (by decide)
      have hpos : (0 : Int) < (s.length : Int) := by omega
      have hpos' : 0 < s.length := by omega
      have i1 : ∃ j, ixN s.length ((u * 16 + t) % (s.length : Int)) = some j := by
        have b0 := Int.emod_nonneg (u * 16 + t) (show (s.length : Int) ≠ 0 by omega)
        have b1 := Int.emod_lt_of_pos (u * 16 + t) hpos
        exact ⟨_, by unfold ixN; rw [if_pos b0, if_pos b1]⟩
      obtain ⟨j, i1⟩ := i1
      have hset : (sgs s).set j (D.int 1) = sgs (s.set j (some 1)) := by unfold sgs; rw [List.map_set]; rfl
      have md : gMod (.int (u * 16 + t)) (.int s.length) = some (.val (.int ((u * 16 + t) % (s.length : Int)))) := g_mod_ii hpos
      simp -implicitDefEqProofs [sPutIx, hu, ht, m1, sgs_len, md, i1, hset]
      refine oc_nx ⟨g2, _, _, rfl, by rw [List.length_set]; exact hs, fun x hx => ?_⟩
      rcases List.mem_or_eq_of_mem_set hx with h | h
      · exact h01 x h
      · subst h; exact .inr rfl
    · intro e hI
      obtain ⟨f, s, x12, he, hs, h01⟩ := hI
      subst he
      have pp : 0 < s.length := by omega
      have ok : SgOk m s := sgok_of (by omega) (by rw [hs, hN]) (fun x hx => by rcases h01 x hx with h | h; exact .inr (.inl h); exact .inr (.inr (.inl h))) ⟨s[0], List.getElem_mem pp, by rcases h01 _ (List.getElem_mem pp) with h | h <;> rw [h] <;> simp⟩
      have cn := s_counts (n := m) (s := s) (by omega) ok (tot01_of h01)
      have hif : ((7 : Int) + if ((s.length : Int) == 256) = true then 1 else 0) = m := by rw [hs, ← hfin]; simp
      rw [← hs] at hfin
      simp -implicitDefEqProofs [sgs_len, hif, hfin]
      rw [cn]
      exact ⟨_, rfl⟩
/-! bad arguments at the doors -/
def badL (s : List (Option Int)) : List D := [.non, .int 0, .str "rule", .lst (sgs s), .tup [.int 0, .int 1], .bl false]
theorem bad_at (s : List (Option Int)) {v : Int} (h0 : 0 ≤ v) (h1 : v < 6) : ∃ d, atI (badL s) v = some d ∧ tyN d ≠ none ∧ ∀ c ns ds, d ≠ .ins c ns ds := by
  have hv : v = ((v.toNat : Nat) : Int) := by omega
  rw [hv]
  have hc : v.toNat = 0 ∨ v.toNat = 1 ∨ v.toNat = 2 ∨ v.toNat = 3 ∨ v.toNat = 4 ∨ v.toNat = 5 := by omega
  rcases hc with h | h | h | h | h | h <;> rw [h]
  · exact ⟨.non, atI_nat (j := 0) (xs := badL s) (v := .non) rfl, by simp [tyN], fun _ _ _ => by simp⟩
  · exact ⟨.int 0, atI_nat (j := 1) (xs := badL s) (v := .int 0) rfl, by simp [tyN], fun _ _ _ => by simp⟩
  · exact ⟨.str "rule", atI_nat (j := 2) (xs := badL s) (v := .str "rule") rfl, by simp [tyN], fun _ _ _ => by simp⟩
  · exact ⟨.lst (sgs s), atI_nat (j := 3) (xs := badL s) (v := .lst (sgs s)) rfl, by simp [tyN], fun _ _ _ => by simp⟩
  · exact ⟨.tup [.int 0, .int 1], atI_nat (j := 4) (xs := badL s) (v := .tup [.int 0, .int 1]) rfl, by simp [tyN], fun _ _ _ => by simp⟩
  · exact ⟨.bl false, atI_nat (j := 5) (xs := badL s) (v := .bl false) rfl, by simp [tyN], fun _ _ _ => by simp⟩
theorem badEnd {f : List Int} {w : Int} {s : List (Option Int)} {a0 a2 a3 a4 a6 a7 a8 a9 a11 a12 a13 a14 a15 a16 : S} : VQ (.val (.bl true)) (sSeq (sSet 13 (x2 gIx (xN gLst (aCons (xC .non) (aCons (xC (.int 0)) (aCons (xC (.str "rule")) (aCons (xVar 5) (aCons (xN Ya.gTup (aCons (xC (.int 0)) (aCons (xC (.int 1)) aNil))) (aCons (xC (.bl false)) aNil))))))) (xCall F_law_pick (rIo 1 (rCons (xC (.int 6)) rNil))))) (sSeq (sIf (uOr (uTst (x2 gNe (xCall F_law_door (rCons (xVarF 10) (rCons (xVar 13) rNil))) (xN gLst (aCons (xC (.str "signs")) (aCons (x1 gNeg (xC (.int 1))) aNil))))) (uTst (x2 gNe (xCall F_law_door (rCons (xVarF 10) (rCons (xCall F_alike_rule (rCons (xC (.int 9)) rNil)) rNil))) (xN gLst (aCons (xC (.str "total")) (aCons (xC (.int 1)) aNil)))))) (sRet (xC (.bl false))) sNil) (sRet (xAndB (x2 gEq (xCall F_law_door (rCons (xVarF 10) (rCons (xCall F_and_rule (rCons (xC (.int 9)) rNil)) rNil))) (xN gLst (aCons (xC (.str "many")) (aCons (xC (.int 8)) aNil)))) (x2 gEq (xCall F_law_door (rCons (xVarF 10) (rCons (xCall F_and_rule (rCons (xC (.int 8)) rNil)) rNil))) (xN gLst (aCons (xC (.str "let")) aNil))))))
    [a0, fl none f, a2, a3, a4, .val (.lst (sgs s)), a6, a7, a8, a9, .val (.int w), a11, a12, a13, a14, a15, a16]) := by
  obtain ⟨v, f1, hv0, hv1, hv⟩ := x_pick (i := 1) (o := none) (f := f) (env := [a0, fl none f, a2, a3, a4, .val (.lst (sgs s)), a6, a7, a8, a9, .val (.int w), a11, a12, a13, a14, a15, a16]) 6 (by decide) rfl
  obtain ⟨d, hd, hd1, hd2⟩ := bad_at s hv0 hv1
  unfold badL at hd
  have b1 := dr_bad w d hd1 hd2
  have b2 := dr_alike9 w
  have b3 := dr_and9 w
  have b4 := dr_and8 w
  unfold ruleD at b2 b3 b4
  have c2 := s_alike9
  have c3 := s_and9
  have c4 := s_and8
  unfold ruleC at c2 c3 c4
  generalize sgs alikeS = y2 at b2 c2
  generalize sgs (andS 511) = y3 at b3 c3
  generalize sgs (andS 255) = y4 at b4 c4
  have b2 : F_law_door [.val (.int w), .val (.ins "Rule" ["size", "signs"] [.int 9, .tup y2])] = .ret (.val (.lst [.str "total", .int 1])) _ := b2
  have b3 : F_law_door [.val (.int w), .val (.ins "Rule" ["size", "signs"] [.int 9, .tup y3])] = .ret (.val (.lst [.str "many", .int 8])) _ := b3
  have b4 : F_law_door [.val (.int w), .val (.ins "Rule" ["size", "signs"] [.int 8, .tup y4])] = .ret (.val (.lst [.str "let"])) _ := b4
  have gl6 : ∀ a b c d e f : D, Ya.gLst [a, b, c, d, e, f] = some (.own none (.lst [a, b, c, d, e, f])) := fun _ _ _ _ _ _ => rfl
  refine seq_q (VQ _) ?_
  simp -implicitDefEqProofs [gl6, gTup2, hv, gIx, hd]
  refine seq_q (VQ _) ?_
  simp -implicitDefEqProofs [b1, gLst2, n1, c2, b2, n2, c3, b3, n3, c4, b4, n4, gLst1]
  exact ⟨_, rfl⟩
theorem vq_seq {r : S} {p q : Xs} {env : En} (h : VQ r (p env)) : VQ r ((p env).bind fun l e => match l with | .nx => q e | l => .ok l e) := by
  obtain ⟨e, h⟩ := h
  rw [h]
  exact ⟨_, rfl⟩
theorem law_true (ns : List Int) (h : ns.length ≤ 63) : ∃ ss, F_law [.val (.scr ns)] = .ret (.val (.bl true)) ss := by
  refine ⟨_, fn_val (ds := [.scr ns]) rfl ?_⟩
  show VQ (.val (.bl true)) _
  obtain ⟨f, hf⟩ := s_feed h
  unfold b_law
  refine seq_q (VQ _) ?_
  simp -implicitDefEqProofs [hf]
  obtain ⟨v, f1, hv0, hv1, hv⟩ := x_pick (i := 1) (o := none) (f := f) (env := [.val (.scr ns), fl none f, .und, .und, .und, .und, .und, .und, .und, .und, .und, .und, .und, .und, .und, .und, .und]) 24 (by decide) rfl
  have hv : xCall F_law_pick (rIo 1 (rCons (xC (D.int 24)) rNil)) [.val (.scr ns), S.own none (C.lst (f.map D.int)), .und, .und, .und, .und, .und, .und, .und, .und, .und, .und, .und, .und, .und, .und, .und] = .ok (.val (.int v)) [.val (.scr ns), fl none f1, .und, .und, .und, .und, .und, .und, .und, .und, .und, .und, .und, .und, .und, .und, .und] := hv
  refine seq_q (VQ _) ?_
  simp -implicitDefEqProofs [hv]
  obtain ⟨n, s, f2, r, hc1, hc2, hn, ok⟩ := s_case f1
  have hc := io1 (F := F_law_case) (f := xC (.int 4)) (env := [.val (.scr ns), fl none f1, .val (.int v), .und, .und, .und, .und, .und, .und, .und, .und, .und, .und, .und, .und, .und, .und]) (i := 1) (o := none) (e := [.val (.scr ns), fl none f1, .val (.int v), .und, .und, .und, .und, .und, .und, .und, .und, .und, .und, .und, .und, .und, .und]) rfl rfl rfl hc1
  have at1 : ∀ a b : D, atI [a, b] 1 = some b := fun a b => atI_nat (j := 1) (xs := [a, b]) (v := b) rfl
  have p2 : 2 ^ n ≤ 16 := Nat.le_trans (Nat.pow_le_pow_right (by decide) hn) (by decide)
  have hsl : s.length ≤ 16 := by rw [ok.len]; exact p2
  have at1' : ∀ (a b : D) (r : List D), atI (a :: b :: r) 1 = some b := fun a b r => atI_nat (j := 1) (xs := a :: b :: r) (v := b) rfl
  refine seq_c (VQ _) (fun e => ∃ y, e = [.val (.scr ns), fl none f2, .val (.int v), y, .und, .und, .und, .und, .und, .und, .und, .und, .und, .und, .und, .und, .und] ∧ (y = .val (.lst [.int n, .lst (sgs s)]) ∨ y = .own none (.lst [.int n, .lst (sgs s)]))) ?_ ?_
  · rcases hc2 with rfl | rfl
    · exact ⟨_, by simp -implicitDefEqProofs [hc]; rfl, _, rfl, .inl rfl⟩
    · exact ⟨_, by simp -implicitDefEqProofs [hc]; rfl, _, rfl, .inr rfl⟩
  intro e hI
  obtain ⟨y, he, hy⟩ := hI
  subst he
  refine seq_c (VQ _) (fun e => e = [.val (.scr ns), fl none f2, .val (.int v), .val (.lst [.int n, .lst (sgs s)]), .val (.int n), .und, .und, .und, .und, .und, .und, .und, .und, .und, .und, .und, .und]) ?_ ?_
  · rcases hy with rfl | rfl
    · exact ⟨_, by simp -implicitDefEqProofs [gIx, at0], rfl⟩
    · exact ⟨_, by simp -implicitDefEqProofs [gIx, at0], rfl⟩
  intro e he
  subst he
  refine seq_q (VQ _) ?_
  simp -implicitDefEqProofs [gIx, at1]
  have hmk := x_make ok (fa := aCons (xVar 4) (aCons (xVar 5) aNil)) (env := [.val (.scr ns), fl none f2, .val (.int v), .val (.lst [.int n, .lst (sgs s)]), .val (.int n), .val (.lst (sgs s)), .und, .und, .und, .und, .und, .und, .und, .und, .und, .und, .und]) (e := [.val (.scr ns), fl none f2, .val (.int v), .val (.lst [.int n, .lst (sgs s)]), .val (.int n), .val (.lst (sgs s)), .und, .und, .und, .und, .und, .und, .und, .und, .und, .und, .und]) (by simp)
  refine seq_q (VQ _) ?_
  simp -implicitDefEqProofs [hmk]
  refine seq_q (VQ _) ?_
  simp -implicitDefEqProofs
  refine lm_qio (VQ _) (n := n) (env0 := [.val (.scr ns), fl none f2, .val (.int v), .val (.lst [.int n, .lst (sgs s)]), .val (.int n), .val (.lst (sgs s)), ruleC n s, .und, .und, .und, .und, .und, .und, .und, .und, .und, .und]) (rgN (by simp -implicitDefEqProofs; rfl) (by omega)) (by omega) (fun e => .bl (SB n e s)) (fun e => ∃ y, e = [.val (.scr ns), fl none f2, .val (.int v), .val (.lst [.int n, .lst (sgs s)]), .val (.int n), .val (.lst (sgs s)), y, .und, .und, .und, .und, .und, .und, .und, .und, .und, .und] ∧ (y = ruleC n s ∨ y = .val (ruleD n s))) ⟨_, rfl, .inl rfl⟩ ?_ ?_
  · intro i e hi hI
    obtain ⟨y, he, hy⟩ := hI
    subst he
    have hss := s_some (e := i) ok hn hi
    refine ⟨.val (.bl (SB n i s)), [.val (.scr ns), fl none f2, .val (.int v), .val (.lst [.int n, .lst (sgs s)]), .val (.int n), .val (.lst (sgs s)), .val (ruleD n s), .und, .und, .und, .und, .und, .und, .und, .val (.int i), .und, .und], ?_, rfl, ⟨_, rfl, .inr rfl⟩⟩
    have fr : (rCons (xVarF 6) (rCons (xVar 4) (rCons (xVar 5) (rCons (xVar 14) rNil)))) ([.val (.scr ns), fl none f2, .val (.int v), .val (.lst [.int n, .lst (sgs s)]), .val (.int n), .val (.lst (sgs s)), y, .und, .und, .und, .und, .und, .und, .und, .und, .und, .und].set 14 (.val (.int i))) = .ok ([ruleD n s, .int n, .lst (sgs s), .int i].map .inl) [.val (.scr ns), fl none f2, .val (.int v), .val (.lst [.int n, .lst (sgs s)]), .val (.int n), .val (.lst (sgs s)), .val (ruleD n s), .und, .und, .und, .und, .und, .und, .und, .val (.int i), .und, .und] := by
      rcases hy with rfl | rfl <;> rfl
    rw [r_callN fr, show [ruleD n s, D.int n, .lst (sgs s), .int i].map S.val = [.val (ruleD n s), .val (.int n), .val (.lst (sgs s)), .val (.int i)] from rfl, hss]
    rfl
  intro e hI
  obtain ⟨y, he, hy⟩ := hI
  subst he
  simp -implicitDefEqProofs
  refine seq_q (VQ _) ?_
  simp -implicitDefEqProofs
  have hsides : ∀ d ∈ (List.range n).map (fun e => D.bl (SB n e s)), ∃ b, d = .bl b := fun d hd => by
    obtain ⟨e, _, rfl⟩ := List.mem_map.mp hd
    exact ⟨_, rfl⟩
  refine ld_q (VQ _) (ds := (List.range n).map (fun e => D.bl (SB n e s))) (env0 := [.val (.scr ns), fl none f2, .val (.int v), .val (.lst [.int n, .lst (sgs s)]), .val (.int n), .val (.lst (sgs s)), y, .val (.lst ((List.range n).map (fun e => D.bl (SB n e s)))), .und, .und, .und, .und, .und, .und, .und, .und, .und]) (by simp -implicitDefEqProofs) (by simp; omega) (fun _ => false) (fun d => d) ?_ (fun _ _ hz => by cases hz) ?_
  · intro d hd
    obtain ⟨b, rfl⟩ := hsides d hd
    simp -implicitDefEqProofs [gIs, isN]
  have hf0 : ((((List.range n).map (fun e => D.bl (SB n e s))).filter fun _ => false).map fun d => d) = [] := by simp
  rw [hf0]
  simp -implicitDefEqProofs
  have hdue := due_law hn ok
  have hlive := s_live s (by omega)
  have hlc := lcD (j := 15) (ds := (List.range n).map (fun e => D.bl (SB n e s))) (fi := iData (xVarF 7)) (t := uNot (uTru (xVar 15))) (f := xVar 15) (env := [.val (.scr ns), fl none f2, .val (.int v), .val (.lst [.int n, .lst (sgs s)]), .val (.int n), .val (.lst (sgs s)), y, .val (.lst ((List.range n).map (fun e => D.bl (SB n e s)))), .und, .und, .und, .und, .und, .und, .und, .und, .und]) (env0 := [.val (.scr ns), fl none f2, .val (.int v), .val (.lst [.int n, .lst (sgs s)]), .val (.int n), .val (.lst (sgs s)), y, .val (.lst ((List.range n).map (fun e => D.bl (SB n e s)))), .und, .und, .und, .und, .und, .und, .und, .und, .und]) (by simp -implicitDefEqProofs) (by simp; omega) (fun d => match d with | .bl b => !b | _ => false) (fun d => d) (fun d hd => by
    obtain ⟨b, rfl⟩ := hsides d hd
    simp -implicitDefEqProofs [truD]) (fun d hd _ => by
    obtain ⟨b, rfl⟩ := hsides d hd
    exact ⟨.val (.bl b), by simp -implicitDefEqProofs, rfl⟩)
  have hcnt : (((((List.range n).map (fun e => D.bl (SB n e s))).filter fun d => match d with | .bl b => !b | _ => false).map fun d => d).length == 0) = (List.range n).all fun e => SB n e s := by
    rw [List.map_id', List.filter_map, List.length_map, Bool.eq_iff_iff, beq_iff_eq, List.length_eq_zero_iff, List.filter_eq_nil_iff, List.all_eq_true]
    constructor
    · intro w e he
      have := w e he
      simpa using this
    · intro w e he
      have := w e he
      simpa using this
  generalize ((((List.range n).map (fun e => D.bl (SB n e s))).filter fun d => match d with | .bl b => !b | _ => false).map fun d => d) = cl at hlc hcnt
  have hcnt2 : ((cl.length : Int) == 0) = (List.range n).all fun e => SB n e s := by
    rw [← hcnt, Bool.eq_iff_iff, beq_iff_eq, beq_iff_eq]; omega
  generalize ((List.range n).all fun e => SB n e s) = al at hdue hcnt hcnt2
  generalize hF : mk (sat s) n (List.range n) 0 = F at hdue
  have st9 : sSet 8 (xOrB (x2 gEq (xVar 4) (xC (.int 0))) (xAndB (xCall F_law_live (rCons (xVar 5) rNil)) (x2 gEq (xN gLen (aCons (xLc [15] (iData (xVarF 7)) (gxName 15) (uNot (uTru (xVar 15))) (xVar 15)) aNil)) (xC (.int 0))))) [.val (.scr ns), fl none f2, .val (.int v), .val (.lst [.int n, .lst (sgs s)]), .val (.int n), .val (.lst (sgs s)), y, .val (.lst ((List.range n).map (fun e => D.bl (SB n e s)))), .und, .und, .und, .und, .und, .und, .und, .und, .und] = .ok .nx [.val (.scr ns), fl none f2, .val (.int v), .val (.lst [.int n, .lst (sgs s)]), .val (.int n), .val (.lst (sgs s)), y, .val (.lst ((List.range n).map (fun e => D.bl (SB n e s)))), .val (.bl F), .und, .und, .und, .und, .und, .und, .und, .und] := by
    by_cases h0 : n = 0
    · have : F = true := by rw [hdue, h0]; rfl
      subst this
      have h0' : (n : Int) = 0 := by omega
      simp -implicitDefEqProofs [h0, h0']
    · have e0 : (n == 0) = false := by simpa using h0
      have e1 : ((n : Int) == 0) = false := by rw [beq_eq_false_iff_ne]; omega
      rw [e0, Bool.false_or] at hdue
      generalize (List.range n).map (fun e => D.bl (SB n e s)) = sl at hlc ⊢
      have g0 : gEq (.int n) (.int 0) = some (.val (.bl false)) := by rw [g_eq_ii, e1]
      have g1 : gEq (.int cl.length) (.int 0) = some (.val (.bl al)) := by rw [g_eq_ii, hcnt2]
      cases hlv : liveB s with
      | false =>
        rw [hlv] at hlive hdue
        simp -implicitDefEqProofs [g0, hlive, hdue]
      | true =>
        rw [hlv] at hlive hdue
        simp -implicitDefEqProofs [g0, hlive, hlc, g1, hdue]
  generalize (List.range n).map (fun e => D.bl (SB n e s)) = sl at st9 ⊢
  refine seq_c (VQ _) (fun e => e = _) ⟨_, st9, rfl⟩ ?_
  intro e he
  subst he
  have hif := s_isfull (n := n) (s := s) (by omega) ok.len
  rw [hF] at hif
  have hif : F_is_full [.val (.ins "Rule" ["size", "signs"] [.int n, .tup (sgs s)])] = .ret (.val (.bl F)) [.val (ruleD n s)] := hif
  refine seq_c (VQ _) (fun e => e = [.val (.scr ns), fl none f2, .val (.int v), .val (.lst [.int n, .lst (sgs s)]), .val (.int n), .val (.lst (sgs s)), .val (ruleD n s), .val (.lst sl), .val (.bl F), .und, .und, .und, .und, .und, .und, .und, .und]) ?_ ?_
  · rcases hy with rfl | rfl
    · refine ⟨_, ?_, rfl⟩
      simp -implicitDefEqProofs [ruleC, hif]
      rfl
    · refine ⟨_, ?_, rfl⟩
      simp -implicitDefEqProofs [ruleD, hif]
  intro e he
  subst he
  obtain ⟨n2, s2, f3, hto, hn2, ok2, t01⟩ := s_total f2
  have hto := io1 (F := F_law_total_case) (f := xC (.int 4)) (env := [.val (.scr ns), fl none f2, .val (.int v), .val (.lst [.int n, .lst (sgs s)]), .val (.int n), .val (.lst (sgs s)), .val (ruleD n s), .val (.lst sl), .val (.bl F), .und, .und, .und, .und, .und, .und, .und, .und]) (i := 1) (o := none) (e := [.val (.scr ns), fl none f2, .val (.int v), .val (.lst [.int n, .lst (sgs s)]), .val (.int n), .val (.lst (sgs s)), .val (ruleD n s), .val (.lst sl), .val (.bl F), .und, .und, .und, .und, .und, .und, .und, .und]) rfl rfl rfl hto
  have hcn := s_counts (n := n2) (s := s2) (by omega) ok2 t01
  refine seq_q (VQ _) ?_
  simp -implicitDefEqProofs [hto]
  refine seq_c (VQ _) (fun e => e = [.val (.scr ns), fl none f3, .val (.int v), .val (.lst [.int n, .lst (sgs s)]), .val (.int n), .val (.lst (sgs s)), .val (ruleD n s), .val (.lst sl), .val (.bl F), .val (.lst [.int n2, .lst (sgs s2)]), .und, .und, .und, .und, .und, .und, .und]) ?_ ?_
  · refine ⟨_, ?_, rfl⟩
    simp -implicitDefEqProofs [gIx, at0, at1, hcn]
    rfl
  intro e he
  subst he
  obtain ⟨w, f4, hw0, hw1, hw⟩ := x_pick (i := 1) (o := none) (f := f3) (env := [.val (.scr ns), fl none f3, .val (.int v), .val (.lst [.int n, .lst (sgs s)]), .val (.int n), .val (.lst (sgs s)), .val (ruleD n s), .val (.lst sl), .val (.bl F), .val (.lst [.int n2, .lst (sgs s2)]), .und, .und, .und, .und, .und, .und, .und]) 2 (by decide) rfl
  refine seq_q (VQ _) ?_
  simp -implicitDefEqProofs [hw]
  have hdo := s_doorR w n s (fun hd _ => ⟨ok.len, tot_of_door ok hd⟩)
  obtain ⟨rd, hdu1, hdu2⟩ := s_due (s := s) (by omega)
  have hsame := door_same (n := n) (s := s) (by omega)
  refine seq_c (VQ _) (fun e => e = [.val (.scr ns), fl none f4, .val (.int v), .val (.lst [.int n, .lst (sgs s)]), .val (.int n), .val (.lst (sgs s)), .val (ruleD n s), .val (.lst sl), .val (.bl F), .val (.lst [.int n2, .lst (sgs s2)]), .val (.int w), .und, .und, .und, .und, .und, .und]) ?_ ?_
  · refine ⟨_, ?_, rfl⟩
    simp -implicitDefEqProofs [hdo, hdu1, data_frz hdu2, hsame]
  intro e he
  subst he
  refine seq_q (VQ _) ?_
  by_cases hv1 : v = 1
  · subst hv1
    simp -implicitDefEqProofs
    exact vq_seq large
  · simp -implicitDefEqProofs [hv1]
    refine seq_q (VQ _) ?_
    by_cases hv6 : v % 6 = 2
    · simp -implicitDefEqProofs [hv6]
      exact vq_seq badEnd
    · simp -implicitDefEqProofs [hv6]
      exact ⟨_, rfl⟩
end K67

set_option maxHeartbeats 0
namespace K67
open PySem PySem.Spec PyProof.Rows L2 Ya
abbrev R : PySem.W.OpenRow := PySem.W.OpenLaw.row PySem.Challenge.rw_askprices_k67_full_by_sides_and_counts
abbrev hk : PySem.W.Hook := hookY ex fa fn
def ob (s : PySem.W.SharedT) : AlY := obsYG ex fa fn (HandSHeadRun.getT s)
theorem ob_eq (s : PySem.W.SharedT) : ob s = hk.obs s.abs := obsYG_eq (HandSHeadRun.getT_eq s)
theorem run (w : World) : HandSHeadRun.RunEq R (PySem.W.view R.prog [lawIx]) hk ob 9000 loose w := by
  intro os
  kernel_rfl
theorem facts {P : Program} {w : World} {K : PySem.W.Frag} {h : Heap} {mg : Str → Option Value} {f : Addr} (X : K.In h) (G : h.Ns mainGlobals mg) (hfa : mg ("law" : Str) = some (.ref f)) (c : SaysY ex fa fn K) :
    ∃ fd : FuncData, (∀ (s : Shared) (v : Value), BindsTo s fd ⟨[v], []⟩ [("_law_script", v)]) ∧ ∀ base : Heap, K.In base → base.Ns mainGlobals mg → FnOk P w K mg base (L2.CX P w) lawLvl f fd ["_law_script"] (spF K (He.ga K) 1 F_law) := by
  have T := txt_of X G c
  have ea : f = He.ga K "law" := by
    have e := hfa.symm.trans T.g_law
    injection e with e; injection e
  subst ea
  obtain ⟨fd, Fn⟩ := T.f_law
  refine ⟨fd, ?_, fun base _ _ => do_law T Fn⟩
  obtain ⟨oc, od, kV, doc, pm, an, cdv, ct, osl, rfl, lk, hcd⟩ := Fn.ex
  exact fun s v => BindsTo.of_eq (by first | rfl | with_unfolding_all rfl)
end K67
open PySem PySem.W PySem.Calls PyProof.Rows
theorem PySem.Challenge.cw_askprices_k67_full_by_sides_and_counts_holds : PySem.Challenge.rw_askprices_k67_full_by_sides_and_counts.Holds := by
  w_on; o_law
  refine HandSHeadRun.head_any (r := OpenLaw.row PySem.Challenge.rw_askprices_k67_full_by_sides_and_counts) (q := view (OpenLaw.row PySem.Challenge.rw_askprices_k67_full_by_sides_and_counts).prog [K67.lawIx]) (H := K67.hk) (ob := K67.ob) (M := 9000) (loose := K67.loose) (d := HandSHeadRun.topDef (OpenLaw.row PySem.Challenge.rw_askprices_k67_full_by_sides_and_counts).prog K67.lawIx) (kwd := []) K67.ob_eq
    (by kernel_rfl) (fun s => by kernel_rfl) K67.run (by kernel_rfl) (by kernel_rfl) (by kernel_rfl) (by rfl) (by first | assumption | decide +kernel) (by decide +kernel) ⟨rfl, rfl, rfl, rfl, rfl, by decide +kernel⟩ ?hw ?hc
  case hw => w_witness2
  case hc =>
    refine Ya.walk_ofY (l := PySem.Challenge.rw_askprices_k67_full_by_sides_and_counts) (n := 63) (k := K67.lawLvl) (x := "_law_script") (CX := L2.CX (PySem.Challenge.rw_askprices_k67_full_by_sides_and_counts).prog) rfl (by decide) (by kernel_rfl) ⟨rfl, by decide, by decide⟩ ?F (fun w H s e s' z => Ya.cx_no z)
    intro w mg fa h Y G hmg0
    obtain ⟨K, KX, c⟩ := Y
    have hmg : mg ("law" : PySem.Str) = some (.ref fa) := by
      have e : (HandSHeadRun.topDef (OpenLaw.row PySem.Challenge.rw_askprices_k67_full_by_sides_and_counts).prog K67.lawIx).name = ("law" : PySem.Str) := by kernel_rfl
      rw [← e]
      exact hmg0
    obtain ⟨fd, hb, hF⟩ := K67.facts (P := (PySem.Challenge.rw_askprices_k67_full_by_sides_and_counts).prog) (w := w) KX G hmg c
    exact ⟨K, fd, _, KX, hb, fun H a ns hl _ hS => let ⟨ss, e⟩ := K67.law_true ns hl; Ya.sp_true e hS, hF⟩
