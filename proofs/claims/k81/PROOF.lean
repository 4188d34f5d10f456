import PyProof.Rows.All
import Wide.All
import OpenK.AllK
import Wide.FinOn
import HandS.ForMost
import HandS.ForExc
import HandS.Deep
import HandS.Defaults
import HandS.TryMany
import HandS.IsInst
import HandS.ExcIs
import HandS.ExcValue
import HandS.HotCalls
import HandS.SortInts
import HandS.SetFor
import HandS.Strs
import HandS.SetKeys
import HandS.Conv
import HandS.Codes
import HandS.Flow
import HandS.Style
import HandS.Zip
import HandS.Replace
import HandS.RevRange
import HandS.TupAny
import HandS.TupMul
import HandS.ListItems
import HandS.StrMore
import HandS.CallSlots
import HandS.Head0
import HandS.Head1
import HandS.Head2
import HandS.HeadEnd
import HandS.HeadHook1
import HandS.HeadHook2
import HandS.HeadHook3
import HandS.Small
import HandS.More
import PyProof.ExcBaseAll.ValueError
import KE.GoesMore
import KE.GoesZip
import KE.KRevSl
import HandS.Text
import HandS.RaiseMore
import KE.GoesRaise
import HandS.Set
import PyProof.Rows.StrItems
import PyProof.Rows.StrSplitAre
import PySem.Challenge.RW_backtape_k81_whole_read
set_option Elab.async false
set_option linter.all false
set_option maxRecDepth 100000
set_option maxHeartbeats 4000000
namespace Bt
open PySem L2
/-! ### data -/
inductive D where
  | non | bl (b : Bool) | int (i : Int) | str (s : Str) | tup (l : List D) | lst (l : List D) | scr (l : List D) | obj (n : Nat)
/-! ### the model: sums, rows, states -/
inductive Sm where
  | num (n : Int) | name (i : Fin 6) | cell (a : Sm) | add (a b : Sm) | sub (a b : Sm) | mul (a b : Sm) | less (a b : Sm)
inductive Row where
  | set (i : Fin 6) (a : Sm) | put (a b : Sm) | ask (i : Fin 6) | say (a : Sm) | jump (p : Nat) | unless (a : Sm) (p : Nat) | call (p : Nat) | back | stop
structure Sta where
  row : Nat
  nm : List Int
  cl : List Int
  calls : List Nat
  asked : Nat
  said : List Int
  deriving DecidableEq
end Bt
namespace Bt
open PySem L2
/-! ### which value of the machine stands for which data -/
mutual
inductive Rep (K : PySem.W.Frag) (F : Hp) (α : List Addr) : D → V → Prop
  | non : Rep K F α .non .non
  | bl (b : Bool) : Rep K F α (.bl b) (.bl b)
  | int (i : Int) : Rep K F α (.int i) (.int i)
  | str (s : Str) : Rep K F α (.str s) (.str s)
  | tup {a : Addr} {xs : List V} {l : List D} : SqT K F a xs → Reps K F α l xs → Rep K F α (.tup l) (.ref a)
  | lst {a : Addr} {xs : List V} {l : List D} : F a = some (.lst xs) → Reps K F α l xs → Rep K F α (.lst l) (.ref a)
  | scr {a : Addr} {xs : List V} {l : List D} : SqL K F a xs → Reps K F α l xs → Rep K F α (.scr l) (.ref a)
  | obj {n : Nat} {a : Addr} : α[n]? = some a → Rep K F α (.obj n) (.ref a)
inductive Reps (K : PySem.W.Frag) (F : Hp) (α : List Addr) : List D → List V → Prop
  | nil : Reps K F α [] []
  | cons {d : D} {v : V} {ds : List D} {vs : List V} : Rep K F α d v → Reps K F α ds vs → Reps K F α (d :: ds) (v :: vs)
end
theorem rdMono {F F' : Hp} (h : ∀ a o, F a = some o → F' a = some o) {a : Addr} {u : HO} (r : Rd F a u) : Rd F' a u := by
  rcases r with r | ⟨o, r⟩
  · exact .inl (h _ _ r)
  · exact .inr ⟨o, h _ _ r⟩
theorem sqtMono {K : PySem.W.Frag} {F F' : Hp} (h : ∀ a o, F a = some o → F' a = some o) {a : Addr} {xs : List V} (r : SqT K F a xs) : SqT K F' a xs := by
  rcases r with r | r
  · exact .inl (rdMono h r)
  · exact .inr r
theorem sqlMono {K : PySem.W.Frag} {F F' : Hp} (h : ∀ a o, F a = some o → F' a = some o) {a : Addr} {xs : List V} (r : SqL K F a xs) : SqL K F' a xs := by
  rcases r with r | r
  · exact .inl (rdMono h r)
  · exact .inr r
section
variable {K : PySem.W.Frag} {F F' : Hp} {α α' : List Addr}
mutual
theorem Rep.mono (h : ∀ a o, F a = some o → F' a = some o) (k : ∀ (n : Nat) (a : Addr), α[n]? = some a → α'[n]? = some a) : ∀ {d : D} {v : V}, Rep K F α d v → Rep K F' α' d v
  | _, _, .non => .non
  | _, _, .bl b => .bl b
  | _, _, .int i => .int i
  | _, _, .str s => .str s
  | _, _, .tup s r => .tup (sqtMono h s) (Reps.mono h k r)
  | _, _, .lst s r => .lst (h _ _ s) (Reps.mono h k r)
  | _, _, .scr s r => .scr (sqlMono h s) (Reps.mono h k r)
  | _, _, .obj e => .obj (k _ _ e)
theorem Reps.mono (h : ∀ a o, F a = some o → F' a = some o) (k : ∀ (n : Nat) (a : Addr), α[n]? = some a → α'[n]? = some a) : ∀ {ds : List D} {vs : List V}, Reps K F α ds vs → Reps K F' α' ds vs
  | _, _, .nil => .nil
  | _, _, .cons r t => .cons (Rep.mono h k r) (Reps.mono h k t)
end
theorem Reps.length : ∀ {ds : List D} {vs : List V}, Reps K F α ds vs → ds.length = vs.length
  | _, _, .nil => rfl
  | _, _, .cons _ t => congrArg (· + 1) (Reps.length t)
theorem Reps.get : ∀ {ds : List D} {vs : List V} {i : Nat} {d : D}, Reps K F α ds vs → ds[i]? = some d → ∃ v, vs[i]? = some v ∧ Rep K F α d v
  | _, _, _, _, .nil, e => by simp at e
  | _, _, 0, _, .cons r _, e => by simp at e; subst e; exact ⟨_, rfl, r⟩
  | _, _, i + 1, d, .cons _ t, e => by
    obtain ⟨v, h1, h2⟩ := Reps.get (i := i) (d := d) t (by simpa using e)
    exact ⟨v, by simpa using h1, h2⟩
theorem Reps.append : ∀ {ds es : List D} {vs us : List V}, Reps K F α ds vs → Reps K F α es us → Reps K F α (ds ++ es) (vs ++ us)
  | _, _, _, _, .nil, s => s
  | _, _, _, _, .cons r t, s => .cons r (Reps.append t s)
theorem Reps.take : ∀ {ds : List D} {vs : List V} (n : Nat), Reps K F α ds vs → Reps K F α (ds.take n) (vs.take n)
  | _, _, 0, _ => .nil
  | _, _, _ + 1, .nil => .nil
  | _, _, n + 1, .cons r t => .cons r (Reps.take n t)
theorem Reps.drop : ∀ {ds : List D} {vs : List V} (n : Nat), Reps K F α ds vs → Reps K F α (ds.drop n) (vs.drop n)
  | _, _, 0, r => r
  | _, _, _ + 1, .nil => .nil
  | _, _, n + 1, .cons _ t => Reps.drop n t
theorem Reps.reverse {ds : List D} {vs : List V} (r : Reps K F α ds vs) : Reps K F α ds.reverse vs.reverse := by
  induction ds generalizing vs with
  | nil => cases r; exact .nil
  | cons d ds ih =>
    cases r with
    | cons a t => simpa using (ih t).append (.cons a .nil)
theorem Reps.set {d : D} {v : V} (r : Rep K F α d v) : ∀ {ds : List D} {vs : List V} (i : Nat), Reps K F α ds vs → Reps K F α (ds.set i d) (vs.set i v)
  | _, _, _, .nil => .nil
  | _, _, 0, .cons _ t => .cons r t
  | _, _, i + 1, .cons q t => .cons q (Reps.set r i t)
theorem Reps.snoc {ds : List D} {vs : List V} {d : D} {v : V} (h : Reps K F α ds vs) (r : Rep K F α d v) : Reps K F α (ds ++ [d]) (vs ++ [v]) := h.append (.cons r .nil)
theorem Reps.dropLast {ds : List D} {vs : List V} (h : Reps K F α ds vs) : Reps K F α ds.dropLast vs.dropLast := by
  rw [List.dropLast_eq_take, List.dropLast_eq_take, h.length]
  exact h.take _
theorem Reps.rep {ds : List D} {vs : List V} (h : Reps K F α ds vs) : ∀ k : Nat, Reps K F α (List.replicate k ds).flatten (List.replicate k vs).flatten
  | 0 => .nil
  | k + 1 => by simp only [List.replicate_succ, List.flatten_cons]; exact h.append (Reps.rep h k)
theorem Reps.ints : ∀ (ns : List Int), Reps K F α (ns.map D.int) (ns.map V.int)
  | [] => .nil
  | n :: r => .cons (.int n) (Reps.ints r)
end
/-! ### the store of things that change -/
inductive FV where
  | d (x : D) | l (xs : List D) | k (kvs : List (Key × D))
structure TapeI where
  prog : List Row
  asked : List Int
  every : Nat
  most : Nat
  here : Nat
  far : Option Nat
inductive Ab where
  | tape (t : TapeI)
  | err (a : Addr)
inductive AObj where
  | list (l : List D) | dict (kvs : List (Key × D)) | dead | inst (c : Str) (fs : List (Str × FV)) | abs (x : Ab) | lki (c : Str) (fs : List (Str × FV)) | fdict (kvs : List (Key × D)) | flist (l : List D)
abbrev Sto := List AObj
/-- what an abstract thing says of the instance -/
def AbInv : Ab → Str → List (Str × FV) → Prop := fun _ _ _ => False
structure G where
  F : Hp
  α : List Addr
  own : Addr → Option (Nat × Nat)
  pin : Addr → Option HO
abbrev KReps (K : PySem.W.Frag) (g : G) : List (Key × D) → List (Key × V) → Prop := Paired fun p q => p.1 = q.1 ∧ Rep K g.F g.α p.2 q.2
def FVAt (K : PySem.W.Frag) (g : G) (H : Hp) (n j : Nat) : FV → V → Prop
  | .d x, v => Rep K g.F g.α x v
  | .l xs, v => ∃ a vs, v = .ref a ∧ g.own a = some (n, j + 1) ∧ H a = some (.lst vs) ∧ Reps K g.F g.α xs vs
  | .k kvs, v => ∃ a ks, v = .ref a ∧ g.own a = some (n, j + 1) ∧ H a = some (.dK ks) ∧ KReps K g kvs ks
def FVsAt (K : PySem.W.Frag) (g : G) (H : Hp) (n : Nat) (fs : List (Str × FV)) (vs : List (Str × V)) : Prop :=
  fs.length = vs.length ∧ ∀ (j : Nat) (p : Str × FV) (q : Str × V), fs[j]? = some p → vs[j]? = some q → p.1 = q.1 ∧ FVAt K g H n j p.2 q.2
def InstAt (K : PySem.W.Frag) (g : G) (H : Hp) (n : Nat) (c : Str) (fs : List (Str × FV)) : Prop :=
  ∃ a dx vs, g.α[n]? = some a ∧ g.own a = some (n, 0) ∧ H a = some (.ins (He.ga K c) dx vs) ∧ FVsAt K g H n fs vs
/-- an instance and its dict while they are locked -/
def FVL (K : PySem.W.Frag) (g : G) : FV → V → Prop
  | .d x, v => Rep K g.F g.α x v
  | .l _, _ => False
  | .k kvs, v => ∃ a ks o, v = .ref a ∧ g.pin a = some (.frz o (.dK ks)) ∧ KReps K g kvs ks
def LkAt (K : PySem.W.Frag) (g : G) (n : Nat) (c : Str) (fs : List (Str × FV)) : Prop :=
  ∃ b dx vs, g.α[n]? = some b ∧ g.pin b = some (.ins (He.ga K c) dx vs) ∧ fs.length = vs.length ∧ ∀ (j : Nat) (p : Str × FV) (q : Str × V), fs[j]? = some p → vs[j]? = some q → p.1 = q.1 ∧ FVL K g p.2 q.2
/-- what locks hold -/
def LkO (o : HO) : Prop := (∃ C dx fs, o = .ins C dx fs) ∨ ∃ o' u, o = .frz o' u
theorem lko_lst {xs : List V} : ¬ LkO (.lst xs) := by rintro (⟨_, _, _, h⟩ | ⟨_, _, h⟩) <;> cases h
def ObjAt (K : PySem.W.Frag) (g : G) (H : Hp) (n : Nat) : AObj → Prop
  | .list l => ∃ a xs, g.α[n]? = some a ∧ g.own a = some (n, 0) ∧ H a = some (.lst xs) ∧ Reps K g.F g.α l xs
  | .dict kvs => ∃ a ks, g.α[n]? = some a ∧ g.own a = some (n, 0) ∧ H a = some (.dK ks) ∧ KReps K g kvs ks
  | .dead => True
  | .inst c fs => InstAt K g H n c fs
  | .abs x => (∃ c fs, AbInv x c fs ∧ InstAt K g H n c fs) ∨ ∃ a, x = .err a ∧ g.α[n]? = some a
  | .lki c fs => LkAt K g n c fs
  | .fdict kvs => ∃ a ks od, g.α[n]? = some a ∧ g.pin a = some (.frz od (.dK ks)) ∧ KReps K g kvs ks
  | .flist l => ∃ a xs od, g.α[n]? = some a ∧ g.pin a = some (.frz od (.lst xs)) ∧ Reps K g.F g.α l xs
structure World (K : PySem.W.Frag) (g : G) (S : Sto) (H : Hp) : Prop where
  sub : ∀ a o, g.F a = some o → H a = some o
  len : g.α.length = S.length
  at_ : ∀ (n : Nat) (o : AObj), S[n]? = some o → ObjAt K g H n o
  free : ∀ b q, g.own b = some q → g.F b = none ∧ (H b).isSome = true
  pin : ∀ b o, g.pin b = some o → H b = some o ∧ g.F b = none ∧ g.own b = none
structure GExt (g g' : G) : Prop where
  f : ∀ a o, g.F a = some o → g'.F a = some o
  a : ∀ (n : Nat) (a : Addr), g.α[n]? = some a → g'.α[n]? = some a
  p : ∀ a o, g.pin a = some o → g'.pin a = some o
theorem GExt.refl (g : G) : GExt g g := ⟨fun _ _ h => h, fun _ _ h => h, fun _ _ h => h⟩
theorem GExt.trans {g g1 g2 : G} (x : GExt g g1) (y : GExt g1 g2) : GExt g g2 := ⟨fun a o h => y.f a o (x.f a o h), fun n a h => y.a n a (x.a n a h), fun a o h => y.p a o (x.p a o h)⟩
abbrev RepG (K : PySem.W.Frag) (g : G) (d : D) (v : V) : Prop := Rep K g.F g.α d v
abbrev RepsG (K : PySem.W.Frag) (g : G) (d : List D) (v : List V) : Prop := Reps K g.F g.α d v
structure GSub (g g' : G) : Prop where
  f : ∀ a o, g.F a = some o → g'.F a = some o
  a : ∀ (n : Nat) (a : Addr), g.α[n]? = some a → g'.α[n]? = some a
theorem GExt.sub {g g' : G} (e : GExt g g') : GSub g g' := ⟨e.f, e.a⟩
theorem GSub.rep {K : PySem.W.Frag} {g g' : G} (x : GSub g g') {d : D} {v : V} (r : RepG K g d v) : RepG K g' d v := r.mono x.f x.a
theorem GSub.reps {K : PySem.W.Frag} {g g' : G} (x : GSub g g') {d : List D} {v : List V} (r : RepsG K g d v) : RepsG K g' d v := r.mono x.f x.a
theorem GExt.rep {K : PySem.W.Frag} {g g' : G} (x : GExt g g') {d : D} {v : V} (r : RepG K g d v) : RepG K g' d v := r.mono x.f x.a
theorem GExt.reps {K : PySem.W.Frag} {g g' : G} (x : GExt g g') {d : List D} {v : List V} (r : RepsG K g d v) : RepsG K g' d v := r.mono x.f x.a
theorem KReps.mono {K : PySem.W.Frag} {g g' : G} (x : GSub g g') {a : List (Key × D)} {b : List (Key × V)} (r : KReps K g a b) : KReps K g' a b := Paired.mapP r fun _ _ z => ⟨z.1, x.rep z.2⟩
theorem InstAt.mono {K : PySem.W.Frag} {g g' : G} {H H' : Hp} {n : Nat} {c : Str} {fs : List (Str × FV)} (x : InstAt K g H n c fs) (e : GSub g g') (k : ∀ b j, g.own b = some (n, j) → g'.own b = some (n, j) ∧ H' b = H b) : InstAt K g' H' n c fs := by
  obtain ⟨a, dx, vs, h1, h2, h3, h4, h5⟩ := x
  refine ⟨a, dx, vs, e.a _ _ h1, (k a 0 h2).1, (k a 0 h2).2.trans h3, h4, fun j p q hp hq => ?_⟩
  obtain ⟨h6, h7⟩ := h5 j p q hp hq
  refine ⟨h6, ?_⟩
  obtain ⟨pn, pf⟩ := p
  cases pf with
  | d x => exact e.rep h7
  | l xs =>
    obtain ⟨a, vs, r1, r2, r3, r4⟩ := h7
    exact ⟨a, vs, r1, (k a _ r2).1, (k a _ r2).2.trans r3, e.reps r4⟩
  | k kvs =>
    obtain ⟨a, vs, r1, r2, r3, r4⟩ := h7
    exact ⟨a, vs, r1, (k a _ r2).1, (k a _ r2).2.trans r3, r4.mono e⟩
theorem LkAt.mono {K : PySem.W.Frag} {g g' : G} {n : Nat} {c : Str} {fs : List (Str × FV)} (x : LkAt K g n c fs) (e : GSub g g') (kp : ∀ b o, g.pin b = some o → LkO o → g'.pin b = some o) : LkAt K g' n c fs := by
  obtain ⟨b, dx, vs, h1, h2, h3, h4⟩ := x
  refine ⟨b, dx, vs, e.a _ _ h1, kp _ _ h2 (.inl ⟨_, _, _, rfl⟩), h3, fun j p q hp hq => ?_⟩
  obtain ⟨h5, h6⟩ := h4 j p q hp hq
  refine ⟨h5, ?_⟩
  obtain ⟨pn, pf⟩ := p
  cases pf with
  | d x => exact e.rep h6
  | l xs => exact h6
  | k kvs =>
    obtain ⟨a, ks, o, r1, r2, r3⟩ := h6
    exact ⟨a, ks, o, r1, kp _ _ r2 (.inr ⟨_, _, rfl⟩), r3.mono e⟩
theorem ObjAt.monoS {K : PySem.W.Frag} {g g' : G} {H H' : Hp} {n : Nat} {o : AObj} (x : ObjAt K g H n o) (e : GSub g g') (k : ∀ b j, g.own b = some (n, j) → g'.own b = some (n, j) ∧ H' b = H b) (kp : ∀ b o, g.pin b = some o → LkO o → g'.pin b = some o) : ObjAt K g' H' n o := by
  cases o with
  | list l =>
    obtain ⟨a, xs, h1, h2, h3, h4⟩ := x
    exact ⟨a, xs, e.a _ _ h1, (k a _ h2).1, (k a _ h2).2.trans h3, e.reps h4⟩
  | dict kvs =>
    obtain ⟨a, xs, h1, h2, h3, h4⟩ := x
    exact ⟨a, xs, e.a _ _ h1, (k a _ h2).1, (k a _ h2).2.trans h3, h4.mono e⟩
  | dead => trivial
  | inst c fs => exact InstAt.mono x e k
  | abs y =>
    rcases x with ⟨c, fs, h1, h2⟩ | ⟨a, h1, h2⟩
    · exact .inl ⟨c, fs, h1, InstAt.mono h2 e k⟩
    · exact .inr ⟨a, h1, e.a _ _ h2⟩
  | lki c fs => exact LkAt.mono x e kp
  | fdict kvs =>
    obtain ⟨a, ks, od, h1, h2, h3⟩ := x
    exact ⟨a, ks, od, e.a _ _ h1, kp _ _ h2 (.inr ⟨_, _, rfl⟩), h3.mono e⟩
  | flist l =>
    obtain ⟨a, xs, od, h1, h2, h3⟩ := x
    exact ⟨a, xs, od, e.a _ _ h1, kp _ _ h2 (.inr ⟨_, _, rfl⟩), e.reps h3⟩
theorem ObjAt.mono {K : PySem.W.Frag} {g g' : G} {H H' : Hp} {n : Nat} {o : AObj} (x : ObjAt K g H n o) (e : GExt g g') (k : ∀ b j, g.own b = some (n, j) → g'.own b = some (n, j) ∧ H' b = H b) : ObjAt K g' H' n o := x.monoS e.sub k fun b o h _ => e.p b o h
/-! ### changes of the world -/
section
variable {K : PySem.W.Frag} {g : G} {S : Sto} {H : Hp}
/-- a new frozen thing -/
def G.add (g : G) (p : Addr) (o : HO) : G := { g with F := upd g.F p o }
theorem World.fresh (w : World K g S H) {p : Addr} (hp : H p = none) : g.F p = none := by
  cases e : g.F p with
  | none => rfl
  | some o => rw [w.sub p o e] at hp; cases hp
theorem World.notown (w : World K g S H) {p b : Addr} {q : Nat × Nat} (hp : H p = none) (h : g.own b = some q) : b ≠ p := by
  intro e; subst e
  have := (w.free b q h).2
  rw [hp] at this; cases this
theorem World.add (w : World K g S H) {p : Addr} {o : HO} (hp : H p = none) : World K (g.add p o) S (upd H p o) ∧ GExt g (g.add p o) := by
  have ex : GExt g (g.add p o) := ⟨fun a u h => by
    show upd g.F p o a = some u
    rw [upd_ne (ne_of_none h (w.fresh hp))]; exact h, fun _ _ h => h, fun _ _ h => h⟩
  refine ⟨⟨fun a u h => ?_, w.len, fun n u h => (w.at_ n u h).mono ex fun b j hb => ⟨hb, by rw [upd_ne (w.notown hp hb)]⟩, fun b q hb => ?_, fun b u hb => ?_⟩, ex⟩
  · have h' : upd g.F p o a = some u := h
    by_cases e : a = p
    · subst e; rw [upd_same] at h' ⊢; exact h'
    · rw [upd_ne e] at h' ⊢; exact w.sub a u h'
  · have ne := w.notown hp hb
    refine ⟨?_, by rw [upd_ne ne]; exact (w.free b q hb).2⟩
    show upd g.F p o b = none
    rw [upd_ne ne]; exact (w.free b q hb).1
  · obtain ⟨h1, h2, h3⟩ := w.pin b u hb
    have ne : b ≠ p := ne_of_none h1 hp
    refine ⟨by rw [upd_ne ne]; exact h1, ?_, h3⟩
    show upd g.F p o b = none
    rw [upd_ne ne]; exact h2
/-- a new thing that may change -/
def G.obj (g : G) (p : Addr) : G := { g with α := g.α ++ [p], own := fun b => if b = p then some (g.α.length, 0) else g.own b }
theorem gext_obj (g : G) (p : Addr) : GExt g (g.obj p) := ⟨fun _ _ h => h, fun n a h => by
  show (g.α ++ [p])[n]? = some a
  rw [List.getElem?_append_left (by have := List.getElem?_eq_some_iff.mp h; obtain ⟨h1, _⟩ := this; exact h1)]
  exact h, fun _ _ h => h⟩
theorem getLast_app {α : Type} (l : List α) (a : α) : (l ++ [a])[l.length]? = some a := by simp
theorem World.push (w : World K g S H) {p : Addr} {o : HO} {u : AObj} (hp : H p = none) (hu : ObjAt K (g.obj p) (upd H p o) S.length u) : World K (g.obj p) (S ++ [u]) (upd H p o) := by
  refine ⟨fun a x h => ?_, ?_, fun n x h => ?_, fun b q hb => ?_, fun b x hb => ?_⟩
  · rw [upd_ne (ne_of_none h (w.fresh hp))]; exact w.sub a x h
  · show (g.α ++ [p]).length = _
    simp [w.len]
  · by_cases e : n < S.length
    · rw [List.getElem?_append_left e] at h
      refine (w.at_ n x h).mono (gext_obj g p) fun b j hb => ⟨?_, by rw [upd_ne (w.notown hp hb)]⟩
      show (if b = p then _ else _) = _
      rw [if_neg (w.notown hp hb)]; exact hb
    · have e2 : n = S.length := by
        have := (List.getElem?_eq_some_iff.mp h).1
        simp at this; omega
      subst e2
      rw [getLast_app] at h
      cases h
      exact hu
  · have hb' : (if b = p then some (g.α.length, 0) else g.own b) = some q := hb
    by_cases e : b = p
    · subst e
      exact ⟨w.fresh hp, by rw [upd_same]; rfl⟩
    · rw [if_neg e] at hb'
      rw [upd_ne e]
      exact w.free b q hb'
  · obtain ⟨h1, h2, h3⟩ := w.pin b x hb
    have ne : b ≠ p := ne_of_none h1 hp
    refine ⟨by rw [upd_ne ne]; exact h1, h2, ?_⟩
    show (if b = p then _ else _) = _
    rw [if_neg ne]; exact h3
theorem World.pushList (w : World K g S H) {p : Addr} {l : List D} {xs : List V} (hp : H p = none) (r : RepsG K g l xs) : World K (g.obj p) (S ++ [.list l]) (upd H p (.lst xs)) ∧ RepG K (g.obj p) (.obj S.length) (.ref p) := by
  have e : (g.obj p).α[S.length]? = some p := by
    show (g.α ++ [p])[S.length]? = some p
    rw [← w.len]; exact getLast_app _ _
  refine ⟨w.push hp ⟨p, xs, e, ?_, upd_same, (gext_obj g p).reps r⟩, .obj e⟩
  show (if p = p then some (g.α.length, 0) else _) = _
  rw [if_pos rfl, w.len]
theorem World.pushDict (w : World K g S H) {p : Addr} {kvs : List (Key × D)} {ks : List (Key × V)} (hp : H p = none) (r : KReps K g kvs ks) : World K (g.obj p) (S ++ [.dict kvs]) (upd H p (.dK ks)) ∧ RepG K (g.obj p) (.obj S.length) (.ref p) := by
  have e : (g.obj p).α[S.length]? = some p := by
    show (g.α ++ [p])[S.length]? = some p
    rw [← w.len]; exact getLast_app _ _
  refine ⟨w.push hp ⟨p, ks, e, ?_, upd_same, r.mono (gext_obj g p).sub⟩, .obj e⟩
  show (if p = p then some (g.α.length, 0) else _) = _
  rw [if_pos rfl, w.len]
/-- the n-th thing is written at the place b of its own -/
theorem World.write (w : World K g S H) {n j : Nat} {b : Addr} {o : HO} {u : AObj} (hb : g.own b = some (n, j)) (hu : ObjAt K g (upd H b o) n u) : World K g (S.set n u) (upd H b o) := by
  refine ⟨fun a x h => ?_, by simp [w.len], fun m x h => ?_, fun c q hc => ?_, fun c x hc => ?_⟩
  · rw [upd_ne (ne_of_none h (w.free b _ hb).1)]; exact w.sub a x h
  · by_cases e : m = n
    · subst e
      have hl : m < S.length := by
        have := (List.getElem?_eq_some_iff.mp h).1
        simpa using this
      rw [List.getElem?_set_self hl] at h
      cases h
      exact hu
    · rw [List.getElem?_set_ne (Ne.symm e)] at h
      refine (w.at_ m x h).mono (GExt.refl g) fun c i hc => ⟨hc, ?_⟩
      rw [upd_ne]
      intro z; subst z
      rw [hb] at hc; cases hc; exact e rfl
  · refine ⟨(w.free c q hc).1, ?_⟩
    by_cases e : c = b
    · subst e; rw [upd_same]; rfl
    · rw [upd_ne e]; exact (w.free c q hc).2
  · obtain ⟨h1, h2, h3⟩ := w.pin c x hc
    refine ⟨?_, h2, h3⟩
    rw [upd_ne]; exact h1
    intro z; subst z; rw [hb] at h3; cases h3
/-- an object of the hand layer that is only held -/
def G.hold (g : G) (p : Addr) (o : HO) : G := { g with pin := fun b => if b = p then some o else g.pin b }
theorem World.hold (w : World K g S H) {p : Addr} {o : HO} (hp : H p = none) : World K (g.hold p o) S (upd H p o) ∧ GExt g (g.hold p o) := by
  have np : g.pin p = none := by
    cases e : g.pin p with
    | none => rfl
    | some x => have := (w.pin p x e).1; rw [hp] at this; cases this
  have no : g.own p = none := by
    cases e : g.own p with
    | none => rfl
    | some q => exact absurd rfl (w.notown hp e)
  have ex : GExt g (g.hold p o) := ⟨fun _ _ h => h, fun _ _ h => h, fun a x h => by
    show (if a = p then _ else _) = _
    rw [if_neg]; exact h
    intro z; subst z; rw [np] at h; cases h⟩
  refine ⟨⟨fun a x h => ?_, w.len, fun n x h => (w.at_ n x h).mono ex fun b j hb => ⟨hb, by rw [upd_ne (w.notown hp hb)]⟩, fun b q hb => ?_, fun b x hb => ?_⟩, ex⟩
  · rw [upd_ne (ne_of_none h (w.fresh hp))]; exact w.sub a x h
  · rw [upd_ne (w.notown hp hb)]; exact w.free b q hb
  · have hb' : (if b = p then some o else g.pin b) = some x := hb
    by_cases e : b = p
    · subst e
      rw [if_pos rfl] at hb'
      exact ⟨by rw [upd_same]; exact hb', w.fresh hp, no⟩
    · rw [if_neg e] at hb'
      obtain ⟨r1, r2, r3⟩ := w.pin b x hb'
      exact ⟨by rw [upd_ne e]; exact r1, r2, r3⟩
/-- what is held is written -/
theorem World.rehold (w : World K g S H) {p : Addr} {o u : HO} (hp : g.pin p = some o) (ho : ¬ LkO o) : World K (g.hold p u) S (upd H p u) := by
  obtain ⟨q1, q2, q3⟩ := w.pin p o hp
  have own_ne : ∀ {b q}, g.own b = some q → b ≠ p := fun {b q} h z => by subst z; rw [q3] at h; cases h
  refine ⟨fun a x h => ?_, w.len, fun n x h => ?_, fun b q hb => ?_, fun b x hb => ?_⟩
  · rw [upd_ne (ne_of_none h q2)]; exact w.sub a x h
  · exact (w.at_ n x h).monoS ⟨fun _ _ h => h, fun _ _ h => h⟩ (fun b j hb => ⟨hb, by rw [upd_ne (own_ne hb)]⟩) fun b o' h l => by
      show (if b = p then _ else _) = _
      rw [if_neg]; exact h
      intro z; subst z; rw [hp] at h; cases h; exact ho l
  · rw [upd_ne (own_ne hb)]; exact w.free b q hb
  · have hb' : (if b = p then some u else g.pin b) = some x := hb
    by_cases e : b = p
    · subst e
      rw [if_pos rfl] at hb'
      exact ⟨by rw [upd_same]; exact hb', q2, q3⟩
    · rw [if_neg e] at hb'
      obtain ⟨r1, r2, r3⟩ := w.pin b x hb'
      exact ⟨by rw [upd_ne e]; exact r1, r2, r3⟩
end
end Bt
namespace Bt
open PySem L2
/-! ### meanings -/
abbrev Env := List (Option D)
inductive Exc where
  | moment | run | thing | text
  deriving DecidableEq
inductive ER where
  | ok (d : D) (S : Sto) | exc (k : Exc) (S : Sto) | bad
def ER.bind (r : ER) (f : D → Sto → ER) : ER := match r with
  | .ok d S => f d S
  | .exc k S => .exc k S
  | .bad => .bad
@[simp] theorem ER.bind_ok (d : D) (S : Sto) (f : D → Sto → ER) : (ER.ok d S).bind f = f d S := rfl
@[simp] theorem ER.bind_exc (k : Exc) (S : Sto) (f : D → Sto → ER) : (ER.exc k S).bind f = .exc k S := rfl
@[simp] theorem ER.bind_bad (f : D → Sto → ER) : ER.bad.bind f = .bad := rfl
abbrev Ex := Env → Sto → ER
inductive SR where
  | nx (ρ : Env) (S : Sto) | rt (d : D) (S : Sto) | bk (ρ : Env) (S : Sto) | ct (ρ : Env) (S : Sto) | exc (k : Exc) (ρ : Env) (S : Sto) | bad
abbrev Sx := Env → Sto → SR
def lift1 (o : Option D) (S : Sto) : ER := match o with
  | some d => .ok d S
  | none => .bad
@[simp] theorem lift1_some (d : D) (S : Sto) : lift1 (some d) S = .ok d S := rfl
@[simp] theorem lift1_none (S : Sto) : lift1 none S = .bad := rfl
def excN : Exc → Str
  | .moment => "NoMoment" | .run => "NoRun" | .thing => "NoThing" | .text => "NoText"
def excV (K : PySem.W.Frag) (k : Exc) : Value := .ref (He.ga K (excN k))
/-- slots -/
structure RelSt (K : PySem.W.Frag) (g : G) (σ : L2.St) (ρ : Env) : Prop where
  len : ρ.length = σ.length
  at_ : ∀ (i : Nat) (d : D), ρ[i]? = some (some d) → ∃ v, σ[i]? = some (some v) ∧ RepG K g d v
section
variable {K : PySem.W.Frag} {g g' : G} {σ : L2.St} {ρ : Env}
theorem RelSt.mono (r : RelSt K g σ ρ) (e : GExt g g') : RelSt K g' σ ρ := ⟨r.len, fun i d h => by
  obtain ⟨v, h1, h2⟩ := r.at_ i d h
  exact ⟨v, h1, e.rep h2⟩⟩
theorem RelSt.set (r : RelSt K g σ ρ) {i : Nat} {d : D} {v : V} (h : RepG K g d v) : RelSt K g (σ.set i (some v)) (ρ.set i (some d)) := by
  refine ⟨by simp [r.len], fun j e hj => ?_⟩
  by_cases q : j = i
  · subst q
    have hl : j < ρ.length := by
      have := (List.getElem?_eq_some_iff.mp hj).1
      simpa using this
    rw [List.getElem?_set_self hl] at hj
    cases hj
    exact ⟨v, List.getElem?_set_self (r.len ▸ hl), h⟩
  · rw [List.getElem?_set_ne (Ne.symm q)] at hj
    rw [List.getElem?_set_ne (Ne.symm q)]
    exact r.at_ j e hj
theorem RelSt.weak {ρ' : Env} (r : RelSt K g σ ρ) (hl : ρ'.length = ρ.length) (h : ∀ (i : Nat) (d : D), ρ'[i]? = some (some d) → ρ[i]? = some (some d)) : RelSt K g σ ρ' := ⟨hl.trans r.len, fun i d e => r.at_ i d (h i d e)⟩
end
/-- what is wanted behind an expression -/
def Post (K : PySem.W.Frag) (W : WX) (σ : L2.St) (g : G) (Q : VK) : ER → Prop
  | .ok d S => ∀ v g' H', GExt g g' → World K g' S H' → RepG K g' d v → Q v H'
  | .exc k S => ∀ g' H', GExt g g' → World K g' S H' → W (excV K k) none σ H'
  | .bad => False
def PostT (K : PySem.W.Frag) (W : WX) (σ : L2.St) (g : G) (Q : Bool → Hp → Prop) : ER → Prop
  | .ok (.bl b) S => ∀ g' H', GExt g g' → World K g' S H' → Q b H'
  | .exc k S => ∀ g' H', GExt g g' → World K g' S H' → W (excV K k) none σ H'
  | _ => False
def PostA (K : PySem.W.Frag) (W : WX) (σ : L2.St) (g : G) (Q : List V → Hp → Prop) : ER → Prop
  | .ok (.tup ds) S => ∀ vs g' H', GExt g g' → World K g' S H' → RepsG K g' ds vs → Q vs H'
  | .exc k S => ∀ g' H', GExt g g' → World K g' S H' → W (excV K k) none σ H'
  | _ => False
def PostS (K : PySem.W.Frag) (W : WX) (g : G) (N : L2.Ends) : SR → Prop
  | .nx ρ S => ∀ σ' g' H', GExt g g' → World K g' S H' → RelSt K g' σ' ρ → N.nx σ' H'
  | .rt d S => ∀ v g' H', GExt g g' → World K g' S H' → RepG K g' d v → N.rt v H'
  | .bk ρ S => ∀ σ' g' H', GExt g g' → World K g' S H' → RelSt K g' σ' ρ → N.bk σ' H'
  | .ct ρ S => ∀ σ' g' H', GExt g g' → World K g' S H' → RelSt K g' σ' ρ → N.ct σ' H'
  | .exc k ρ S => ∀ σ' g' H', GExt g g' → World K g' S H' → RelSt K g' σ' ρ → W (excV K k) none σ' H'
  | .bad => False
def tE (K : PySem.W.Frag) (W : WX) (f : Ex) : TE := fun σ H Q => ∃ g S ρ, World K g S H ∧ RelSt K g σ ρ ∧ Post K W σ g Q (f ρ S)
def tT (K : PySem.W.Frag) (W : WX) (f : Ex) : TT := fun σ H Q => ∃ g S ρ, World K g S H ∧ RelSt K g σ ρ ∧ PostT K W σ g Q (f ρ S)
def tA (K : PySem.W.Frag) (W : WX) (f : Ex) : TA := fun σ H Q => ∃ g S ρ, World K g S H ∧ RelSt K g σ ρ ∧ PostA K W σ g Q (f ρ S)
def tS (K : PySem.W.Frag) (W : WX) (f : Sx) : TS := fun N σ H => ∃ g S ρ, World K g S H ∧ RelSt K g σ ρ ∧ PostS K W g N (f ρ S)
structure JE (X : Cx) (W : WX) (e : Expr) (f : Ex) : Prop where
  run : PE X e (tE X.K W f)
structure JT (X : Cx) (W : WX) (e : Expr) (f : Ex) : Prop where
  run : PT X e (tT X.K W f)
structure JW (X : Cx) (W : WX) (e : Expr) (f : Ex) : Prop where
  run : PW X e (tT X.K W f)
structure JA (X : Cx) (W : WX) (es : List Expr) (f : Ex) : Prop where
  run : PA X es (tA X.K W f)
structure JS (X : Cx) (W : WX) (st : Stmt) (f : Sx) : Prop where
  run : PS X st (tS X.K W f)
structure JSs (X : Cx) (W : WX) (sts : List Stmt) (f : Sx) : Prop where
  run : PSs X sts (tS X.K W f)
theorem peImp {X : Cx} {e : Expr} {t t' : TE} (h : PE X e t) (i : ∀ σ H Q, t' σ H Q → t σ H Q) : PE X e t' := ⟨fun pins s σ H Q I q => h.run pins s σ H Q I (i σ H Q q)⟩
theorem ptImp {X : Cx} {e : Expr} {t t' : TT} (h : PT X e t) (i : ∀ σ H Q, t' σ H Q → t σ H Q) : PT X e t' := ⟨fun pins s σ H Q I q => h.run pins s σ H Q I (i σ H Q q)⟩
theorem pwImp {X : Cx} {e : Expr} {t t' : TT} (h : PW X e t) (i : ∀ σ H Q, t' σ H Q → t σ H Q) : PW X e t' := ⟨fun w pins s σ H Q I q => h.run w pins s σ H Q I (i σ H Q q)⟩
theorem paImp {X : Cx} {e : List Expr} {t t' : TA} (h : PA X e t) (i : ∀ σ H Q, t' σ H Q → t σ H Q) : PA X e t' := ⟨fun w pins s σ H Q I q => h.run w pins s σ H Q I (i σ H Q q)⟩
theorem psImp {X : Cx} {e : Stmt} {t t' : TS} (h : PS X e t) (i : ∀ N σ H, t' N σ H → t N σ H) : PS X e t' := ⟨fun pins s σ H N I q => h.run pins s σ H N I (i N σ H q)⟩
theorem pssImp {X : Cx} {e : List Stmt} {t t' : TS} (h : PSs X e t) (i : ∀ N σ H, t' N σ H → t N σ H) : PSs X e t' := ⟨fun pins s σ H N I q => h.run pins s σ H N I (i N σ H q)⟩
section
variable {K : PySem.W.Frag} {W : WX} {σ : L2.St} {g g' : G} {Q Q' : VK} {r : ER}
theorem Post.ext (h : Post K W σ g Q r) (e : GExt g g') : Post K W σ g' Q r := by
  cases r with
  | ok d S => exact fun v g2 H x y z => h v g2 H (e.trans x) y z
  | exc k S => exact fun g2 H x y => h g2 H (e.trans x) y
  | bad => exact h
theorem PostT.ext {Q : Bool → Hp → Prop} (h : PostT K W σ g Q r) (e : GExt g g') : PostT K W σ g' Q r := by
  cases r with
  | ok d S =>
    cases d with
    | bl b => exact fun g2 H x y => h g2 H (e.trans x) y
    | _ => exact h
  | exc k S => exact fun g2 H x y => h g2 H (e.trans x) y
  | bad => exact h
theorem PostA.ext {Q : List V → Hp → Prop} (h : PostA K W σ g Q r) (e : GExt g g') : PostA K W σ g' Q r := by
  cases r with
  | ok d S =>
    cases d with
    | tup b => exact fun v g2 H x y z => h v g2 H (e.trans x) y z
    | _ => exact h
  | exc k S => exact fun g2 H x y => h g2 H (e.trans x) y
  | bad => exact h
theorem PostS.ext {N : L2.Ends} {r : SR} (h : PostS K W g N r) (e : GExt g g') : PostS K W g' N r := by
  cases r with
  | nx ρ S => exact fun v g2 H x y z => h v g2 H (e.trans x) y z
  | rt ρ S => exact fun v g2 H x y z => h v g2 H (e.trans x) y z
  | bk ρ S => exact fun v g2 H x y z => h v g2 H (e.trans x) y z
  | ct ρ S => exact fun v g2 H x y z => h v g2 H (e.trans x) y z
  | exc k ρ S => exact fun v g2 H x y z => h v g2 H (e.trans x) y z
  | bad => exact h
theorem Post.of_bind {k : D → Sto → ER} (h : Post K W σ g Q (r.bind k)) (hQ : ∀ d S v g1 H1, r = .ok d S → GExt g g1 → World K g1 S H1 → RepG K g1 d v → Post K W σ g1 Q (k d S) → Q' v H1) : Post K W σ g Q' r := by
  cases r with
  | ok d S => exact fun v g1 H1 x y z => hQ d S v g1 H1 rfl x y z (Post.ext h x)
  | exc k S => exact h
  | bad => exact h
theorem PostT.of_bind {k : D → Sto → ER} {QT : Bool → Hp → Prop} (h : PostT K W σ g QT (r.bind k)) (hQ : ∀ d S v g1 H1, r = .ok d S → GExt g g1 → World K g1 S H1 → RepG K g1 d v → PostT K W σ g1 QT (k d S) → Q' v H1) : Post K W σ g Q' r := by
  cases r with
  | ok d S => exact fun v g1 H1 x y z => hQ d S v g1 H1 rfl x y z (PostT.ext h x)
  | exc k S => exact h
  | bad => exact h
theorem PostA.of_bind {k : D → Sto → ER} {QT : List V → Hp → Prop} (h : PostA K W σ g QT (r.bind k)) (hQ : ∀ d S v g1 H1, r = .ok d S → GExt g g1 → World K g1 S H1 → RepG K g1 d v → PostA K W σ g1 QT (k d S) → Q' v H1) : Post K W σ g Q' r := by
  cases r with
  | ok d S => exact fun v g1 H1 x y z => hQ d S v g1 H1 rfl x y z (PostA.ext h x)
  | exc k S => exact h
  | bad => exact h
/-- .. the first part a test -/
theorem Post.of_test {k : D → Sto → ER} {QT : Bool → Hp → Prop} (h : Post K W σ g Q (r.bind fun d S => match d with | .bl b => k (.bl b) S | _ => .bad)) (hQ : ∀ b S g1 H1, r = .ok (.bl b) S → GExt g g1 → World K g1 S H1 → Post K W σ g1 Q (k (.bl b) S) → QT b H1) : PostT K W σ g QT r := by
  cases r with
  | ok d S =>
    cases d with
    | bl b => exact fun g1 H1 x y => hQ b S g1 H1 rfl x y (Post.ext h x)
    | _ => exact h
  | exc k S => exact h
  | bad => exact h
theorem PostT.of_test {k : D → Sto → ER} {QT QT' : Bool → Hp → Prop} (h : PostT K W σ g QT' (r.bind fun d S => match d with | .bl b => k (.bl b) S | _ => .bad)) (hQ : ∀ b S g1 H1, r = .ok (.bl b) S → GExt g g1 → World K g1 S H1 → PostT K W σ g1 QT' (k (.bl b) S) → QT b H1) : PostT K W σ g QT r := by
  cases r with
  | ok d S =>
    cases d with
    | bl b => exact fun g1 H1 x y => hQ b S g1 H1 rfl x y (PostT.ext h x)
    | _ => exact h
  | exc k S => exact h
  | bad => exact h
/-- .. an argument list -/
theorem Post.of_args {k : List D → Sto → ER} {QT : List V → Hp → Prop} (h : Post K W σ g Q (r.bind fun d S => match d with | .tup l => k l S | _ => .bad)) (hQ : ∀ l S vs g1 H1, r = .ok (.tup l) S → GExt g g1 → World K g1 S H1 → RepsG K g1 l vs → Post K W σ g1 Q (k l S) → QT vs H1) : PostA K W σ g QT r := by
  cases r with
  | ok d S =>
    cases d with
    | tup b => exact fun v g1 H1 x y z => hQ b S v g1 H1 rfl x y z (Post.ext h x)
    | _ => exact h
  | exc k S => exact h
  | bad => exact h
theorem PostA.of_args {k : List D → Sto → ER} {QT QT' : List V → Hp → Prop} (h : PostA K W σ g QT' (r.bind fun d S => match d with | .tup l => k l S | _ => .bad)) (hQ : ∀ l S vs g1 H1, r = .ok (.tup l) S → GExt g g1 → World K g1 S H1 → RepsG K g1 l vs → PostA K W σ g1 QT' (k l S) → QT vs H1) : PostA K W σ g QT r := by
  cases r with
  | ok d S =>
    cases d with
    | tup b => exact fun v g1 H1 x y z => hQ b S v g1 H1 rfl x y z (PostA.ext h x)
    | _ => exact h
  | exc k S => exact h
  | bad => exact h
/-- a value is there -/
theorem Post.val {d : D} {S : Sto} {v : V} {H : Hp} (h : Post K W σ g Q (.ok d S)) (w : World K g S H) (r : RepG K g d v) : Q v H := h v g H (GExt.refl g) w r
theorem Post.valE {d : D} {S : Sto} {v : V} {H : Hp} (h : Post K W σ g Q (.ok d S)) (e : GExt g g') (w : World K g' S H) (r : RepG K g' d v) : Q v H := h v g' H e w r
theorem Post.lift {o : Option D} {S : Sto} (h : Post K W σ g Q (lift1 o S)) : ∃ d, o = some d ∧ Post K W σ g Q (.ok d S) := by
  cases o with
  | none => exact h.elim
  | some d => exact ⟨d, rfl, h⟩
end
/-! ### names, constants -/
def eVar (i : Nat) : Ex := fun ρ S => match ρ[i]? with
  | some (some d) => .ok d S
  | _ => .bad
def eC (d : D) : Ex := fun _ S => .ok d S
section
variable {X : Cx} {W : WX} {pos : Pos} {a b c : Expr} {fa fb fc : Ex}
theorem je_var (i : Nat) {x : Str} (hN : X.N[i]? = some x := by rfl) (hv : Vis X.env.scope x := by first | exact Or.inl rfl | exact Or.inr (Or.inl rfl) | exact Or.inr (Or.inr rfl)) (hd : (x == ("__debug__" : Str)) = false := by decide)
    (hcd : (x == ("__classdict__" : Str)) = false := by decide) : JE X W (.Name x pos) (eVar i) := ⟨peImp (pe_var hN hv hd hcd) fun σ H Q ⟨g, S, ρ, w, r, h⟩ => by
  unfold eVar at h
  cases e : ρ[i]? with
  | none => rw [e] at h; exact h.elim
  | some o =>
    cases o with
    | none => rw [e] at h; exact h.elim
    | some d =>
      rw [e] at h
      obtain ⟨v, h1, h2⟩ := r.at_ i d e
      exact ⟨v, h1, h.val w h2⟩⟩
theorem tC_of {K : PySem.W.Frag} {d : D} {v : V} (hr : ∀ g, RepG K g d v) : ∀ σ H Q, tE K W (eC d) σ H Q → tC v σ H Q := fun σ H Q ⟨g, S, ρ, w, r, h⟩ => h.val w (hr g)
theorem je_int {i : Int} {j : Nat} : JE X W (.Constant (.int i) j pos) (eC (.int i)) := ⟨peImp pe_int (tC_of fun _ => .int i)⟩
theorem je_bl {i : Bool} {j : Nat} : JE X W (.Constant (.bool i) j pos) (eC (.bl i)) := ⟨peImp pe_bl (tC_of fun _ => .bl i)⟩
theorem je_non {j : Nat} : JE X W (.Constant .none j pos) (eC .non) := ⟨peImp pe_non (tC_of fun _ => .non)⟩
theorem je_str {x : Str} {j : Nat} : JE X W (.Constant (.str x) j pos) (eC (.str x)) := ⟨peImp pe_str (tC_of fun _ => .str x)⟩
/-- what a name of the module says -/
structure GlobC (K : PySem.W.Frag) (mg : Str → Option Value) (x : Str) (d : D) : Prop where
  ex : ∃ u v, mg x = some u ∧ RelV v u ∧ ∀ g, RepG K g d v
theorem je_glob {x : Str} {d : D} (c : GlobC X.K X.mg x d) (hg : Gl X x := by rfl) (hd : (x == ("__debug__" : Str)) = false := by decide) : JE X W (.Name x pos) (eC d) := by
  obtain ⟨u, v, h1, h2, h3⟩ := c.ex
  exact ⟨peImp (pe_glob hg h1 h2 hd) (tC_of h3)⟩
/-! ### operators by values -/
/-- the rule r does F -/
def L2r (K : PySem.W.Frag) (r : R2) (F : Sto → D → D → Option D) : Prop :=
  ∀ (g : G) (S : Sto) (H : Hp) (x y : V) (dx dy d : D) (Q : VK), World K g S H → RepG K g dx x → RepG K g dy y → F S dx dy = some d →
    (∀ v g' H', GExt g g' → World K g' S H' → RepG K g' d v → Q v H') → r x y H Q
def L1r (K : PySem.W.Frag) (r : V → Hp → VK → Prop) (F : Sto → D → Option D) : Prop :=
  ∀ (g : G) (S : Sto) (H : Hp) (x : V) (dx d : D) (Q : VK), World K g S H → RepG K g dx x → F S dx = some d →
    (∀ v g' H', GExt g g' → World K g' S H' → RepG K g' d v → Q v H') → r x H Q
def LAr (K : PySem.W.Frag) (r : List V → Hp → VK → Prop) (F : Sto → List D → Option D) : Prop :=
  ∀ (g : G) (S : Sto) (H : Hp) (xs : List V) (dx : List D) (d : D) (Q : VK), World K g S H → RepsG K g dx xs → F S dx = some d →
    (∀ v g' H', GExt g g' → World K g' S H' → RepG K g' d v → Q v H') → r xs H Q
def eOp (F : Sto → D → D → Option D) (fa fb : Ex) : Ex := fun ρ S => (fa ρ S).bind fun x S1 => (fb ρ S1).bind fun y S2 => lift1 (F S2 x y) S2
def eUn (F : Sto → D → Option D) (fa : Ex) : Ex := fun ρ S => (fa ρ S).bind fun x S1 => lift1 (F S1 x) S1
theorem tOp_of {K : PySem.W.Frag} {r : R2} {F : Sto → D → D → Option D} (l : L2r K r F) : ∀ σ H Q, tE K W (eOp F fa fb) σ H Q → tOp r (tE K W fa) (tE K W fb) σ H Q := fun σ H Q ⟨g, S, ρ, w, rs, h⟩ => by
  refine ⟨g, S, ρ, w, rs, h.of_bind fun dx S1 x g1 H1 _ e1 w1 r1 h1 => ?_⟩
  refine ⟨g1, S1, ρ, w1, rs.mono e1, h1.of_bind fun dy S2 y g2 H2 _ e2 w2 r2 h2 => ?_⟩
  obtain ⟨d, hd, h3⟩ := h2.lift
  exact l g2 S2 H2 x y dx dy d Q w2 (e2.rep r1) r2 hd fun v g' H' e w r => h3 v g' H' e w r
theorem je_op {op : Operator} {r : R2} {F : Sto → D → D → Option D} (ho : OpR X (binaryOp op) r) (l : L2r X.K r F) (ha : JE X W a fa) (hb : JE X W b fb) : JE X W (.BinOp a op b pos) (eOp F fa fb) :=
  ⟨peImp (pe_op ho ha.run hb.run) (tOp_of l)⟩
theorem je_cmp {op : CmpOp} {r : R2} {F : Sto → D → D → Option D} (ho : OpR X (compareOp op) r) (l : L2r X.K r F) (ha : JE X W a fa) (hb : JE X W b fb) (hm : behindInMarks op b = false := by rfl) : JE X W (.Compare a [op] [b] pos) (eOp F fa fb) :=
  ⟨peImp (pe_cmpR ho ha.run hb.run hm) (tOp_of l)⟩
theorem je_un {op : UnaryOp} {r : V → Hp → VK → Prop} {F : Sto → D → Option D} (ho : UnR X (unaryOp op) r) (l : L1r X.K r F) (ha : JE X W a fa) : JE X W (.UnaryOp op a pos) (eUn F fa) :=
  ⟨peImp (pe_un ho ha.run) fun σ H Q ⟨g, S, ρ, w, rs, h⟩ => ⟨g, S, ρ, w, rs, h.of_bind fun dx S1 x g1 H1 _ e1 w1 r1 h1 => by
    obtain ⟨d, hd, h3⟩ := h1.lift
    exact l g1 S1 H1 x dx d Q w1 r1 hd fun v g' H' e w r => h3 v g' H' e w r⟩⟩
theorem je_ix {r : R2} {F : Sto → D → D → Option D} (ho : IxR X r) (l : L2r X.K r F) (ha : JE X W a fa) (hb : JE X W b fb) (hs : PlainIx b := by exact fun _ _ => rfl) : JE X W (.Subscript a b pos) (eOp F fa fb) :=
  ⟨peImp (pe_ix ho ha.run hb.run hs) (tOp_of l)⟩
/-- joining of rules -/
theorem L2r.or {K : PySem.W.Frag} {r r' : R2} {F F' : Sto → D → D → Option D} (h : L2r K r F) (h' : L2r K r' F') : L2r K (fun x y H Q => r x y H Q ∨ r' x y H Q) (fun S x y => match F S x y with | some d => some d | none => F' S x y) := by
  intro g S H x y dx dy d Q w rx ry e k
  have e' : (match F S dx dy with | some d => some d | none => F' S dx dy) = some d := e
  cases q : F S dx dy with
  | some z => rw [q] at e'; cases e'; exact .inl (h g S H x y dx dy d Q w rx ry q k)
  | none => rw [q] at e'; exact .inr (h' g S H x y dx dy d Q w rx ry e' k)
/-! ### tests -/
theorem jt_val (h : JE X W a fa) (he : ∀ whole, isTrue a X.env whole = (do let v ← whole; standAt a.pos; holding [v] (truthy v)) := by intro _; rfl) : JT X W a fa :=
  ⟨ptImp (pt_val h.run he) fun σ H Q ⟨g, S, ρ, w, rs, h⟩ => ⟨g, S, ρ, w, rs, by
    cases q : fa ρ S with
    | bad => rw [q] at h; exact h
    | exc k S' => rw [q] at h; exact h
    | ok d S' =>
      rw [q] at h
      cases d with
      | bl b =>
        intro v g' H' e w r
        cases r
        exact ⟨b, rfl, h g' H' e w⟩
      | _ => exact h.elim⟩⟩
theorem jt_cmp {op : CmpOp} {r : R2} {F : Sto → D → D → Option D} (ho : OpR X (compareOp op) r) (l : L2r X.K r F) (ha : JE X W a fa) (hb : JE X W b fb) (hm : behindInMarks op b = false := by rfl) : JT X W (.Compare a [op] [b] pos) (eOp F fa fb) :=
  ⟨ptImp (pt_cmpR ho ha.run hb.run hm) fun σ H Q ⟨g, S, ρ, w, rs, h⟩ => tOp_of l σ H _ ⟨g, S, ρ, w, rs, by
    cases q : eOp F fa fb ρ S with
    | bad => rw [q] at h; exact h
    | exc k S' => rw [q] at h; exact h
    | ok d S' =>
      rw [q] at h
      cases d with
      | bl b =>
        intro v g' H' e w r
        cases r
        exact ⟨b, rfl, h g' H' e w⟩
      | _ => exact h.elim⟩⟩
/-- and, or, not: of truths -/
def eAnd (fa fb : Ex) : Ex := fun ρ S => (fa ρ S).bind fun x S1 => match x with
  | .bl b => (match b with | true => fb ρ S1 | false => .ok (.bl false) S1)
  | _ => .bad
def eOr (fa fb : Ex) : Ex := fun ρ S => (fa ρ S).bind fun x S1 => match x with
  | .bl b => (match b with | true => .ok (.bl true) S1 | false => fb ρ S1)
  | _ => .bad
def eNot (fa : Ex) : Ex := fun ρ S => (fa ρ S).bind fun x S1 => match x with
  | .bl b => .ok (.bl !b) S1
  | _ => .bad
def eIf (fc fa fb : Ex) : Ex := fun ρ S => (fc ρ S).bind fun x S1 => match x with
  | .bl b => (match b with | true => fa ρ S1 | false => fb ρ S1)
  | _ => .bad
variable {rest : List Expr}
theorem jw_and1 (h : JT X W a fa) : JW X W (.BoolOp .And [a] pos) fa := ⟨pw_and1 h.run⟩
theorem jw_or1 (h : JT X W a fa) : JW X W (.BoolOp .Or [a] pos) fa := ⟨pw_or1 h.run⟩
theorem jw_and (ha : JT X W a fa) (hb : JW X W (.BoolOp .And (b :: rest) pos) fb) : JW X W (.BoolOp .And (a :: b :: rest) pos) (eAnd fa fb) :=
  ⟨pwImp (pw_and ha.run hb.run) fun σ H Q ⟨g, S, ρ, w, rs, h⟩ => ⟨g, S, ρ, w, rs, PostT.of_test (k := fun d S1 => match d with | .bl b => (match b with | true => fb ρ S1 | false => .ok (.bl false) S1) | _ => .bad) h fun b S1 g1 H1 _ e1 w1 h1 => by
    cases b with
    | true => rw [if_pos rfl]; exact ⟨g1, S1, ρ, w1, rs.mono e1, h1⟩
    | false => rw [if_neg Bool.false_ne_true]; exact h1 g1 H1 (GExt.refl _) w1⟩⟩
theorem jw_or (ha : JT X W a fa) (hb : JW X W (.BoolOp .Or (b :: rest) pos) fb) : JW X W (.BoolOp .Or (a :: b :: rest) pos) (eOr fa fb) :=
  ⟨pwImp (pw_or ha.run hb.run) fun σ H Q ⟨g, S, ρ, w, rs, h⟩ => ⟨g, S, ρ, w, rs, PostT.of_test (k := fun d S1 => match d with | .bl b => (match b with | true => .ok (.bl true) S1 | false => fb ρ S1) | _ => .bad) h fun b S1 g1 H1 _ e1 w1 h1 => by
    cases b with
    | true => rw [if_pos rfl]; exact h1 g1 H1 (GExt.refl _) w1
    | false => rw [if_neg Bool.false_ne_true]; exact ⟨g1, S1, ρ, w1, rs.mono e1, h1⟩⟩⟩
theorem JW.jt (h : JW X W a fa) : JT X W a fa := ⟨h.run.pt⟩
theorem jt_not (ha : JT X W a fa) : JT X W (.UnaryOp .Not a pos) (eNot fa) :=
  ⟨ptImp (pt_not ha.run) fun σ H Q ⟨g, S, ρ, w, rs, h⟩ => ⟨g, S, ρ, w, rs, PostT.of_test (k := fun d S1 => match d with | .bl b => .ok (.bl !b) S1 | _ => .bad) h fun b S1 g1 H1 _ e1 w1 h1 => h1 g1 H1 (GExt.refl _) w1⟩⟩
theorem je_one {op : BoolOp} (h : JE X W a fa) : JE X W (.BoolOp op [a] pos) fa := ⟨pe_one h.run⟩
theorem blOf {K : PySem.W.Frag} {g : G} {σ : L2.St} {Q Q' : VK} {r : ER} {k : D → Sto → ER} (h : Post K W σ g Q (r.bind fun d S => match d with | .bl b => k (.bl b) S | _ => .bad)) (hQ : ∀ b S g1 H1, r = .ok (.bl b) S → GExt g g1 → World K g1 S H1 → Post K W σ g1 Q (k (.bl b) S) → Q' (.bl b) H1) : Post K W σ g Q' r := by
  cases r with
  | ok d S =>
    cases d with
    | bl b =>
      intro v g1 H1 x y z
      cases z
      exact hQ b S g1 H1 rfl x y (Post.ext h x)
    | _ => exact h.elim
  | exc k S => exact h
  | bad => exact h
theorem je_and (ha : JE X W a fa) (hb : JE X W (.BoolOp .And (b :: rest) pos) fb) : JE X W (.BoolOp .And (a :: b :: rest) pos) (eAnd fa fb) :=
  ⟨peImp (pe_and ha.run hb.run) fun σ H Q ⟨g, S, ρ, w, rs, h⟩ => ⟨g, S, ρ, w, rs, blOf (k := fun d S1 => match d with | .bl b => (match b with | true => fb ρ S1 | false => .ok (.bl false) S1) | _ => .bad) h fun b S1 g1 H1 _ e1 w1 h1 => by
    refine ⟨b, rfl, ?_⟩
    cases b with
    | true => rw [if_pos rfl]; exact ⟨g1, S1, ρ, w1, rs.mono e1, h1⟩
    | false => rw [if_neg Bool.false_ne_true]; exact h1.val w1 (.bl false)⟩⟩
theorem je_not (ha : JE X W a fa) : JE X W (.UnaryOp .Not a pos) (eNot fa) :=
  ⟨peImp (pe_not ha.run) fun σ H Q ⟨g, S, ρ, w, rs, h⟩ => ⟨g, S, ρ, w, rs, blOf (k := fun d S1 => match d with | .bl b => .ok (.bl !b) S1 | _ => .bad) h fun b S1 g1 H1 _ e1 w1 h1 => ⟨b, rfl, h1.val w1 (.bl _)⟩⟩⟩
theorem je_if (hc : JT X W c fc) (ha : JE X W a fa) (hb : JE X W b fb) : JE X W (.IfExp c a b pos) (eIf fc fa fb) :=
  ⟨peImp (pe_ifExp hc.run ha.run hb.run) fun σ H Q ⟨g, S, ρ, w, rs, h⟩ => ⟨g, S, ρ, w, rs, Post.of_test (k := fun d S1 => match d with | .bl b => (match b with | true => fa ρ S1 | false => fb ρ S1) | _ => .bad) h fun b S1 g1 H1 _ e1 w1 h1 => by
    cases b with
    | true => rw [if_pos rfl]; exact ⟨g1, S1, ρ, w1, rs.mono e1, h1⟩
    | false => rw [if_neg Bool.false_ne_true]; exact ⟨g1, S1, ρ, w1, rs.mono e1, h1⟩⟩⟩
/-- a < b < c -/
def eChain (F F' : Sto → D → D → Option D) (fa fb fc : Ex) : Ex := fun ρ S => (fa ρ S).bind fun x S1 => (fb ρ S1).bind fun y S2 => (lift1 (F S2 x y) S2).bind fun z S3 => match z with
  | .bl b => (match b with | true => (fc ρ S3).bind fun u S4 => lift1 (F' S4 y u) S4 | false => .ok (.bl false) S3)
  | _ => .bad
theorem je_chain {op op' : CmpOp} {r r' : R2} {F F' : Sto → D → D → Option D} (ho : OpR X (compareOp op) r) (ho' : OpR X (compareOp op') r') (l : L2r X.K r F) (l' : L2r X.K r' F') (ha : JE X W a fa) (hb : JE X W b fb) (hc : JE X W c fc) (hm : lastMarks [op, op'] [b, c] = false := by rfl) : JE X W (.Compare a [op, op'] [b, c] pos) (eChain F F' fa fb fc) :=
  ⟨peImp (pe_chain ho ho' ha.run hb.run hc.run hm) fun σ H Q ⟨g, S, ρ, w, rs, h⟩ => by
    refine ⟨g, S, ρ, w, rs, h.of_bind fun dx S1 x g1 H1 _ e1 w1 r1 h1 => ?_⟩
    refine ⟨g1, S1, ρ, w1, rs.mono e1, h1.of_bind fun dy S2 y g2 H2 _ e2 w2 r2 h2 => ?_⟩
    cases q : F S2 dx dy with
    | none => rw [q] at h2; exact h2.elim
    | some d =>
      rw [q] at h2
      refine l g2 S2 H2 x y dx dy d _ w2 (e2.rep r1) r2 q fun v g3 H3 e3 w3 r3 => ?_
      cases d with
      | bl k =>
        cases r3
        refine ⟨k, rfl, ?_⟩
        have h3 := Post.ext h2 e3
        cases k with
        | true =>
          rw [if_pos rfl]
          refine ⟨g3, S2, ρ, w3, rs.mono (e1.trans (e2.trans e3)), Post.of_bind h3 fun du S4 u g4 H4 _ e4 w4 r4 h4 => ?_⟩
          obtain ⟨d, hd, h5⟩ := h4.lift
          exact l' g4 S4 H4 y u dy du d Q w4 ((e3.trans e4).rep r2) r4 hd fun v g' H' e w r => h5 v g' H' e w r
        | false =>
          rw [if_neg Bool.false_ne_true]
          exact Post.val (d := .bl false) (S := S2) h3 w3 (.bl false)
      | _ => exact h2.elim⟩
theorem jt_chain {op op' : CmpOp} {r r' : R2} {F F' : Sto → D → D → Option D} (ho : OpR X (compareOp op) r) (ho' : OpR X (compareOp op') r') (l : L2r X.K r F) (l' : L2r X.K r' F') (ha : JE X W a fa) (hb : JE X W b fb) (hc : JE X W c fc) (hm : lastMarks [op, op'] [b, c] = false := by rfl) : JT X W (.Compare a [op, op'] [b, c] pos) (eChain F F' fa fb fc) :=
  ⟨ptImp (pt_chain ho ho' ha.run hb.run hc.run hm) fun σ H Q ⟨g, S, ρ, w, rs, h⟩ => by
    refine ⟨g, S, ρ, w, rs, PostT.of_bind h fun dx S1 x g1 H1 _ e1 w1 r1 h1 => ?_⟩
    refine ⟨g1, S1, ρ, w1, rs.mono e1, PostT.of_bind h1 fun dy S2 y g2 H2 _ e2 w2 r2 h2 => ?_⟩
    cases q : F S2 dx dy with
    | none => rw [q] at h2; exact h2.elim
    | some d =>
      rw [q] at h2
      refine l g2 S2 H2 x y dx dy d _ w2 (e2.rep r1) r2 q fun v g3 H3 e3 w3 r3 => ?_
      cases d with
      | bl k =>
        cases r3
        refine ⟨k, rfl, ?_⟩
        have h3 := PostT.ext h2 e3
        cases k with
        | true =>
          rw [if_pos rfl]
          refine ⟨g3, S2, ρ, w3, rs.mono (e1.trans (e2.trans e3)), PostT.of_bind h3 fun du S4 u g4 H4 _ e4 w4 r4 h4 => ?_⟩
          cases q2 : F' S4 dy du with
          | none => rw [q2] at h4; exact h4.elim
          | some d5 =>
            rw [q2] at h4
            refine l' g4 S4 H4 y u dy du d5 _ w4 ((e3.trans e4).rep r2) r4 q2 fun v g' H' e w r => ?_
            cases d5 with
            | bl b5 => cases r; exact ⟨b5, rfl, h4 g' H' e w⟩
            | _ => exact h4.elim
        | false =>
          rw [if_neg Bool.false_ne_true]
          exact ⟨false, rfl, h3 g3 H3 (GExt.refl _) w3⟩
      | _ => exact h2.elim⟩
/-! ### arguments, displays -/
def eNil : Ex := fun _ S => .ok (.tup []) S
def eCons (fa fr : Ex) : Ex := fun ρ S => (fa ρ S).bind fun x S1 => (fr ρ S1).bind fun t S2 => match t with
  | .tup l => .ok (.tup (x :: l)) S2
  | _ => .bad
theorem ja_nil : JA X W [] eNil := ⟨paImp pa_nil fun σ H Q ⟨g, S, ρ, w, rs, h⟩ => h [] g H (GExt.refl g) w .nil⟩
theorem ja_cons {es : List Expr} {fr : Ex} (ha : JE X W a fa) (hr : JA X W es fr) (hs : starEach (a :: es) X.env = (false, eval a X.env) :: starEach es X.env := by rfl) : JA X W (a :: es) (eCons fa fr) :=
  ⟨paImp (pa_cons ha.run hr.run hs) fun σ H Q ⟨g, S, ρ, w, rs, h⟩ => by
    refine ⟨g, S, ρ, w, rs, PostA.of_bind h fun dx S1 x g1 H1 _ e1 w1 r1 h1 => ?_⟩
    exact ⟨g1, S1, ρ, w1, rs.mono e1, PostA.of_args (k := fun l S2 => .ok (.tup (dx :: l)) S2) h1 fun l S2 vs g2 H2 _ e2 w2 r2 h2 => h2 (x :: vs) g2 H2 (GExt.refl _) w2 (.cons (e2.rep r1) r2)⟩⟩
/-- the greatest length -/
def lim : Nat := 1000000
theorem lim_le {n : Nat} (h : n ≤ lim) : n ≤ sizeLine := Nat.le_trans h (by decide)
def eTup (f : Ex) : Ex := fun ρ S => (f ρ S).bind fun t S1 => match t with
  | .tup l => (if l.length ≤ lim then .ok (.tup l) S1 else .bad)
  | _ => .bad
/-- a list that is never changed -/
def eLst (f : Ex) : Ex := fun ρ S => (f ρ S).bind fun t S1 => match t with
  | .tup l => (if l.length ≤ lim then .ok (.lst l) S1 else .bad)
  | _ => .bad
theorem je_tup {es : List Expr} {x1 : Nat} {f : Ex} (h : JA X W es f) : JE X W (.Tuple es x1 pos) (eTup f) :=
  ⟨peImp (pe_tup h.run) fun σ H Q ⟨g, S, ρ, w, rs, h⟩ => ⟨g, S, ρ, w, rs, Post.of_args (k := fun l S1 => if l.length ≤ lim then .ok (.tup l) S1 else .bad) h fun l S1 vs g1 H1 _ e1 w1 r1 h1 => by
    by_cases q : l.length ≤ lim
    · rw [if_pos q] at h1
      refine ⟨by rw [← r1.length]; exact lim_le q, fun p hp => ?_⟩
      obtain ⟨w2, e2⟩ := w1.add (o := .tup vs) hp
      exact h1.valE e2 w2 (.tup (SqT.of upd_same) (e2.reps r1))
    · rw [if_neg q] at h1; exact h1.elim⟩⟩
theorem je_lst {es : List Expr} {f : Ex} (h : JA X W es f) : JE X W (.List es pos) (eLst f) :=
  ⟨peImp (pe_lst h.run) fun σ H Q ⟨g, S, ρ, w, rs, h⟩ => ⟨g, S, ρ, w, rs, Post.of_args (k := fun l S1 => if l.length ≤ lim then .ok (.lst l) S1 else .bad) h fun l S1 vs g1 H1 _ e1 w1 r1 h1 => by
    by_cases q : l.length ≤ lim
    · rw [if_pos q] at h1
      refine ⟨by rw [← r1.length]; exact lim_le q, fun p hp => ?_⟩
      obtain ⟨w2, e2⟩ := w1.add (o := .lst vs) hp
      exact h1.valE e2 w2 (.lst upd_same (e2.reps r1))
    · rw [if_neg q] at h1; exact h1.elim⟩⟩
end
end Bt
namespace Bt
open PySem L2
/-! ### statements -/
def ER.toS (r : ER) (ρ : Env) (f : D → Sto → SR) : SR := match r with
  | .ok d S => f d S
  | .exc k S => .exc k ρ S
  | .bad => .bad
@[simp] theorem ER.toS_ok (d : D) (S : Sto) (ρ : Env) (f : D → Sto → SR) : (ER.ok d S).toS ρ f = f d S := rfl
@[simp] theorem ER.toS_exc (k : Exc) (S : Sto) (ρ : Env) (f : D → Sto → SR) : (ER.exc k S).toS ρ f = .exc k ρ S := rfl
@[simp] theorem ER.toS_bad (ρ : Env) (f : D → Sto → SR) : ER.bad.toS ρ f = .bad := rfl
section
variable {K : PySem.W.Frag} {W : WX} {σ : L2.St} {ρ : Env} {g g' : G} {Q : VK} {r : ER} {N : L2.Ends} {f : D → Sto → SR}
theorem PostS.of_er (h : PostS K W g N (r.toS ρ f)) (rs : RelSt K g σ ρ) (hQ : ∀ d S v g1 H1, r = .ok d S → GExt g g1 → World K g1 S H1 → RepG K g1 d v → PostS K W g1 N (f d S) → Q v H1) : Post K W σ g Q r := by
  cases r with
  | ok d S => exact fun v g1 H1 x y z => hQ d S v g1 H1 rfl x y z (PostS.ext h x)
  | exc k S => exact fun g1 H1 x y => h σ g1 H1 x y (rs.mono x)
  | bad => exact h
theorem PostS.of_test {k : Bool → Sto → SR} {QT : Bool → Hp → Prop} (h : PostS K W g N (r.toS ρ fun d S => match d with | .bl b => k b S | _ => .bad)) (rs : RelSt K g σ ρ) (hQ : ∀ b S g1 H1, r = .ok (.bl b) S → GExt g g1 → World K g1 S H1 → PostS K W g1 N (k b S) → QT b H1) : PostT K W σ g QT r := by
  cases r with
  | ok d S =>
    cases d with
    | bl b => exact fun g1 H1 x y => hQ b S g1 H1 rfl x y (PostS.ext h x)
    | _ => exact h
  | exc k S => exact fun g1 H1 x y => h σ g1 H1 x y (rs.mono x)
  | bad => exact h
end
def sSkip : Sx := fun ρ S => .nx ρ S
def SR.seq (r : SR) (f : Sx) : SR := match r with
  | .nx ρ S => f ρ S
  | .rt d S => .rt d S
  | .bk ρ S => .bk ρ S
  | .ct ρ S => .ct ρ S
  | .exc k ρ S => .exc k ρ S
  | .bad => .bad
@[simp] theorem SR.seq_nx (ρ : Env) (S : Sto) (f : Sx) : (SR.nx ρ S).seq f = f ρ S := rfl
@[simp] theorem SR.seq_rt (d : D) (S : Sto) (f : Sx) : (SR.rt d S).seq f = .rt d S := rfl
@[simp] theorem SR.seq_bk (ρ : Env) (S : Sto) (f : Sx) : (SR.bk ρ S).seq f = .bk ρ S := rfl
@[simp] theorem SR.seq_ct (ρ : Env) (S : Sto) (f : Sx) : (SR.ct ρ S).seq f = .ct ρ S := rfl
@[simp] theorem SR.seq_exc (k : Exc) (ρ : Env) (S : Sto) (f : Sx) : (SR.exc k ρ S).seq f = .exc k ρ S := rfl
@[simp] theorem SR.seq_bad (f : Sx) : SR.bad.seq f = .bad := rfl
def sSeq (f g : Sx) : Sx := fun ρ S => (f ρ S).seq g
def sSet (i : Nat) (fe : Ex) : Sx := fun ρ S => (fe ρ S).toS ρ fun d S1 => .nx (ρ.set i (some d)) S1
def sExpr (fe : Ex) : Sx := fun ρ S => (fe ρ S).toS ρ fun _ S1 => .nx ρ S1
def sRet (fe : Ex) : Sx := fun ρ S => (fe ρ S).toS ρ fun d S1 => .rt d S1
def sIf (fc : Ex) (f g : Sx) : Sx := fun ρ S => (fc ρ S).toS ρ fun d S1 => match d with
  | .bl b => (match b with | true => f ρ S1 | false => g ρ S1)
  | _ => .bad
section
variable {X : Cx} {W : WX} {pos : Pos} {e c : Expr} {fe fc : Ex} {st : Stmt} {sts rest : List Stmt} {f h : Sx}
theorem jss_nil : JSs X W [] sSkip := ⟨pssImp pss_nil fun N σ H ⟨g, S, ρ, w, rs, q⟩ => q σ g H (GExt.refl g) w rs⟩
theorem tSeq_of {K : PySem.W.Frag} {t u : TS} (h1 : ∀ N σ H, tS K W f N σ H → t N σ H) (h2 : ∀ N σ H, tS K W h N σ H → u N σ H) : ∀ N σ H, tS K W (sSeq f h) N σ H → tSeq t u N σ H := fun N σ H ⟨g, S, ρ, w, rs, q⟩ => by
  refine h1 _ σ H ⟨g, S, ρ, w, rs, ?_⟩
  unfold sSeq at q
  cases e : f ρ S with
  | nx ρ1 S1 => rw [e] at q; exact fun σ' g' H' x y z => h2 _ _ _ ⟨g', S1, ρ1, y, z, PostS.ext q x⟩
  | rt d S1 => rw [e] at q; exact q
  | bk ρ1 S1 => rw [e] at q; exact q
  | ct ρ1 S1 => rw [e] at q; exact q
  | exc k ρ1 S1 => rw [e] at q; exact q
  | bad => rw [e] at q; exact q
theorem jss_cons (h1 : JS X W st f) (h2 : JSs X W rest h) : JSs X W (st :: rest) (sSeq f h) := ⟨pssImp (pss_cons h1.run h2.run) (tSeq_of (fun _ _ _ x => x) fun _ _ _ x => x)⟩
theorem jss_one (h1 : JS X W st f) : JSs X W [st] f := ⟨pss_one h1.run⟩
theorem js_set {i : Nat} {x : Str} {pos' : Pos} (hN : X.N.Nodup) (he : JE X W e fe) (hi : X.N[i]? = some x := by rfl) (hx : Loc X.env.scope x := by first | exact .inl rfl | exact .inr rfl) (hs : swapsWith e (some (.Name x pos')) pos.line X.env = pure false := by rfl) (hf : X.fn x = true ∨ X.env.scope.names.lookup x = some .local := by first | exact .inl rfl | exact .inr rfl | assumption) : JS X W (.Assign [.Name x pos'] e pos) (sSet i fe) :=
  ⟨psImp (ps_set hN hi hx he.run hs hf) fun N σ H ⟨g, S, ρ, w, rs, q⟩ => ⟨g, S, ρ, w, rs, PostS.of_er q rs fun d S1 v g1 H1 _ e1 w1 r1 q1 => q1 _ g1 H1 (GExt.refl _) w1 ((rs.mono e1).set r1)⟩⟩
theorem js_ret (he : JE X W e fe) : JS X W (.Return (some e) pos) (sRet fe) :=
  ⟨psImp (ps_ret he.run) fun N σ H ⟨g, S, ρ, w, rs, q⟩ => ⟨g, S, ρ, w, rs, PostS.of_er q rs fun d S1 v g1 H1 _ e1 w1 r1 q1 => q1 v g1 H1 (GExt.refl _) w1 r1⟩⟩
theorem js_if {a b : List Stmt} (hc : JT X W c fc) (ha : JSs X W a f) (hb : JSs X W b h) : JS X W (.If c a b pos) (sIf fc f h) :=
  ⟨psImp (ps_if hc.run ha.run hb.run) fun N σ H ⟨g, S, ρ, w, rs, q⟩ => ⟨g, S, ρ, w, rs, PostS.of_test (k := fun b S1 => match b with | true => f ρ S1 | false => h ρ S1) q rs fun b S1 g1 H1 _ e1 w1 q1 => by
    cases b with
    | true => rw [if_pos rfl]; exact ⟨g1, S1, ρ, w1, rs.mono e1, q1⟩
    | false => rw [if_neg Bool.false_ne_true]; exact ⟨g1, S1, ρ, w1, rs.mono e1, q1⟩⟩⟩
end
/-! ### while -/
/-! ### what is walked -/
/-- the iterator yields these -/
def ItOk (K : PySem.W.Frag) (g : G) (J : It) (xs : List D) : Prop :=
  ∀ g' S' H' (i : Nat), GExt g g' → World K g' S' H' →
    (∀ d, xs[i]? = some d → J.go i H' ∧ ∀ x H'', J.yld i H' x H'' → ∃ g'', GExt g' g'' ∧ World K g'' S' H'' ∧ RepG K g'' d x) ∧ (xs[i]? = none → J.stop i H')
def PostI (K : PySem.W.Frag) (W : WX) (σ : L2.St) (g : G) (R : It → Hp → Prop) : ER → Prop
  | .ok (.tup xs) S => ∀ J g' H', GExt g g' → World K g' S H' → ItOk K g' J xs → R J H'
  | .exc k S => ∀ g' H', GExt g g' → World K g' S H' → W (excV K k) none σ H'
  | _ => False
def tI (K : PySem.W.Frag) (W : WX) (f : Ex) : TI := fun σ H R => ∃ g S ρ, World K g S H ∧ RelSt K g σ ρ ∧ PostI K W σ g R (f ρ S)
structure JI (X : Cx) (W : WX) (tg e : Expr) (f : Ex) : Prop where
  run : PI X tg e (tI X.K W f)
theorem piImp {X : Cx} {tg e : Expr} {t t' : TI} (h : PI X tg e t) (i : ∀ σ H Q, t' σ H Q → t σ H Q) : PI X tg e t' := ⟨fun pins s σ H Q I q => h.run pins s σ H Q I (i σ H Q q)⟩
section
variable {K : PySem.W.Frag} {W : WX} {σ : L2.St} {g g' : G} {r : ER} {R : It → Hp → Prop} {Q : VK}
theorem PostI.ext (h : PostI K W σ g R r) (e : GExt g g') : PostI K W σ g' R r := by
  cases r with
  | ok d S =>
    cases d with
    | tup b => exact fun v g2 H x y z => h v g2 H (e.trans x) y z
    | _ => exact h
  | exc k S => exact fun g2 H x y => h g2 H (e.trans x) y
  | bad => exact h
theorem PostI.of_bind {k : D → Sto → ER} (h : PostI K W σ g R (r.bind k)) (hQ : ∀ d S v g1 H1, r = .ok d S → GExt g g1 → World K g1 S H1 → RepG K g1 d v → PostI K W σ g1 R (k d S) → Q v H1) : Post K W σ g Q r := by
  cases r with
  | ok d S => exact fun v g1 H1 x y z => hQ d S v g1 H1 rfl x y z (PostI.ext h x)
  | exc k S => exact h
  | bad => exact h
end
/-- a frozen list; a tuple -/
def iLst (fe : Ex) : Ex := fun ρ S => (fe ρ S).bind fun d S1 => match d with
  | .lst l => .ok (.tup l) S1
  | .scr l => .ok (.tup l) S1
  | _ => .bad
def iTupl (fe : Ex) : Ex := fun ρ S => (fe ρ S).bind fun d S1 => match d with
  | .tup l => .ok (.tup l) S1
  | _ => .bad
theorem itl_ok {K : PySem.W.Frag} {g : G} {a : Addr} {xs : List V} {l : List D} (h : SqL K g.F a xs) (r : RepsG K g l xs) : ItOk K g (Itl K a) l := by
  intro g' S' H' i e w
  have sub : ∀ b o, g.F b = some o → H' b = some o := fun b o q => w.sub b o (e.f b o q)
  have hq : SqL K H' a xs := sqlMono sub h
  refine ⟨fun d hd => ?_, fun hn => ⟨xs, hq, ?_⟩⟩
  · obtain ⟨v, h1, h2⟩ := r.get hd
    refine ⟨⟨xs, v, hq, h1⟩, fun x H'' ⟨y1, y2⟩ => ?_⟩
    subst y1
    have := y2 xs hq
    rw [h1] at this
    cases this
    exact ⟨g', GExt.refl _, w, e.rep h2⟩
  · rw [← r.length]; exact List.getElem?_eq_none_iff.mp hn
theorem itt_ok {K : PySem.W.Frag} {g : G} {a : Addr} {xs : List V} {l : List D} (h : SqT K g.F a xs) (r : RepsG K g l xs) : ItOk K g (Itt K a) l := by
  intro g' S' H' i e w
  have sub : ∀ b o, g.F b = some o → H' b = some o := fun b o q => w.sub b o (e.f b o q)
  have hq : SqT K H' a xs := sqtMono sub h
  refine ⟨fun d hd => ?_, fun hn => ⟨xs, hq, ?_⟩⟩
  · obtain ⟨v, h1, h2⟩ := r.get hd
    refine ⟨⟨xs, v, hq, h1⟩, fun x H'' ⟨y1, y2⟩ => ?_⟩
    subst y1
    have := y2 xs hq
    rw [h1] at this
    cases this
    exact ⟨g', GExt.refl _, w, e.rep h2⟩
  · rw [← r.length]; exact List.getElem?_eq_none_iff.mp hn
def rngD (lo : Int) (n : Nat) : List D := (List.range n).map fun (i : Nat) => D.int (lo + i)
theorem itr_ok {K : PySem.W.Frag} {g : G} {lo : Int} {n : Nat} : ItOk K g (Itr lo n) (rngD lo n) := by
  intro g' S' H' i e w
  refine ⟨fun d hd => ?_, fun hn => ?_⟩
  · unfold rngD at hd
    simp only [List.getElem?_map, Option.map_eq_some_iff] at hd
    obtain ⟨j, hj, rfl⟩ := hd
    have hlt : i < n := by
      have := (List.getElem?_eq_some_iff.mp hj).1
      simpa using this
    have : j = i := by
      rw [List.getElem?_range hlt] at hj
      exact (Option.some.inj hj).symm
    subst this
    refine ⟨hlt, fun x H'' ⟨y1, y2⟩ => ?_⟩
    subst y1; subst y2
    exact ⟨g', GExt.refl _, w, .int _⟩
  · show n ≤ i
    have := List.getElem?_eq_none_iff.mp hn
    simpa [rngD] using this
def iRange1 (fe : Ex) : Ex := fun ρ S => (fe ρ S).bind fun d S1 => match d with
  | .int j => if -lim ≤ j ∧ j ≤ lim then .ok (.tup (rngD 0 j.toNat)) S1 else .bad
  | _ => .bad
theorem lim62 {j : Int} (h : -(lim : Int) ≤ j ∧ j ≤ lim) : -(2 ^ 62) ≤ j ∧ j < 2 ^ 62 := by
  unfold lim at h
  omega
section
variable {X : Cx} {W : WX} {pos p : Pos} {tg e e2 : Expr} {fe fe2 : Ex}
theorem ji_lst (h : JE X W e fe) : JI X W tg e (iLst fe) := ⟨piImp (pi_list h.run) fun σ H R ⟨g, S, ρ, w, rs, q⟩ => ⟨g, S, ρ, w, rs, PostI.of_bind q fun d S1 v g1 H1 _ e1 w1 r1 q1 => by
  cases d with
  | lst l =>
    cases r1 with
    | lst s r => exact ⟨_, rfl, ⟨_, SqL.of (w1.sub _ _ s)⟩, q1 _ g1 H1 (GExt.refl _) w1 (itl_ok (SqL.of s) r)⟩
  | scr l =>
    cases r1 with
    | scr s r => exact ⟨_, rfl, ⟨_, sqlMono w1.sub s⟩, q1 _ g1 H1 (GExt.refl _) w1 (itl_ok s r)⟩
  | _ => exact q1.elim⟩⟩
theorem ji_tup (h : JE X W e fe) : JI X W tg e (iTupl fe) := ⟨piImp (pi_tup h.run) fun σ H R ⟨g, S, ρ, w, rs, q⟩ => ⟨g, S, ρ, w, rs, PostI.of_bind q fun d S1 v g1 H1 _ e1 w1 r1 q1 => by
  cases d with
  | tup l =>
    cases r1 with
    | tup s r => exact ⟨_, rfl, ⟨_, sqtMono w1.sub s⟩, q1 _ g1 H1 (GExt.refl _) w1 (itt_ok s r)⟩
  | _ => exact q1.elim⟩⟩
theorem ji_range1 (hm : X.mg "range" = none) (ha : JE X W e fe) (hg : Gl X "range" := by rfl) (hs : starEach [e] X.env = [(false, eval e X.env)] := by rfl) : JI X W tg (.Call (.Name "range" p) [e] [] pos) (iRange1 fe) :=
  ⟨piImp (pi_range1 hg hm (pa_cons ha.run pa_nil hs) hs) fun σ H R ⟨g, S, ρ, w, rs, q⟩ => ⟨g, S, ρ, w, rs, PostI.of_bind q fun d S1 v g1 H1 _ e1 w1 r1 q1 => by
      cases d with
      | int j =>
        cases r1
        dsimp only at q1
        by_cases hj : -(lim : Int) ≤ j ∧ j ≤ lim
        · rw [if_pos hj] at q1
          exact ⟨j, rfl, (lim62 hj).1, (lim62 hj).2, q1 _ g1 H1 (GExt.refl _) w1 itr_ok⟩
        · rw [if_neg hj] at q1; exact q1.elim
      | _ => exact q1.elim⟩⟩
end
/-! ### targets -/
/-- alike but at these slots -/
def Off (ws : List Nat) (σ σ' : L2.St) : Prop := σ'.length = σ.length ∧ ∀ i, i ∉ ws → σ'[i]? = σ[i]?
theorem Off.trans {ws us : List Nat} {σ σ1 σ2 : L2.St} (a : Off ws σ σ1) (b : Off us σ1 σ2) : Off (ws ++ us) σ σ2 := ⟨b.1.trans a.1, fun i h => by
  simp only [List.mem_append, not_or] at h
  exact (b.2 i h.2).trans (a.2 i h.1)⟩
def tG (K : PySem.W.Frag) (ws : List Nat) (f : D → Env → Option Env) : TG := fun v σ H Q => ∃ g S ρ d ρ', World K g S H ∧ RelSt K g σ ρ ∧ RepG K g d v ∧ f d ρ = some ρ' ∧ ∀ σ' g' H', GExt g g' → World K g' S H' → RelSt K g' σ' ρ' → Off ws σ σ' → Q σ' H'
structure JG (X : Cx) (tg : Expr) (ws : List Nat) (f : D → Env → Option Env) : Prop where
  run : PG X tg (tG X.K ws f)
theorem pgImp {X : Cx} {tg : Expr} {t t' : TG} (h : PG X tg t) (i : ∀ v σ H Q, t' v σ H Q → t v σ H Q) : PG X tg t' := ⟨fun pins s σ H v u Q I r q => h.run pins s σ H v u Q I r (i v σ H Q q)⟩
def dN (i : Nat) : D → Env → Option Env := fun d ρ => some (ρ.set i (some d))
section
variable {X : Cx} {pos : Pos} {tg : Expr} {es : List Expr} {f : D → Env → Option Env} {fs : List D → Env → Option Env}
theorem jg_name {i : Nat} {x : Str} (hN : X.N.Nodup) (hi : X.N[i]? = some x := by rfl) (hx : Loc X.env.scope x := by first | exact .inl rfl | exact .inr rfl) (hf : X.fn x = true ∨ X.env.scope.names.lookup x = some .local := by first | exact .inl rfl | exact .inr rfl | assumption) : JG X (.Name x pos) [i] (dN i) :=
  ⟨pgImp (pg_name hN hi hx hf) fun v σ H Q ⟨g, S, ρ, d, ρ', w, rs, r, e, k⟩ => by
    cases e
    exact k _ g H (GExt.refl _) w (rs.set r) ⟨by simp, fun j hj => by
      rw [List.getElem?_set_ne]
      intro z; subst z; exact hj (by simp)⟩⟩
end
/-! ### for -/
def forL (f : D → Env → Option Env) (fb : Sx) : List D → Sx
  | [] => fun ρ S => .nx ρ S
  | d :: ds => fun ρ S => match f d ρ with
    | none => .bad
    | some ρ1 => (match fb ρ1 S with
      | .nx ρ2 S2 => forL f fb ds ρ2 S2
      | .ct ρ2 S2 => forL f fb ds ρ2 S2
      | .bk ρ2 S2 => .nx ρ2 S2
      | .rt d S2 => .rt d S2
      | .exc k ρ2 S2 => .exc k ρ2 S2
      | .bad => .bad)
def sFor (fi : Ex) (f : D → Env → Option Env) (fb : Sx) : Sx := fun ρ S => (fi ρ S).toS ρ fun t S1 => match t with
  | .tup l => forL f fb l ρ S1
  | _ => .bad
theorem js_for {X : Cx} {W : WX} {tg iter : Expr} {fi : Ex} {f : D → Env → Option Env} {fb : Sx} {body : List Stmt} {ws : List Nat} {pos : Pos} (hp : PassesOwn (model X.prog X.w) X.A X.env X.xe) (hc : X.calm = true) (hi : JI X W tg iter fi) (hg : JG X tg ws f) (hb : JSs X W body fb)
    (hs : ∀ x, foldedSetIterable iter X.env x = pure x := by intro _; rfl) : JS X W (.For tg iter body [] pos) (sFor fi f fb) :=
  ⟨psImp (ps_for hp hc hi.run hg.run hb.run hs) fun N σ H ⟨g, S, ρ, w, rs, q⟩ => by
    refine ⟨g, S, ρ, w, rs, ?_⟩
    unfold sFor at q
    cases e : fi ρ S with
    | bad => rw [e] at q; exact q.elim
    | exc k S1 => rw [e] at q; exact fun g1 H1 x y => q σ g1 H1 x y (rs.mono x)
    | ok t S1 =>
      cases t with
      | tup l =>
        rw [e] at q
        have q : PostS X.K W g N (forL f fb l ρ S1) := q
        intro J g1 H1 x1 w1 it
        refine ⟨fun i m σ H => m = l.length - i ∧ i ≤ l.length ∧ ∃ g2 S2 ρ2, GExt g1 g2 ∧ World X.K g2 S2 H ∧ RelSt X.K g2 σ ρ2 ∧ PostS X.K W g2 N (forL f fb (l.drop i) ρ2 S2), ⟨l.length, by simp, Nat.zero_le _, g1, S1, ρ, GExt.refl _, w1, rs.mono x1, q.ext x1⟩, ?_⟩
        rintro i m σ2 H2 ⟨rfl, hi, g2, S2, ρ2, x2, w2, rs2, q2⟩
        obtain ⟨i1, i2⟩ := it g2 S2 H2 i x2 w2
        by_cases hlt : i < l.length
        · have hd : l[i]? = some l[i] := by simp [hlt]
          have hdrop : l.drop i = l[i] :: l.drop (i + 1) := List.drop_eq_getElem_cons hlt
          rw [hdrop] at q2
          obtain ⟨go, y⟩ := i1 _ hd
          refine .inr ⟨go, fun σ H => ∃ g3 S3 ρ3, GExt g1 g3 ∧ World X.K g3 S3 H ∧ RelSt X.K g3 σ ρ3 ∧ PostS X.K W g3 N (forL f fb (l.drop (i + 1)) ρ3 S3), fun σ3 H3 ⟨g3, S3, ρ3, z⟩ => ⟨l.length - (i + 1), by omega, rfl, hlt, g3, S3, ρ3, z⟩, fun v H3 hy => ?_⟩
          obtain ⟨g3, x3, w3, r3⟩ := y v H3 hy
          have q2' : PostS X.K W g2 N (match f l[i] ρ2 with
            | none => .bad
            | some ρ1 => (match fb ρ1 S2 with
              | .nx ρ2 S2 => forL f fb (l.drop (i + 1)) ρ2 S2
              | .ct ρ2 S2 => forL f fb (l.drop (i + 1)) ρ2 S2
              | .bk ρ2 S2 => .nx ρ2 S2
              | .rt d S2 => .rt d S2
              | .exc k ρ2 S2 => .exc k ρ2 S2
              | .bad => .bad)) := q2
          cases ef : f l[i] ρ2 with
          | none => rw [ef] at q2'; exact q2'.elim
          | some ρ3 =>
            rw [ef] at q2'
            refine ⟨g3, S2, ρ2, l[i], ρ3, w3, rs2.mono x3, r3, ef, fun σ4 g4 H4 x4 w4 rs4 _ => ⟨g4, S2, ρ3, w4, rs4, ?_⟩⟩
            have q3 := q2'.ext (x3.trans x4)
            have xx : GExt g1 g4 := x2.trans (x3.trans x4)
            cases eb : fb ρ3 S2 with
            | nx ρ5 S5 => simp only [eb] at q3; exact fun σ' g' H' x y z => ⟨g', S5, ρ5, xx.trans x, y, z, q3.ext x⟩
            | ct ρ5 S5 => simp only [eb] at q3; exact fun σ' g' H' x y z => ⟨g', S5, ρ5, xx.trans x, y, z, q3.ext x⟩
            | bk ρ5 S5 => simp only [eb] at q3; exact q3
            | rt d S5 => simp only [eb] at q3; exact q3
            | exc k ρ5 S5 => simp only [eb] at q3; exact q3
            | bad => simp only [eb] at q3; exact q3
        · have e2 : i = l.length := by omega
          subst e2
          refine .inl ⟨i2 (by simp), ?_⟩
          rw [List.drop_length] at q2
          exact q2 σ2 g2 H2 (GExt.refl _) w2 rs2
      | _ => rw [e] at q; exact q.elim⟩
end Bt
namespace Bt
open PySem PySem.Spec PyProof.Rows L2
/-! ### comprehensions -/
abbrev wNo : WX := fun _ _ _ _ => False
def wipeD (ρ : Env) : List Nat → Env
  | [] => ρ
  | v :: vs => (wipeD ρ vs).set v none
theorem wipeD_length (ρ : Env) : ∀ vs, (wipeD ρ vs).length = ρ.length
  | [] => rfl
  | v :: vs => by unfold wipeD; rw [List.length_set, wipeD_length ρ vs]
theorem wipeD_some {ρ : Env} {i : Nat} {d : D} : ∀ {vs : List Nat}, (wipeD ρ vs)[i]? = some (some d) → ρ[i]? = some (some d) ∧ i ∉ vs
  | [], h => ⟨h, by simp⟩
  | v :: vs, h => by
    unfold wipeD at h
    by_cases hi : v = i
    · subst hi
      by_cases hv : v < (wipeD ρ vs).length
      · rw [List.getElem?_set_self hv] at h; cases h
      · rw [List.getElem?_eq_none (by simpa using hv)] at h; cases h
    · rw [List.getElem?_set_ne hi] at h
      obtain ⟨h1, h2⟩ := wipeD_some h
      exact ⟨h1, by simp only [List.mem_cons, not_or]; exact ⟨fun e => hi e.symm, h2⟩⟩
theorem wipe_at (σ : L2.St) (i : Nat) : ∀ vs : List Nat, (wipe σ vs)[i]? = if i ∈ vs then (if i < σ.length then some none else none) else σ[i]?
  | [] => by simp [wipe]
  | v :: vs => by
    unfold wipe
    by_cases e : v = i
    · subst e
      by_cases hv : v < σ.length
      · rw [List.getElem?_set_self (by rw [wipe_length]; exact hv), if_pos (by simp), if_pos hv]
      · rw [List.getElem?_eq_none (by rw [List.length_set, wipe_length]; omega), if_pos (by simp), if_neg hv]
    · rw [List.getElem?_set_ne e, wipe_at σ i vs]
      by_cases hm : i ∈ vs
      · rw [if_pos hm, if_pos (show i ∈ v :: vs from List.mem_cons_of_mem _ hm)]
      · rw [if_neg hm, if_neg (by simp only [List.mem_cons, not_or]; exact ⟨fun z => e z.symm, hm⟩)]
theorem wipe_off {σ σ2 : L2.St} {vs ws : List Nat} (hw : ∀ i ∈ ws, i ∈ vs) (o : Off ws (wipe σ vs) σ2) : wipe σ2 vs = wipe σ vs := by
  apply List.ext_getElem?
  intro i
  rw [wipe_at, wipe_at]
  have hl : σ2.length = σ.length := o.1.trans (wipe_length σ vs)
  by_cases hm : i ∈ vs
  · rw [if_pos hm, if_pos hm, hl]
  · rw [if_neg hm, if_neg hm, o.2 i (fun z => hm (hw i z)), wipe_at, if_neg hm]
theorem RelSt.wipe {K : PySem.W.Frag} {g : G} {σ : L2.St} {ρ : Env} (r : RelSt K g σ ρ) (vs : List Nat) : RelSt K g (L2.wipe σ vs) (wipeD ρ vs) := ⟨by rw [wipeD_length, wipe_length, r.len], fun i d h => by
  obtain ⟨h1, h2⟩ := wipeD_some h
  obtain ⟨v, h3, h4⟩ := r.at_ i d h1
  exact ⟨v, by rw [wipe_at, if_neg h2]; exact h3, h4⟩⟩
structure JTs (X : Cx) (W : WX) (ifs : List Expr) (f : Ex) : Prop where
  run : PTs X ifs (tT X.K W f)
def eYes : Ex := fun _ S => .ok (.bl true) S
theorem jts_nil {X : Cx} {W : WX} : JTs X W [] eYes := ⟨⟨fun pins s σ H Q I ⟨g, S, ρ, w, rs, q⟩ => (pts_nil (X := X)).run pins s σ H Q I (q g H (GExt.refl _) w)⟩⟩
theorem jts_one {X : Cx} {W : WX} {c : Expr} {f : Ex} (h : JT X W c f) : JTs X W [c] f := ⟨pts_one h.run⟩
/-- one item: kept, left out, or it can't be -/
def stepC (f : D → Env → Option Env) (fc fe : Ex) (ρ : Env) (d : D) (S : Sto) : Option (Option D × Sto) := match f d ρ with
  | none => none
  | some ρ1 => (match fc ρ1 S with
    | .ok (.bl true) S1 => (match fe ρ1 S1 with
      | .ok y S2 => some (some y, S2)
      | _ => none)
    | .ok (.bl false) S1 => some (none, S1)
    | _ => none)
def compL (step : D → Sto → Option (Option D × Sto)) : List D → List D → Sto → ER
  | [], acc, S => .ok (.lst acc) S
  | d :: ds, acc, S => match step d S with
    | some (some y, S2) => if acc.length < lim then compL step ds (acc ++ [y]) S2 else .bad
    | some (none, S2) => compL step ds acc S2
    | none => .bad
def eComp (vs : List Nat) (fi : Ex) (f : D → Env → Option Env) (fc fe : Ex) : Ex := fun ρ S => (fi ρ S).bind fun t S1 => match t with
  | .tup l => compL (stepC f fc fe (wipeD ρ vs)) l [] S1
  | _ => .bad
section
variable {K : PySem.W.Frag} {g : G} {S : Sto} {H : Hp}
/-- a list that was held is frozen -/
def G.thaw (g : G) (p : Addr) (o : HO) : G := { g with F := upd g.F p o, pin := fun b => if b = p then none else g.pin b }
theorem World.thaw (w : World K g S H) {p : Addr} {o : HO} (hp : g.pin p = some o) (ho : ¬ LkO o) : World K (g.thaw p o) S H := by
  obtain ⟨q1, q2, q3⟩ := w.pin p o hp
  have sub : GSub g (g.thaw p o) := ⟨fun a x h => by
    show upd g.F p o a = _
    rw [upd_ne (ne_of_none h q2)]; exact h, fun _ _ h => h⟩
  refine ⟨fun a x h => ?_, w.len, fun n x h => (w.at_ n x h).monoS sub (fun b j hb => ⟨hb, rfl⟩) fun b o' h l => (by
    show (if b = p then none else g.pin b) = _
    rw [if_neg]; exact h
    intro z; subst z; rw [hp] at h; cases h; exact ho l), fun b q hb => ?_, fun b x hb => ?_⟩
  · have h' : upd g.F p o a = some x := h
    by_cases e : a = p
    · subst e; rw [upd_same] at h'; rw [← h']; exact q1
    · rw [upd_ne e] at h'; exact w.sub a x h'
  · refine ⟨?_, (w.free b q hb).2⟩
    show upd g.F p o b = none
    rw [upd_ne]; exact (w.free b q hb).1
    intro z; subst z
    have hb' : g.own b = some q := hb
    rw [q3] at hb'; cases hb'
  · have hb' : (if b = p then none else g.pin b) = some x := hb
    by_cases e : b = p
    · rw [if_pos e] at hb'; cases hb'
    · rw [if_neg e] at hb'
      obtain ⟨r1, r2, r3⟩ := w.pin b x hb'
      refine ⟨r1, ?_, r3⟩
      show upd g.F p o b = none
      rw [upd_ne e]; exact r2
end
theorem tLc_of {K : PySem.W.Frag} {W : WX} {wi : TI} {g : TG} {tt : TT} {te : TE} {vs ws : List Nat} {fi fc fe : Ex} {f : D → Env → Option Env} (hw : ∀ i ∈ ws, i ∈ vs)
    (hi : ∀ σ H R, tI K W fi σ H R → wi σ H R) (hg : ∀ v σ H Q, tG K ws f v σ H Q → g v σ H Q) (ht : ∀ σ H Q, tT K wNo fc σ H Q → tt σ H Q) (he : ∀ σ H Q, tE K wNo fe σ H Q → te σ H Q) :
    ∀ σ H Q, tE K W (eComp vs fi f fc fe) σ H Q → tLc wi g tt te vs σ H Q := fun σ H Q ⟨g0, S, ρ, w, rs, q⟩ => by
  refine hi σ H _ ⟨g0, S, ρ, w, rs, ?_⟩
  unfold eComp at q
  cases e : fi ρ S with
  | bad => rw [e] at q; exact q.elim
  | exc k S1 => rw [e] at q; exact q
  | ok t S1 =>
    rw [e] at q
    cases t with
    | tup l =>
      have q : Post K W σ g0 Q (compL (stepC f fc fe (wipeD ρ vs)) l [] S1) := q
      intro J g1 H1 x1 w1 it C hC
      obtain ⟨w2, x2⟩ := w1.hold (o := .lst []) hC
      have fr : ∀ b o, g0.pin b = some o → b ≠ C := fun b o hb => ne_of_none (w1.pin b o (x1.p b o hb)).1 hC
      refine ⟨fun i m H => m = l.length - i ∧ i ≤ l.length ∧ ∃ g2 S2 acc xs, GExt g1 g2 ∧ g2.pin C = some (.lst xs) ∧ World K g2 S2 H ∧ RepsG K g2 acc xs ∧ Post K W σ g0 Q (compL (stepC f fc fe (wipeD ρ vs)) (l.drop i) acc S2), ⟨l.length, by simp, Nat.zero_le _, _, S1, [], [], x2, ?_, w2, .nil, q⟩, ?_⟩
      · show (if C = C then _ else _) = _
        rw [if_pos rfl]
      rintro i m H3 ⟨rfl, hi3, g2, S2, acc, xs, x3, pc, w3, ra, q3⟩
      obtain ⟨i1, i2⟩ := it g2 S2 H3 i x3 w3
      by_cases hlt : i < l.length
      · have hd : l[i]? = some l[i] := by simp [hlt]
        have hdrop : l.drop i = l[i] :: l.drop (i + 1) := List.drop_eq_getElem_cons hlt
        rw [hdrop] at q3
        obtain ⟨go, y⟩ := i1 _ hd
        refine .inr ⟨go, fun H => ∃ g2 S2 acc xs, GExt g1 g2 ∧ g2.pin C = some (.lst xs) ∧ World K g2 S2 H ∧ RepsG K g2 acc xs ∧ Post K W σ g0 Q (compL (stepC f fc fe (wipeD ρ vs)) (l.drop (i + 1)) acc S2), fun H4 ⟨g4, S4, acc4, xs4, z⟩ => ⟨l.length - (i + 1), by omega, rfl, hlt, g4, S4, acc4, xs4, z⟩, fun v H4 hy => ?_⟩
        obtain ⟨g4, x4, w4, r4⟩ := y v H4 hy
        unfold compL stepC at q3
        cases ef : f l[i] (wipeD ρ vs) with
        | none => simp only [ef] at q3; exact q3.elim
        | some ρ1 =>
          simp only [ef] at q3
          have rs4 : RelSt K g4 (L2.wipe σ vs) (wipeD ρ vs) := (rs.mono (x1.trans (x3.trans x4))).wipe vs
          refine hg v _ H4 _ ⟨g4, S2, wipeD ρ vs, l[i], ρ1, w4, rs4, r4, ef, fun σ5 g5 H5 x5 w5 rs5 o5 => ⟨wipe_off hw o5, ?_⟩⟩
          refine ht _ _ _ ⟨g5, S2, ρ1, w5, rs5, ?_⟩
          cases ec : fc ρ1 S2 with
          | bad => simp only [ec] at q3; exact q3.elim
          | exc k S5 => simp only [ec] at q3; exact q3.elim
          | ok d S5 =>
            cases d with
            | bl b =>
              cases b with
              | false =>
                simp only [ec] at q3
                intro g6 H6 x6 w6
                rw [if_neg Bool.false_ne_true]
                have xx := (x4.trans x5).trans x6
                exact ⟨g6, S5, acc, xs, x3.trans xx, xx.p _ _ pc, w6, xx.reps ra, q3⟩
              | true =>
                simp only [ec] at q3
                intro g6 H6 x6 w6
                rw [if_pos rfl]
                refine he _ _ _ ⟨g6, S5, ρ1, w6, rs5.mono x6, ?_⟩
                cases ee : fe ρ1 S5 with
                | bad => simp only [ee] at q3; exact q3.elim
                | exc k S5 => simp only [ee] at q3; exact q3.elim
                | ok y S6 =>
                  simp only [ee] at q3
                  intro u g7 H7 x7 w7 r7
                  have xx := ((x4.trans x5).trans x6).trans x7
                  have pc7 := xx.p _ _ pc
                  obtain ⟨p1, p2, p3⟩ := w7.pin _ _ pc7
                  have ra7 := xx.reps ra
                  by_cases hz : acc.length < lim
                  · rw [if_pos hz] at q3
                    refine ⟨xs, p1, ?_, ?_⟩
                    · rw [← ra7.length]; exact Nat.lt_trans hz (by decide)
                    · have w8 := w7.rehold (u := .lst (xs ++ [u])) pc7 lko_lst
                      refine ⟨_, S6, acc ++ [y], xs ++ [u], ⟨fun a o h => ?_, fun n a h => ?_, fun a o h => ?_⟩, ?_, w8, ?_, q3⟩
                      · exact (x3.trans xx).f a o h
                      · exact (x3.trans xx).a n a h
                      · show (if a = C then _ else _) = _
                        rw [if_neg]
                        · exact (x3.trans xx).p a o h
                        · exact ne_of_none (w1.pin a o h).1 hC
                      · show (if C = C then _ else _) = _
                        rw [if_pos rfl]
                      · exact (ra7.snoc r7)
                  · rw [if_neg hz] at q3; exact q3.elim
            | _ => simp only [ec] at q3; exact q3.elim
      · have e2 : i = l.length := by omega
        subst e2
        refine .inl ⟨i2 (by simp), ?_⟩
        rw [List.drop_length] at q3
        have w4 := w3.thaw pc lko_lst
        refine q3 (.ref C) _ H3 ⟨fun a o h => ?_, fun n a h => ?_, fun a o h => ?_⟩ w4 (.lst upd_same ?_)
        · show upd g2.F C _ a = _
          have h2 := x3.f a o (x1.f a o h)
          rw [upd_ne (ne_of_none h2 (w3.pin _ _ pc).2.1)]; exact h2
        · exact x3.a n a (x1.a n a h)
        · show (if a = C then _ else _) = _
          rw [if_neg (fr a o h)]
          exact x3.p a o (x1.p a o h)
        · refine ra.mono (fun a o h => ?_) fun n a h => h
          show upd g2.F C _ a = _
          rw [upd_ne (ne_of_none h (w3.pin _ _ pc).2.1)]; exact h
    | _ => exact q.elim
section
variable {X : Cx} {W : WX} {elt tg iter : Expr} {ifs : List Expr} {scope : Scope} {own : List (Str × Nat)} {pos spos : Pos} {ws : List Nat} {fi fc fe : Ex} {f : D → Env → Option Env}
theorem je_comp (own : List (Str × Nat)) (hc : X.calm = true) (hN : X.N.Nodup) (hi : JI X W tg iter fi) (ok : BlkOk X.N X.env.scope scope own)
    (hg : ∀ (s : Shared) (H : Hp) (C : Addr) (cl : List (Str × Addr)) (fp : List Addr), JG (X.blk s H scope (compEnvC scope cl C X.env) fp) tg ws f) (hw : ∀ i ∈ ws, i ∈ own.map (·.2))
    (ht : ∀ (s : Shared) (H : Hp) (C : Addr) (cl : List (Str × Addr)) (fp : List Addr), JTs (X.blk s H scope (compEnvC scope cl C X.env) fp) wNo ifs fc)
    (he : ∀ (s : Shared) (H : Hp) (C : Addr) (cl : List (Str × Addr)) (fp : List Addr), JE (X.blk s H scope (compEnvC scope cl C X.env) fp) wNo elt fe) (hs : ∀ x, foldedSetIterable iter X.env x = pure x := by intro _; rfl) :
    JE X W (.ListComp elt [⟨tg, iter, ifs, 0⟩] scope pos) (eComp (own.map (·.2)) fi f fc fe) :=
  ⟨peImp (pe_lc (own := own) hc hN hi.run ok (fun s H C cl fp => (hg s H C cl fp).run) (fun s H C cl fp => (ht s H C cl fp).run) (fun s H C cl fp => (he s H C cl fp).run) hs) (tLc_of hw (fun _ _ _ x => x) (fun _ _ _ _ x => x) (fun _ _ _ x => x) fun _ _ _ x => x)⟩
end
/-! ### defs and their calls -/
abbrev Fn := List D → Sto → ER
def PostF (K : PySem.W.Frag) (g : G) (Q : VK) (E : XK) : ER → Prop
  | .ok d S => ∀ v g' H', GExt g g' → World K g' S H' → RepG K g' d v → Q v H'
  | .exc k S => ∀ g' H', GExt g g' → World K g' S H' → E (excV K k) none H'
  | .bad => False
def spOf (K : PySem.W.Frag) (F : Fn) : Sp := fun vs H Q E => ∃ g S ds, World K g S H ∧ RepsG K g ds vs ∧ PostF K g Q E (F ds S)
def SR.toE (r : SR) : ER := match r with
  | .nx _ S => .ok .non S
  | .rt d S => .ok d S
  | .exc k _ S => .exc k S
  | _ => .bad
@[simp] theorem SR.toE_nx (ρ : Env) (S : Sto) : (SR.nx ρ S).toE = .ok .non S := rfl
@[simp] theorem SR.toE_rt (d : D) (S : Sto) : (SR.rt d S).toE = .ok d S := rfl
@[simp] theorem SR.toE_exc (k : Exc) (ρ : Env) (S : Sto) : (SR.exc k ρ S).toE = .exc k S := rfl
def fnBody (n N : Nat) (f : Sx) : Fn := fun ds S => if ds.length = n then (f (ds.map some ++ List.replicate (N - n) none) S).toE else .bad
/-- a def of the text that does F, called at most so deep -/
structure Cal (P : Program) (w : PySem.World) (K : PySem.W.Frag) (mg : Str → Option Value) (base : Heap) (x : Str) (k : Nat) (F : Fn) : Prop where
  ex : ∃ f fd ps, mg x = some (.ref f) ∧ PySem.W.keepIn K (.ref f) = true ∧ Binds K fd ps [] ∧ FnOk P w K mg base (L2.CX P w) k f fd ps (spOf K F)
def eCall (F : Fn) (fa : Ex) : Ex := fun ρ S => (fa ρ S).bind fun t S1 => match t with
  | .tup l => F l S1
  | _ => .bad
section
variable {X : Cx} {W : WX} {x : Str} {k : Nat} {F : Fn} {p pos : Pos} {e : Expr} {es : List Expr} {fa : Ex}
theorem postF_of {K : PySem.W.Frag} {σ : L2.St} {g : G} {Q : VK} {r : ER} (h : Post K W σ g Q r) : PostF K g Q (WE W σ) r := by
  cases r with
  | ok d S => exact h
  | exc k S => exact h
  | bad => exact h
theorem je_call (c : Cal X.prog X.w X.K X.mg X.base x k F) (hr : Room k X.A) (tk : Takes X W) (ha : JA X W (e :: es) fa) (hg : Gl X x := by rfl) (hdb : (x == ("__debug__" : Str)) = false := by decide) (he : starEach (e :: es) X.env = (false, eval e X.env) :: starEach es X.env := by rfl) (hpl : (backTo pos (starEach es X.env)).any (·.1) = false := by rfl) :
    JE X W (.Call (.Name x p) (e :: es) [] pos) (eCall F fa) := by
  obtain ⟨f, fd, ps, h1, h2, h3, h4⟩ := c.ex
  exact ⟨peImp (pe_callS (E := WE W) h4 hr hg h1 h2 h3 (fun σ => passAt tk σ) ha.run hdb he hpl) fun σ H Q ⟨g, S, ρ, w, rs, q⟩ => ⟨g, S, ρ, w, rs, Post.of_args (k := fun l S1 => F l S1) q fun l S1 vs g1 H1 _ e1 w1 r1 q1 => ⟨g1, S1, l, w1, r1, postF_of q1⟩⟩⟩
end
/-- the body does it -/
theorem reps_start {K : PySem.W.Frag} {g : G} {N : List Str} {ds : List D} {vs : List V} (r : RepsG K g ds vs) : RelSt K g (L2.start N vs) (ds.map some ++ List.replicate (N.length - ds.length) none) := by
  unfold L2.start
  refine ⟨by simp [r.length], fun i d h => ?_⟩
  by_cases hi : i < ds.length
  · rw [List.getElem?_append_left (by simpa using hi)] at h
    simp only [List.getElem?_map, Option.map_eq_some_iff] at h
    obtain ⟨d', h1, h2⟩ := h
    cases h2
    obtain ⟨v, h3, h4⟩ := r.get h1
    refine ⟨v, ?_, h4⟩
    rw [List.getElem?_append_left (by rw [List.length_map, ← r.length]; exact hi)]
    simp [h3]
  · rw [List.getElem?_append_right (by simpa using hi)] at h
    have := List.mem_of_getElem? h
    have := List.eq_of_mem_replicate this
    cases this
theorem fn_ok {P : Program} {w : PySem.World} {K : PySem.W.Frag} {mg : Str → Option Value} {base : Heap} {x qual : Str} {params : Arguments} {body : List Stmt} {scope : Scope} {f : Addr} {fd : FuncData} {N ps : List Str} {k : Nat} {m : Sx}
    (F : FunD K x qual params body scope [] [] f fd) (S : FnScope N ps scope)
    (hb : ∀ (cdv : Value) (A : Around) (outer : List PySem.Env) (s : Shared) (H : Hp) (E : XK), Room k (A.deeper (envOfC qual scope s.heap.objs.size f cdv)) →
      JSs (cxOf (L2.CX P w) P w K mg base N qual scope f cdv A outer s H E) (fun cls d _ H => E cls d H) body m) :
    FnOk P w K mg base (L2.CX P w) (k + 1) f fd ps (spOf K (fnBody ps.length N.length m)) := by
  refine F.ok S (fun vs H Q E ⟨g, S, ds, w, r, q⟩ => ?_) fun cdv A outer s H vs Q E hr ⟨g, S0, ds, w, r, q⟩ => ?_
  · unfold fnBody at q
    by_cases hl : ds.length = ps.length
    · rw [← r.length]; exact hl
    · rw [if_neg hl] at q; exact q.elim
  · refine ⟨_, (hb cdv A outer s H E hr).run, ?_⟩
    unfold fnBody at q
    by_cases hl : ds.length = ps.length
    · rw [if_pos hl] at q
      refine ⟨g, S0, _, w, reps_start r, ?_⟩
      rw [hl]
      cases e : m (ds.map some ++ List.replicate (N.length - ps.length) none) S0 with
      | nx ρ S1 => rw [e] at q; exact fun σ' g' H' x y z => q .non g' H' x y .non
      | rt d S1 => rw [e] at q; exact q
      | exc k ρ S1 => rw [e] at q; exact fun σ' g' H' x y z => q g' H' x y
      | bk ρ S1 => rw [e] at q; exact q.elim
      | ct ρ S1 => rw [e] at q; exact q.elim
      | bad => rw [e] at q; exact q.elim
    · rw [if_neg hl] at q; exact q.elim
end Bt
namespace Bt
open PySem PySem.Spec PyProof.Rows L2
/-! ### operations on data -/
def seqOf (S : Sto) : D → Option (List D)
  | .lst l => some l
  | .scr l => some l
  | .obj n => (match S[n]? with
    | some (.list l) => some l
    | _ => none)
  | _ => none
section
variable {K : PySem.W.Frag} {g : G} {S : Sto} {H : Hp} {d : D} {v : V} {l : List D}
theorem seqOf_rep (w : World K g S H) (r : RepG K g d v) (e : seqOf S d = some l) : ∃ a xs, v = .ref a ∧ SqL K H a xs ∧ RepsG K g l xs := by
  cases d with
  | lst l' => cases e; cases r with | lst s r => exact ⟨_, _, rfl, SqL.of (w.sub _ _ s), r⟩
  | scr l' => cases e; cases r with | scr s r => exact ⟨_, _, rfl, sqlMono w.sub s, r⟩
  | obj n =>
    simp only [seqOf] at e
    cases h : S[n]? with
    | none => rw [h] at e; cases e
    | some o =>
      rw [h] at e
      cases o with
      | list l' =>
        cases e
        obtain ⟨a, xs, h1, h2, h3, h4⟩ := w.at_ n _ h
        cases r with
        | obj h5 => rw [h1] at h5; cases h5; exact ⟨_, _, rfl, SqL.of h3, h4⟩
      | _ => cases e
  | _ => cases e
end
def opAdd : Sto → D → D → Option D := fun _ x y => match x, y with
  | .int i, .int j => some (.int (i + j))
  | .str a, .str b => if a.length + b.length ≤ lim then some (.str (a ++ b)) else none
  | .tup a, .tup b => if a.length + b.length ≤ lim then some (.tup (a ++ b)) else none
  | .lst a, .lst b => if a.length + b.length ≤ lim then some (.lst (a ++ b)) else none
  | _, _ => none
def opSub : Sto → D → D → Option D := fun _ x y => match x, y with
  | .int i, .int j => some (.int (i - j))
  | _, _ => none
def opMul : Sto → D → D → Option D := fun _ x y => match x, y with
  | .int i, .int j => if i.natAbs < 18446744073709551616 ∨ j.natAbs < 18446744073709551616 then some (.int (i * j)) else none
  | .tup a, .int j => if a.length ≠ 0 ∧ 2 ≤ j ∧ j ≤ 1000 ∧ a.length ≤ 1000 then some (.tup (List.replicate j.toNat a).flatten) else none
  | .lst a, .int j => if -1000 ≤ j ∧ j ≤ 1000 ∧ a.length ≤ 1000 then some (.lst (List.replicate j.toNat a).flatten) else none
  | _, _ => none
def opMod : Sto → D → D → Option D := fun _ x y => match x, y with
  | .int i, .int j => if 0 < j then some (.int (i % j)) else none
  | _, _ => none
def opDiv : Sto → D → D → Option D := fun _ x y => match x, y with
  | .int i, .int j => if 0 < j ∧ j < 1073741824 then some (.int (i / j)) else none
  | _, _ => none
def opNeg : Sto → D → Option D := fun _ x => match x with
  | .int i => some (.int (-i))
  | _ => none
def rOr (r r' : R2) : R2 := fun x y H Q => r x y H Q ∨ r' x y H Q
section
variable {X : Cx}
abbrev rAddI : R2 := rI0 fun i j => .int (i + j)
abbrev rAddS : R2 := fun x y H Q => ∃ i j, x = .str i ∧ y = .str j ∧ i.length + j.length ≤ sizeLine ∧ Q (.str (i ++ j)) H
theorem or_add : OpR X (binaryOp .Add) (rOr rAddI (rOr rAddS (rOr (rCatA X.K) rCat))) := op_add.or (op_add_str.or (op_catA.or op_cat))
theorem l_add : L2r X.K (rOr rAddI (rOr rAddS (rOr (rCatA X.K) rCat))) opAdd := by
  intro g S H x y dx dy d Q w rx ry e k
  cases dx with
  | int i =>
    cases dy with
    | int j => cases e; cases rx; cases ry; exact .inl ⟨_, _, rfl, rfl, k _ g H (GExt.refl _) w (.int _)⟩
    | _ => cases e
  | str i =>
    cases dy with
    | str j =>
      cases rx; cases ry
      have e' : (if i.length + j.length ≤ lim then some (D.str (i ++ j)) else none) = some d := e
      by_cases q : i.length + j.length ≤ lim
      · rw [if_pos q] at e'; cases e'
        exact .inr (.inl ⟨_, _, rfl, rfl, lim_le q, k _ g H (GExt.refl _) w (.str _)⟩)
      · rw [if_neg q] at e'; cases e'
    | _ => cases e
  | tup a =>
    cases dy with
    | tup b =>
      cases rx with
      | @tup ad xs _ s r =>
      cases ry with
      | @tup bd ys _ s2 r2 =>
      have e' : (if a.length + b.length ≤ lim then some (D.tup (a ++ b)) else none) = some d := e
      by_cases q : a.length + b.length ≤ lim
      · rw [if_pos q] at e'; cases e'
        refine .inr (.inr (.inl ⟨_, _, _, _, rfl, rfl, sqtMono w.sub s, sqtMono w.sub s2, ?_, fun h0 => ?_, fun h1 h0 => ?_, fun h1 h2 p hp => ?_⟩))
        · rw [← r.length, ← r2.length]; exact lim_le q
        · subst h0
          have : a = [] := List.length_eq_zero_iff.mp (by rw [r.length]; rfl)
          subst this
          exact k _ g H (GExt.refl _) w (.tup s2 r2)
        · subst h0
          have : b = [] := List.length_eq_zero_iff.mp (by rw [r2.length]; rfl)
          subst this
          rw [List.append_nil] at k
          exact k _ g H (GExt.refl _) w (.tup s r)
        · obtain ⟨w2, e2⟩ := w.add (o := .tup (xs ++ ys)) hp
          exact k _ _ _ e2 w2 (.tup (SqT.of upd_same) (e2.reps (r.append r2)))
      · rw [if_neg q] at e'; cases e'
    | _ => cases e
  | lst a =>
    cases dy with
    | lst b =>
      cases rx with
      | @lst ad xs _ s r =>
      cases ry with
      | @lst bd ys _ s2 r2 =>
      have e' : (if a.length + b.length ≤ lim then some (D.lst (a ++ b)) else none) = some d := e
      by_cases q : a.length + b.length ≤ lim
      · rw [if_pos q] at e'; cases e'
        refine .inr (.inr (.inr ⟨_, _, _, _, rfl, rfl, w.sub _ _ s, w.sub _ _ s2, ?_, fun p hp => ?_⟩))
        · rw [← r.length, ← r2.length]; exact lim_le q
        · obtain ⟨w2, e2⟩ := w.add (o := .lst (xs ++ ys)) hp
          exact k _ _ _ e2 w2 (.lst upd_same (e2.reps (r.append r2)))
      · rw [if_neg q] at e'; cases e'
    | _ => cases e
  | _ => cases e
theorem l_sub : L2r X.K (rI0 fun i j => .int (i - j)) opSub := by
  intro g S H x y dx dy d Q w rx ry e k
  cases dx with
  | int i =>
    cases dy with
    | int j => cases e; cases rx; cases ry; exact ⟨_, _, rfl, rfl, k _ g H (GExt.refl _) w (.int _)⟩
    | _ => cases e
  | _ => cases e
abbrev rMulI : R2 := rI CMul fun i j => .int (i * j)
theorem or_mul : OpR X (binaryOp .Mult) (rOr rMulI (rOr (rRepT X.K) rRep)) := op_mul.or (op_repT.or op_rep)
theorem l_mul : L2r X.K (rOr rMulI (rOr (rRepT X.K) rRep)) opMul := by
  intro g S H x y dx dy d Q w rx ry e k
  cases dx with
  | int i =>
    cases dy with
    | int j =>
      cases rx; cases ry
      have e' : (if i.natAbs < 18446744073709551616 ∨ j.natAbs < 18446744073709551616 then some (D.int (i * j)) else none) = some d := e
      by_cases q : i.natAbs < 18446744073709551616 ∨ j.natAbs < 18446744073709551616
      · rw [if_pos q] at e'; cases e'
        refine .inl ⟨_, _, rfl, rfl, ?_, k _ g H (GExt.refl _) w (.int _)⟩
        unfold CMul; omega
      · rw [if_neg q] at e'; cases e'
    | _ => cases e
  | tup a =>
    cases dy with
    | int j =>
      cases ry
      cases rx with
      | @tup ad xs _ s r =>
      have e' : (if a.length ≠ 0 ∧ 2 ≤ j ∧ j ≤ 1000 ∧ a.length ≤ 1000 then some (D.tup (List.replicate j.toNat a).flatten) else none) = some d := e
      by_cases q : a.length ≠ 0 ∧ 2 ≤ j ∧ j ≤ 1000 ∧ a.length ≤ 1000
      · rw [if_pos q] at e'; cases e'
        have hl := r.length
        refine .inr (.inl ⟨_, _, _, rfl, rfl, sqtMono w.sub s, fun z => ?_, q.2.1, q.2.2.1, by rw [← hl]; exact q.2.2.2, fun p hp => ?_⟩)
        · subst z; exact q.1 hl
        · obtain ⟨w2, e2⟩ := w.add (o := .tup (List.replicate j.toNat xs).flatten) hp
          exact k _ _ _ e2 w2 (.tup (SqT.of upd_same) (e2.reps (r.rep _)))
      · rw [if_neg q] at e'; cases e'
    | _ => cases e
  | lst a =>
    cases dy with
    | int j =>
      cases ry
      cases rx with
      | @lst ad xs _ s r =>
      have e' : (if -1000 ≤ j ∧ j ≤ 1000 ∧ a.length ≤ 1000 then some (D.lst (List.replicate j.toNat a).flatten) else none) = some d := e
      by_cases q : -1000 ≤ j ∧ j ≤ 1000 ∧ a.length ≤ 1000
      · rw [if_pos q] at e'; cases e'
        have hl := r.length
        refine .inr (.inr ⟨_, _, _, rfl, rfl, w.sub _ _ s, by omega, by omega, ?_, fun p hp => ?_⟩)
        · rw [← hl]
          have h1 : j.toNat ≤ 1000 := by omega
          exact Nat.le_trans (Nat.mul_le_mul q.2.2 h1) (by decide)
        · obtain ⟨w2, e2⟩ := w.add (o := .lst (List.replicate j.toNat xs).flatten) hp
          exact k _ _ _ e2 w2 (.lst upd_same (e2.reps (r.rep _)))
      · rw [if_neg q] at e'; cases e'
    | _ => cases e
  | _ => cases e
theorem l_mod : L2r X.K (rI (fun _ j => 0 < j) fun i j => .int (i % j)) opMod := by
  intro g S H x y dx dy d Q w rx ry e k
  cases dx with
  | int i =>
    cases dy with
    | int j =>
      cases rx; cases ry
      have e' : (if 0 < j then some (D.int (i % j)) else none) = some d := e
      by_cases q : 0 < j
      · rw [if_pos q] at e'; cases e'
        exact ⟨_, _, rfl, rfl, q, k _ g H (GExt.refl _) w (.int _)⟩
      · rw [if_neg q] at e'; cases e'
    | _ => cases e
  | _ => cases e
theorem l_div : L2r X.K (rI CDiv fun i j => .int (i / j)) opDiv := by
  intro g S H x y dx dy d Q w rx ry e k
  cases dx with
  | int i =>
    cases dy with
    | int j =>
      cases rx; cases ry
      have e' : (if 0 < j ∧ j < 1073741824 then some (D.int (i / j)) else none) = some d := e
      by_cases q : 0 < j ∧ j < 1073741824
      · rw [if_pos q] at e'; cases e'
        exact ⟨_, _, rfl, rfl, q, k _ g H (GExt.refl _) w (.int _)⟩
      · rw [if_neg q] at e'; cases e'
    | _ => cases e
  | _ => cases e
theorem l_neg : L1r X.K (rU fun i => .int (-i)) opNeg := by
  intro g S H x dx d Q w rx e k
  cases dx with
  | int i => cases e; cases rx; exact ⟨_, rfl, k _ g H (GExt.refl _) w (.int _)⟩
  | _ => cases e
end
/-! ### comparisons -/
def opCmp (p : Int → Int → Bool) : Sto → D → D → Option D := fun _ x y => match x, y with
  | .int i, .int j => some (.bl (p i j))
  | _, _ => none
abbrev opLt := opCmp fun i j => decide (i < j)
abbrev opLe := opCmp fun i j => decide (i ≤ j)
abbrev opGt := opCmp fun i j => decide (j < i)
abbrev opGe := opCmp fun i j => decide (j ≤ i)
theorem l_cmp {K : PySem.W.Frag} {p : Int → Int → Bool} : L2r K (rI0 fun i j => .bl (p i j)) (opCmp p) := by
  intro g S H x y dx dy d Q w rx ry e k
  cases dx with
  | int i =>
    cases dy with
    | int j => cases e; cases rx; cases ry; exact ⟨_, _, rfl, rfl, k _ g H (GExt.refl _) w (.bl _)⟩
    | _ => cases e
  | _ => cases e
mutual
def D.toP : D → PyData
  | .non => .none
  | .bl b => .bool b
  | .int i => .int i
  | .str s => .str s
  | .tup l => .tuple (D.toPs l)
  | .lst l => .list (D.toPs l)
  | .scr l => .list (D.toPs l)
  | .obj _ => .none
def D.toPs : List D → List PyData
  | [] => []
  | d :: ds => D.toP d :: D.toPs ds
end
mutual
/-- no object of the store within, all texts in order -/
def D.wf : D → Bool
  | .str s => PyData.strOk s
  | .tup l => D.wfs l
  | .lst l => D.wfs l
  | .scr l => D.wfs l
  | .obj _ => false
  | _ => true
def D.wfs : List D → Bool
  | [] => true
  | d :: ds => D.wf d && D.wfs ds
end
mutual
def D.dep : D → Nat
  | .tup l => D.deps l + 1
  | .lst l => D.deps l + 1
  | .scr l => D.deps l + 1
  | _ => 0
def D.deps : List D → Nat
  | [] => 0
  | d :: ds => max (D.dep d) (D.deps ds)
end
section
variable {K : PySem.W.Frag} {F H : Hp} {α : List Addr}
mutual
theorem Rep.dp (sub : ∀ a o, F a = some o → H a = some o) : ∀ {d : D} {v : V}, d.wf = true → Rep K F α d v → Dp K H v d.toP
  | _, _, _, .non => .non
  | _, _, _, .bl b => .bl b
  | _, _, _, .int i => .int i
  | _, _, _, .str s => .str s
  | _, _, h, .tup s r => .tup (sqtMono sub s) (Reps.dp sub h r)
  | _, _, h, .lst s r => .lst (SqL.of (sub _ _ s)) (Reps.dp sub h r)
  | _, _, h, .scr s r => .lst (sqlMono sub s) (Reps.dp sub h r)
  | _, _, h, .obj e => nomatch h
theorem Reps.dp (sub : ∀ a o, F a = some o → H a = some o) : ∀ {ds : List D} {vs : List V}, D.wfs ds = true → Reps K F α ds vs → DpAll K H vs (D.toPs ds)
  | _, _, _, .nil => .nil
  | _, _, h, .cons r t => by
    have h' := Bool.and_eq_true_iff.mp h
    exact .cons (Rep.dp sub h'.1 r) (Reps.dp sub h'.2 t)
end
end
mutual
theorem canLay_of : ∀ (d : D), d.wf = true → d.toP.canLay0 = true
  | .non, _ => rfl
  | .bl _, _ => rfl
  | .int _, _ => rfl
  | .str _, h => h
  | .tup l, h => canLays_of l h
  | .lst l, h => canLays_of l h
  | .scr l, h => canLays_of l h
  | .obj _, h => nomatch h
theorem canLays_of : ∀ (l : List D), D.wfs l = true → PyData.canLayAll0 (D.toPs l) = true
  | [], _ => rfl
  | d :: ds, h => by
    have h' := Bool.and_eq_true_iff.mp h
    show (d.toP.canLay0 && PyData.canLayAll0 (D.toPs ds)) = true
    rw [canLay_of d h'.1, canLays_of ds h'.2]; rfl
end
mutual
theorem dep_of : ∀ (d : D), d.toP.depth = d.dep
  | .non => rfl
  | .bl _ => rfl
  | .int _ => rfl
  | .str _ => rfl
  | .tup l => congrArg (· + 1) (deps_of l)
  | .lst l => congrArg (· + 1) (deps_of l)
  | .scr l => congrArg (· + 1) (deps_of l)
  | .obj _ => rfl
theorem deps_of : ∀ (l : List D), PyData.depthAll (D.toPs l) = D.deps l
  | [] => rfl
  | d :: ds => by
    show max d.toP.depth (PyData.depthAll (D.toPs ds)) = _
    rw [dep_of d, deps_of ds]; rfl
end
def D.good (d : D) : Bool := d.wf && decide (d.dep ≤ 60)
theorem good_wf {d : D} (h : d.good = true) : d.wf = true := (Bool.and_eq_true_iff.mp h).1
theorem good_shaped {d : D} (h : d.good = true) : SeqAt.shaped d.toP = true := by
  have h' := Bool.and_eq_true_iff.mp h
  unfold SeqAt.shaped
  rw [canLay_of d h'.1, dep_of, decide_eq_true (Nat.le_trans (of_decide_eq_true h'.2) (by decide))]; rfl
def D.eqv (x y : D) : Bool := PyData.eqv x.toP y.toP
def opEq : Sto → D → D → Option D := fun _ x y => if x.good && y.good then some (.bl (x.eqv y)) else none
def opNe : Sto → D → D → Option D := fun _ x y => if x.good && y.good then some (.bl !(x.eqv y)) else none
section
variable {X : Cx}
theorem l_eq : L2r X.K (rEqD X.K) opEq := by
  intro g S H x y dx dy d Q w rx ry e k
  unfold opEq at e
  cases q : (dx.good && dy.good) with
  | false => rw [q] at e; cases e
  | true =>
    rw [q] at e; cases e
    have h' := Bool.and_eq_true_iff.mp q
    exact ⟨_, _, rx.dp w.sub (good_wf h'.1), ry.dp w.sub (good_wf h'.2), good_shaped h'.1, good_shaped h'.2, k _ g H (GExt.refl _) w (.bl _)⟩
theorem l_ne : L2r X.K (rNeD X.K) opNe := by
  intro g S H x y dx dy d Q w rx ry e k
  unfold opNe at e
  cases q : (dx.good && dy.good) with
  | false => rw [q] at e; cases e
  | true =>
    rw [q] at e; cases e
    have h' := Bool.and_eq_true_iff.mp q
    exact ⟨_, _, rx.dp w.sub (good_wf h'.1), ry.dp w.sub (good_wf h'.2), good_shaped h'.1, good_shaped h'.2, k _ g H (GExt.refl _) w (.bl _)⟩
end
end Bt
namespace Bt
open PySem PySem.Spec PyProof.Rows L2
/-! ### items, slices -/
theorem atI_rep {K : PySem.W.Frag} {g : G} {l : List D} {xs : List V} {i : Int} {d : D} (r : RepsG K g l xs) (h : atI l i = some d) : ∃ v, atI xs i = some v ∧ RepG K g d v := by
  unfold atI at h ⊢
  rw [← r.length]
  cases e : ixN l.length i with
  | none => rw [e] at h; cases h
  | some j =>
    rw [e] at h
    exact r.get h
def opIx : Sto → D → D → Option D := fun S x y => match y with
  | .int i => (match x with
    | .tup l => atI l i
    | .str s => if s.length ≤ lim then (atI s.cps.toList i).map fun c => .str ⟨#[c]⟩ else none
    | _ => (match seqOf S x with
      | some l => atI l i
      | none => none))
  | _ => none
section
variable {X : Cx}
theorem l_ix : L2r X.K (rIx X.K) opIx := by
  intro g S H x y dx dy d Q w rx ry e k
  cases dy with
  | int i =>
    cases ry
    have seq : ∀ {d : D}, (match seqOf S dx with | some l => atI l i | none => none) = some d → (∀ v g' H', GExt g g' → World X.K g' S H' → RepG X.K g' d v → Q v H') → rIx X.K x (.int i) H Q := fun {d} e k => by
      cases q : seqOf S dx with
      | none => rw [q] at e; cases e
      | some l =>
        rw [q] at e
        obtain ⟨a, xs, rfl, h1, h2⟩ := seqOf_rep w rx q
        obtain ⟨v, h3, h4⟩ := atI_rep h2 e
        exact .inl ⟨_, _, _, _, rfl, rfl, h1, h3, k v g H (GExt.refl _) w h4⟩
    cases dx with
    | tup l =>
      cases rx with
      | @tup a xs _ s r =>
        obtain ⟨v, h3, h4⟩ := atI_rep r (show atI l i = some d from e)
        exact .inr (.inl ⟨_, _, _, _, rfl, rfl, sqtMono w.sub s, h3, k v g H (GExt.refl _) w h4⟩)
    | str s =>
      cases rx
      have e' : (if s.length ≤ lim then (atI s.cps.toList i).map fun c => D.str ⟨#[c]⟩ else none) = some d := e
      by_cases q : s.length ≤ lim
      · rw [if_pos q] at e'
        cases q2 : atI s.cps.toList i with
        | none => rw [q2] at e'; cases e'
        | some c =>
          rw [q2] at e'; cases e'
          exact .inr (.inr ⟨_, _, c, rfl, rfl, lim_le q, q2, k _ g H (GExt.refl _) w (.str _)⟩)
      · rw [if_neg q] at e'; cases e'
    | lst l => exact seq e k
    | scr l => exact seq e k
    | obj l => exact seq e k
    | _ => cases e
  | _ => cases e
end
/-- a part of a slice -/
def tO (K : PySem.W.Frag) (W : WX) (f : Ex) : TO := fun σ H Q => ∃ g S ρ, World K g S H ∧ RelSt K g σ ρ ∧ match f ρ S with
  | .ok .non S' => ∀ g' H', GExt g g' → World K g' S' H' → Q none H'
  | .ok (.int i) S' => ∀ g' H', GExt g g' → World K g' S' H' → Q (some i) H'
  | .exc k S' => ∀ g' H', GExt g g' → World K g' S' H' → W (excV K k) none σ H'
  | _ => False
structure JOp (X : Cx) (W : WX) (e : Option Expr) (f : Ex) : Prop where
  t : ∃ t, PO X e t ∧ ∀ σ H Q, tO X.K W f σ H Q → t σ H Q
def eNo : Ex := fun _ S => .ok .non S
def eInt (f : Ex) : Ex := fun ρ S => (f ρ S).bind fun d S1 => match d with
  | .int i => .ok (.int i) S1
  | _ => .bad
theorem jo_none {X : Cx} {W : WX} : JOp X W none eNo := ⟨_, po_none, fun σ H Q ⟨g, S, ρ, w, rs, q⟩ => q g H (GExt.refl _) w⟩
theorem jo_some {X : Cx} {W : WX} {e : Expr} {f : Ex} (h : JE X W e f) : JOp X W (some e) (eInt f) := ⟨_, po_some h.run, fun σ H Q ⟨g, S, ρ, w, rs, q⟩ => by
  refine ⟨g, S, ρ, w, rs, ?_⟩
  unfold eInt at q
  cases e : f ρ S with
  | bad => rw [e] at q; exact q
  | exc k S1 => rw [e] at q; exact q
  | ok d S1 =>
    rw [e] at q
    cases d with
    | int i =>
      intro v g1 H1 x1 w1 r1
      cases r1
      exact ⟨i, rfl, q g1 H1 x1 w1⟩
    | _ => exact q.elim⟩
def cutD (l : List D) (lo hi : Option Int) : List D := (l.drop (HT.sIx l.length 0 lo)).take (HT.sIx l.length l.length hi - HT.sIx l.length 0 lo)
def partD (d : D) (k : Option Int → ER) : ER := match d with
  | .non => k none
  | .int i => k (some i)
  | _ => .bad
@[simp] theorem partD_non (k : Option Int → ER) : partD .non k = k none := rfl
@[simp] theorem partD_int (i : Int) (k : Option Int → ER) : partD (.int i) k = k (some i) := rfl
def opSl (x : D) (lo hi : Option Int) : Option D := match x with
  | .tup l => some (.tup (cutD l lo hi))
  | .lst l => some (.lst (cutD l lo hi))
  | .scr l => some (.lst (cutD l lo hi))
  | .str s => if s.length ≤ lim then some (.str (cutS s lo hi)) else none
  | _ => none
def eSl (fx flo fhi : Ex) : Ex := fun ρ S => (fx ρ S).bind fun x S1 => (flo ρ S1).bind fun dl S2 => partD dl fun l => (fhi ρ S2).bind fun dh S3 => partD dh fun h => lift1 (opSl x l h) S3
theorem cut_rep {K : PySem.W.Frag} {g : G} {l : List D} {xs : List V} (r : RepsG K g l xs) (lo hi : Option Int) : RepsG K g (cutD l lo hi) (cutV xs lo hi) := by
  unfold cutD cutV
  rw [r.length]
  exact (r.drop _).take _
abbrev rSlAll (K : PySem.W.Frag) : V → Option Int → Option Int → Hp → VK → Prop := fun x lo hi H Q => rSlA K x lo hi H Q ∨ (rSlL K x lo hi H Q ∨ rSlS x lo hi H Q)
section
variable {X : Cx} {W : WX} {e : Expr} {lo hi : Option Expr} {fx flo fhi : Ex} {p2 pos : Pos}
theorem sl_all : SlR X (rSlAll X.K) := sl_tupA.or (sl_list.or sl_str)
theorem je_sl (hx : JE X W e fx) (hl : JOp X W lo flo) (hh : JOp X W hi fhi) : JE X W (.Subscript e (.Slice lo hi none p2) pos) (eSl fx flo fhi) := by
  obtain ⟨tl, pl, il⟩ := hl.t
  obtain ⟨th, ph, ih⟩ := hh.t
  refine ⟨peImp (pe_slice sl_all hx.run pl ph) fun σ H Q ⟨g, S, ρ, w, rs, q⟩ => ?_⟩
  refine ⟨g, S, ρ, w, rs, Post.of_bind q fun dx S1 x g1 H1 _ e1 w1 r1 q1 => ?_⟩
  have fin : ∀ {g3 : G} {S3 : Sto} {H3 : Hp} {l h : Option Int}, GExt g1 g3 → World X.K g3 S3 H3 → Post X.K W σ g3 Q (lift1 (opSl dx l h) S3) → rSlAll X.K x l h H3 Q := fun {g3 S3 H3 l h} e3 w3 q3 => by
    have r3 := e3.rep r1
    cases dx with
    | tup ls =>
      cases r3 with
      | @tup a xs _ s r =>
      refine .inl ⟨_, _, rfl, sqtMono w3.sub s, fun z => ?_, fun z p hp => ?_⟩
      · refine Post.val (d := .tup (cutD ls l h)) (S := S3) q3 w3 ?_
        have : cutV xs l h = xs := by
          unfold cutV
          rw [z.1, z.2]; simp
        have cr := cut_rep r l h
        rw [this] at cr
        exact .tup s cr
      · obtain ⟨w4, e4⟩ := w3.add (o := .tup (cutV xs l h)) hp
        exact Post.valE (d := .tup (cutD ls l h)) (S := S3) q3 e4 w4 (.tup (SqT.of upd_same) (e4.reps (cut_rep r l h)))
    | lst ls =>
      cases r3 with
      | @lst a xs _ s r =>
      refine .inr (.inl ⟨_, _, rfl, SqL.of (w3.sub _ _ s), fun p hp => ?_⟩)
      obtain ⟨w4, e4⟩ := w3.add (o := .lst (cutV xs l h)) hp
      exact Post.valE (d := .lst (cutD ls l h)) (S := S3) q3 e4 w4 (.lst upd_same (e4.reps (cut_rep r l h)))
    | scr ls =>
      cases r3 with
      | @scr a xs _ s r =>
      refine .inr (.inl ⟨_, _, rfl, sqlMono w3.sub s, fun p hp => ?_⟩)
      obtain ⟨w4, e4⟩ := w3.add (o := .lst (cutV xs l h)) hp
      exact Post.valE (d := .lst (cutD ls l h)) (S := S3) q3 e4 w4 (.lst upd_same (e4.reps (cut_rep r l h)))
    | str s =>
      cases r3
      by_cases q : s.length ≤ lim
      · have q4 : Post X.K W σ g3 Q (lift1 (if s.length ≤ lim then some (.str (cutS s l h)) else none) S3) := q3
        rw [if_pos q] at q4
        exact .inr (.inr ⟨_, rfl, lim_le q, Post.val (d := .str (cutS s l h)) (S := S3) q4 w3 (.str _)⟩)
      · have q4 : Post X.K W σ g3 Q (lift1 (if s.length ≤ lim then some (.str (cutS s l h)) else none) S3) := q3
        rw [if_neg q] at q4; exact q4.elim
    | _ => exact q3.elim
  have second : ∀ {g2 : G} {S2 : Sto} {H2 : Hp} {l : Option Int}, GExt g1 g2 → World X.K g2 S2 H2 → Post X.K W σ g2 Q ((fhi ρ S2).bind fun dh S3 => partD dh fun h => lift1 (opSl dx l h) S3) → th σ H2 fun u H3 => rSlAll X.K x l u H3 Q := fun {g2 S2 H2 l} e2 w2 q2 => by
    refine ih _ _ _ ⟨g2, S2, ρ, w2, rs.mono (e1.trans e2), ?_⟩
    cases eh : fhi ρ S2 with
    | bad => rw [eh] at q2; exact q2
    | exc k S3 => rw [eh] at q2; exact q2
    | ok d S3 =>
      rw [eh] at q2
      cases d with
      | non => exact fun g3 H3 x3 w3 => fin (e2.trans x3) w3 (Post.ext q2 x3)
      | int i => exact fun g3 H3 x3 w3 => fin (e2.trans x3) w3 (Post.ext q2 x3)
      | _ => exact q2.elim
  refine il _ _ _ ⟨g1, S1, ρ, w1, rs.mono e1, ?_⟩
  cases el : flo ρ S1 with
  | bad => rw [el] at q1; exact q1
  | exc k S3 => rw [el] at q1; exact q1
  | ok d S2 =>
    rw [el] at q1
    cases d with
    | non => exact fun g2 H2 x2 w2 => second x2 w2 (Post.ext q1 x2)
    | int i => exact fun g2 H2 x2 w2 => second x2 w2 (Post.ext q1 x2)
    | _ => exact q1.elim
end
/-! ### in -/
section
variable {X : Cx}
theorem room_in_shaped' {A : Around} {d : PyData} {ds : List PyData} (h : SeqAt.shaped d = true) (hu : A.units + 65 < cLine) : A.units + 1 + min (PyData.depthAll ds) d.depth < cLine := by
  have := SeqAt.depth_of_shaped h
  have h2 : min (PyData.depthAll ds) d.depth ≤ d.depth := Nat.min_le_right _ _
  omega
def rInT (K : PySem.W.Frag) : R2 := fun x y H Q => ∃ d ds, Dp K H x d ∧ Dp K H y (.tuple ds) ∧ SeqAt.shaped d = true ∧ SeqAt.shaped (.tuple ds) = true ∧ Q (.bl (ds.any fun z => PyData.eqv z d)) H
def rNotInT (K : PySem.W.Frag) : R2 := fun x y H Q => ∃ d ds, Dp K H x d ∧ Dp K H y (.tuple ds) ∧ SeqAt.shaped d = true ∧ SeqAt.shaped (.tuple ds) = true ∧ Q (.bl (!ds.any fun z => PyData.eqv z d)) H
theorem op_inT (hu : X.A.units + 65 < cLine) : OpR X (compareOp .In) (rInT X.K) := by
  intro pins s σ H x y v u Q I rx ry h
  obtain ⟨d, ds, hd, he, sd, se, q⟩ := h
  obtain ⟨as, r1⟩ := Dp.reads I d x v hd rx
  obtain ⟨bs, r2⟩ := Dp.reads I (.tuple ds) y u he ry
  exact SeqAt.in_tuple_reads r2 r1 (SeqAt.canLay_of_shaped se) (SeqAt.canLay_of_shaped sd) (room_in_shaped' sd hu) ⟨.bl _, H, I, rfl, q⟩
theorem op_notInT (hu : X.A.units + 65 < cLine) : OpR X (compareOp .NotIn) (rNotInT X.K) := by
  intro pins s σ H x y v u Q I rx ry h
  obtain ⟨d, ds, hd, he, sd, se, q⟩ := h
  obtain ⟨as, r1⟩ := Dp.reads I d x v hd rx
  obtain ⟨bs, r2⟩ := Dp.reads I (.tuple ds) y u he ry
  exact SeqAt.notIn_tuple_reads r2 r1 (SeqAt.canLay_of_shaped se) (SeqAt.canLay_of_shaped sd) (room_in_shaped' sd hu) ⟨.bl _, H, I, rfl, q⟩
end
def memD (x : D) (l : List D) : Bool := l.any fun z => z.eqv x
def opInB (neg : Bool) : Sto → D → D → Option D := fun S x y => match y with
  | .tup l => if x.good && (D.tup l).good then some (.bl (if neg then !memD x l else memD x l)) else none
  | .str z => (match x with
    | .str c => (match c.cps.toList with
      | [n] => some (.bl (if neg then !decide (n ∈ z.cps.toList) else decide (n ∈ z.cps.toList)))
      | _ => none)
    | _ => none)
  | _ => (match seqOf S y with
    | some l => if x.good && (D.lst l).good then some (.bl (if neg then !memD x l else memD x l)) else none
    | none => none)
abbrev opIn := opInB false
abbrev opNotIn := opInB true
theorem memD_any (x : D) : ∀ l : List D, (D.toPs l).any (fun z => PyData.eqv z x.toP) = memD x l
  | [] => rfl
  | d :: ds => by
    show (PyData.eqv d.toP x.toP || (D.toPs ds).any _) = _
    rw [memD_any x ds]; rfl
abbrev rSign (neg : Bool) : R2 := fun x y H Q => ∃ (c : Nat) (z : Str), x = .str ⟨#[c]⟩ ∧ y = .str z ∧ Q (.bl (if neg then !decide (c ∈ z.cps.toList) else decide (c ∈ z.cps.toList))) H
abbrev rInAll (K : PySem.W.Frag) : R2 := rOr (rInT K) (rOr (rInD K) (rSign false))
abbrev rNotInAll (K : PySem.W.Frag) : R2 := rOr (rNotInT K) (rOr (rNotInD K) (rSign true))
section
variable {X : Cx}
theorem or_in (hu : X.A.units + 65 < cLine) : OpR X (compareOp .In) (rInAll X.K) := (op_inT hu).or ((op_inD hu).or op_in_sign)
theorem or_notIn (hu : X.A.units + 65 < cLine) : OpR X (compareOp .NotIn) (rNotInAll X.K) := (op_notInT hu).or ((op_notInD hu).or op_notIn_sign)
theorem str_one {c : Str} {n : Nat} (h : c.cps.toList = [n]) : c = ⟨#[n]⟩ := by
  obtain ⟨a⟩ := c
  have : a = #[n] := by
    apply Array.toList_inj.mp
    exact h
  rw [this]
theorem l_in : L2r X.K (rInAll X.K) opIn := by
  intro g S H x y dx dy d Q w rx ry e k
  have seq : (match seqOf S dy with | some l => if dx.good && (D.lst l).good then some (D.bl (memD dx l)) else none | none => none) = some d → rInAll X.K x y H Q := fun e => by
    cases q : seqOf S dy with
    | none => rw [q] at e; cases e
    | some l =>
      rw [q] at e
      have e' : (if dx.good && (D.lst l).good then some (D.bl (memD dx l)) else none) = some d := e
      cases q2 : (dx.good && (D.lst l).good) with
      | false => rw [q2] at e'; cases e'
      | true =>
        rw [q2] at e'; cases e'
        have h' := Bool.and_eq_true_iff.mp q2
        obtain ⟨a, xs, rfl, h1, h2⟩ := seqOf_rep w ry q
        refine .inr (.inl ⟨dx.toP, D.toPs l, rx.dp w.sub (good_wf h'.1), .lst h1 (h2.dp w.sub (good_wf h'.2)), good_shaped h'.1, good_shaped (d := .lst l) h'.2, ?_⟩)
        rw [memD_any]
        exact k _ g H (GExt.refl _) w (.bl _)
  cases dy with
  | tup l =>
    have e' : (if dx.good && (D.tup l).good then some (D.bl (memD dx l)) else none) = some d := e
    cases q2 : (dx.good && (D.tup l).good) with
    | false => rw [q2] at e'; cases e'
    | true =>
      rw [q2] at e'; cases e'
      have h' := Bool.and_eq_true_iff.mp q2
      refine .inl ⟨dx.toP, D.toPs l, rx.dp w.sub (good_wf h'.1), ry.dp w.sub (good_wf h'.2), good_shaped h'.1, good_shaped (d := .tup l) h'.2, ?_⟩
      rw [memD_any]
      exact k _ g H (GExt.refl _) w (.bl _)
  | str z =>
    cases ry
    cases dx with
    | str c =>
      cases rx
      have e' : (match c.cps.toList with | [n] => some (D.bl (decide (n ∈ z.cps.toList))) | _ => none) = some d := e
      cases q : c.cps.toList with
      | nil => rw [q] at e'; cases e'
      | cons n r =>
        cases r with
        | nil =>
          rw [q] at e'; cases e'
          rw [str_one q]
          exact .inr (.inr ⟨n, z, rfl, rfl, k _ g H (GExt.refl _) w (.bl _)⟩)
        | cons m r => rw [q] at e'; cases e'
    | _ => cases e
  | lst l => exact seq e
  | scr l => exact seq e
  | obj n => exact seq e
  | non => exact seq e
  | bl b => exact seq e
  | int i => exact seq e
theorem l_notIn : L2r X.K (rNotInAll X.K) opNotIn := by
  intro g S H x y dx dy d Q w rx ry e k
  have seq : (match seqOf S dy with | some l => if dx.good && (D.lst l).good then some (D.bl (!memD dx l)) else none | none => none) = some d → rNotInAll X.K x y H Q := fun e => by
    cases q : seqOf S dy with
    | none => rw [q] at e; cases e
    | some l =>
      rw [q] at e
      have e' : (if dx.good && (D.lst l).good then some (D.bl (!memD dx l)) else none) = some d := e
      cases q2 : (dx.good && (D.lst l).good) with
      | false => rw [q2] at e'; cases e'
      | true =>
        rw [q2] at e'; cases e'
        have h' := Bool.and_eq_true_iff.mp q2
        obtain ⟨a, xs, rfl, h1, h2⟩ := seqOf_rep w ry q
        refine .inr (.inl ⟨dx.toP, D.toPs l, rx.dp w.sub (good_wf h'.1), .lst h1 (h2.dp w.sub (good_wf h'.2)), good_shaped h'.1, good_shaped (d := .lst l) h'.2, ?_⟩)
        rw [memD_any]
        exact k _ g H (GExt.refl _) w (.bl _)
  cases dy with
  | tup l =>
    have e' : (if dx.good && (D.tup l).good then some (D.bl (!memD dx l)) else none) = some d := e
    cases q2 : (dx.good && (D.tup l).good) with
    | false => rw [q2] at e'; cases e'
    | true =>
      rw [q2] at e'; cases e'
      have h' := Bool.and_eq_true_iff.mp q2
      refine .inl ⟨dx.toP, D.toPs l, rx.dp w.sub (good_wf h'.1), ry.dp w.sub (good_wf h'.2), good_shaped h'.1, good_shaped (d := .tup l) h'.2, ?_⟩
      rw [memD_any]
      exact k _ g H (GExt.refl _) w (.bl _)
  | str z =>
    cases ry
    cases dx with
    | str c =>
      cases rx
      have e' : (match c.cps.toList with | [n] => some (D.bl (!decide (n ∈ z.cps.toList))) | _ => none) = some d := e
      cases q : c.cps.toList with
      | nil => rw [q] at e'; cases e'
      | cons n r =>
        cases r with
        | nil =>
          rw [q] at e'; cases e'
          rw [str_one q]
          exact .inr (.inr ⟨n, z, rfl, rfl, k _ g H (GExt.refl _) w (.bl _)⟩)
        | cons m r => rw [q] at e'; cases e'
    | _ => cases e
  | lst l => exact seq e
  | scr l => exact seq e
  | obj n => exact seq e
  | non => exact seq e
  | bl b => exact seq e
  | int i => exact seq e
end
/-! ### is None -/
def eIsN (neg : Bool) (fa : Ex) : Ex := fun ρ S => (fa ρ S).bind fun d S1 => match d with
  | .non => .ok (.bl !neg) S1
  | _ => .ok (.bl neg) S1
section
variable {X : Cx} {W : WX} {a : Expr} {fa : Ex} {pos pos' : Pos} {j : Nat}
theorem rep_non {K : PySem.W.Frag} {g : G} {d : D} {v : V} (r : RepG K g d v) : decide (v = .non) = (match d with | .non => true | _ => false) := by
  cases r <;> simp
theorem jt_isN' {neg : Bool} {op : CmpOp} {t : TE} (h : PC X op a (.Constant .none j pos') t) (hm : behindInMarks op (.Constant .none j pos') = false) (k : ∀ σ H Q, tE X.K W (eIsN neg fa) σ H Q → t σ H Q) : JT X W (.Compare a [op] [.Constant .none j pos'] pos) (eIsN neg fa) :=
  ⟨ptImp (pt_cmp h hm) fun σ H Q ⟨g, S, ρ, w, rs, q⟩ => k σ H _ ⟨g, S, ρ, w, rs, by
    cases e : eIsN neg fa ρ S with
    | bad => rw [e] at q; exact q
    | exc k S' => rw [e] at q; exact q
    | ok d S' =>
      rw [e] at q
      cases d with
      | bl b =>
        intro v g' H' x w r
        cases r
        exact ⟨b, rfl, q g' H' x w⟩
      | _ => exact q.elim⟩⟩
theorem jt_isN (ha : JE X W a fa) : JT X W (.Compare a [.Is] [.Constant .none j pos'] pos) (eIsN false fa) :=
  jt_isN' (pc_isN ha.run) rfl fun σ H Q ⟨g, S, ρ, w, rs, q⟩ => ⟨g, S, ρ, w, rs, Post.of_bind q fun d S1 v g1 H1 _ e1 w1 r1 q1 => by
    rw [rep_non r1]
    cases d <;> exact Post.val (S := S1) q1 w1 (.bl _)⟩
end
end Bt
namespace Bt
open PySem PySem.Spec PyProof.Rows L2
/-! ### built-in functions -/
def eCallB (F : Sto → List D → Option D) (fa : Ex) : Ex := fun ρ S => (fa ρ S).bind fun t S1 => match t with
  | .tup l => lift1 (F S1 l) S1
  | _ => .bad
section
variable {X : Cx} {W : WX} {x : Str} {id T : String} {e : Expr} {es : List Expr} {fa : Ex} {p pos : Pos} {r : List V → Hp → VK → Prop} {F : Sto → List D → Option D}
theorem tCB_of {K : PySem.W.Frag} (l : LAr K r F) : ∀ σ H Q, tE K W (eCallB F fa) σ H Q → tCB r (tA K W fa) σ H Q := fun σ H Q ⟨g, S, ρ, w, rs, q⟩ =>
  ⟨g, S, ρ, w, rs, Post.of_args (k := fun l S1 => lift1 (F S1 l) S1) q fun ds S1 vs g1 H1 _ e1 w1 r1 q1 => by
    obtain ⟨d, hd, q2⟩ := q1.lift
    exact l g1 S1 H1 vs ds d Q w1 r1 hd fun v g' H' e w r => q2 v g' H' e w r⟩
theorem je_callB (hc : CallR X (.builtin id) r) (l : LAr X.K r F) (hm : X.mg x = none) (ha : JA X W (e :: es) fa) (hv : bootBuiltins x = some (.builtin id) := by decide +kernel) (hg : Gl X x := by rfl) (hn : x ≠ "__name__" := by decide) (hdb : (x == ("__debug__" : Str)) = false := by decide)
    (he : starEach (e :: es) X.env = (false, eval e X.env) :: starEach es X.env := by rfl) (hpl : (backTo pos (starEach es X.env)).any (·.1) = false := by rfl) : JE X W (.Call (.Name x p) (e :: es) [] pos) (eCallB F fa) :=
  ⟨peImp (pe_callB hc hg hm hv ha.run hn hdb he hpl) (tCB_of l)⟩
theorem je_callTy (hc : CallR X (.type T) r) (l : LAr X.K r F) (hm : X.mg x = none) (ha : JA X W (e :: es) fa) (hv : bootBuiltins x = some (.type T) := by decide +kernel) (hg : Gl X x := by rfl) (hn : x ≠ "__name__" := by decide) (hdb : (x == ("__debug__" : Str)) = false := by decide)
    (he : starEach (e :: es) X.env = (false, eval e X.env) :: starEach es X.env := by rfl) (hpl : (backTo pos (starEach es X.env)).any (·.1) = false := by rfl) : JE X W (.Call (.Name x p) (e :: es) [] pos) (eCallB F fa) :=
  ⟨peImp (pe_callTy hc hg hm hv ha.run hn hdb he hpl) (tCB_of l)⟩
end
theorem reps1 {K : PySem.W.Frag} {F : Hp} {α : List Addr} {d : D} {vs : List V} (r : Reps K F α [d] vs) : ∃ v, vs = [v] ∧ Rep K F α d v := by
  cases r with
  | cons a t => cases t; exact ⟨_, rfl, a⟩
/-- one argument -/
def f1 (F : Sto → D → Option D) : Sto → List D → Option D := fun S l => match l with
  | [d] => F S d
  | _ => none
def L1a (K : PySem.W.Frag) (r : List V → Hp → VK → Prop) (F : Sto → D → Option D) : Prop :=
  ∀ (g : G) (S : Sto) (H : Hp) (x : V) (dx d : D) (Q : VK), World K g S H → RepG K g dx x → F S dx = some d →
    (∀ v g' H', GExt g g' → World K g' S H' → RepG K g' d v → Q v H') → r [x] H Q
theorem l_f1 {K : PySem.W.Frag} {r : List V → Hp → VK → Prop} {F : Sto → D → Option D} (l : L1a K r F) : LAr K r (f1 F) := by
  intro g S H xs dx d Q w rx e k
  match dx, rx, e with
  | [], _, e => cases e
  | [dx], rx, e =>
    obtain ⟨v, rfl, r1⟩ := reps1 rx
    exact l g S H v dx d Q w r1 e k
  | _ :: _ :: _, _, e => cases e
def bLen : Sto → D → Option D := fun S x => match x with
  | .tup l => some (.int l.length)
  | .str s => if s.length ≤ lim then some (.int s.length) else none
  | _ => (match seqOf S x with
    | some l => some (.int l.length)
    | none => none)
def bList : Sto → D → Option D := fun S x => match x with
  | .tup l => some (.lst l)
  | _ => (match seqOf S x with
    | some l => some (.lst l)
    | none => none)
def bTuple : Sto → D → Option D := fun S x => match x with
  | .tup l => some (.tup l)
  | _ => (match seqOf S x with
    | some l => some (.tup l)
    | none => none)
section
variable {K : PySem.W.Frag}
abbrev rLen (K : PySem.W.Frag) : List V → Hp → VK → Prop := fun xs H Q => ∃ x n, xs = [x] ∧ LenV K x H n ∧ Q (.int n) H
theorem l_len : LAr K (rLen K) (f1 bLen) := l_f1 <| by
  intro g S H x dx d Q w rx e k
  have seq : (match seqOf S dx with | some l => some (D.int l.length) | none => none) = some d → rLen K [x] H Q := fun e => by
    cases q : seqOf S dx with
    | none => rw [q] at e; cases e
    | some l =>
      rw [q] at e; cases e
      obtain ⟨a, xs, rfl, h1, h2⟩ := seqOf_rep w rx q
      refine ⟨_, l.length, rfl, .inl ⟨xs, h1, h2.length⟩, k _ g H (GExt.refl _) w (.int _)⟩
  cases dx with
  | tup l =>
    cases e
    cases rx with
    | @tup a xs _ s r => exact ⟨_, l.length, rfl, .inr ⟨xs, sqtMono w.sub s, r.length⟩, k _ g H (GExt.refl _) w (.int _)⟩
  | str s =>
    cases rx
    have e' : (if s.length ≤ lim then some (D.int s.length) else none) = some d := e
    by_cases q : s.length ≤ lim
    · rw [if_pos q] at e'; cases e'
      exact ⟨_, s.length, rfl, ⟨lim_le q, rfl⟩, k _ g H (GExt.refl _) w (.int _)⟩
    · rw [if_neg q] at e'; cases e'
  | lst l => exact seq e
  | scr l => exact seq e
  | obj n => exact seq e
  | non => exact seq e
  | bl b => exact seq e
  | int i => exact seq e
theorem l_tupOf : LAr K (fun xs H Q => ∃ p ys, xs = [.ref p] ∧ ((SqL K H p ys ∧ ∀ l, H l = none → Q (.ref l) (upd H l (.tup ys))) ∨ (SqT K H p ys ∧ Q (.ref p) H))) (f1 bTuple) := l_f1 <| by
  intro g S H x dx d Q w rx e k
  have seq : (match seqOf S dx with | some l => some (D.tup l) | none => none) = some d → (∃ p ys, [x] = [V.ref p] ∧ ((SqL K H p ys ∧ ∀ l, H l = none → Q (.ref l) (upd H l (.tup ys))) ∨ (SqT K H p ys ∧ Q (.ref p) H))) := fun e => by
    cases q : seqOf S dx with
    | none => rw [q] at e; cases e
    | some l =>
      rw [q] at e; cases e
      obtain ⟨a, xs, rfl, h1, h2⟩ := seqOf_rep w rx q
      refine ⟨_, _, rfl, .inl ⟨h1, fun p hp => ?_⟩⟩
      obtain ⟨w2, e2⟩ := w.add (o := .tup xs) hp
      exact k _ _ _ e2 w2 (.tup (SqT.of upd_same) (e2.reps h2))
  cases dx with
  | tup l =>
    cases e
    cases rx with
    | @tup a xs _ s r => exact ⟨_, _, rfl, .inr ⟨sqtMono w.sub s, k _ g H (GExt.refl _) w (.tup s r)⟩⟩
  | lst l => exact seq e
  | scr l => exact seq e
  | obj n => exact seq e
  | non => exact seq e
  | bl b => exact seq e
  | int i => exact seq e
  | str s => exact seq e
end
/-! ### isinstance -/
inductive Ty where
  | int | bool | str | tuple | list | none
  deriving DecidableEq
def Ty.n : Ty → String
  | .int => "int" | .bool => "bool" | .str => "str" | .tuple => "tuple" | .list => "list" | .none => "NoneType"
def tyOf (S : Sto) : D → Option Ty
  | .non => some .none
  | .bl _ => some .bool
  | .int _ => some .int
  | .str _ => some .str
  | .tup _ => some .tuple
  | .lst _ => some .list
  | _ => none
def isTy (t c : Ty) : Bool := decide (t = c) || (decide (t = .bool) && decide (c = .int))
def eIsT (c : Ty) (fa : Ex) : Ex := fun ρ S => (fa ρ S).bind fun d S1 => match tyOf S1 d with
  | some t => .ok (.bl (isTy t c)) S1
  | none => .bad
section
variable {X : Cx} {W : WX} {x y : Str} {e : Expr} {fa : Ex} {p p2 pos : Pos}
theorem kit_all (K : PySem.W.Frag) (t c : Ty) : PySem.W.kitOne K (.type t.n) (.type c.n) = some (isTy t c) := by
  cases t <;> cases c <;> rfl
/-- what stands in a tuple of the written part -/
theorem tup_ty {K : PySem.W.Frag} {F H : Hp} {a : Addr} {xs : List V} (sub : ∀ b o, F b = some o → H b = some o) (h : SqT K F a xs) : TyX K H (.ref a) (.type "tuple") := by
  rcases h with (h | ⟨o, h⟩) | ⟨o, its, n, h1, h2, _⟩
  · exact .base (.tup (sub _ _ h))
  · exact .fTuple (sub _ _ h)
  · exact .kTuple h1 h2
theorem je_isT (c : Ty) (ha : JE X W e fa) (hm : X.mg "isinstance" = none) (hm2 : X.mg y = none) (hv2 : bootBuiltins y = some (.type c.n) := by decide +kernel) (hg : Gl X "isinstance" := by rfl) (hg2 : Gl X y := by rfl) (hn2 : y ≠ "__name__" := by decide) (hd2 : (y == ("__debug__" : Str)) = false := by decide)
    (he : starEach (e :: [.Name y p2]) X.env = (false, eval e X.env) :: starEach [.Name y p2] X.env := by rfl) (he2 : starEach [.Name y p2] X.env = (false, eval (.Name y p2) X.env) :: starEach [] X.env := by rfl) (hpl : (backTo pos (starEach [.Name y p2] X.env)).any (·.1) = false := by rfl) :
    JE X W (.Call (.Name "isinstance" p) [e, .Name y p2] [] pos) (eIsT c fa) :=
  ⟨peImp (pe_callB (x := "isinstance") call_isi hg hm (by decide +kernel) (pa_cons ha.run (pa_cons (pe_bltn (v := .ty c.n) hg2 hm2 hv2 rfl hn2 hd2) pa_nil he2) he) (by decide) (by decide) he hpl) fun σ H Q ⟨g, S, ρ, w, rs, q⟩ =>
    ⟨g, S, ρ, w, rs, Post.of_bind q fun d S1 v g1 H1 _ e1 w1 r1 q1 => by
      cases et : tyOf S1 d with
      | none => simp only [et] at q1; exact q1.elim
      | some t =>
        simp only [et] at q1
        refine ⟨v, .ty c.n, .type t.n, .type c.n, isTy t c, rfl, .ty _, ?_, kit_all _ _ _, Post.val q1 w1 (.bl _)⟩
        cases r1 with
        | non => cases et; exact .base .non
        | bl b => cases et; exact .base (.bl _)
        | int i => cases et; exact .base (.int _)
        | str s => cases et; exact .base (.str _)
        | tup s r => cases et; exact tup_ty w1.sub s
        | lst s r => cases et; exact .base (.lst (w1.sub _ _ s))
        | scr s r => cases et
        | obj s => cases et⟩⟩
end
end Bt
namespace Bt
open PySem PySem.Spec PyProof.Rows L2
/-! ### methods of built-in types -/
def isStrD : Sto → D → Bool := fun _ d => match d with | .str _ => true | _ => false
/-- o.m(e): chk the receiver's type, F what is done -/
def eMeth (chk : Sto → D → Bool) (F : Sto → D → D → ER) (fo fa : Ex) : Ex := fun ρ S => (fo ρ S).bind fun o S1 => match chk S1 o with
  | true => (fa ρ S1).bind fun a S2 => F S2 o a
  | false => .bad
/-! ### x[i] = e: lists of the store -/
/-! ### enumerate, zip -/
/-! ### list(range(..)) -/
end Bt
namespace Bt
open PySem PySem.Spec PyProof.Rows L2
/-! ### dicts -/
def keyD : D → Option Key
  | .int i => some (.inl i)
  | .str s => some (.inr s)
  | _ => none
def kD : Key → D
  | .inl i => .int i
  | .inr s => .str s
theorem keyD_kD {d : D} {k : Key} (h : keyD d = some k) : d = kD k := by
  cases d <;> cases h <;> rfl
@[simp] theorem keyD_of (k : Key) : keyD (kD k) = some k := by cases k <;> rfl
def valD : List (Key × D) → Key → Option D
  | [], _ => none
  | p :: r, k => if p.1 = k then some p.2 else valD r k
def putD (kvs : List (Key × D)) (k : Key) (v : D) : List (Key × D) :=
  if (kvs.any fun kv => decide (kv.1 = k)) = true then kvs.map (fun kv => if kv.1 = k then (kv.1, v) else kv) else kvs ++ [(k, v)]
def mergeD (kvs more : List (Key × D)) : List (Key × D) := more.foldl (fun acc kv => putD acc kv.1 kv.2) kvs
section
variable {K : PySem.W.Frag} {g : G}
theorem kD_rep {k : Key} {d : D} {v : V} (h : keyD d = some k) (r : RepG K g d v) : v = kV k := by
  rw [keyD_kD h] at r
  cases k <;> cases r <;> rfl
theorem KReps.val {kvs : List (Key × D)} {ks : List (Key × V)} (r : KReps K g kvs ks) (k : Key) : (valD kvs k = none → valV ks k = none) ∧ ∀ d, valD kvs k = some d → ∃ v, valV ks k = some v ∧ RepG K g d v := by
  unfold KReps at r
  induction r with
  | nil => exact ⟨fun _ => rfl, fun d h => nomatch h⟩
  | @cons p q ps qs h t ih =>
    obtain ⟨t1, t2⟩ := ih
    unfold valD
    by_cases e : p.1 = k
    · rw [if_pos e]
      refine ⟨(fun z => nomatch z), fun d z => ?_⟩
      cases z
      exact ⟨q.2, valV_pos (h.1.symm.trans e), h.2⟩
    · rw [if_neg e]
      have e2 : ¬ q.1 = k := fun z => e (h.1.trans z)
      refine ⟨fun z => (valV_neg e2).trans (t1 z), fun d z => ?_⟩
      obtain ⟨v, h1, h2⟩ := t2 d z
      exact ⟨v, (valV_neg e2).trans h1, h2⟩
theorem KReps.any {kvs : List (Key × D)} {ks : List (Key × V)} (r : KReps K g kvs ks) (k : Key) : (kvs.any fun kv => decide (kv.1 = k)) = ks.any fun kv => decide (kv.1 = k) := by
  unfold KReps at r
  induction r with
  | nil => rfl
  | @cons p q ps qs h t ih => simp only [List.any_cons, ih, h.1]
theorem KReps.put {kvs : List (Key × D)} {ks : List (Key × V)} (r : KReps K g kvs ks) (k : Key) {d : D} {v : V} (rv : RepG K g d v) : KReps K g (putD kvs k d) (putK ks k v) := by
  unfold putD putK
  rw [r.any k]
  cases (ks.any fun kv => decide (kv.1 = k)) with
  | true =>
    simp only [if_pos]
    unfold KReps at r ⊢
    induction r with
    | nil => exact .nil
    | @cons p q ps qs h t ih =>
      refine .cons ?_ ih
      dsimp only
      by_cases e : p.1 = k
      · rw [if_pos e, if_pos (h.1.symm.trans e)]; exact ⟨h.1, rv⟩
      · rw [if_neg e, if_neg (fun z => e (h.1.trans z))]; exact h
  | false =>
    simp only [Bool.false_eq_true, if_false]
    unfold KReps at r ⊢
    induction r with
    | nil => exact .cons ⟨rfl, rv⟩ .nil
    | cons h t ih => exact .cons h ih
theorem KReps.merge : ∀ {more : List (Key × D)} {ms : List (Key × V)} {kvs : List (Key × D)} {ks : List (Key × V)}, KReps K g more ms → KReps K g kvs ks → KReps K g (mergeD kvs more) (mergeK ks ms) := by
  intro more ms kvs ks r
  unfold KReps at r
  induction r generalizing kvs ks with
  | nil => intro q; exact q
  | @cons p q ps qs h t ih =>
    intro r0
    have e : KReps K g (putD kvs p.1 p.2) (putK ks q.1 q.2) := by
      have := KReps.put r0 p.1 h.2
      rw [← h.1]; exact this
    exact ih e
end
end Bt
namespace Bt
open PySem PySem.Spec PyProof.Rows L2
/-! ### the text's defs -/
theorem hu65 {k : Nat} {A : Around} (h : 1 ≤ k) (hr : Room k A) : A.units + 65 < cLine := by have := hr.un; omega
theorem hu64 {k : Nat} {A : Around} (hr : Room k A) : A.units + 64 < cLine := hr.units
/-- a def stands where the top put it -/
structure DefAt (K : PySem.W.Frag) (mg : Str → Option Value) (x : Str) (st : Stmt) : Prop where
  ex : ∃ fd, FunD K x x (defArgs st) (defBody st) (defScope st) [] [] (He.ga K x) fd
  mg : mg x = some (.ref (He.ga K x))
section
variable {P : Program} {w : PySem.World} {K : PySem.W.Frag} {mg : Str → Option Value} {base : Heap} {x : Str} {st : Stmt} {N ps : List Str} {k : Nat} {m : Sx}
theorem cal_mk (D : DefAt K mg x st) (S : FnScope N ps (defScope st))
    (hbd : ∀ (kV doc pm : Value) (an : Option Addr) (cdv ct : Value) (us : List Value), us.length = ps.length → bindArgs (PySem.W.fnOf x x (defArgs st) (defBody st) (defScope st) .none kV doc pm an cdv ct) ⟨us, []⟩ = pure (ps.zip us))
    (hb : ∀ (cdv : Value) (A : Around) (outer : List PySem.Env) (s : Shared) (H : Hp) (E : XK), Room k (A.deeper (envOfC x (defScope st) s.heap.objs.size (He.ga K x) cdv)) →
      JSs (cxOf (L2.CX P w) P w K mg base N x (defScope st) (He.ga K x) cdv A outer s H E) (fun cls d _ H => E cls d H) (defBody st) m) :
    Cal P w K mg base x (k + 1) (fnBody ps.length N.length m) := by
  obtain ⟨fd, F⟩ := D.ex
  exact ⟨_, fd, ps, D.mg, F.kp, F.bindsN hbd, fn_ok F S hb⟩
theorem jss_never {X : Cx} {W : WX} {sts : List Stmt} : JSs X W sts (fun _ _ => .bad) := ⟨pssImp pss_never fun N σ H ⟨g, S, ρ, w, rs, q⟩ => q.elim⟩
def recN (F : Fn → Fn) : Nat → Fn
  | 0 => fun _ _ => .bad
  | n + 1 => F (recN F n)
theorem Cal.mono {F : Fn} {j k : Nat} (c : Cal P w K mg base x j F) (h : j ≤ k) : Cal P w K mg base x k F := by
  obtain ⟨f, fd, ps, h1, h2, h3, h4⟩ := c.ex
  exact ⟨f, fd, ps, h1, h2, h3, h4.mono h⟩
/-- the meaning may be told otherwise -/
theorem Cal.imp {F F' : Fn} (c : Cal P w K mg base x k F) (h : ∀ g S H ds vs, World K g S H → RepsG K g ds vs → ∀ Q E, PostF K g Q E (F' ds S) → PostF K g Q E (F ds S)) : Cal P w K mg base x k F' := by
  obtain ⟨f, fd, ps, h1, h2, h3, h4⟩ := c.ex
  exact ⟨f, fd, ps, h1, h2, h3, h4.imp fun vs H Q E ⟨g, S, ds, w, r, q⟩ => ⟨g, S, ds, w, r, h g S H ds vs w r Q E q⟩⟩
end
theorem cal_bad {P : Program} {w : PySem.World} {K : PySem.W.Frag} {mg : Str → Option Value} {base : Heap} {x : Str} {st : Stmt} {N ps : List Str} {k : Nat} (D : DefAt K mg x st) (S : FnScope N ps (defScope st))
    (hbd : ∀ (kV doc pm : Value) (an : Option Addr) (cdv ct : Value) (us : List Value), us.length = ps.length → bindArgs (PySem.W.fnOf x x (defArgs st) (defBody st) (defScope st) .none kV doc pm an cdv ct) ⟨us, []⟩ = pure (ps.zip us)) : Cal P w K mg base x (k + 1) (fun _ _ => .bad) :=
  (cal_mk (k := k) D S hbd fun _ _ _ _ _ _ _ => jss_never).imp fun _ _ _ _ _ _ _ _ _ q => q.elim
/-! ### what a def made for itself is forgotten -/
mutual
def D.pure : D → Bool
  | .tup l => D.pures l
  | .lst l => D.pures l
  | .scr l => D.pures l
  | .obj _ => false
  | _ => true
def D.pures : List D → Bool
  | [] => true
  | d :: ds => D.pure d && D.pures ds
end
def FV.pure : FV → Bool
  | .d x => D.pure x
  | .l xs => D.pures xs
  | .k kvs => kvs.all fun p => D.pure p.2
section
variable {K : PySem.W.Frag} {F F0 : Hp} {α α0 : List Addr}
mutual
theorem Rep.pureAny : ∀ {d : D} {v : V}, d.pure = true → Rep K F α d v → Rep K F α0 d v
  | _, _, _, .non => .non
  | _, _, _, .bl b => .bl b
  | _, _, _, .int i => .int i
  | _, _, _, .str s => .str s
  | _, _, h, .tup s r => .tup s (Reps.pureAny h r)
  | _, _, h, .lst s r => .lst s (Reps.pureAny h r)
  | _, _, h, .scr s r => .scr s (Reps.pureAny h r)
  | _, _, h, .obj e => nomatch h
theorem Reps.pureAny : ∀ {ds : List D} {vs : List V}, D.pures ds = true → Reps K F α ds vs → Reps K F α0 ds vs
  | _, _, _, .nil => .nil
  | _, _, h, .cons r t => by
    have h' := Bool.and_eq_true_iff.mp h
    exact .cons (Rep.pureAny h'.1 r) (Reps.pureAny h'.2 t)
end
mutual
theorem Rep.cut (k : ∀ (n : Nat) (a : Addr), α0[n]? = some a → α[n]? = some a) : ∀ {d : D} {v0 v : V}, Rep K F0 α0 d v0 → Rep K F α d v → Rep K F α0 d v
  | _, _, _, .non, .non => .non
  | _, _, _, .bl b, .bl _ => .bl b
  | _, _, _, .int i, .int _ => .int i
  | _, _, _, .str s, .str _ => .str s
  | _, _, _, .tup _ r0, .tup s r => .tup s (Reps.cut k r0 r)
  | _, _, _, .lst _ r0, .lst s r => .lst s (Reps.cut k r0 r)
  | _, _, _, .scr _ r0, .scr s r => .scr s (Reps.cut k r0 r)
  | _, _, _, .obj e0, .obj e => by
    have := k _ _ e0
    rw [this] at e; cases e
    exact .obj e0
theorem Reps.cut (k : ∀ (n : Nat) (a : Addr), α0[n]? = some a → α[n]? = some a) : ∀ {ds : List D} {vs0 vs : List V}, Reps K F0 α0 ds vs0 → Reps K F α ds vs → Reps K F α0 ds vs
  | _, _, _, .nil, .nil => .nil
  | _, _, _, .cons r0 t0, .cons r t => .cons (Rep.cut k r0 r) (Reps.cut k t0 t)
end
end
theorem KReps.cut {K : PySem.W.Frag} {g0 g g2 : G} (hf : g2.F = g.F) (ha : g2.α = g0.α) (k : ∀ (n : Nat) (a : Addr), g0.α[n]? = some a → g.α[n]? = some a) {kvs : List (Key × D)} {ks0 ks : List (Key × V)} (r0 : KReps K g0 kvs ks0) (r : KReps K g kvs ks) : KReps K g2 kvs ks := by
  unfold KReps at r0 r ⊢
  induction r generalizing ks0 with
  | nil => exact .nil
  | cons h t ih =>
    cases r0 with
    | cons h0 t0 =>
      refine .cons ⟨h.1, ?_⟩ (ih t0)
      rw [hf, ha]
      exact Rep.cut k h0.2 h.2
theorem KReps.pureAny {K : PySem.W.Frag} {g g2 : G} (hf : g2.F = g.F) {kvs : List (Key × D)} {ks : List (Key × V)} (r : KReps K g kvs ks) (hp : (kvs.all fun p => D.pure p.2) = true) : KReps K g2 kvs ks := by
  unfold KReps at r ⊢
  induction r with
  | nil => exact .nil
  | cons h t ih =>
    simp only [List.all_cons, Bool.and_eq_true] at hp
    refine .cons ⟨h.1, ?_⟩ (ih hp.2)
    rw [hf]
    exact Rep.pureAny hp.1 h.2
theorem ab_pure {x : Ab} {c : Str} {fs : List (Str × FV)} (h : AbInv x c fs) : ∀ p ∈ fs, p.2.pure = true := h.elim
def G.cut (g g0 : G) (n : Nat) : G := { F := g.F, α := g0.α, own := fun b => (match g.own b with | some q => if q.1 < n then some q else none | none => none), pin := g.pin }
theorem cut_own {g g0 : G} {n m : Nat} {b : Addr} {j : Nat} (h : g.own b = some (m, j)) (hm : m < n) : (g.cut g0 n).own b = some (m, j) := by
  show (match g.own b with | some q => if q.1 < n then some q else none | none => none) = _
  rw [h]; exact if_pos hm
theorem InstAt.cut {K : PySem.W.Frag} {g0 g : G} {H0 H : Hp} {n N : Nat} {c : Str} {fs : List (Str × FV)} (hn : n < N) (e : GExt g0 g) (x : InstAt K g H n c fs) (y : (∀ p ∈ fs, p.2.pure = true) ∨ InstAt K g0 H0 n c fs) (ha : ∃ a, g0.α[n]? = some a) : InstAt K (g.cut g0 N) H n c fs := by
  obtain ⟨a, dx, vs, h1, h2, h3, h4, h5⟩ := x
  obtain ⟨a0, ha0⟩ := ha
  have := e.a _ _ ha0
  rw [h1] at this; cases this
  refine ⟨a, dx, vs, ha0, cut_own h2 hn, h3, h4, fun j p q hp hq => ?_⟩
  obtain ⟨h6, h7⟩ := h5 j p q hp hq
  refine ⟨h6, ?_⟩
  obtain ⟨pn, pf⟩ := p
  rcases y with y | ⟨b, dy, us, y1, y2, y3, y4, y5⟩
  · have hpure := y _ (List.mem_of_getElem? hp)
    cases pf with
    | d z => exact Rep.pureAny hpure h7
    | l xs =>
      obtain ⟨a, vs, r1, r2, r3, r4⟩ := h7
      exact ⟨a, vs, r1, cut_own r2 hn, r3, Reps.pureAny hpure r4⟩
    | k kvs =>
      obtain ⟨a, vs, r1, r2, r3, r4⟩ := h7
      exact ⟨a, vs, r1, cut_own r2 hn, r3, KReps.pureAny (g := g) (g2 := g.cut g0 N) rfl r4 hpure⟩
  · have hj : j < us.length := by rw [← y4]; exact (List.getElem?_eq_some_iff.mp hp).1
    obtain ⟨y6, y7⟩ := y5 j _ us[j] hp (by simp [hj])
    cases pf with
    | d z => exact Rep.cut e.a y7 h7
    | l xs =>
      obtain ⟨a, vs, r1, r2, r3, r4⟩ := h7
      obtain ⟨_, _, _, _, _, q4⟩ := y7
      exact ⟨a, vs, r1, cut_own r2 hn, r3, Reps.cut e.a q4 r4⟩
    | k kvs =>
      obtain ⟨a, vs, r1, r2, r3, r4⟩ := h7
      obtain ⟨_, _, _, _, _, q4⟩ := y7
      exact ⟨a, vs, r1, cut_own r2 hn, r3, KReps.cut (g0 := g0) (g := g) (g2 := g.cut g0 N) rfl rfl e.a q4 r4⟩
theorem LkAt.cut {K : PySem.W.Frag} {g0 g : G} {n N : Nat} {c : Str} {fs : List (Str × FV)} (e : GExt g0 g) (x : LkAt K g n c fs) (y : LkAt K g0 n c fs) : LkAt K (g.cut g0 N) n c fs := by
  obtain ⟨b, dx, vs, h1, h2, h3, h4⟩ := x
  obtain ⟨b0, dx0, vs0, y1, y2, y3, y4⟩ := y
  have hb := e.a _ _ y1
  rw [h1] at hb; cases hb
  refine ⟨b, dx, vs, y1, h2, h3, fun j p q hp hq => ?_⟩
  obtain ⟨h5, h6⟩ := h4 j p q hp hq
  have hj : j < vs0.length := by rw [← y3]; exact (List.getElem?_eq_some_iff.mp hp).1
  obtain ⟨_, y6⟩ := y4 j p vs0[j] hp (by simp [hj])
  refine ⟨h5, ?_⟩
  obtain ⟨pn, pf⟩ := p
  cases pf with
  | d x => exact Rep.cut e.a y6 h6
  | l xs => exact h6
  | k kvs =>
    obtain ⟨a, ks, o, r1, r2, r3⟩ := h6
    obtain ⟨_, _, _, _, _, q3⟩ := y6
    exact ⟨a, ks, o, r1, r2, KReps.cut (g0 := g0) (g := g) (g2 := g.cut g0 N) rfl rfl e.a q3 r3⟩
theorem World.cut {K : PySem.W.Frag} {g0 g : G} {S S' : Sto} {H0 H : Hp} (w0 : World K g0 S H0) (w : World K g S' H) (e : GExt g0 g) (hS : S'.take S.length = S) : World K (g.cut g0 S.length) S H ∧ GExt g0 (g.cut g0 S.length) := by
  have ex : GExt g0 (g.cut g0 S.length) := ⟨e.f, fun _ _ h => h, e.p⟩
  refine ⟨⟨w.sub, w0.len, fun n o h => ?_, fun b q hb => ?_, fun b o hb => ?_⟩, ex⟩
  · have hn : n < S.length := (List.getElem?_eq_some_iff.mp h).1
    have h' : S'[n]? = some o := by
      rw [← hS, List.getElem?_take] at h
      rw [if_pos hn] at h; exact h
    have x := w.at_ n o h'
    have x0 := w0.at_ n o h
    have hα : ∃ a, g0.α[n]? = some a := ⟨_, List.getElem?_eq_getElem (w0.len ▸ hn)⟩
    cases o with
    | list l =>
      obtain ⟨a, xs, h1, h2, h3, h4⟩ := x
      obtain ⟨a0, xs0, q1, q2, q3, q4⟩ := x0
      have := e.a _ _ q1
      rw [h1] at this; cases this
      exact ⟨a, xs, q1, cut_own h2 hn, h3, Reps.cut e.a q4 h4⟩
    | dict l =>
      obtain ⟨a, xs, h1, h2, h3, h4⟩ := x
      obtain ⟨a0, xs0, q1, q2, q3, q4⟩ := x0
      have := e.a _ _ q1
      rw [h1] at this; cases this
      exact ⟨a, xs, q1, cut_own h2 hn, h3, KReps.cut (g0 := g0) (g := g) (g2 := g.cut g0 S.length) rfl rfl e.a q4 h4⟩
    | dead => trivial
    | inst c fs => exact InstAt.cut hn e x (.inr x0) hα
    | abs y =>
      rcases x with ⟨c, fs, h1, h2⟩ | ⟨a, h1, h2⟩
      · exact .inl ⟨c, fs, h1, InstAt.cut (H0 := H0) hn e h2 (.inl (ab_pure h1)) hα⟩
      · rcases x0 with ⟨c, fs, z, _⟩ | ⟨a0, z1, z2⟩
        · exact z.elim
        · rw [z1] at h1; cases h1
          exact .inr ⟨_, z1, z2⟩
    | lki c fs => exact LkAt.cut e x x0
    | fdict l =>
      obtain ⟨a, xs, od, h1, h2, h3⟩ := x
      obtain ⟨a0, xs0, od0, q1, q2, q3⟩ := x0
      have := e.a _ _ q1
      rw [h1] at this; cases this
      exact ⟨a, xs, od, q1, h2, KReps.cut (g0 := g0) (g := g) (g2 := g.cut g0 S.length) rfl rfl e.a q3 h3⟩
    | flist l =>
      obtain ⟨a, xs, od, h1, h2, h3⟩ := x
      obtain ⟨a0, xs0, od0, q1, q2, q3⟩ := x0
      have := e.a _ _ q1
      rw [h1] at this; cases this
      exact ⟨a, xs, od, q1, h2, Reps.cut e.a q3 h3⟩
  · have hb' : (match g.own b with | some q => if q.1 < S.length then some q else none | none => none) = some q := hb
    cases z : g.own b with
    | none => rw [z] at hb'; cases hb'
    | some q' => exact w.free b q' z
  · obtain ⟨h1, h2, h3⟩ := w.pin b o hb
    refine ⟨h1, h2, ?_⟩
    show (match g.own b with | some q => if q.1 < S.length then some q else none | none => none) = none
    rw [h3]
open Classical in
noncomputable def trunc (F : Fn) : Fn := fun ds S => match F ds S with
  | .ok d S' => if S'.take S.length = S ∧ d.pure = true then .ok d S else .bad
  | .exc k S' => if S'.take S.length = S then .exc k S else .bad
  | .bad => .bad
theorem trunc_ok {F : Fn} {ds : List D} {S S' : Sto} {d : D} (h : F ds S = .ok d S') (hS : S'.take S.length = S) (hp : d.pure = true) : trunc F ds S = .ok d S := by
  unfold trunc; rw [h]; exact if_pos ⟨hS, hp⟩
theorem trunc_exc {F : Fn} {ds : List D} {S S' : Sto} {k : Exc} (h : F ds S = .exc k S') (hS : S'.take S.length = S) : trunc F ds S = .exc k S := by
  unfold trunc; rw [h]; exact if_pos hS
theorem Cal.trunc {P : Program} {w : PySem.World} {K : PySem.W.Frag} {mg : Str → Option Value} {base : Heap} {x : Str} {k : Nat} {F : Fn} (c : Cal P w K mg base x k F) : Cal P w K mg base x k (Bt.trunc F) :=
  c.imp fun g S H ds vs w r Q E q => by
    unfold Bt.trunc at q
    cases e : F ds S with
    | bad => rw [e] at q; exact q
    | ok d S' =>
      simp only [e] at q
      by_cases z : S'.take S.length = S ∧ d.pure = true
      · rw [if_pos z] at q
        intro v g' H' x1 w1 r1
        obtain ⟨w2, x2⟩ := World.cut w w1 x1 z.1
        exact q v _ H' x2 w2 (Rep.pureAny z.2 r1)
      · rw [if_neg z] at q; exact q.elim
    | exc k S' =>
      simp only [e] at q
      by_cases z : S'.take S.length = S
      · rw [if_pos z] at q
        intro g' H' x1 w1
        obtain ⟨w2, x2⟩ := World.cut w w1 x1 z
        exact q _ H' x2 w2
      · rw [if_neg z] at q; exact q.elim
end Bt
namespace Bt
open PySem PySem.Spec PyProof.Rows L2
theorem walk_law {l : PySem.W.OpenLaw} {n k : Nat} {q : Program} {loose : List Str} {XP : (Str → Option Value) → Heap → Prop} {YP : PySem.World → Heap → Prop} {d : DefRec} {x : Str}
    (hn : l.most = some n) (hn2 : n ≤ sizeLine) (hdf : d.params.defaults = []) (hr : Room k callerA)
    (F : ∀ (w : PySem.World) (mg : Str → Option Value) (fa : Addr) (h : Heap), YP w h → h.Ns mainGlobals mg → mg d.name = some (.ref fa) →
      ∃ (K : PySem.W.Frag) (fd : FuncData) (sp : Sp), K.In h ∧ (∀ (s : Shared) (u : Value), BindsTo s fd ⟨[u], []⟩ [(x, u)]) ∧
        (∀ (H : Hp) (a : Addr) (ns : List Int), ns.length ≤ n → Only H → SqL K H a (ns.map V.int) → sp [.ref a] H (fun v _ => v = .bl true) fun _ _ _ => False) ∧
        ∀ base : Heap, K.In base → base.Ns mainGlobals mg → FnOk l.prog w K mg base (L2.CX l.prog w) k fa fd [x] sp) :
    PySem.W.WalkO q loose XP YP l.row.toRowW d [] (fun f vs => PySem.call f vs) := by
  refine Att.attach_call hn hdf fun w s₀ s₁ mg mb fa o pm cd doc a vs ns G Y ho hd hcd hmg hobj hints hlen hg => ?_
  obtain ⟨K, fd, sp, KX, hb, hsp, hF⟩ := F w mg fa _ Y G.T.g hmg
  exact law_call KX G.T.g G.T.b G.T.builtins G.T.nolimit hg hobj hints (Nat.le_trans hlen hn2) hr hF hb (fun H hO hS => hsp H a ns hlen hO hS) fun H e s' hx => by
    obtain ⟨_, _, _, _, _, _, _, _, _, _, _, _, z⟩ := hx
    exact z
theorem glob_int {K : PySem.W.Frag} {mg : Str → Option Value} {x : Str} {i : Int} (h : ∃ t, mg x = some (.int i t)) : GlobC K mg x (.int i) := ⟨by
  obtain ⟨t, e⟩ := h
  exact ⟨_, .int i, e, ⟨t, rfl⟩, fun _ => .int i⟩⟩
theorem glob_str {K : PySem.W.Frag} {mg : Str → Option Value} {x z : Str} (h : ∃ t, mg x = some (.str z t)) : GlobC K mg x (.str z) := ⟨by
  obtain ⟨t, e⟩ := h
  exact ⟨_, .str z, e, ⟨t, rfl⟩, fun _ => .str z⟩⟩
/-- the law's promise out of its meaning -/
theorem sp_law {K : PySem.W.Frag} {F : Fn} (h : ∀ ns : List Int, ns.length ≤ 63 → ∃ S, F [.scr (ns.map D.int)] [] = .ok (.bl true) S) :
    ∀ (H : Hp) (a : Addr) (ns : List Int), ns.length ≤ 63 → Only H → SqL K H a (ns.map V.int) → spOf K F [.ref a] H (fun v _ => v = .bl true) fun _ _ _ => False := by
  intro H a ns hl _ hs
  obtain ⟨S, e⟩ := h ns hl
  refine ⟨⟨H, [], fun _ => none, fun _ => none⟩, [], [.scr (ns.map D.int)], ⟨fun _ _ h => h, rfl, fun n o h => by simp at h, fun _ _ h => (by cases h), fun _ _ h => (by cases h)⟩, .cons (.scr hs (Reps.ints ns)) .nil, ?_⟩
  rw [e]
  intro v g' H' _ _ r
  cases r
  rfl
end Bt
namespace Bt
open PySem PySem.Spec PyProof.Rows L2
/-! ### evaluating meanings -/
theorem ofString_inj {a b : String} : Str.ofString a = Str.ofString b ↔ a = b := by
  rw [Str.ofString_eq_toList, Str.ofString_eq_toList]
  constructor
  · intro h
    have h1 := congrArg (fun s : Str => s.cps.toList) h
    simp only at h1
    have inj : Function.Injective Char.toNat := fun x y e => Char.ext (UInt32.toNat_inj.mp e)
    exact String.toList_inj.mp ((List.map_inj_right fun x y e => inj e).mp h1)
  · intro h; rw [h]
section
variable {ρ : Env} {S : Sto}
@[simp] theorem s_var0 {d : D} {r : Env} : eVar 0 (some d :: r) S = .ok d S := rfl
@[simp] theorem s_varS {i : Nat} {o : Option D} {r : Env} : eVar (i + 1) (o :: r) S = eVar i r S := rfl
@[simp] theorem s_c {d : D} : eC d ρ S = .ok d S := rfl
@[simp] theorem s_op {F fa fb} : eOp F fa fb ρ S = (fa ρ S).bind fun x S1 => (fb ρ S1).bind fun y S2 => lift1 (F S2 x y) S2 := rfl
@[simp] theorem s_un {F fa} : eUn F fa ρ S = (fa ρ S).bind fun x S1 => lift1 (F S1 x) S1 := rfl
@[simp] theorem s_nil : eNil ρ S = .ok (.tup []) S := rfl
@[simp] theorem s_cons {fa fr} : eCons fa fr ρ S = (fa ρ S).bind fun x S1 => (fr ρ S1).bind fun t S2 => match t with | .tup l => .ok (.tup (x :: l)) S2 | _ => .bad := rfl
@[simp] theorem s_seq {f g} : sSeq f g ρ S = (f ρ S).seq g := rfl
@[simp] theorem s_skip : sSkip ρ S = .nx ρ S := rfl
@[simp] theorem s_set {i fe} : sSet i fe ρ S = (fe ρ S).toS ρ fun d S1 => .nx (ρ.set i (some d)) S1 := rfl
@[simp] theorem s_ret {fe} : sRet fe ρ S = (fe ρ S).toS ρ fun d S1 => .rt d S1 := rfl
@[simp] theorem s_expr {fe} : sExpr fe ρ S = (fe ρ S).toS ρ fun _ S1 => .nx ρ S1 := rfl
@[simp] theorem s_if {fc f g} : sIf fc f g ρ S = (fc ρ S).toS ρ fun d S1 => match d with | .bl b => (match b with | true => f ρ S1 | false => g ρ S1) | _ => .bad := rfl
@[simp] theorem s_and {fa fb} : eAnd fa fb ρ S = (fa ρ S).bind fun x S1 => match x with | .bl b => (match b with | true => fb ρ S1 | false => .ok (.bl false) S1) | _ => .bad := rfl
@[simp] theorem s_or {fa fb} : eOr fa fb ρ S = (fa ρ S).bind fun x S1 => match x with | .bl b => (match b with | true => .ok (.bl true) S1 | false => fb ρ S1) | _ => .bad := rfl
@[simp] theorem s_not {fa} : eNot fa ρ S = (fa ρ S).bind fun x S1 => match x with | .bl b => .ok (.bl !b) S1 | _ => .bad := rfl
@[simp] theorem s_ife {fc fa fb} : eIf fc fa fb ρ S = (fc ρ S).bind fun x S1 => match x with | .bl b => (match b with | true => fa ρ S1 | false => fb ρ S1) | _ => .bad := rfl
@[simp] theorem s_chain {F F' fa fb fc} : eChain F F' fa fb fc ρ S = (fa ρ S).bind fun x S1 => (fb ρ S1).bind fun y S2 => (lift1 (F S2 x y) S2).bind fun z S3 => match z with
  | .bl b => (match b with | true => (fc ρ S3).bind fun u S4 => lift1 (F' S4 y u) S4 | false => .ok (.bl false) S3)
  | _ => .bad := rfl
@[simp] theorem s_call {F fa} : eCall F fa ρ S = (fa ρ S).bind fun t S1 => match t with | .tup l => F l S1 | _ => .bad := rfl
@[simp] theorem s_callB {F fa} : eCallB F fa ρ S = (fa ρ S).bind fun t S1 => match t with | .tup l => lift1 (F S1 l) S1 | _ => .bad := rfl
@[simp] theorem s_tup {f} : eTup f ρ S = (f ρ S).bind fun t S1 => match t with | .tup l => (if l.length ≤ lim then .ok (.tup l) S1 else .bad) | _ => .bad := rfl
@[simp] theorem s_lst {f} : eLst f ρ S = (f ρ S).bind fun t S1 => match t with | .tup l => (if l.length ≤ lim then .ok (.lst l) S1 else .bad) | _ => .bad := rfl
@[simp] theorem s_sl {fx flo fhi} : eSl fx flo fhi ρ S = (fx ρ S).bind fun x S1 => (flo ρ S1).bind fun dl S2 => partD dl fun l => (fhi ρ S2).bind fun dh S3 => partD dh fun h => lift1 (opSl x l h) S3 := rfl
@[simp] theorem s_no : eNo ρ S = .ok .non S := rfl
@[simp] theorem s_int {f} : eInt f ρ S = (f ρ S).bind fun d S1 => match d with | .int i => .ok (.int i) S1 | _ => .bad := rfl
@[simp] theorem s_meth {chk F fo fa} : eMeth chk F fo fa ρ S = (fo ρ S).bind fun o S1 => match chk S1 o with | true => (fa ρ S1).bind fun a S2 => F S2 o a | false => .bad := rfl
@[simp] theorem s_isN {neg fa} : eIsN neg fa ρ S = (fa ρ S).bind fun d S1 => match d with | .non => .ok (.bl !neg) S1 | _ => .ok (.bl neg) S1 := rfl
@[simp] theorem s_isT {c fa} : eIsT c fa ρ S = (fa ρ S).bind fun d S1 => match tyOf S1 d with | some t => .ok (.bl (isTy t c)) S1 | none => .bad := rfl
end
@[simp] theorem o_addI {S i j} : opAdd S (.int i) (.int j) = some (.int (i + j)) := rfl
@[simp] theorem o_addT {S a b} : opAdd S (.tup a) (.tup b) = if a.length + b.length ≤ lim then some (.tup (a ++ b)) else none := rfl
@[simp] theorem o_addL {S a b} : opAdd S (.lst a) (.lst b) = if a.length + b.length ≤ lim then some (.lst (a ++ b)) else none := rfl
@[simp] theorem o_addS {S a b} : opAdd S (.str a) (.str b) = if a.length + b.length ≤ lim then some (.str (a ++ b)) else none := rfl
@[simp] theorem o_sub {S i j} : opSub S (.int i) (.int j) = some (.int (i - j)) := rfl
@[simp] theorem o_mul {S i j} : opMul S (.int i) (.int j) = if i.natAbs < 18446744073709551616 ∨ j.natAbs < 18446744073709551616 then some (.int (i * j)) else none := rfl
@[simp] theorem o_mod {S i j} : opMod S (.int i) (.int j) = if 0 < j then some (.int (i % j)) else none := rfl
@[simp] theorem o_div {S i j} : opDiv S (.int i) (.int j) = if 0 < j ∧ j < 1073741824 then some (.int (i / j)) else none := rfl
@[simp] theorem o_neg {S i} : opNeg S (.int i) = some (.int (-i)) := rfl
@[simp] theorem o_cmp {p S i j} : opCmp p S (.int i) (.int j) = some (.bl (p i j)) := rfl
@[simp] theorem o_ixT {S l i} : opIx S (.tup l) (.int i) = atI l i := rfl
@[simp] theorem o_ixL {S l i} : opIx S (.lst l) (.int i) = atI l i := rfl
@[simp] theorem o_ixC {S l i} : opIx S (.scr l) (.int i) = atI l i := rfl
@[simp] theorem o_slT {l lo hi} : opSl (.tup l) lo hi = some (.tup (cutD l lo hi)) := rfl
@[simp] theorem o_slL {l lo hi} : opSl (.lst l) lo hi = some (.lst (cutD l lo hi)) := rfl
@[simp] theorem b_lenT {S l} : bLen S (.tup l) = some (.int l.length) := rfl
@[simp] theorem b_lenL {S l} : bLen S (.lst l) = some (.int l.length) := rfl
@[simp] theorem b_lenC {S l} : bLen S (.scr l) = some (.int l.length) := rfl
@[simp] theorem b_f1 {F S d} : f1 F S [d] = F S d := rfl
@[simp] theorem t_non {S} : tyOf S .non = some .none := rfl
@[simp] theorem t_int {S i} : tyOf S (.int i) = some .int := rfl
@[simp] theorem t_bl {S i} : tyOf S (.bl i) = some .bool := rfl
@[simp] theorem t_str {S i} : tyOf S (.str i) = some .str := rfl
@[simp] theorem t_tup {S i} : tyOf S (.tup i) = some .tuple := rfl
@[simp] theorem t_lst {S i} : tyOf S (.lst i) = some .list := rfl
/-- items by places -/
theorem atI_nat' {α : Type} {l : List α} {n : Nat} : atI l (n : Int) = l[n]? := by
  unfold atI ixN
  rw [if_pos (Int.natCast_nonneg n)]
  by_cases h : n < l.length
  · rw [if_pos (by omega)]; simp
  · rw [if_neg (by omega)]; simp; omega
@[simp] theorem atI_0 {α : Type} {a : α} {l : List α} : atI (a :: l) 0 = some a := by
  have := atI_nat' (l := a :: l) (n := 0); simpa using this
@[simp] theorem atI_lit {α : Type} {l : List α} {n : Nat} : atI l (OfNat.ofNat n : Int) = l[n]? := atI_nat' (n := n)
/-- texts -/
@[simp] theorem eqv_str {a b : Str} : D.eqv (.str a) (.str b) = decide (a = b) := by
  show (a == b) = decide (a = b)
  exact Bool.beq_eq_decide_eq _ _
@[simp] theorem eqv_int {a b : Int} : D.eqv (.int a) (.int b) = decide (a = b) := by
  show (a == b) = decide (a = b)
  exact Bool.beq_eq_decide_eq _ _
@[simp] theorem eqv_bl {a b : Bool} : D.eqv (.bl a) (.bl b) = (a == b) := rfl
theorem strOk_of (a : String) : PyData.strOk (Str.ofString a) = true := by
  rw [Str.ofString_eq_toList]
  unfold PyData.strOk
  rw [← Array.all_toList]
  apply List.all_eq_true.mpr
  intro n hn
  obtain ⟨c, _, rfl⟩ := List.mem_map.mp (by simpa using hn)
  have h := c.valid
  have : c.toNat = c.val.toNat := rfl
  simp only [UInt32.isValidChar, Nat.isValidChar] at h
  apply decide_eq_true
  rw [this]; omega
@[simp] theorem good_str {a : String} : (D.str (Str.ofString a)).good = true := by
  unfold D.good D.wf D.dep; rw [strOk_of]; rfl
@[simp] theorem good_int {i : Int} : (D.int i).good = true := rfl
@[simp] theorem good_bl {i : Bool} : (D.bl i).good = true := rfl
@[simp] theorem good_non : D.non.good = true := rfl
/-! ### the model -/
def nmN : Fin 6 → String
  | 0 => "a" | 1 => "b" | 2 => "c" | 3 => "d" | 4 => "e" | 5 => "f"
def nmS (i : Fin 6) : Str := Str.ofString (nmN i)
def Sm.d : Sm → D
  | .num n => .tup [.str "num", .int n]
  | .name i => .tup [.str "name", .str (nmS i)]
  | .cell a => .tup [.str "cell", a.d]
  | .add a b => .tup [.str "add", a.d, b.d]
  | .sub a b => .tup [.str "sub", a.d, b.d]
  | .mul a b => .tup [.str "mul", a.d, b.d]
  | .less a b => .tup [.str "less", a.d, b.d]
def Sm.dep : Sm → Nat
  | .num _ => 0
  | .name _ => 0
  | .cell a => a.dep + 1
  | .add a b => max a.dep b.dep + 1
  | .sub a b => max a.dep b.dep + 1
  | .mul a b => max a.dep b.dep + 1
  | .less a b => max a.dep b.dep + 1
/-- the numbers are worths -/
def Sm.ok : Sm → Prop
  | .num n => 0 ≤ n ∧ n < 10007
  | .name _ => True
  | .cell a => a.ok
  | .add a b => a.ok ∧ b.ok
  | .sub a b => a.ok ∧ b.ok
  | .mul a b => a.ok ∧ b.ok
  | .less a b => a.ok ∧ b.ok
def Sta.d (s : Sta) : D := .tup [.int s.row, .tup (s.nm.map .int), .tup (s.cl.map .int), .tup (s.calls.map fun n => .int (n : Nat)), .int s.asked, .tup (s.said.map .int)]
def Sm.ev (s : Sta) : Sm → Int
  | .num n => n
  | .name i => s.nm.getD i 0
  | .cell a => s.cl.getD (a.ev s % 4).toNat 0
  | .add a b => (a.ev s + b.ev s) % 10007
  | .sub a b => (a.ev s - b.ev s) % 10007
  | .mul a b => (a.ev s * b.ev s) % 10007
  | .less a b => if a.ev s < b.ev s then 1 else 0
def Wo (n : Int) : Prop := 0 ≤ n ∧ n < 10007
structure Sta.ok (s : Sta) : Prop where
  nl : s.nm.length = 6
  cl : s.cl.length = 4
  nw : ∀ n ∈ s.nm, Wo n
  cw : ∀ n ∈ s.cl, Wo n
theorem getD_wo {l : List Int} (h : ∀ n ∈ l, Wo n) (i : Nat) : Wo (l.getD i 0) := by
  rw [List.getD_eq_getElem?_getD]
  cases e : l[i]? with
  | none => exact ⟨by decide, by decide⟩
  | some n => exact h n (List.mem_of_getElem? e)
theorem Sm.ev_wo {s : Sta} (hs : s.ok) : ∀ {a : Sm}, a.ok → Wo (a.ev s)
  | .num n, h => h
  | .name i, _ => getD_wo hs.nw _
  | .cell a, _ => getD_wo hs.cw _
  | .add a b, _ => ⟨Int.emod_nonneg _ (by decide), Int.emod_lt_of_pos _ (by decide)⟩
  | .sub a b, _ => ⟨Int.emod_nonneg _ (by decide), Int.emod_lt_of_pos _ (by decide)⟩
  | .mul a b, _ => ⟨Int.emod_nonneg _ (by decide), Int.emod_lt_of_pos _ (by decide)⟩
  | .less a b, _ => by
    show Wo (if _ then 1 else 0)
    split
    · exact ⟨by decide, by decide⟩
    · exact ⟨by decide, by decide⟩
end Bt
namespace Bt
open PySem PySem.Spec PyProof.Rows L2
def eqvs : List D → List D → Bool
  | [], [] => true
  | x :: xs, y :: ys => D.eqv x y && eqvs xs ys
  | [], _ :: _ => false
  | _ :: _, [] => false
theorem eqvs_of : ∀ (l m : List D), PyData.eqvAll (D.toPs l) (D.toPs m) = eqvs l m
  | [], [] => by simp only [D.toPs, PyData.eqvAll, eqvs]
  | x :: xs, y :: ys => by simp only [D.toPs, PyData.eqvAll, eqvs]; rw [eqvs_of xs ys]; rfl
  | [], y :: ys => by simp only [D.toPs, PyData.eqvAll, eqvs]
  | x :: xs, [] => by simp only [D.toPs, PyData.eqvAll, eqvs]
@[simp] theorem eqvs_nil : eqvs [] [] = true := by simp only [eqvs]
@[simp] theorem eqvs_cons {x y xs ys} : eqvs (x :: xs) (y :: ys) = (D.eqv x y && eqvs xs ys) := by simp only [eqvs]
@[simp] theorem eqvs_nc {y ys} : eqvs [] (y :: ys) = false := by simp only [eqvs]
@[simp] theorem eqvs_cn {y ys} : eqvs (y :: ys) [] = false := by simp only [eqvs]
@[simp] theorem eqv_tup {l m} : D.eqv (.tup l) (.tup m) = eqvs l m := by
  unfold D.eqv; simp only [D.toP, PyData.eqv]; exact eqvs_of l m
@[simp] theorem eqv_lst {l m} : D.eqv (.lst l) (.lst m) = eqvs l m := by
  unfold D.eqv; simp only [D.toP, PyData.eqv]; exact eqvs_of l m
@[simp] theorem eqv_scl {l m} : D.eqv (.scr l) (.lst m) = eqvs l m := by
  unfold D.eqv; simp only [D.toP, PyData.eqv]; exact eqvs_of l m
@[simp] theorem eqv_non : D.eqv .non .non = true := by unfold D.eqv; simp only [D.toP, PyData.eqv]
@[simp] theorem eqv_ni {i} : D.eqv .non (.int i) = false := by unfold D.eqv; simp only [D.toP, PyData.eqv]
@[simp] theorem eqv_in {i} : D.eqv (.int i) .non = false := by unfold D.eqv; simp only [D.toP, PyData.eqv]
@[simp] theorem eqv_nt {i} : D.eqv .non (.tup i) = false := by unfold D.eqv; simp only [D.toP, PyData.eqv]
@[simp] theorem eqv_tn {i} : D.eqv (.tup i) .non = false := by unfold D.eqv; simp only [D.toP, PyData.eqv]
@[simp] theorem eqv_si {s i} : D.eqv (.str s) (.int i) = false := by unfold D.eqv; simp only [D.toP, PyData.eqv]
@[simp] theorem eqv_is {s i} : D.eqv (.int i) (.str s) = false := by unfold D.eqv; simp only [D.toP, PyData.eqv]
@[simp] theorem eqv_st {s i} : D.eqv (.str s) (.tup i) = false := by unfold D.eqv; simp only [D.toP, PyData.eqv]
@[simp] theorem eqv_ts {s i} : D.eqv (.tup i) (.str s) = false := by unfold D.eqv; simp only [D.toP, PyData.eqv]
@[simp] theorem eqv_it {s i} : D.eqv (.int s) (.tup i) = false := by unfold D.eqv; simp only [D.toP, PyData.eqv]
@[simp] theorem eqv_ti {s i} : D.eqv (.tup i) (.int s) = false := by unfold D.eqv; simp only [D.toP, PyData.eqv]
theorem eqv_refl {d : D} (h : d.good = true) : D.eqv d d = true := SeqAt.eqv_refl d.toP (canLay_of d (good_wf h))
/-- good by parts -/
def D.gd (n : Nat) (d : D) : Prop := d.wf = true ∧ d.dep ≤ n
theorem D.gd.good {n : Nat} {d : D} (h : d.gd n) (hn : n ≤ 60 := by decide) : d.good = true := by
  unfold D.good; rw [h.1, decide_eq_true (Nat.le_trans h.2 hn)]; rfl
theorem D.gd.mono {n m : Nat} {d : D} (h : d.gd n) (hn : n ≤ m := by omega) : d.gd m := ⟨h.1, Nat.le_trans h.2 hn⟩
theorem gds {n : Nat} : ∀ {l : List D}, (∀ d ∈ l, d.gd n) → D.wfs l = true ∧ D.deps l ≤ n
  | [], _ => ⟨rfl, Nat.zero_le _⟩
  | d :: ds, h => by
    obtain ⟨a, b⟩ := h d (List.mem_cons_self)
    obtain ⟨p, q⟩ := gds fun x hx => h x (List.mem_cons_of_mem _ hx)
    exact ⟨by show (d.wf && D.wfs ds) = true; rw [a, p]; rfl, by show max d.dep (D.deps ds) ≤ n; omega⟩
theorem gd_tup {n : Nat} {l : List D} (h : ∀ d ∈ l, d.gd n) : (D.tup l).gd (n + 1) := ⟨(gds h).1, Nat.succ_le_succ (gds h).2⟩
theorem gd_lst {n : Nat} {l : List D} (h : ∀ d ∈ l, d.gd n) : (D.lst l).gd (n + 1) := ⟨(gds h).1, Nat.succ_le_succ (gds h).2⟩
theorem gd_scr {n : Nat} {l : List D} (h : ∀ d ∈ l, d.gd n) : (D.scr l).gd (n + 1) := ⟨(gds h).1, Nat.succ_le_succ (gds h).2⟩
theorem gd_int {i : Int} {n : Nat} : (D.int i).gd n := ⟨rfl, Nat.zero_le _⟩
theorem gd_bl {i : Bool} {n : Nat} : (D.bl i).gd n := ⟨rfl, Nat.zero_le _⟩
theorem gd_non {n : Nat} : D.non.gd n := ⟨rfl, Nat.zero_le _⟩
theorem gd_str {s : String} {n : Nat} : (D.str (Str.ofString s)).gd n := ⟨strOk_of s, Nat.zero_le _⟩
theorem gd_ints {l : List Int} {n : Nat} : (D.tup (l.map D.int)).gd (n + 1) := gd_tup fun d hd => by
  obtain ⟨i, _, rfl⟩ := List.mem_map.mp hd; exact gd_int
theorem gd_nats {l : List Nat} {n : Nat} : (D.tup (l.map fun (n : Nat) => D.int n)).gd (n + 1) := gd_tup fun d hd => by
  obtain ⟨i, _, rfl⟩ := List.mem_map.mp hd; exact gd_int
theorem Sta.gd (s : Sta) : s.d.gd 2 := by
  unfold Sta.d
  refine gd_tup fun d hd => ?_
  simp only [List.mem_cons, List.not_mem_nil, or_false] at hd
  rcases hd with rfl | rfl | rfl | rfl | rfl | rfl
  · exact gd_int
  · exact gd_ints
  · exact gd_ints
  · exact gd_nats
  · exact gd_int
  · exact gd_ints
theorem gd_nm {i : Fin 6} {n : Nat} : (D.str (nmS i)).gd n := gd_str
theorem Sm.gd : ∀ a : Sm, a.d.gd (a.dep + 1)
  | .num n => gd_tup (n := 0) fun d hd => by
    simp only [List.mem_cons, List.not_mem_nil, or_false] at hd
    rcases hd with rfl | rfl
    · exact gd_str
    · exact gd_int
  | .name n => gd_tup (n := 0) fun d hd => by
    simp only [List.mem_cons, List.not_mem_nil, or_false] at hd
    rcases hd with rfl | rfl
    · exact gd_str
    · exact gd_nm
  | .cell a => gd_tup fun d hd => by
    simp only [List.mem_cons, List.not_mem_nil, or_false] at hd
    rcases hd with rfl | rfl
    · exact gd_str
    · exact (Sm.gd a)
  | .add a b => gd_tup fun d hd => by
    simp only [List.mem_cons, List.not_mem_nil, or_false] at hd
    rcases hd with rfl | rfl | rfl
    · exact gd_str
    · exact (Sm.gd a).mono (Nat.succ_le_succ (Nat.le_max_left _ _))
    · exact (Sm.gd b).mono (Nat.succ_le_succ (Nat.le_max_right _ _))
  | .sub a b => gd_tup fun d hd => by
    simp only [List.mem_cons, List.not_mem_nil, or_false] at hd
    rcases hd with rfl | rfl | rfl
    · exact gd_str
    · exact (Sm.gd a).mono (Nat.succ_le_succ (Nat.le_max_left _ _))
    · exact (Sm.gd b).mono (Nat.succ_le_succ (Nat.le_max_right _ _))
  | .mul a b => gd_tup fun d hd => by
    simp only [List.mem_cons, List.not_mem_nil, or_false] at hd
    rcases hd with rfl | rfl | rfl
    · exact gd_str
    · exact (Sm.gd a).mono (Nat.succ_le_succ (Nat.le_max_left _ _))
    · exact (Sm.gd b).mono (Nat.succ_le_succ (Nat.le_max_right _ _))
  | .less a b => gd_tup fun d hd => by
    simp only [List.mem_cons, List.not_mem_nil, or_false] at hd
    rcases hd with rfl | rfl | rfl
    · exact gd_str
    · exact (Sm.gd a).mono (Nat.succ_le_succ (Nat.le_max_left _ _))
    · exact (Sm.gd b).mono (Nat.succ_le_succ (Nat.le_max_right _ _))
/-! ### rows and steps -/
def Row.d : Row → D
  | .set i a => .tup [.str "set", .str (nmS i), a.d]
  | .put a b => .tup [.str "put", a.d, b.d]
  | .ask i => .tup [.str "ask", .str (nmS i)]
  | .say a => .tup [.str "say", a.d]
  | .jump p => .tup [.str "jump", .int p]
  | .unless a p => .tup [.str "unless", a.d, .int p]
  | .call p => .tup [.str "call", .int p]
  | .back => .tup [.str "back"]
  | .stop => .tup [.str "stop"]
/-- worths in order, depth, places there are -/
def Row.ok (n : Nat) : Row → Prop
  | .set _ a => a.ok ∧ a.dep < 9
  | .put a b => (a.ok ∧ a.dep < 9) ∧ (b.ok ∧ b.dep < 9)
  | .ask _ => True
  | .say a => a.ok ∧ a.dep < 9
  | .jump p => p ≤ n
  | .unless a p => (a.ok ∧ a.dep < 9) ∧ p ≤ n
  | .call p => p ≤ n
  | .back => True
  | .stop => True
abbrev Prg := List Row
def prgD (p : Prg) : D := .tup (p.map Row.d)
structure PrgOk (p : Prg) : Prop where
  rows : ∀ r ∈ p, r.ok p.length
  len : p.length ≤ 1000
theorem Row.gd {n : Nat} {r : Row} (h : r.ok n) : r.d.gd 11 := by
  cases r with
  | set i a =>
    refine gd_tup fun d hd => ?_
    simp only [List.mem_cons, List.not_mem_nil, or_false] at hd
    rcases hd with rfl | rfl | rfl
    · exact gd_str
    · exact gd_nm
    · exact (Sm.gd a).mono (by have := h.2; omega)
  | put a b =>
    refine gd_tup fun d hd => ?_
    simp only [List.mem_cons, List.not_mem_nil, or_false] at hd
    rcases hd with rfl | rfl | rfl
    · exact gd_str
    · exact (Sm.gd a).mono (by have := h.1.2; omega)
    · exact (Sm.gd b).mono (by have := h.2.2; omega)
  | ask i =>
    refine gd_tup fun d hd => ?_
    simp only [List.mem_cons, List.not_mem_nil, or_false] at hd
    rcases hd with rfl | rfl
    · exact gd_str
    · exact gd_nm
  | say a =>
    refine gd_tup fun d hd => ?_
    simp only [List.mem_cons, List.not_mem_nil, or_false] at hd
    rcases hd with rfl | rfl
    · exact gd_str
    · exact (Sm.gd a).mono (by have := h.2; omega)
  | jump p =>
    refine gd_tup fun d hd => ?_
    simp only [List.mem_cons, List.not_mem_nil, or_false] at hd
    rcases hd with rfl | rfl
    · exact gd_str
    · exact gd_int
  | «unless» a p =>
    refine gd_tup fun d hd => ?_
    simp only [List.mem_cons, List.not_mem_nil, or_false] at hd
    rcases hd with rfl | rfl | rfl
    · exact gd_str
    · exact (Sm.gd a).mono (by have := h.1.2; omega)
    · exact gd_int
  | call p =>
    refine gd_tup fun d hd => ?_
    simp only [List.mem_cons, List.not_mem_nil, or_false] at hd
    rcases hd with rfl | rfl
    · exact gd_str
    · exact gd_int
  | back =>
    refine gd_tup fun d hd => ?_
    simp only [List.mem_cons, List.not_mem_nil, or_false] at hd
    rcases hd with rfl
    exact gd_str
  | stop =>
    refine gd_tup fun d hd => ?_
    simp only [List.mem_cons, List.not_mem_nil, or_false] at hd
    rcases hd with rfl
    exact gd_str
inductive Th where
  | nm (i : Fin 6) | cl (j : Nat)
  deriving DecidableEq
def Th.d : Th → D
  | .nm i => .str (nmS i)
  | .cl j => .int j
def Th.ok : Th → Prop
  | .nm _ => True
  | .cl j => j < 4
def Sta.put (s : Sta) (t : Th) (n : Int) : Sta := match t with
  | .nm i => { s with nm := s.nm.set i n }
  | .cl j => { s with cl := s.cl.set j n }
def Sta.get (s : Sta) : Th → Int
  | .nm i => s.nm.getD i 0
  | .cl j => s.cl.getD j 0
def rowAt (p : Prg) (s : Sta) : Row := p.getD s.row .stop
def over (p : Prg) (s : Sta) : Bool := match rowAt p s with
  | .stop => true
  | .back => s.calls.isEmpty
  | .call _ => decide (s.calls.length = 6)
  | _ => false
def wrs (as : List Int) (s : Sta) : Row → Option (Th × Int)
  | .set i a => some (.nm i, a.ev s)
  | .put a b => some (.cl (a.ev s % 4).toNat, b.ev s)
  | .ask i => some (.nm i, as.getD s.asked 0)
  | _ => none
def goal (s : Sta) : Row → Nat
  | .jump p => p
  | .unless a p => if a.ev s = 0 then p else s.row + 1
  | .call p => p
  | .back => s.calls.getLastD 0
  | _ => s.row + 1
def calls' (s : Sta) : Row → List Nat
  | .call _ => s.calls ++ [s.row + 1]
  | .back => s.calls.dropLast
  | _ => s.calls
def said' (s : Sta) : Row → List Int
  | .say a => s.said ++ [a.ev s]
  | _ => s.said
def asked' (s : Sta) : Row → Nat
  | .ask _ => s.asked + 1
  | _ => s.asked
def stepR (as : List Int) (r : Row) (s : Sta) : Sta :=
  let t : Sta := { s with row := goal s r, calls := calls' s r, asked := asked' s r, said := said' s r }
  match wrs as s r with
  | some (x, n) => t.put x n
  | none => t
def stepM (p : Prg) (as : List Int) (s : Sta) : Sta := stepR as (rowAt p s) s
/-- a state of a run, so many steps on -/
structure StOk (p : Prg) (k : Nat) (s : Sta) : Prop where
  so : s.ok
  row : s.row ≤ p.length
  calls : ∀ n ∈ s.calls, n ≤ p.length
  deep : s.calls.length ≤ 6
  said : s.said.length ≤ k
  asked : s.asked ≤ k
  saidw : ∀ n ∈ s.said, Wo n
def sta0 : Sta := ⟨0, [0, 0, 0, 0, 0, 0], [0, 0, 0, 0], [], 0, []⟩
theorem sta0_ok (p : Prg) : StOk p 0 sta0 where
  so := ⟨rfl, rfl, by intro n h; simp [sta0] at h; subst h; exact ⟨by decide, by decide⟩, by intro n h; simp [sta0] at h; subst h; exact ⟨by decide, by decide⟩⟩
  row := Nat.zero_le _
  calls := by intro n h; simp [sta0] at h
  deep := by decide
  said := by decide
  asked := by decide
  saidw := by intro n h; simp [sta0] at h
theorem StOk.mono {p : Prg} {k k' : Nat} {s : Sta} (h : StOk p k s) (hk : k ≤ k') : StOk p k' s :=
  { h with said := Nat.le_trans h.said hk, asked := Nat.le_trans h.asked hk }
theorem rowAt_ok {p : Prg} (hp : PrgOk p) (s : Sta) : (rowAt p s).ok p.length := by
  unfold rowAt
  rw [List.getD_eq_getElem?_getD]
  cases e : p[s.row]? with
  | none => exact trivial
  | some r => exact hp.rows r (List.mem_of_getElem? e)
theorem row_lt {p : Prg} {s : Sta} (h : s.row ≤ p.length) (ho : over p s = false) : s.row < p.length := by
  rcases Nat.lt_or_ge s.row p.length with q | q
  · exact q
  · unfold over rowAt at ho
    rw [List.getD_eq_getElem?_getD, List.getElem?_eq_none q] at ho
    cases ho
structure Put2 (s t : Sta) : Prop where
  row : t.row = s.row
  calls : t.calls = s.calls
  asked : t.asked = s.asked
  said : t.said = s.said
theorem Sta.put2 (s : Sta) (t : Th) (n : Int) : Put2 s (s.put t n) := by
  cases t <;> exact ⟨rfl, rfl, rfl, rfl⟩
theorem Sta.put_ok {s : Sta} (h : s.ok) {t : Th} {n : Int} (hn : Wo n) : (s.put t n).ok := by
  have key : ∀ (l : List Int) (i : Nat), (∀ m ∈ l, Wo m) → ∀ m ∈ l.set i n, Wo m := by
    intro l i hl m hm
    rcases List.mem_or_eq_of_mem_set hm with q | q
    · exact hl m q
    · rw [q]; exact hn
  cases t with
  | nm i => exact ⟨by show (s.nm.set _ _).length = 6; rw [List.length_set]; exact h.nl, h.cl, key _ _ h.nw, h.cw⟩
  | cl i => exact ⟨h.nl, by show (s.cl.set _ _).length = 4; rw [List.length_set]; exact h.cl, h.nw, key _ _ h.cw⟩
theorem getLastD_mem' {l : List Nat} {n : Nat} (h : ∀ x ∈ l, x ≤ n) : l.getLastD 0 ≤ n := by
  rw [List.getLastD_eq_getLast?]
  cases e : l.getLast? with
  | none => exact Nat.zero_le _
  | some x => exact h x (List.mem_of_getLast? e)
theorem goal_le {p : Prg} (hp : PrgOk p) {k : Nat} {s : Sta} (h : StOk p k s) (hr : s.row < p.length) : goal s (rowAt p s) ≤ p.length := by
  have hk := rowAt_ok hp s
  generalize rowAt p s = r at hk ⊢
  cases r with
  | jump q => exact hk
  | «unless» a q =>
    show (if _ then _ else _) ≤ _
    split
    · exact hk.2
    · exact hr
  | call q => exact hk
  | back => exact getLastD_mem' h.calls
  | _ => exact hr
theorem stepR_eq (as : List Int) (r : Row) (s : Sta) : ∃ t : Sta, stepR as r s = (match wrs as s r with | some (x, n) => t.put x n | none => t) ∧ t = { s with row := goal s r, calls := calls' s r, asked := asked' s r, said := said' s r } := ⟨_, rfl, rfl⟩
theorem stepM_ok {p : Prg} (hp : PrgOk p) {as : List Int} (ha : ∀ n ∈ as, Wo n) {k : Nat} {s : Sta} (h : StOk p k s) (ho : over p s = false) : StOk p (k + 1) (stepM p as s) := by
  have hr := row_lt h.row ho
  have hk := rowAt_ok hp s
  have hg := goal_le hp h hr
  have hd : (rowAt p s) = (rowAt p s) := rfl
  have base : StOk p (k + 1) { s with row := goal s (rowAt p s), calls := calls' s (rowAt p s), asked := asked' s (rowAt p s), said := said' s (rowAt p s) } := by
    refine { so := ⟨h.so.nl, h.so.cl, h.so.nw, h.so.cw⟩, row := hg, calls := ?_, deep := ?_, said := ?_, asked := ?_, saidw := ?_ }
    · intro n hn
      show n ≤ p.length
      change n ∈ calls' s (rowAt p s) at hn
      cases e : rowAt p s with
      | call q =>
        rw [e] at hn
        rcases List.mem_append.mp hn with z | z
        · exact h.calls n z
        · rw [List.mem_singleton.mp z]; exact hr
      | back => rw [e] at hn; exact h.calls n (List.dropLast_subset _ hn)
      | _ => rw [e] at hn; exact h.calls n hn
    · show (calls' s (rowAt p s)).length ≤ 6
      cases e : rowAt p s with
      | call q =>
        unfold over at ho
        rw [e] at ho
        have h6 := of_decide_eq_false ho
        have := h.deep
        show (s.calls ++ [s.row + 1]).length ≤ 6
        rw [List.length_append]
        show s.calls.length + 1 ≤ 6
        omega
      | back => show s.calls.dropLast.length ≤ 6; rw [List.length_dropLast]; have := h.deep; omega
      | _ => exact h.deep
    · show (said' s (rowAt p s)).length ≤ k + 1
      have := h.said
      cases e : rowAt p s with
      | say a => show (s.said ++ [_]).length ≤ k + 1; rw [List.length_append]; exact Nat.succ_le_succ this
      | _ => exact Nat.le_succ_of_le this
    · show asked' s (rowAt p s) ≤ k + 1
      have := h.asked
      cases e : rowAt p s with
      | ask a => exact Nat.succ_le_succ this
      | _ => exact Nat.le_succ_of_le this
    · intro n hn
      change n ∈ said' s (rowAt p s) at hn
      cases e : rowAt p s with
      | say a =>
        rw [e] at hn hk
        rcases List.mem_append.mp hn with z | z
        · exact h.saidw n z
        · rw [List.mem_singleton.mp z]; exact Sm.ev_wo h.so hk.1
      | _ => rw [e] at hn; exact h.saidw n hn
  unfold stepM
  obtain ⟨t, e, et⟩ := stepR_eq as (rowAt p s) s
  rw [e]
  rw [← et] at base
  cases ew : wrs as s (rowAt p s) with
  | none => exact base
  | some xn =>
    obtain ⟨x, n⟩ := xn
    have hn : Wo n := by
      cases er : rowAt p s with
      | set i a => rw [er] at ew hk; cases ew; exact Sm.ev_wo h.so hk.1
      | put a b => rw [er] at ew hk; cases ew; exact Sm.ev_wo h.so hk.2.1
      | ask i => rw [er] at ew; cases ew; exact getD_wo ha _
      | _ => rw [er] at ew; cases ew
    have p2 := t.put2 x n
    have hok := Sta.put_ok (t := x) base.so hn
    exact { so := hok, row := by rw [p2.row]; exact base.row, calls := by rw [p2.calls]; exact base.calls, deep := by rw [p2.calls]; exact base.deep, said := by rw [p2.said]; exact base.said, asked := by rw [p2.asked]; exact base.asked, saidw := by rw [p2.said]; exact base.saidw }
end Bt
namespace Bt
open PySem PySem.Spec PyProof.Rows L2
abbrev c_NAMES : D := .str "abcdef"
abbrev c_SIZE : D := .int 10007
noncomputable def F_l_cell : Fn := fnBody 2 2
    (sSeq (sIf (eOp opEq (eVar 0) (eLst eNil))
    (sRet (eOp opMul (eC (.int 7)) (eVar 1)))
    sSkip)
    (sRet (eOp opAdd (eOp opIx (eVar 0) (eOp opMod (eVar 1) (eCallB (f1 bLen) (eCons (eVar 0) eNil)))) (eOp opMul (eC (.int 6553)) (eOp opDiv (eVar 1) (eCallB (f1 bLen) (eCons (eVar 0) eNil)))))))
noncomputable def G_l_cell : Fn := F_l_cell
noncomputable def F_l_drawn : Fn := fnBody 3 4
    (sSeq (sSet 3 (eOp opMod (eOp opAdd (eOp opMul (eOp opMod (eCall G_l_cell (eCons (eVar 0) (eCons (eVar 1) eNil))) (eC (.int 2147483563))) (eC (.int 69069))) (eOp opMul (eC (.int 104723)) (eOp opAdd (eVar 1) (eC (.int 1))))) (eC (.int 2147483563))))
    (sSeq (sSet 3 (eOp opMod (eOp opAdd (eOp opMul (eVar 3) (eVar 3)) (eOp opDiv (eVar 3) (eC (.int 3)))) (eC (.int 2147483399))))
    (sRet (eOp opMod (eOp opDiv (eOp opMod (eOp opAdd (eOp opMul (eVar 3) (eVar 3)) (eOp opDiv (eVar 3) (eC (.int 7)))) (eC (.int 2147483647))) (eC (.int 11))) (eVar 2)))))
noncomputable def G_l_drawn : Fn := F_l_drawn
noncomputable def F_l_sum (rec : Fn) : Fn := fnBody 3 5
    (sSeq (sSet 3 (eCall G_l_drawn (eCons (eVar 0) (eCons (eVar 1) (eCons (eC (.int 10)) eNil)))))
    (sSeq (sIf (eOr (eOp opEq (eVar 2) (eC (.int 0))) (eOp opLt (eVar 3) (eC (.int 4))))
    (sSeq (sIf (eOp opEq (eCall G_l_drawn (eCons (eVar 0) (eCons (eOp opAdd (eVar 1) (eC (.int 1))) (eCons (eC (.int 2)) eNil)))) (eC (.int 0)))
    (sRet (eTup (eCons (eC (.str "num")) (eCons (eOp opIx (eLst (eCons (eC (.int 0)) (eCons (eC (.int 1)) (eCons (eC (.int 2)) (eCons (eC (.int 3)) (eCons (eC (.int 10)) (eCons (eC (.int 10006)) eNil))))))) (eCall G_l_drawn (eCons (eVar 0) (eCons (eOp opAdd (eVar 1) (eC (.int 2))) (eCons (eC (.int 6)) eNil))))) eNil))))
    sSkip)
    (sRet (eTup (eCons (eC (.str "name")) (eCons (eOp opIx (eC (.str "abcf")) (eCall G_l_drawn (eCons (eVar 0) (eCons (eOp opAdd (eVar 1) (eC (.int 2))) (eCons (eC (.int 4)) eNil))))) eNil)))))
    sSkip)
    (sSeq (sSet 4 (eCall rec (eCons (eVar 0) (eCons (eOp opAdd (eOp opMul (eVar 1) (eC (.int 2))) (eC (.int 5))) (eCons (eOp opSub (eVar 2) (eC (.int 1))) eNil)))))
    (sSeq (sIf (eOp opLt (eVar 3) (eC (.int 6)))
    (sRet (eTup (eCons (eC (.str "cell")) (eCons (eVar 4) eNil))))
    sSkip)
    (sRet (eTup (eCons (eOp opIx (eLst (eCons (eC (.str "add")) (eCons (eC (.str "sub")) (eCons (eC (.str "mul")) (eCons (eC (.str "less")) eNil))))) (eOp opSub (eVar 3) (eC (.int 6)))) (eCons (eVar 4) (eCons (eCall rec (eCons (eVar 0) (eCons (eOp opAdd (eOp opMul (eVar 1) (eC (.int 2))) (eC (.int 19))) (eCons (eOp opSub (eVar 2) (eC (.int 1))) eNil)))) eNil)))))))))
noncomputable def G_l_sum : Fn := recN F_l_sum 5
noncomputable def F_l_row : Fn := fnBody 3 7
    (sSeq (sSet 3 (eCall G_l_drawn (eCons (eVar 0) (eCons (eVar 1) (eCons (eC (.int 16)) eNil)))))
    (sSeq (sSet 4 (eCall G_l_drawn (eCons (eVar 0) (eCons (eOp opAdd (eVar 1) (eC (.int 1))) (eCons (eOp opAdd (eVar 2) (eC (.int 1))) eNil)))))
    (sSeq (sSet 5 (eOp opIx (eC (.str "abc")) (eCall G_l_drawn (eCons (eVar 0) (eCons (eOp opAdd (eVar 1) (eC (.int 2))) (eCons (eC (.int 3)) eNil))))))
    (sSeq (sSet 6 (eCall G_l_sum (eCons (eVar 0) (eCons (eOp opAdd (eVar 1) (eC (.int 3))) (eCons (eC (.int 2)) eNil)))))
    (sSeq (sIf (eOp opLt (eVar 3) (eC (.int 5)))
    (sRet (eTup (eCons (eC (.str "set")) (eCons (eVar 5) (eCons (eVar 6) eNil)))))
    sSkip)
    (sSeq (sIf (eOp opLt (eVar 3) (eC (.int 7)))
    (sRet (eTup (eCons (eC (.str "put")) (eCons (eCall G_l_sum (eCons (eVar 0) (eCons (eOp opAdd (eVar 1) (eC (.int 9))) (eCons (eC (.int 1)) eNil)))) (eCons (eVar 6) eNil)))))
    sSkip)
    (sSeq (sIf (eOp opLt (eVar 3) (eC (.int 9)))
    (sRet (eOp opIx (eLst (eCons (eTup (eCons (eC (.str "ask")) (eCons (eVar 5) eNil))) (eCons (eTup (eCons (eC (.str "say")) (eCons (eVar 6) eNil))) eNil))) (eOp opSub (eVar 3) (eC (.int 7)))))
    sSkip)
    (sSeq (sIf (eOp opLt (eVar 3) (eC (.int 12)))
    (sRet (eOp opIx (eLst (eCons (eTup (eCons (eC (.str "jump")) (eCons (eVar 4) eNil))) (eCons (eTup (eCons (eC (.str "unless")) (eCons (eVar 6) (eCons (eVar 4) eNil)))) (eCons (eTup (eCons (eC (.str "unless")) (eCons (eTup (eCons (eC (.str "name")) (eCons (eVar 5) eNil))) (eCons (eVar 4) eNil)))) eNil)))) (eOp opSub (eVar 3) (eC (.int 9)))))
    sSkip)
    (sRet (eOp opIx (eLst (eCons (eTup (eCons (eC (.str "call")) (eCons (eVar 4) eNil))) (eCons (eTup (eCons (eC (.str "call")) (eCons (eVar 4) eNil))) (eCons (eTup (eCons (eC (.str "back")) eNil)) (eCons (eOp opIx (eLst (eCons (eTup (eCons (eC (.str "stop")) eNil)) (eCons (eTup (eCons (eC (.str "back")) eNil)) eNil))) (eOp opMod (eVar 4) (eC (.int 2)))) eNil))))) (eOp opSub (eVar 3) (eC (.int 12)))))))))))))
noncomputable def G_l_row : Fn := F_l_row
noncomputable def F_l_program : Fn := fnBody 2 7
    (sSeq (sSet 2 (eOp opAdd (eC (.int 1)) (eCall G_l_drawn (eCons (eVar 0) (eCons (eVar 1) (eCons (eC (.int 9)) eNil))))))
    (sSeq (sIf (eOp opEq (eCall G_l_drawn (eCons (eVar 0) (eCons (eOp opAdd (eVar 1) (eC (.int 1))) (eCons (eC (.int 4)) eNil)))) (eC (.int 0)))
    (sSeq (sSet 3 (eTup (eCons (eC (.str "put")) (eCons (eTup (eCons (eC (.str "name")) (eCons (eC (.str "a")) eNil))) (eCons (eTup (eCons (eC (.str "num")) (eCons (eCall G_l_drawn (eCons (eVar 0) (eCons (eOp opAdd (eVar 1) (eC (.int 2))) (eCons (eC (.int 9)) eNil)))) eNil))) eNil)))))
    (sSeq (sSet 4 (eOp opIx (eLst (eCons (eC (.str "add")) (eCons (eC (.str "sub")) eNil))) (eCall G_l_drawn (eCons (eVar 0) (eCons (eOp opAdd (eVar 1) (eC (.int 3))) (eCons (eC (.int 2)) eNil))))))
    (sSeq (sSet 5 (eTup (eCons (eTup (eCons (eC (.str "ask")) (eCons (eC (.str "a")) eNil))) (eCons (eTup (eCons (eC (.str "call")) (eCons (eC (.int 4)) eNil))) (eCons (eTup (eCons (eC (.str "say")) (eCons (eTup (eCons (eC (.str "name")) (eCons (eC (.str "a")) eNil))) eNil))) (eCons (eTup (eCons (eC (.str "jump")) (eCons (eC (.int 0)) eNil))) (eCons (eVar 3) eNil)))))))
    (sRet (eOp opAdd (eVar 5) (eTup (eCons (eTup (eCons (eC (.str "call")) (eCons (eC (.int 7)) eNil))) (eCons (eTup (eCons (eC (.str "back")) eNil)) (eCons (eTup (eCons (eC (.str "set")) (eCons (eC (.str "b")) (eCons (eTup (eCons (eVar 4) (eCons (eTup (eCons (eC (.str "name")) (eCons (eC (.str "b")) eNil))) (eCons (eTup (eCons (eC (.str "name")) (eCons (eC (.str "a")) eNil))) eNil)))) eNil)))) (eCons (eTup (eCons (eC (.str "back")) eNil)) eNil))))))))))
    sSkip)
    (sRet (eCallB (f1 bTuple) (eCons (eComp [6] (iRange1 (eVar 2)) (dN 6) eYes (eCall G_l_row (eCons (eVar 0) (eCons (eOp opAdd (eOp opAdd (eVar 1) (eC (.int 10))) (eOp opMul (eC (.int 40)) (eVar 6))) (eCons (eVar 2) eNil))))) eNil)))))
noncomputable def G_l_program : Fn := F_l_program
end Bt
namespace Bt
open PySem PySem.Spec PyProof.Rows L2
section
variable {N : Nat} {f : Sx} {S : Sto} {a b c d : D}
theorem fnB1 : fnBody 1 N f [a] S = (f ([some a] ++ List.replicate (N - 1) none) S).toE := rfl
theorem fnB2 : fnBody 2 N f [a, b] S = (f ([some a, some b] ++ List.replicate (N - 2) none) S).toE := rfl
theorem fnB3 : fnBody 3 N f [a, b, c] S = (f ([some a, some b, some c] ++ List.replicate (N - 3) none) S).toE := rfl
theorem b_good {S : Sto} {x y : D} (hx : x.good = true) (hy : y.good = true) : opEq S x y = some (.bl (x.eqv y)) := by unfold opEq; rw [hx, hy]; rfl
theorem b_goodN {S : Sto} {x y : D} (hx : x.good = true) (hy : y.good = true) : opNe S x y = some (.bl !(x.eqv y)) := by unfold opNe; rw [hx, hy]; rfl
end
@[simp] theorem o_eqS {S : Sto} {a b : String} : opEq S (.str (Str.ofString a)) (.str (Str.ofString b)) = some (.bl (decide (a = b))) := by
  rw [b_good good_str good_str, eqv_str, decide_eq_decide.mpr ofString_inj]
@[simp] theorem o_eqI {S : Sto} {a b : Int} : opEq S (.int a) (.int b) = some (.bl (decide (a = b))) := by
  rw [b_good good_int good_int, eqv_int]
@[simp] theorem o_neI {S : Sto} {a b : Int} : opNe S (.int a) (.int b) = some (.bl (!decide (a = b))) := by
  rw [b_goodN good_int good_int, eqv_int]
@[simp] theorem l1_some {d : D} {S : Sto} : lift1 (some d) S = .ok d S := rfl
@[simp] theorem at_1 {α : Type} {l : List α} : atI l 1 = l[1]? := atI_nat' (n := 1)
@[simp] theorem at_2 {α : Type} {l : List α} : atI l 2 = l[2]? := atI_nat' (n := 2)
@[simp] theorem at_3 {α : Type} {l : List α} : atI l 3 = l[3]? := atI_nat' (n := 3)
@[simp] theorem at_4 {α : Type} {l : List α} : atI l 4 = l[4]? := atI_nat' (n := 4)
@[simp] theorem at_5 {α : Type} {l : List α} : atI l 5 = l[5]? := atI_nat' (n := 5)
@[simp] theorem sta_0 {s : Sta} {S : Sto} : opIx S s.d (.int 0) = some (.int s.row) := rfl
@[simp] theorem sta_1 {s : Sta} {S : Sto} : opIx S s.d (.int 1) = some (.tup (s.nm.map .int)) := rfl
@[simp] theorem sta_2 {s : Sta} {S : Sto} : opIx S s.d (.int 2) = some (.tup (s.cl.map .int)) := rfl
@[simp] theorem sta_3 {s : Sta} {S : Sto} : opIx S s.d (.int 3) = some (.tup (s.calls.map fun n => .int (n : Nat))) := rfl
@[simp] theorem sta_4 {s : Sta} {S : Sto} : opIx S s.d (.int 4) = some (.int s.asked) := rfl
@[simp] theorem sta_5 {s : Sta} {S : Sto} : opIx S s.d (.int 5) = some (.tup (s.said.map .int)) := rfl
@[simp] theorem isStr_s {S : Sto} {s : Str} : isStrD S (.str s) = true := rfl
@[simp] theorem ix_lt {S : Sto} {d : D} {i : Nat} : opIx S d (.int (i : Int)) = opIx S d (.int i) := rfl
end Bt
namespace Bt
open PySem PySem.Spec PyProof.Rows L2
theorem cut_pre {l : List D} {k : Int} (h : 0 ≤ k) : cutD l none (some k) = l.take k.toNat := by
  unfold cutD
  have e : HT.sIx l.length l.length (some k) = min k.toNat l.length := by
    show (if k < 0 then _ else min k.toNat l.length) = _
    rw [if_neg (by omega)]
  rw [e, HT.sIx_none, Nat.sub_zero, List.drop_zero]
  rcases Nat.le_total k.toNat l.length with q | q
  · rw [Nat.min_eq_left q]
  · rw [Nat.min_eq_right q, List.take_of_length_le (Nat.le_refl _), List.take_of_length_le q]
theorem cut_suf {l : List D} {k : Int} (h : 0 ≤ k) : cutD l (some k) none = l.drop k.toNat := by
  unfold cutD
  have e : HT.sIx l.length 0 (some k) = min k.toNat l.length := by
    show (if k < 0 then _ else min k.toNat l.length) = _
    rw [if_neg (by omega)]
  rw [e, HT.sIx_none]
  rcases Nat.le_total k.toNat l.length with q | q
  · rw [Nat.min_eq_left q, List.take_of_length_le (by rw [List.length_drop]; omega)]
  · rw [Nat.min_eq_right q, Nat.sub_self, List.take_zero, List.drop_of_length_le q]
@[simp] theorem cut_last {l : List D} : cutD l none (some (-1 : Int)) = l.dropLast := by
  unfold cutD
  have e : HT.sIx l.length l.length (some (-1)) = l.length - 1 := by
    show (if (-1 : Int) < 0 then (-1 + (l.length : Int)).toNat else min (-1 : Int).toNat l.length) = _
    rw [if_pos (by decide)]; omega
  rw [e, HT.sIx_none, Nat.sub_zero, List.drop_zero, List.dropLast_eq_take]
@[simp] theorem at_last {α : Type} {l : List α} : atI l (-1) = l.getLast? := by
  unfold atI ixN
  rw [if_neg (by decide)]
  cases l with
  | nil => rfl
  | cons a r =>
    rw [if_pos (by simp; omega)]
    show (a :: r)[((-1 : Int) + ((a :: r).length : Nat)).toNat]? = _
    rw [List.getLast?_eq_getElem?]
    congr 1
    simp; omega
@[simp] theorem o_mulT {S : Sto} {a : D} {j : Int} : opMul S (.tup [a]) (.int j) = if 2 ≤ j ∧ j ≤ 1000 then some (.tup (List.replicate j.toNat a)) else none := by
  have e : ∀ n : Nat, (List.replicate n [a]).flatten = List.replicate n a := by
    intro n
    induction n with
    | zero => rfl
    | succ n ih => rw [List.replicate_succ, List.flatten_cons, ih, List.replicate_succ]; rfl
  show (if [a].length ≠ 0 ∧ 2 ≤ j ∧ j ≤ 1000 ∧ [a].length ≤ 1000 then some (D.tup (List.replicate j.toNat [a]).flatten) else none) = _
  rw [e]
  by_cases q : 2 ≤ j ∧ j ≤ 1000
  · rw [if_pos q]; exact if_pos ⟨by simp, q.1, q.2, by simp⟩
  · rw [if_neg q]; exact if_neg fun z => q ⟨z.2.1, z.2.2.1⟩
@[simp] theorem len_names {S : Sto} : bLen S (.str "abcdef") = some (.int 6) := rfl
def asD (as : List Int) : D := .lst (as.map .int)
end Bt
namespace Bt
open PySem PySem.Spec PyProof.Rows L2
abbrev stsD (l : List Sta) : List D := l.map Sta.d
theorem o_leI {S : Sto} {i j : Int} : opLe S (.int i) (.int j) = some (.bl (decide (i ≤ j))) := rfl
@[simp] theorem sts_last {l : List Sta} {s : Sta} : atI (stsD (l ++ [s])) (-1) = some s.d := by
  show atI ((l ++ [s]).map Sta.d) (-1) = _
  rw [at_last, List.map_append]
  simp
end Bt
namespace Bt
open PySem PySem.Spec PyProof.Rows L2
def cellM (ns : List Int) (k : Int) : Int := if ns = [] then 7 * k else ns.getD (k % (ns.length : Int)).toNat 0 + 6553 * (k / (ns.length : Int))
def drawnM (ns : List Int) (k many : Int) : Int :=
  let c := (cellM ns k % 2147483563 * 69069 + 104723 * (k + 1)) % 2147483563
  let d := (c * c + c / 3) % 2147483399
  (d * d + d / 7) % 2147483647 / 11 % many
def scrD (ns : List Int) : D := .scr (ns.map D.int)
theorem drawn_rng {ns : List Int} {k many : Int} (h : 0 < many) : 0 ≤ drawnM ns k many ∧ drawnM ns k many < many :=
  ⟨Int.emod_nonneg _ (by omega), Int.emod_lt_of_pos _ h⟩
theorem scr_good {ns : List Int} : (scrD ns).good = true := (gd_scr (n := 0) fun d hd => by
  obtain ⟨i, _, rfl⟩ := List.mem_map.mp hd; exact gd_int).good
theorem cell_law {ns : List Int} (hn : ns.length ≤ 63) {k : Int} {S : Sto} : G_l_cell [scrD ns, .int k] S = .ok (.int (cellM ns k)) S := by
  unfold G_l_cell F_l_cell
  rw [fnB2]
  have e0 : opEq S (scrD ns) (.lst []) = some (.bl (decide (ns = []))) := by
    rw [b_good scr_good rfl]
    unfold scrD
    rw [eqv_scl]
    cases ns <;> simp
  by_cases q : ns = []
  · rw [q] at e0 ⊢
    have e0' : opEq S (scrD []) (.lst []) = some (.bl true) := e0
    simp [e0', cellM, lim]
  · have hpos : 0 < ns.length := by
      cases ns with
      | nil => exact absurd rfl q
      | cons => simp
    have z1 := Int.emod_nonneg k (show (ns.length : Int) ≠ 0 by omega)
    have z2 := Int.emod_lt_of_pos k (show (0 : Int) < ns.length by omega)
    have e1 : atI (ns.map D.int) (k % (ns.length : Int)) = some (.int (ns.getD (k % (ns.length : Int)).toNat 0)) := by
      obtain ⟨m, hm⟩ := Int.eq_ofNat_of_zero_le z1
      rw [hm, atI_nat', List.getElem?_map, List.getD_eq_getElem?_getD, Int.toNat_natCast, List.getElem?_eq_getElem (by omega)]; rfl
    have l2 : (ns.length : Int) < 1073741824 := by omega
    simp [e0, q, cellM, lim]
    simp [scrD, e1, hpos, l2]
theorem drawn_law {ns : List Int} (hn : ns.length ≤ 63) {k many : Int} (hm : 0 < many) {S : Sto} : G_l_drawn [scrD ns, .int k, .int many] S = .ok (.int (drawnM ns k many)) S := by
  unfold G_l_drawn F_l_drawn
  rw [fnB3]
  have b1 : ((cellM ns k % 2147483563 * 69069 + 104723 * (k + 1)) % 2147483563).natAbs < 18446744073709551616 := by
    have := Int.emod_nonneg (cellM ns k % 2147483563 * 69069 + 104723 * (k + 1)) (show (2147483563 : Int) ≠ 0 by decide)
    have := Int.emod_lt_of_pos (cellM ns k % 2147483563 * 69069 + 104723 * (k + 1)) (show (0 : Int) < 2147483563 by decide)
    omega
  unfold drawnM
  simp [cell_law hn, hm]
  generalize (cellM ns k % 2147483563 * 69069 + 104723 * (k + 1)) % 2147483563 = c at b1 ⊢
  have b2 : ((c * c + c / 3) % 2147483399).natAbs < 18446744073709551616 := by
    have := Int.emod_nonneg (c * c + c / 3) (show (2147483399 : Int) ≠ 0 by decide)
    have := Int.emod_lt_of_pos (c * c + c / 3) (show (0 : Int) < 2147483399 by decide)
    omega
  simp [b1]
  generalize (c * c + c / 3) % 2147483399 = d at b2 ⊢
  simp [b2, hm]
/-! ### what is drawn -/
def sumM (ns : List Int) : Nat → Int → Sm
  | 0, at' => if drawnM ns (at' + 1) 2 = 0 then .num ([0, 1, 2, 3, 10, 10006].getD (drawnM ns (at' + 2) 6).toNat 0) else .name ([0, 1, 2, 5].getD (drawnM ns (at' + 2) 4).toNat 0)
  | n + 1, at' => if drawnM ns at' 10 < 4 then (if drawnM ns (at' + 1) 2 = 0 then .num ([0, 1, 2, 3, 10, 10006].getD (drawnM ns (at' + 2) 6).toNat 0) else .name ([0, 1, 2, 5].getD (drawnM ns (at' + 2) 4).toNat 0))
    else if drawnM ns at' 10 < 6 then .cell (sumM ns n (at' * 2 + 5))
    else if drawnM ns at' 10 = 6 then .add (sumM ns n (at' * 2 + 5)) (sumM ns n (at' * 2 + 19))
    else if drawnM ns at' 10 = 7 then .sub (sumM ns n (at' * 2 + 5)) (sumM ns n (at' * 2 + 19))
    else if drawnM ns at' 10 = 8 then .mul (sumM ns n (at' * 2 + 5)) (sumM ns n (at' * 2 + 19))
    else .less (sumM ns n (at' * 2 + 5)) (sumM ns n (at' * 2 + 19))
theorem sum0_ok (ns : List Int) (at' : Int) : ((if drawnM ns (at' + 1) 2 = 0 then .num ([0, 1, 2, 3, 10, 10006].getD (drawnM ns (at' + 2) 6).toNat 0) else .name ([0, 1, 2, 5].getD (drawnM ns (at' + 2) 4).toNat 0) : Sm)).ok ∧ ((if drawnM ns (at' + 1) 2 = 0 then .num ([0, 1, 2, 3, 10, 10006].getD (drawnM ns (at' + 2) 6).toNat 0) else .name ([0, 1, 2, 5].getD (drawnM ns (at' + 2) 4).toNat 0) : Sm)).dep = 0 := by
  split
  · exact ⟨getD_wo (by
      intro n hn
      simp only [List.mem_cons, List.not_mem_nil, or_false] at hn
      rcases hn with rfl | rfl | rfl | rfl | rfl | rfl <;> exact ⟨by decide, by decide⟩) _, rfl⟩
  · exact ⟨trivial, rfl⟩
theorem sumM_ok (ns : List Int) : ∀ (n : Nat) (at' : Int), (sumM ns n at').ok ∧ (sumM ns n at').dep ≤ n
  | 0, at' => by
    obtain ⟨a, b⟩ := sum0_ok ns at'
    exact ⟨a, Nat.le_of_eq b⟩
  | n + 1, at' => by
    obtain ⟨a, b⟩ := sum0_ok ns at'
    have h1 := sumM_ok ns n (at' * 2 + 5)
    have h2 := sumM_ok ns n (at' * 2 + 19)
    unfold sumM
    split
    · exact ⟨a, by rw [b]; exact Nat.zero_le _⟩
    · split
      · exact ⟨h1.1, Nat.succ_le_succ h1.2⟩
      · split
        · exact ⟨⟨h1.1, h2.1⟩, Nat.succ_le_succ (Nat.max_le.mpr ⟨h1.2, h2.2⟩)⟩
        · split
          · exact ⟨⟨h1.1, h2.1⟩, Nat.succ_le_succ (Nat.max_le.mpr ⟨h1.2, h2.2⟩)⟩
          · split
            · exact ⟨⟨h1.1, h2.1⟩, Nat.succ_le_succ (Nat.max_le.mpr ⟨h1.2, h2.2⟩)⟩
            · exact ⟨⟨h1.1, h2.1⟩, Nat.succ_le_succ (Nat.max_le.mpr ⟨h1.2, h2.2⟩)⟩
theorem six (i : Int) (h : 0 ≤ i ∧ i < 6) : i = 0 ∨ i = 1 ∨ i = 2 ∨ i = 3 ∨ i = 4 ∨ i = 5 := by omega
theorem four (i : Int) (h : 0 ≤ i ∧ i < 4) : i = 0 ∨ i = 1 ∨ i = 2 ∨ i = 3 := by omega
theorem three (i : Int) (h : 0 ≤ i ∧ i < 3) : i = 0 ∨ i = 1 ∨ i = 2 := by omega
theorem abcf_ix {S : Sto} {i : Int} (h : 0 ≤ i ∧ i < 4) : opIx S (.str "abcf") (.int i) = some (.str (nmS ([0, 1, 2, 5].getD i.toNat 0))) := by
  rcases four i h with rfl | rfl | rfl | rfl <;> rfl
theorem abc_ix {S : Sto} {i : Int} (h : 0 ≤ i ∧ i < 3) : opIx S (.str "abc") (.int i) = some (.str (nmS ([0, 1, 2].getD i.toNat 0))) := by
  rcases three i h with rfl | rfl | rfl <;> rfl
theorem nums_ix {i : Int} (h : 0 ≤ i ∧ i < 6) : atI [D.int 0, .int 1, .int 2, .int 3, .int 10, .int 10006] i = some (.int ([0, 1, 2, 3, 10, 10006].getD i.toNat 0)) := by
  rcases six i h with rfl | rfl | rfl | rfl | rfl | rfl <;> rfl
theorem sum_1 {ns : List Int} (hn : ns.length ≤ 63) (G : Fn) (S : Sto) (n : Nat) (at' : Int) (h : ∀ m at'', m + 1 = n → G [scrD ns, .int at'', .int (m : Nat)] S = .ok (sumM ns m at'').d S) :
    F_l_sum G [scrD ns, .int at', .int (n : Nat)] S = .ok (sumM ns n at').d S := by
  unfold F_l_sum
  rw [fnB3]
  have d (k : Int) (m : Int) (hm : 0 < m) := drawn_law (S := S) hn (k := k) hm
  have r6 := drawn_rng (ns := ns) (k := at' + 2) (many := 6) (by decide)
  have r4 := drawn_rng (ns := ns) (k := at' + 2) (many := 4) (by decide)
  have r10 := drawn_rng (ns := ns) (k := at') (many := 10) (by decide)
  have e1 := nums_ix r6
  have e2 := abcf_ix (S := S) r4
  have d10 := d at' 10 (by decide)
  have d2 := d (at' + 1) 2 (by decide)
  have d6 := d (at' + 2) 6 (by decide)
  have d4 := d (at' + 2) 4 (by decide)
  cases n with
  | zero =>
    unfold sumM
    by_cases c2 : drawnM ns (at' + 1) 2 = 0
    · simp [d10, d2, d6, d4, c2, lim, e1, e2, Sm.d]
    · simp [d10, d2, d6, d4, c2, lim, e1, e2, Sm.d]
  | succ m =>
    have h1 := h m (at' * 2 + 5) rfl
    have h2 := h m (at' * 2 + 19) rfl
    have cz : ¬ ((m : Int) + 1 = 0) := by omega
    unfold sumM
    by_cases c0 : drawnM ns at' 10 < 4
    · by_cases c2 : drawnM ns (at' + 1) 2 = 0
      · simp [d10, d2, d6, d4, c0, c2, cz, lim, e1, e2, Sm.d]
      · simp [d10, d2, d6, d4, c0, c2, cz, lim, e1, e2, Sm.d]
    · by_cases c1 : drawnM ns at' 10 < 6
      · simp [d10, c0, cz, c1, h1, lim, Sm.d]
      · rcases four (drawnM ns at' 10 - 6) (by omega) with q | q | q | q
        · have q' : drawnM ns at' 10 = 6 := by omega
          simp [d10, q', cz, h1, h2, lim, Sm.d]
        · have q' : drawnM ns at' 10 = 7 := by omega
          simp [d10, q', cz, h1, h2, lim, Sm.d]
        · have q' : drawnM ns at' 10 = 8 := by omega
          simp [d10, q', cz, h1, h2, lim, Sm.d]
        · have q' : drawnM ns at' 10 = 9 := by omega
          simp [d10, q', cz, h1, h2, lim, Sm.d]
theorem sum_n {ns : List Int} (hn : ns.length ≤ 63) (S : Sto) : ∀ (f n : Nat) (at' : Int), n < f → recN F_l_sum f [scrD ns, .int at', .int (n : Nat)] S = .ok (sumM ns n at').d S
  | 0, n, at', h => absurd h (Nat.not_lt_zero _)
  | f + 1, n, at', h => sum_1 hn (recN F_l_sum f) S n at' fun m at'' e => sum_n hn S f m at'' (by omega)
theorem sum_law {ns : List Int} (hn : ns.length ≤ 63) {S : Sto} {n : Nat} {at' : Int} (h : n < 5) : G_l_sum [scrD ns, .int at', .int (n : Nat)] S = .ok (sumM ns n at').d S := sum_n hn S 5 n at' h
/-! rows -/
def rowM (ns : List Int) (at' : Int) (size : Nat) : Row :=
  let way := drawnM ns at' 16
  let place := (drawnM ns (at' + 1) (size + 1)).toNat
  let name : Fin 6 := [0, 1, 2].getD (drawnM ns (at' + 2) 3).toNat 0
  let one := sumM ns 2 (at' + 3)
  if way < 5 then .set name one
  else if way < 7 then .put (sumM ns 1 (at' + 9)) one
  else if way = 7 then .ask name
  else if way = 8 then .say one
  else if way = 9 then .jump place
  else if way = 10 then .unless one place
  else if way = 11 then .unless (.name name) place
  else if way < 14 then .call place
  else if way = 14 then .back
  else if place % 2 = 0 then .stop else .back
theorem rowM_ok (ns : List Int) (at' : Int) (size : Nat) : (rowM ns at' size).ok size := by
  have h3 := sumM_ok ns 2 (at' + 3)
  have h9 := sumM_ok ns 1 (at' + 9)
  have hp := drawn_rng (ns := ns) (k := at' + 1) (many := size + 1) (by omega)
  have hp' : (drawnM ns (at' + 1) (size + 1)).toNat ≤ size := by omega
  unfold rowM
  simp only
  split
  · exact ⟨h3.1, by have := h3.2; omega⟩
  split
  · exact ⟨⟨h9.1, by have := h9.2; omega⟩, h3.1, by have := h3.2; omega⟩
  split
  · exact trivial
  split
  · exact ⟨h3.1, by have := h3.2; omega⟩
  split
  · exact hp'
  split
  · exact ⟨⟨h3.1, by have := h3.2; omega⟩, hp'⟩
  split
  · exact ⟨⟨trivial, by show 0 < 9; decide⟩, hp'⟩
  split
  · exact hp'
  split
  · exact trivial
  split
  · exact trivial
  · exact trivial
theorem row_law {ns : List Int} (hn : ns.length ≤ 63) {S : Sto} {size : Nat} {at' : Int} : G_l_row [scrD ns, .int at', .int (size : Nat)] S = .ok (rowM ns at' size).d S := by
  unfold G_l_row F_l_row
  rw [fnB3]
  have d16 := drawn_law (S := S) hn (k := at') (many := 16) (by decide)
  have dp := drawn_law (S := S) hn (k := at' + 1) (many := size + 1) (by omega)
  have d3 := drawn_law (S := S) hn (k := at' + 2) (many := 3) (by decide)
  have r16 := drawn_rng (ns := ns) (k := at') (many := 16) (by decide)
  have rp := drawn_rng (ns := ns) (k := at' + 1) (many := size + 1) (by omega)
  have r3 := drawn_rng (ns := ns) (k := at' + 2) (many := 3) (by decide)
  have e3 := abc_ix (S := S) r3
  have s2 : G_l_sum [scrD ns, .int (at' + 3), .int 2] S = .ok (sumM ns 2 (at' + 3)).d S := sum_law hn (n := 2) (by decide)
  have s1 : G_l_sum [scrD ns, .int (at' + 9), .int 1] S = .ok (sumM ns 1 (at' + 9)).d S := sum_law hn (n := 1) (by decide)
  obtain ⟨pl, hpl⟩ := Int.eq_ofNat_of_zero_le rp.1
  unfold rowM
  simp [d16, dp, d3, e3, s2, hpl]
  generalize ([0, 1, 2] : List (Fin 6))[(drawnM ns (at' + 2) 3).toNat]?.getD 0 = name
  generalize sumM ns 2 (at' + 3) = one at s2 ⊢
  generalize drawnM ns at' 16 = way at r16 ⊢
  by_cases c5 : way < 5
  · simp [c5, lim, Row.d]
  by_cases c7 : way < 7
  · simp [c5, c7, lim, Row.d, s1]
  have cs : way = 7 ∨ way = 8 ∨ way = 9 ∨ way = 10 ∨ way = 11 ∨ way = 12 ∨ way = 13 ∨ way = 14 ∨ way = 15 := by omega
  have ix2 : ∀ (x y : D), atI [x, y] ((pl : Int) % 2) = some (if pl % 2 = 0 then x else y) := by
    intro x y
    rcases (by omega : pl % 2 = 0 ∨ pl % 2 = 1) with q | q
    · rw [show (pl : Int) % 2 = 0 by omega, q]; rfl
    · rw [show (pl : Int) % 2 = 1 by omega, q]; rfl
  rcases cs with rfl | rfl | rfl | rfl | rfl | rfl | rfl | rfl | rfl
  · simp [lim, Row.d, Sm.d, ix2]
  · simp [lim, Row.d, Sm.d, ix2]
  · simp [lim, Row.d, Sm.d, ix2]
  · simp [lim, Row.d, Sm.d, ix2]
  · simp [lim, Row.d, Sm.d, ix2]
  · simp [lim, Row.d, Sm.d, ix2]
  · simp [lim, Row.d, Sm.d, ix2]
  · simp [lim, Row.d, Sm.d, ix2]
  · simp [lim, Row.d, Sm.d, ix2]
    split <;> rfl
end Bt
namespace Bt
open PySem PySem.Spec PyProof.Rows L2
@[simp] theorem b_tupL {S : Sto} {l : List D} : bTuple S (.lst l) = some (.tup l) := rfl
@[simp] theorem b_tupT {S : Sto} {l : List D} : bTuple S (.tup l) = some (.tup l) := rfl
theorem compL_map {step : D → Sto → Option (Option D × Sto)} {h : D → D} {S : Sto} : ∀ (l acc : List D), (∀ d ∈ l, step d S = some (some (h d), S)) → acc.length + l.length ≤ lim → compL step l acc S = .ok (.lst (acc ++ l.map h)) S
  | [], acc, _, _ => by simp [compL]
  | d :: l, acc, e, b => by
    have b' : acc.length + (l.length + 1) ≤ lim := b
    unfold compL
    rw [e d List.mem_cons_self]
    simp only
    rw [if_pos (by omega), compL_map l (acc ++ [h d]) (fun x hx => e x (List.mem_cons_of_mem _ hx)) (by simp; omega)]
    simp
theorem comp_rng {i : Nat} {fn fe : Ex} {ρ : Env} {S : Sto} {n : Nat} {g : Nat → D} (hn : fn ρ S = .ok (.int (n : Nat)) S) (hl : n ≤ lim)
    (he : ∀ j, j < n → fe ((wipeD ρ [i]).set i (some (.int (j : Nat)))) S = .ok (g j) S) : eComp [i] (iRange1 fn) (dN i) eYes fe ρ S = .ok (.lst ((List.range n).map g)) S := by
  have hl' : (n : Int) ≤ (lim : Int) := by exact Int.ofNat_le.mpr hl
  have e1 : iRange1 fn ρ S = .ok (.tup (rngD 0 n)) S := by
    unfold iRange1
    rw [hn]
    simp only [ER.bind_ok]
    rw [if_pos ⟨by omega, hl'⟩]; rfl
  unfold eComp
  rw [e1]
  simp only [ER.bind_ok]
  rw [compL_map (h := fun d => match d with | .int k => g k.toNat | _ => .non) (rngD 0 n) []]
  · unfold rngD
    rw [List.map_map, List.nil_append]
    congr 2
    apply List.map_congr_left
    intro a _
    show g ((0 : Int) + (a : Nat)).toNat = g a
    congr 1; omega
  · intro d hd
    unfold rngD at hd
    obtain ⟨j, hj, rfl⟩ := List.mem_map.mp hd
    have hj' := List.mem_range.mp hj
    have ej : (0 : Int) + (j : Nat) = (j : Nat) := by omega
    unfold stepC dN
    simp only [ej]
    rw [show eYes ((wipeD ρ [i]).set i (some (.int (j : Nat)))) S = .ok (.bl true) S from rfl]
    simp only
    rw [he j hj', Int.toNat_natCast]
  · unfold rngD; simp; exact hl
/-! programs -/
def prgM (ns : List Int) (at' : Int) : Prg :=
  if drawnM ns (at' + 1) 4 = 0 then
    [.ask 0, .call 4, .say (.name 0), .jump 0, .put (.name 0) (.num (drawnM ns (at' + 2) 9)), .call 7, .back,
      .set 1 (if drawnM ns (at' + 3) 2 = 0 then .add (.name 1) (.name 0) else .sub (.name 1) (.name 0)), .back]
  else (List.range (1 + drawnM ns at' 9).toNat).map fun (k : Nat) => rowM ns (at' + 10 + 40 * (k : Int)) (1 + drawnM ns at' 9).toNat
theorem prgM_ok (ns : List Int) (at' : Int) : PrgOk (prgM ns at') ∧ (prgM ns at').length ≤ 9 := by
  have r9 := drawn_rng (ns := ns) (k := at') (many := 9) (by decide)
  have r2 := drawn_rng (ns := ns) (k := at' + 2) (many := 9) (by decide)
  unfold prgM
  split
  · refine ⟨⟨?_, by simp⟩, by simp⟩
    intro r hr
    simp only [List.mem_cons, List.not_mem_nil, or_false] at hr
    rcases hr with rfl | rfl | rfl | rfl | rfl | rfl | rfl | rfl | rfl
    · exact trivial
    · show 4 ≤ 9; decide
    · exact ⟨trivial, by decide⟩
    · show 0 ≤ 9; decide
    · exact ⟨⟨trivial, by decide⟩, ⟨by omega, by omega⟩, by show 0 < 9; decide⟩
    · show 7 ≤ 9; decide
    · exact trivial
    · split
      · exact ⟨⟨trivial, trivial⟩, by decide⟩
      · exact ⟨⟨trivial, trivial⟩, by decide⟩
    · exact trivial
  · refine ⟨⟨?_, by simp; omega⟩, by simp; omega⟩
    intro r hr
    obtain ⟨k, _, rfl⟩ := List.mem_map.mp hr
    simp only [List.length_map, List.length_range]
    exact rowM_ok _ _ _
theorem prg_law {ns : List Int} (hn : ns.length ≤ 63) {S : Sto} {at' : Int} : G_l_program [scrD ns, .int at'] S = .ok (prgD (prgM ns at')) S := by
  unfold G_l_program F_l_program
  rw [fnB2]
  have d9 := drawn_law (S := S) hn (k := at') (many := 9) (by decide)
  have d4 := drawn_law (S := S) hn (k := at' + 1) (many := 4) (by decide)
  have dd := drawn_law (S := S) hn (k := at' + 2) (many := 9) (by decide)
  have d2 := drawn_law (S := S) hn (k := at' + 3) (many := 2) (by decide)
  have r9 := drawn_rng (ns := ns) (k := at') (many := 9) (by decide)
  have r2 := drawn_rng (ns := ns) (k := at' + 3) (many := 2) (by decide)
  unfold prgM
  by_cases c : drawnM ns (at' + 1) 4 = 0
  · rcases (by omega : drawnM ns (at' + 3) 2 = 0 ∨ drawnM ns (at' + 3) 2 = 1) with q | q
    · simp [d9, d4, dd, d2, c, q, lim, prgD, Row.d, Sm.d]
      exact ⟨rfl, rfl, rfl⟩
    · simp [d9, d4, dd, d2, c, q, lim, prgD, Row.d, Sm.d]
      exact ⟨rfl, rfl, rfl⟩
  · obtain ⟨m, hm⟩ := Int.eq_ofNat_of_zero_le r9.1
    have e := comp_rng (i := 6) (fn := eVar 2) (fe := eCall G_l_row (eCons (eVar 0) (eCons (eOp opAdd (eOp opAdd (eVar 1) (eC (.int 10))) (eOp opMul (eC (.int 40)) (eVar 6))) (eCons (eVar 2) eNil))))
      (ρ := [some (scrD ns), some (.int at'), some (.int (1 + m)), none, none, none, none]) (S := S) (n := 1 + m) (g := fun k => (rowM ns (at' + 10 + 40 * k) (1 + m)).d) (by simp) (by unfold lim; omega) (by
        intro j hj
        have e := row_law (S := S) hn (size := 1 + m) (at' := at' + 10 + 40 * j)
        simp at e
        simp [wipeD, e])
    have em : (1 + (m : Int)).toNat = 1 + m := by omega
    simp [d9, d4, c, hm, e, prgD]
    rw [em]; rfl
end Bt
namespace Bt
open PySem PySem.Spec PyProof.Rows L2
@[simp] theorem o_mulL {S : Sto} {a : D} {j : Int} : opMul S (.lst [a]) (.int j) = if -1000 ≤ j ∧ j ≤ 1000 then some (.lst (List.replicate j.toNat a)) else none := by
  have e : ∀ n : Nat, (List.replicate n [a]).flatten = List.replicate n a := by
    intro n
    induction n with
    | zero => rfl
    | succ n ih => rw [List.replicate_succ, List.flatten_cons, ih, List.replicate_succ]; rfl
  show (if -1000 ≤ j ∧ j ≤ 1000 ∧ [a].length ≤ 1000 then some (D.lst (List.replicate j.toNat [a]).flatten) else none) = _
  rw [e]
  by_cases q : -1000 ≤ j ∧ j ≤ 1000
  · rw [if_pos q]; exact if_pos ⟨q.1, q.2, by simp⟩
  · rw [if_neg q]; exact if_neg fun z => q ⟨z.1, z.2.1⟩
@[simp] theorem b_lstT {S : Sto} {l : List D} : bList S (.tup l) = some (.lst l) := rfl
section
variable {α : Type} {S : List α} {a b c : α}
@[simp] theorem get_2a : (S ++ [a, b])[S.length]? = some a := by
  rw [List.getElem?_append_right (Nat.le_refl _), Nat.sub_self]; rfl
@[simp] theorem get_2b : (S ++ [a, b])[S.length + 1]? = some b := by
  rw [List.getElem?_append_right (Nat.le_succ _), show S.length + 1 - S.length = 1 by omega]; rfl
@[simp] theorem set_2a : (S ++ [a, b]).set S.length c = S ++ [c, b] := by
  rw [List.set_append_right _ _ (Nat.le_refl _), Nat.sub_self]; rfl
@[simp] theorem set_2b : (S ++ [a, b]).set (S.length + 1) c = S ++ [a, c] := by
  rw [List.set_append_right _ _ (Nat.le_succ _), show S.length + 1 - S.length = 1 by omega]; rfl
end
end Bt
namespace Bt
open PySem PySem.Spec PyProof.Rows L2
theorem sta_good {s : Sta} : s.d.good = true := s.gd.good
@[simp] theorem ne_bl {S : Sto} {a b : Bool} : opNe S (.bl a) (.bl b) = some (.bl (!(a == b))) := by
  rw [b_goodN rfl rfl, eqv_bl]
@[simp] theorem sts_len {l : List Sta} : (stsD l).length = l.length := List.length_map _
end Bt
namespace Bt
open PySem PySem.Spec PyProof.Rows L2
/-! ### runs over the whole -/
/-! ### what is alike -/
theorem eqvs_ints : ∀ (l m : List Int), eqvs (l.map D.int) (m.map D.int) = decide (l = m)
  | [], [] => rfl
  | [], _ :: _ => by simp
  | _ :: _, [] => by simp
  | a :: l, b :: m => by
    simp only [List.map_cons, eqvs_cons, eqv_int, eqvs_ints l m]
    by_cases q : a = b <;> by_cases z : l = m <;> simp [q, z]
theorem eqvs_nats : ∀ (l m : List Nat), eqvs (l.map fun (n : Nat) => D.int n) (m.map fun (n : Nat) => D.int n) = decide (l = m)
  | [], [] => rfl
  | [], _ :: _ => by simp
  | _ :: _, [] => by simp
  | a :: l, b :: m => by
    simp only [List.map_cons, eqvs_cons, eqv_int, eqvs_nats l m]
    by_cases q : a = b <;> by_cases z : l = m <;> simp [Int.natCast_inj, q, z]
theorem eqv_sta {s t : Sta} : D.eqv s.d t.d = decide (s = t) := by
  unfold Sta.d
  simp only [eqv_tup, eqvs_cons, eqv_int, eqvs_ints, eqvs_nats, eqvs_nil]
  cases s with
  | mk a b c d e f =>
    cases t with
    | mk a' b' c' d' e' f' =>
      by_cases h1 : a = a' <;> by_cases h2 : b = b' <;> by_cases h3 : c = c' <;> by_cases h4 : d = d' <;> by_cases h5 : e = e' <;> by_cases h6 : f = f' <;> simp [Int.natCast_inj, h1, h2, h3, h4, h5, h6]
@[simp] theorem eq_sta {S : Sto} {s t : Sta} : opEq S s.d t.d = some (.bl (decide (s = t))) := by rw [b_good sta_good sta_good, eqv_sta]
@[simp] theorem ne_sta {S : Sto} {s t : Sta} : opNe S s.d t.d = some (.bl (!decide (s = t))) := by rw [b_goodN sta_good sta_good, eqv_sta]
end Bt
namespace Bt
open PySem PySem.Spec PyProof.Rows L2
/-! ### instances -/
/-- the first place of f, or the place behind all -/
def ixF (f : Str) : List (Str × FV) → Nat
  | [] => 0
  | (g, _) :: r => if g = f then 0 else ixF f r + 1
def setF (f : Str) (x : FV) : List (Str × FV) → List (Str × FV)
  | [] => [(f, x)]
  | (g, y) :: r => if g = f then (g, x) :: r else (g, y) :: setF f x r
def getF (f : Str) : List (Str × FV) → Option FV
  | [] => none
  | (g, y) :: r => if g = f then some y else getF f r
/-- the fields from a place on -/
def FsFrom (P : Nat → FV → V → Prop) (j : Nat) : List (Str × FV) → List (Str × V) → Prop
  | [], [] => True
  | p :: fs, q :: vs => (p.1 = q.1 ∧ P j p.2 q.2) ∧ FsFrom P (j + 1) fs vs
  | _, _ => False
section
variable {P P' : Nat → FV → V → Prop}
theorem FsFrom.of : ∀ {fs : List (Str × FV)} {vs : List (Str × V)} {j : Nat}, fs.length = vs.length → (∀ (i : Nat) p q, fs[i]? = some p → vs[i]? = some q → p.1 = q.1 ∧ P (j + i) p.2 q.2) → FsFrom P j fs vs
  | [], [], _, _, _ => trivial
  | [], _ :: _, _, h, _ => nomatch h
  | _ :: _, [], _, h, _ => nomatch h
  | p :: fs, q :: vs, j, hl, h => ⟨h 0 p q rfl rfl, FsFrom.of (by simpa using hl) fun i p q hp hq => by
      have := h (i + 1) p q (by simpa using hp) (by simpa using hq)
      rwa [show j + (i + 1) = j + 1 + i by omega] at this⟩
theorem FsFrom.to : ∀ {fs : List (Str × FV)} {vs : List (Str × V)} {j : Nat}, FsFrom P j fs vs → fs.length = vs.length ∧ (∀ (i : Nat) p q, fs[i]? = some p → vs[i]? = some q → p.1 = q.1 ∧ P (j + i) p.2 q.2)
  | [], [], _, _ => ⟨rfl, fun i p q h => by simp at h⟩
  | p :: fs, q :: vs, j, h => by
    obtain ⟨a, b⟩ := FsFrom.to h.2
    refine ⟨by simp [a], fun i p' q' hp hq => ?_⟩
    cases i with
    | zero => simp at hp hq; subst hp hq; exact h.1
    | succ i =>
      have := b i p' q' (by simpa using hp) (by simpa using hq)
      rwa [show j + 1 + i = j + (i + 1) by omega] at this
theorem FsFrom.get {f : Str} {x : FV} : ∀ {fs : List (Str × FV)} {vs : List (Str × V)} {j : Nat}, FsFrom P j fs vs → getF f fs = some x → ∃ v, vs.lookup f = some v ∧ P (j + ixF f fs) x v
  | [], [], _, _, e => nomatch e
  | (k, y) :: fs, (k', v) :: vs, j, h, e => by
    have hk : k = k' := h.1.1
    subst hk
    unfold getF at e
    unfold ixF
    by_cases q : k = f
    · rw [if_pos q] at e ⊢
      cases e
      refine ⟨v, ?_, h.1.2⟩
      rw [List.lookup, beq_iff_eq.mpr q.symm]
    · rw [if_neg q] at e ⊢
      obtain ⟨u, h1, h2⟩ := FsFrom.get h.2 e
      refine ⟨u, ?_, by rwa [show j + (ixF f fs + 1) = j + 1 + ixF f fs by omega]⟩
      rw [List.lookup, beq_eq_false_iff_ne.mpr fun z => q z.symm]; exact h1
theorem FsFrom.none {f : Str} : ∀ {fs : List (Str × FV)} {vs : List (Str × V)} {j : Nat}, FsFrom P j fs vs → getF f fs = none → vs.lookup f = none
  | [], [], _, _, _ => rfl
  | (k, y) :: fs, (k', v) :: vs, j, h, e => by
    have hk : k = k' := h.1.1
    subst hk
    unfold getF at e
    by_cases q : k = f
    · rw [if_pos q] at e; cases e
    · rw [if_neg q] at e
      rw [List.lookup, beq_eq_false_iff_ne.mpr fun z => q z.symm]; exact FsFrom.none h.2 e
theorem FsFrom.put {f : Str} {x : FV} {v : V} : ∀ {fs : List (Str × FV)} {vs : List (Str × V)} {j : Nat}, FsFrom P j fs vs → P (j + ixF f fs) x v → FsFrom P j (setF f x fs) (putF f v vs)
  | [], [], _, _, e => ⟨⟨rfl, e⟩, trivial⟩
  | (k, y) :: fs, (k', u) :: vs, j, h, e => by
    have hk : k = k' := h.1.1
    subst hk
    unfold ixF at e
    unfold setF putF
    by_cases q : k = f
    · rw [if_pos q] at e
      rw [if_pos q, if_pos q]
      exact ⟨⟨rfl, e⟩, h.2⟩
    · rw [if_neg q] at e
      rw [if_neg q, if_neg q]
      exact ⟨h.1, FsFrom.put h.2 (by rwa [show j + (ixF f fs + 1) = j + 1 + ixF f fs by omega] at e)⟩
theorem FsFrom.map : ∀ {fs : List (Str × FV)} {vs : List (Str × V)} {j : Nat}, FsFrom P j fs vs → (∀ i x y, j ≤ i → P i x y → P' i x y) → FsFrom P' j fs vs
  | [], [], _, _, _ => trivial
  | (k, y) :: fs, (k', u) :: vs, j, h, e => ⟨⟨h.1.1, e j _ _ (Nat.le_refl _) h.1.2⟩, FsFrom.map h.2 fun i x y hi => e i x y (by omega)⟩
end
section
variable {K : PySem.W.Frag} {g : G} {H : Hp} {n : Nat} {fs : List (Str × FV)} {vs : List (Str × V)}
theorem fvs_from : FVsAt K g H n fs vs ↔ FsFrom (FVAt K g H n) 0 fs vs :=
  ⟨fun h => FsFrom.of h.1 fun i p q hp hq => by rw [Nat.zero_add]; exact h.2 i p q hp hq, fun h => by
    obtain ⟨a, b⟩ := FsFrom.to h
    exact ⟨a, fun i p q hp hq => by have := b i p q hp hq; rwa [Nat.zero_add] at this⟩⟩
/-- a field at its place does not mind what is written at another place of the instance -/
theorem FVAt.upd {j i : Nat} {x : FV} {y : V} {b : Addr} {o : HO} (h : FVAt K g H n j x y) (hb : g.own b = some (n, i)) (hi : i ≠ j + 1) : FVAt K g (upd H b o) n j x y := by
  have ne : ∀ a, g.own a = some (n, j + 1) → a ≠ b := fun a ha z => by subst z; rw [hb] at ha; cases ha; exact hi rfl
  cases x with
  | d z => exact h
  | l xs =>
    obtain ⟨a, us, r1, r2, r3, r4⟩ := h
    exact ⟨a, us, r1, r2, by rw [upd_ne (ne a r2)]; exact r3, r4⟩
  | k xs =>
    obtain ⟨a, us, r1, r2, r3, r4⟩ := h
    exact ⟨a, us, r1, r2, by rw [upd_ne (ne a r2)]; exact r3, r4⟩
end
/-- the fields of an instance of the class -/
def insAt (c : Str) (S : Sto) : D → Option (Nat × List (Str × FV))
  | .obj n => (match S[n]? with
    | some (.inst c' fs) => if c' = c then some (n, fs) else none
    | _ => none)
  | _ => none
/-- .., locked or not -/
def rdAt (c : Str) (S : Sto) : D → Option (List (Str × FV))
  | .obj n => (match S[n]? with
    | some (.inst c' fs) => if c' = c then some fs else none
    | some (.lki c' fs) => if c' = c then some fs else none
    | _ => none)
  | _ => none
theorem insAt_some {c : Str} {S : Sto} {d : D} {n : Nat} {fs : List (Str × FV)} (h : insAt c S d = some (n, fs)) : d = .obj n ∧ S[n]? = some (.inst c fs) := by
  cases d with
  | obj m =>
    have h' : (match S[m]? with | some (.inst c' fs) => if c' = c then some (m, fs) else none | _ => none) = some (n, fs) := h
    cases e : S[m]? with
    | none => rw [e] at h'; cases h'
    | some o =>
      rw [e] at h'
      cases o with
      | inst c' gs =>
        have h2 : (if c' = c then some (m, gs) else none) = some (n, fs) := h'
        by_cases q : c' = c
        · rw [if_pos q] at h2; cases h2; subst q; exact ⟨rfl, e⟩
        · rw [if_neg q] at h2; cases h2
      | _ => cases h'
  | _ => cases h
theorem rdAt_some {c : Str} {S : Sto} {d : D} {fs : List (Str × FV)} (h : rdAt c S d = some fs) : ∃ n, d = .obj n ∧ (S[n]? = some (.inst c fs) ∨ S[n]? = some (.lki c fs)) := by
  cases d with
  | obj m =>
    have h' : (match S[m]? with | some (.inst c' fs) => if c' = c then some fs else none | some (.lki c' fs) => if c' = c then some fs else none | _ => none) = some fs := h
    cases e : S[m]? with
    | none => rw [e] at h'; cases h'
    | some o =>
      rw [e] at h'
      cases o with
      | inst c' gs =>
        have h2 : (if c' = c then some gs else none) = some fs := h'
        by_cases q : c' = c
        · rw [if_pos q] at h2; cases h2; subst q; exact ⟨m, rfl, .inl e⟩
        · rw [if_neg q] at h2; cases h2
      | lki c' gs =>
        have h2 : (if c' = c then some gs else none) = some fs := h'
        by_cases q : c' = c
        · rw [if_pos q] at h2; cases h2; subst q; exact ⟨m, rfl, .inr e⟩
        · rw [if_neg q] at h2; cases h2
      | _ => cases h'
  | _ => cases h
/-- what a field that is read stands for -/
def FVR (K : PySem.W.Frag) (g : G) (H : Hp) : FV → V → Prop
  | .d x, v => RepG K g x v
  | .l _, _ => True
  | .k kvs, v => ∃ a ks, v = .ref a ∧ Rd H a (.dK ks) ∧ KReps K g kvs ks
section
variable {K : PySem.W.Frag} {g : G} {S : Sto} {H : Hp} {c : Str} {n : Nat} {fs : List (Str × FV)}
theorem World.rd (w : World K g S H) {d : D} (h : rdAt c S d = some fs) {v : V} (r : RepG K g d v) : ∃ a dx vs, v = .ref a ∧ H a = some (.ins (He.ga K c) dx vs) ∧ FsFrom (fun _ => FVR K g H) 0 fs vs := by
  obtain ⟨n, rfl, q⟩ := rdAt_some h
  rcases q with q | q
  · obtain ⟨a, dx, vs, h1, h2, h3, h4⟩ := w.at_ n _ q
    cases r with
    | obj e =>
      rw [h1] at e; cases e
      refine ⟨_, dx, vs, rfl, h3, (fvs_from.mp h4).map fun i x y _ hx => ?_⟩
      cases x with
      | d z => exact hx
      | l z => trivial
      | k z => obtain ⟨b, ks, r1, r2, r3, r4⟩ := hx; exact ⟨b, ks, r1, .inl r3, r4⟩
  · obtain ⟨a, dx, vs, h1, h2, h3, h4⟩ := w.at_ n _ q
    cases r with
    | obj e =>
      rw [h1] at e; cases e
      refine ⟨_, dx, vs, rfl, (w.pin _ _ h2).1, (FsFrom.of (P := fun _ => FVL K g) h3 h4).map fun i x y _ hx => ?_⟩
      cases x with
      | d z => exact hx
      | l z => trivial
      | k z => obtain ⟨b, ks, o, r1, r2, r3⟩ := hx; exact ⟨b, ks, r1, .inr ⟨o, (w.pin _ _ r2).1⟩, r3⟩
theorem World.ins (w : World K g S H) (h : S[n]? = some (.inst c fs)) {v : V} (r : RepG K g (.obj n) v) : ∃ a dx vs, v = .ref a ∧ g.α[n]? = some a ∧ g.own a = some (n, 0) ∧ H a = some (.ins (He.ga K c) dx vs) ∧ FsFrom (FVAt K g H n) 0 fs vs := by
  obtain ⟨a, dx, vs, h1, h2, h3, h4⟩ := w.at_ n _ h
  cases r with
  | obj e => rw [h1] at e; cases e; exact ⟨_, dx, vs, rfl, h1, h2, h3, fvs_from.mp h4⟩
/-- a field is set -/
theorem World.setFld (w : World K g S H) (h : S[n]? = some (.inst c fs)) {v : V} (r : RepG K g (.obj n) v) {f : Str} {x : FV} {y : V} (hx : FVAt K g H n (ixF f fs) x y) :
    ∃ a dx vs, v = .ref a ∧ H a = some (.ins (He.ga K c) dx vs) ∧ vs.length = fs.length ∧ World K g (S.set n (.inst c (setF f x fs))) (upd H a (.ins (He.ga K c) dx (putF f y vs))) := by
  obtain ⟨a, dx, vs, e, h1, h2, h3, h4⟩ := w.ins h r
  refine ⟨a, dx, vs, e, h3, h4.to.1.symm, w.write h2 ⟨a, dx, _, h1, h2, upd_same, fvs_from.mpr ?_⟩⟩
  have hz : ∀ j : Nat, (0 : Nat) ≠ j + 1 := fun j => by omega
  exact (h4.map (P' := FVAt K g (upd H a (.ins (He.ga K c) dx (putF f y vs))) n) fun i x y _ q => q.upd h2 (hz i)).put (by rw [Nat.zero_add]; exact hx.upd h2 (hz _))
end
end Bt
namespace Bt
open PySem PySem.Spec PyProof.Rows L2
/-! ### rules for instances -/
/-- o.f -/
def eFld (c f : Str) (fo : Ex) : Ex := fun ρ S => (fo ρ S).bind fun d S1 => match rdAt c S1 d with
  | some fs => (match getF f fs with
    | some (.d x) => .ok x S1
    | _ => .bad)
  | none => .bad
/-- o.f = v -/
def sFldS (c f : Str) (fo fv : Ex) : Sx := fun ρ S => (fv ρ S).toS ρ fun x S1 => (fo ρ S1).toS ρ fun o S2 => match insAt c S2 o with
  | some (n, fs) => if fs.length < 1000 then .nx ρ (S2.set n (.inst c (setF f (.d x) fs))) else .bad
  | none => .bad
/-- o.m(..) -/
def eMCall (c m : Str) (F : Fn) (fo fa : Ex) : Ex := fun ρ S => (fo ρ S).bind fun o S1 => match rdAt c S1 o with
  | some fs => (match getF m fs with
    | none => (fa ρ S1).bind fun t S2 => (match t with
      | .tup l => F (o :: l) S2
      | _ => .bad)
    | some _ => .bad)
  | none => .bad
/-- C(..) -/
def eMake (c : Str) (F : Fn) (fa : Ex) : Ex := fun ρ S => (fa ρ S).bind fun t S1 => match t with
  | .tup l => (match F (.obj S1.length :: l) (S1 ++ [.inst c []]) with
    | .ok .non S2 => .ok (.obj S1.length) S2
    | _ => .bad)
  | _ => .bad
/-- a method of a class of the text -/
structure MCal (P : Program) (w : PySem.World) (K : PySem.W.Frag) (mg : Str → Option Value) (base : Heap) (c m : Str) (k : Nat) (F : Fn) : Prop where
  ex : ∃ f fd ps, Cls K (He.ga K c) ∧ Meth K (He.ga K c) m f ∧ Binds K fd ps [] ∧ FnOk P w K mg base (L2.CX P w) k f fd ps (spOf K F)
/-- a class of the text, by its __init__ -/
structure KCal (P : Program) (w : PySem.World) (K : PySem.W.Frag) (mg : Str → Option Value) (base : Heap) (c : Str) (k : Nat) (F : Fn) : Prop where
  ex : ∃ f fd ps, mg c = some (.ref (He.ga K c)) ∧ Mk K (He.ga K c) f ∧ Binds K fd ps [] ∧ FnOk P w K mg base (L2.CX P w) k f fd ps (spOf K F)
section
variable {X : Cx} {W : WX} {o v : Expr} {c f : Str} {pos pos' : Pos} {fo fv fa : Ex}
theorem je_fld (he : JE X W o fo) (cl : Cls X.K (He.ga X.K c)) (na : NoAttr X.K (He.ga X.K c) f) (hb : attributeBase o f X.env (eval o X.env) = eval o X.env := by rfl) : JE X W (.Attribute o f pos) (eFld c f fo) :=
  ⟨peImp (pe_fld he.run hb) fun σ H Q ⟨g, S, ρ, w, rs, q⟩ => ⟨g, S, ρ, w, rs, Post.of_bind q fun d S1 v g1 H1 _ e1 w1 r1 q1 => by
    cases er : rdAt c S1 d with
    | none => simp only [er] at q1; exact q1.elim
    | some fs =>
      simp only [er] at q1
      cases ef : getF f fs with
      | none => simp only [ef] at q1; exact q1.elim
      | some x =>
        cases x with
        | d x =>
          simp only [ef] at q1
          obtain ⟨a, dx, vs, ea, ha, hf⟩ := w1.rd er r1
          obtain ⟨y, hy, ry⟩ := hf.get ef
          exact ⟨a, _, dx, vs, y, ea, ha, cl, na, hy, q1.val w1 ry⟩
        | l x => simp only [ef] at q1; exact q1.elim
        | k x => simp only [ef] at q1; exact q1.elim⟩⟩
theorem js_fld (ho : JE X W o fo) (hv : JE X W v fv) (cl : Cls X.K (He.ga X.K c)) (na : NoAttr X.K (He.ga X.K c) f) (hs : swapsWith v (some (.Attribute o f pos')) pos.line X.env = pure false := by rfl) : JS X W (.Assign [.Attribute o f pos'] v pos) (sFldS c f fo fv) :=
  ⟨psImp (ps_fld ho.run hv.run hs) fun N σ H ⟨g, S, ρ, w, rs, q⟩ => ⟨g, S, ρ, w, rs, PostS.of_er q rs fun x S1 vx g1 H1 _ e1 w1 r1 q1 =>
    ⟨g1, S1, ρ, w1, rs.mono e1, PostS.of_er q1 (rs.mono e1) fun d S2 vd g2 H2 _ e2 w2 r2 q2 => by
      cases er : insAt c S2 d with
      | none => simp only [er] at q2; exact q2.elim
      | some nf =>
        obtain ⟨n, fs⟩ := nf
        simp only [er] at q2
        obtain ⟨rfl, hS⟩ := insAt_some er
        by_cases hl : fs.length < 1000
        · rw [if_pos hl] at q2
          obtain ⟨a, dx, vs, ea, ha, hlen, w3⟩ := w2.setFld hS r2 (f := f) (x := .d x) (y := vx) (e2.rep r1)
          exact ⟨a, _, dx, vs, ea, ha, cl, na, by rw [hlen]; exact hl, q2 σ g2 _ (GExt.refl _) w3 (rs.mono (e1.trans e2))⟩
        · rw [if_neg hl] at q2; exact q2.elim⟩⟩⟩
end
/-- o.m(e, ..), exceptions by slots -/
def tMethS' (C : Addr) (m : Str) (sp : Sp) (E : L2.St → XK) (ta : TE) (t : TA) : TE := fun σ H Q => ta σ H fun x H1 => ∃ a dx fs, x = .ref a ∧ H1 a = some (.ins C dx fs) ∧ fs.lookup m = none ∧
  t σ H1 fun vs H2 => sp (x :: vs) H2 Q (E σ)
section
variable {X : Cx} {CX : CXT} {k : Nat} {f C : Addr} {fd : FuncData} {ps : List Str} {sp : Sp} {E : L2.St → XK} {m : Str} {pos apos : Pos} {e o : Expr} {es : List Expr} {ta : TE} {t : TA}
theorem pe_methS' {pl : Sem Bool} (he : PE X o ta) (c : Cls X.K C) (hm : Meth X.K C m f) (F : FnOk X.prog X.w X.K X.mg X.base CX k f fd ps sp) (hr : Room k X.A) (hb : Binds X.K fd ps []) (hx : ∀ σ, PassesAt CX X σ (E σ)) (ha : PA X (e :: es) t)
    (hst : starEach (e :: es) X.env = (false, eval e X.env) :: starEach es X.env := by rfl) (hpl : (backTo pos (starEach es X.env)).any (·.1) = false := by rfl)
    (ht : eval (.Call (.Attribute o m apos) (e :: es) [] pos) X.env = (do
      let ov ← eval o X.env
      standAt apos.atName
      let (f, first) ← holding [ov] (getMethod ov m pl)
      callWith pos f first (backTo pos (starEach (e :: es) X.env)) (backToKw pos (keywordEach [] X.env))) := by rfl) :
    PE X (.Call (.Attribute o m apos) (e :: es) [] pos) (tMethS' C m sp E ta t) := by
  refine ⟨fun pins s σ H Q I h => ?_⟩
  refine PySem.W.methodCall_KW (pl := pl) (thn (he.run pins s σ H _ I h) fun u s1 ⟨x, H1, I1, rx, a, dx, fs, ex, ea, l, q⟩ => ?_) ht
  subst ex
  obtain rfl : u = Value.ref a := rx
  refine getmeth_ok I1 ea c hm l ?_
  refine PySem.W.callWith_K (first := [.ref a]) (h₀ := X.base) I.ok.mod.kin hm.kp (thn (ha.run pos pins s1 σ H1 _ I1 q) fun us s2 ⟨vs, H2, I2, r, q2⟩ => ⟨I2.kIn, ?_⟩) hst hpl
  exact run_fnS (us := .ref a :: us) (vs := .ref a :: vs) F hr hb (hx σ) I2 (.cons rfl r) q2
theorem pe_methS0' {pl : Sem Bool} (he : PE X o ta) (c : Cls X.K C) (hm : Meth X.K C m f) (F : FnOk X.prog X.w X.K X.mg X.base CX k f fd ps sp) (hr : Room k X.A) (hb : Binds X.K fd ps []) (hx : ∀ σ, PassesAt CX X σ (E σ))
    (ht : eval (.Call (.Attribute o m apos) [] [] pos) X.env = (do
      let ov ← eval o X.env
      standAt apos.atName
      let (f, first) ← holding [ov] (getMethod ov m pl)
      callWith pos f first (backTo pos (starEach [] X.env)) (backToKw pos (keywordEach [] X.env))) := by rfl) :
    PE X (.Call (.Attribute o m apos) [] [] pos) (tMethS' C m sp E ta tNil) := by
  refine ⟨fun pins s σ H Q I h => ?_⟩
  refine PySem.W.methodCall_KW (pl := pl) (thn (he.run pins s σ H _ I h) fun u s1 ⟨x, H1, I1, rx, a, dx, fs, ex, ea, l, q⟩ => ?_) ht
  subst ex
  obtain rfl : u = Value.ref a := rx
  refine getmeth_ok I1 ea c hm l ?_
  exact PySem.W.callWith_K0 (first := [.ref a]) I1.kIn hm.kp (run_fnS (us := [.ref a]) (vs := [.ref a]) F hr hb (hx σ) I1 (.cons rfl .nil) q)
end
section
variable {X : Cx} {W : WX} {o e : Expr} {es : List Expr} {c m : Str} {k : Nat} {F : Fn} {pos apos p : Pos} {fo fa : Ex}
theorem meth_imp {K : PySem.W.Frag} {W : WX} {C : Addr} {fo fa : Ex} {t : TA} (hC : C = He.ga K c) (ht : ∀ σ H Q, tA K W fa σ H Q → t σ H Q) : ∀ σ H Q, tE K W (eMCall c m F fo fa) σ H Q → tMethS' C m (spOf K F) (WE W) (tE K W fo) t σ H Q := fun σ H Q ⟨g, S, ρ, w, rs, q⟩ => ⟨g, S, ρ, w, rs, Post.of_bind q fun d S1 v g1 H1 _ e1 w1 r1 q1 => by
    cases er : rdAt c S1 d with
    | none => simp only [er] at q1; exact q1.elim
    | some fs =>
      simp only [er] at q1
      cases ef : getF m fs with
      | some x => simp only [ef] at q1; exact q1.elim
      | none =>
        simp only [ef] at q1
        obtain ⟨a, dx, vs, ea, ha, hf⟩ := w1.rd er r1
        subst hC
        refine ⟨a, dx, vs, ea, ha, hf.none ef, ht _ _ _ ⟨g1, S1, ρ, w1, rs.mono e1, ?_⟩⟩
        exact Post.of_args (k := fun l S2 => F (d :: l) S2) q1 fun l S2 us g2 H2 _ e2 w2 r2 q2 => ⟨g2, S2, d :: l, w2, .cons (e2.rep r1) r2, postF_of q2⟩⟩
theorem je_mcall (mc : MCal X.prog X.w X.K X.mg X.base c m k F) (hr : Room k X.A) (tk : Takes X W) (ho : JE X W o fo) (ha : JA X W (e :: es) fa) {pl : Sem Bool}
    (hst : starEach (e :: es) X.env = (false, eval e X.env) :: starEach es X.env := by rfl) (hpl : (backTo pos (starEach es X.env)).any (·.1) = false := by rfl)
    (ht : eval (.Call (.Attribute o m apos) (e :: es) [] pos) X.env = (do
      let ov ← eval o X.env
      standAt apos.atName
      let (f, first) ← holding [ov] (getMethod ov m pl)
      callWith pos f first (backTo pos (starEach (e :: es) X.env)) (backToKw pos (keywordEach [] X.env))) := by rfl) :
    JE X W (.Call (.Attribute o m apos) (e :: es) [] pos) (eMCall c m F fo fa) := by
  obtain ⟨f, fd, ps, h1, h2, h3, h4⟩ := mc.ex
  exact ⟨peImp (pe_methS' (pl := pl) (E := WE W) ho.run h1 h2 h4 hr h3 (fun σ => passAt tk σ) ha.run hst hpl ht) (meth_imp rfl fun _ _ _ x => x)⟩
theorem je_mcall0 (mc : MCal X.prog X.w X.K X.mg X.base c m k F) (hr : Room k X.A) (tk : Takes X W) (ho : JE X W o fo) {pl : Sem Bool}
    (ht : eval (.Call (.Attribute o m apos) [] [] pos) X.env = (do
      let ov ← eval o X.env
      standAt apos.atName
      let (f, first) ← holding [ov] (getMethod ov m pl)
      callWith pos f first (backTo pos (starEach [] X.env)) (backToKw pos (keywordEach [] X.env))) := by rfl) :
    JE X W (.Call (.Attribute o m apos) [] [] pos) (eMCall c m F fo eNil) := by
  obtain ⟨f, fd, ps, h1, h2, h3, h4⟩ := mc.ex
  exact ⟨peImp (pe_methS0' (pl := pl) (E := WE W) ho.run h1 h2 h4 hr h3 (fun σ => passAt tk σ) ht) (meth_imp rfl fun σ H Q ⟨g, S, ρ, w, rs, q⟩ => q [] g H (GExt.refl _) w .nil)⟩
/-- a new instance and its dict -/
theorem World.pushInst {K : PySem.W.Frag} {g : G} {S : Sto} {H : Hp} {C : Addr} (hC : C = He.ga K c) (w : World K g S H) {x dx : Addr} (hx : H x = none) (hd : H dx = none) (ne : dx ≠ x) :
    World K (g.obj x) (S ++ [.inst c []]) (upd (upd H dx (.own x)) x (.ins C dx [])) ∧ RepG K (g.obj x) (.obj S.length) (.ref x) ∧ GExt g (g.obj x) := by
  subst hC
  have e : (g.obj x).α[S.length]? = some x := by
    show (g.α ++ [x])[S.length]? = some x
    rw [← w.len]; exact getLast_app _ _
  -- the dict's place is no one's
  have w1 : World K g S (upd H dx (.own x)) := by
    refine ⟨fun a o h => ?_, w.len, fun n o h => (w.at_ n o h).mono (GExt.refl g) fun b j hb => ⟨hb, by rw [upd_ne (w.notown hd hb)]⟩, fun b q hb => ?_, fun b o hb => ?_⟩
    · rw [upd_ne (ne_of_none h (w.fresh hd))]; exact w.sub a o h
    · rw [upd_ne (w.notown hd hb)]; exact w.free b q hb
    · obtain ⟨h1, h2, h3⟩ := w.pin b o hb
      exact ⟨by rw [upd_ne (ne_of_none h1 hd)]; exact h1, h2, h3⟩
  have hx1 : upd H dx (.own x) x = none := by rw [upd_ne ne.symm]; exact hx
  refine ⟨w1.push hx1 ⟨x, dx, [], e, ?_, upd_same, ⟨rfl, fun j p q h => by simp at h⟩⟩, .obj e, gext_obj g x⟩
  show (if x = x then some (g.α.length, 0) else _) = _
  rw [if_pos rfl, w.len]
theorem je_make (kc : KCal X.prog X.w X.K X.mg X.base c k F) (hr : Room (k + 1) X.A) (ha : JA X W (e :: es) fa) (hg : Gl X c := by rfl) (hdb : (c == ("__debug__" : Str)) = false := by decide) (he : starEach (e :: es) X.env = (false, eval e X.env) :: starEach es X.env := by rfl) (hpl : (backTo pos (starEach es X.env)).any (·.1) = false := by rfl) :
    JE X W (.Call (.Name c p) (e :: es) [] pos) (eMake c F fa) := by
  obtain ⟨f, fd, ps, h1, h2, h3, h4⟩ := kc.ex
  refine ⟨peImp (pe_make (E := E0) h2 h4 hr hg h1 h3 .nil passL ha.run hdb he hpl) fun σ H Q ⟨g, S, ρ, w, rs, q⟩ => ⟨g, S, ρ, w, rs, Post.of_args (k := fun l S1 => match F (.obj S1.length :: l) (S1 ++ [.inst c []]) with | .ok .non S2 => .ok (.obj S1.length) S2 | _ => .bad) q fun l S1 us g1 H1 _ e1 w1 r1 q1 x dx hx hd ne => ?_⟩⟩
  obtain ⟨w2, r2, e2⟩ := w1.pushInst (c := c) rfl hx hd ne
  rw [List.append_nil]
  refine ⟨_, _, .obj S1.length :: l, w2, .cons r2 (e2.reps r1), ?_⟩
  cases eF : F (.obj S1.length :: l) (S1 ++ [.inst c []]) with
  | bad => rw [eF] at q1; exact q1.elim
  | exc k S2 => rw [eF] at q1; exact q1.elim
  | ok d S2 =>
    rw [eF] at q1
    cases d with
    | non =>
      intro v g3 H3 e3 w3 r3
      cases r3
      exact ⟨rfl, q1 _ g3 H3 (e2.trans e3) w3 (e3.rep r2)⟩
    | _ => exact q1.elim
end
end Bt
namespace Bt
open PySem PySem.Spec PyProof.Rows L2
/-! ### a dict that a field holds; the instance stands in the i-th slot -/
def slotD (ρ : Env) (i : Nat) : Option D := match ρ[i]? with
  | some (some d) => some d
  | _ => none
/-- .., to be written -/
def kIn (c f : Str) (i : Nat) (ρ : Env) (S : Sto) : Option (Nat × List (Str × FV) × List (Key × D)) := match slotD ρ i with
  | some d => (match insAt c S d with
    | some (n, fs) => (match getF f fs with
      | some (.k kvs) => some (n, fs, kvs)
      | _ => none)
    | none => none)
  | none => none
end Bt
namespace Bt
open PySem PySem.Spec PyProof.Rows L2
/-! ### a field's dict is read through while nothing of the instance is written -/
def noLk : AObj → Bool
  | .lki _ _ => false
  | _ => true
end Bt
namespace Bt
open PySem PySem.Spec PyProof.Rows L2
/-! ### the text's classes and their methods -/
def clsBody (st : Stmt) (j : Nat) : Stmt := match st with
  | .ClassDef _ _ _ body .. => body.getD j (.Pass ⟨0, 0, 0, 0⟩)
  | _ => .Pass ⟨0, 0, 0, 0⟩
structure MetAt (K : PySem.W.Frag) (c m qual : Str) (st : Stmt) : Prop where
  ex : ∃ fd, FunD K m qual (defArgs st) (defBody st) (defScope st) [] [] (He.ma K (He.ga K c) m) fd
  meth : Meth K (He.ga K c) m (He.ma K (He.ga K c) m)
  cls : Cls K (He.ga K c)
structure IniAt (K : PySem.W.Frag) (mg : Str → Option Value) (c qual : Str) (st : Stmt) : Prop where
  ex : ∃ fd, FunD K "__init__" qual (defArgs st) (defBody st) (defScope st) [] [] (He.ma K (He.ga K c) "__init__") fd
  mkr : Mk K (He.ga K c) (He.ma K (He.ga K c) "__init__")
  mg : mg c = some (.ref (He.ga K c))
section
variable {P : Program} {w : PySem.World} {K : PySem.W.Frag} {mg : Str → Option Value} {base : Heap} {c m qual : Str} {st : Stmt} {N ps : List Str} {k : Nat} {mm : Sx}
theorem mcal_mk (D : MetAt K c m qual st) (S : FnScope N ps (defScope st))
    (hbd : ∀ (kV doc pm : Value) (an : Option Addr) (cdv ct : Value) (us : List Value), us.length = ps.length → bindArgs (PySem.W.fnOf m qual (defArgs st) (defBody st) (defScope st) .none kV doc pm an cdv ct) ⟨us, []⟩ = pure (ps.zip us))
    (hb : ∀ (cdv : Value) (A : Around) (outer : List PySem.Env) (s : Shared) (H : Hp) (E : XK), Room k (A.deeper (envOfC qual (defScope st) s.heap.objs.size (He.ma K (He.ga K c) m) cdv)) →
      JSs (cxOf (L2.CX P w) P w K mg base N qual (defScope st) (He.ma K (He.ga K c) m) cdv A outer s H E) (fun cls d _ H => E cls d H) (defBody st) mm) :
    MCal P w K mg base c m (k + 1) (fnBody ps.length N.length mm) := by
  obtain ⟨fd, F⟩ := D.ex
  exact ⟨_, fd, ps, D.cls, D.meth, F.bindsN hbd, fn_ok F S hb⟩
theorem kcal_mk (D : IniAt K mg c qual st) (S : FnScope N ps (defScope st))
    (hbd : ∀ (kV doc pm : Value) (an : Option Addr) (cdv ct : Value) (us : List Value), us.length = ps.length → bindArgs (PySem.W.fnOf "__init__" qual (defArgs st) (defBody st) (defScope st) .none kV doc pm an cdv ct) ⟨us, []⟩ = pure (ps.zip us))
    (hb : ∀ (cdv : Value) (A : Around) (outer : List PySem.Env) (s : Shared) (H : Hp) (E : XK), Room k (A.deeper (envOfC qual (defScope st) s.heap.objs.size (He.ma K (He.ga K c) "__init__") cdv)) →
      JSs (cxOf (L2.CX P w) P w K mg base N qual (defScope st) (He.ma K (He.ga K c) "__init__") cdv A outer s H E) (fun cls d _ H => E cls d H) (defBody st) mm) :
    KCal P w K mg base c (k + 1) (fnBody ps.length N.length mm) := by
  obtain ⟨fd, F⟩ := D.ex
  exact ⟨_, fd, ps, D.mg, D.mkr, F.bindsN hbd, fn_ok F S hb⟩
end
/-! ### refusals -/
structure ExcAt (K : PySem.W.Frag) (mg : Str → Option Value) (k : Exc) : Prop where
  mg : mg (excN k) = some (.ref (He.ga K (excN k)))
  ex : PySem.W.excIn K (He.ga K (excN k)) He.veBase "ValueError.__new__" = true ∧ PySem.W.keepIn K (.ref (He.ga K (excN k))) = true ∧ PySem.W.subIn K (.ref (He.ga K (excN k))) (.type "BaseException") = some true ∧ PySem.W.typeIn K (.ref (He.ga K (excN k))) = some (.type "type")
def sRaise (k : Exc) : Sx := fun ρ S => .exc k ρ S
theorem js_raise {X : Cx} {W : WX} {k : Exc} {m : Str} {j : Nat} {p p2 pos pos' : Pos} (hc : X.calm = true) (tk : Takes X W) (ea : ExcAt X.K X.mg k) (hg : Gl X (excN k)) (hdb : (excN k == ("__debug__" : Str)) = false) :
    JS X W (.Raise (some (.Call (.Name (excN k) p) [.Constant (.str m) j p2] [] pos)) none pos') (sRaise k) :=
  ⟨psImp (ps_raise hc tk (pmk_own PySem.F.excBase_ValueError ea.ex.1 ea.mg ea.ex.2.1 (raises_own ea.ex.2.2.1 ea.ex.2.2.2) hg hdb)) fun N σ H ⟨g, S, ρ, w, rs, q⟩ => q σ g H (GExt.refl _) w rs⟩
end Bt
namespace Bt
open PySem PySem.Spec PyProof.Rows L2
/-! ### runs by moments -/
def itM (p : Prg) (as : List Int) : Nat → Sta
  | 0 => sta0
  | n + 1 => stepM p as (itM p as n)
/-- the last moment up to m -/
def endM (p : Prg) (as : List Int) : Nat → Nat
  | 0 => 0
  | m + 1 => if endM p as m = m ∧ over p (itM p as m) = false then m + 1 else endM p as m
theorem endM_lt {p : Prg} {as : List Int} : ∀ m i, i < endM p as m → over p (itM p as i) = false
  | 0, i, h => by cases h
  | m + 1, i, h => by
    unfold endM at h
    by_cases q : endM p as m = m ∧ over p (itM p as m) = false
    · rw [if_pos q] at h
      rcases Nat.lt_or_eq_of_le (Nat.lt_succ_iff.mp h) with z | z
      · exact endM_lt m i (by rw [q.1]; exact z)
      · rw [z]; exact q.2
    · rw [if_neg q] at h; exact endM_lt m i h
theorem itM_ok {p : Prg} (hp : PrgOk p) {as : List Int} (ha : ∀ n ∈ as, Wo n) : ∀ i, (∀ j, j < i → over p (itM p as j) = false) → StOk p i (itM p as i)
  | 0, _ => sta0_ok p
  | i + 1, h => stepM_ok hp ha (itM_ok hp ha i fun j hj => h j (by omega)) (h i (Nat.lt_succ_self i))
/-! ### tapes -/
/-- how far marks lie, by the first distance and the farthest moment -/
def evF (e : Nat) : Nat → Nat
  | 0 => e
  | f + 1 => if 8 ≤ (f + 1) / evF e f then 2 * evF e f else evF e f
structure Tp where
  p : Prg
  as : List Int
  e0 : Nat
  most : Int
  far : Nat
  last : Option Nat
  here : Int
def Tp.ev (t : Tp) : Nat := evF t.e0 t.far
def kvM (p : Prg) (as : List Int) (m : Nat) : Key × D := (.inl (m : Nat), (itM p as m).d)
def keptM (p : Prg) (as : List Int) (ev n : Nat) : List (Key × D) := (List.range n).map fun i => kvM p as (i * ev)
def lastD : Option Nat → D
  | none => .non
  | some l => .int (l : Nat)
def fsM (p as : D) (ev most : Int) (kept : List (Key × D)) (far : Int) (last : D) (here : Int) : List (Str × FV) :=
  [("program", .d p), ("asked", .d as), ("every", .d (.int ev)), ("most", .d (.int most)), ("kept", .k kept), ("far", .d (.int far)), ("last", .d last), ("here", .d (.int here))]
def Tp.fs (t : Tp) : List (Str × FV) := fsM (prgD t.p) (asD t.as) t.ev t.most (keptM t.p t.as t.ev (t.far / t.ev + 1)) t.far (lastD t.last) t.here
def Tp.o (t : Tp) : AObj := .inst "Tape" t.fs
structure TpOk (t : Tp) : Prop where
  p : PrgOk t.p
  as : ∀ n ∈ t.as, Wo n
  e0 : 1 ≤ t.e0
  far : ∀ j, j < t.far → over t.p (itM t.p t.as j) = false
  m0 : 0 ≤ t.most
  m1 : t.most < 10000
  f1 : (t.far : Int) ≤ t.most
  last : ∀ l, t.last = some l → l = endM t.p t.as t.most.toNat
  h0 : 0 ≤ t.here ∧ t.here ≤ endM t.p t.as t.most.toNat
end Bt
namespace Bt
open PySem PySem.Spec PyProof.Rows L2
section
variable {p as last : D} {ev most far here : Int} {kept : List (Key × D)}
@[simp] theorem g_prog : getF "program" (fsM p as ev most kept far last here) = some (.d p) := by simp [getF, fsM, ofString_inj]
@[simp] theorem g_ask : getF "asked" (fsM p as ev most kept far last here) = some (.d as) := by simp [getF, fsM, ofString_inj]
@[simp] theorem g_ev : getF "every" (fsM p as ev most kept far last here) = some (.d (.int ev)) := by simp [getF, fsM, ofString_inj]
@[simp] theorem g_most : getF "most" (fsM p as ev most kept far last here) = some (.d (.int most)) := by simp [getF, fsM, ofString_inj]
@[simp] theorem g_kept : getF "kept" (fsM p as ev most kept far last here) = some (.k kept) := by simp [getF, fsM, ofString_inj]
@[simp] theorem g_far : getF "far" (fsM p as ev most kept far last here) = some (.d (.int far)) := by simp [getF, fsM, ofString_inj]
@[simp] theorem g_last : getF "last" (fsM p as ev most kept far last here) = some (.d last) := by simp [getF, fsM, ofString_inj]
@[simp] theorem g_here : getF "here" (fsM p as ev most kept far last here) = some (.d (.int here)) := by simp [getF, fsM, ofString_inj]
@[simp] theorem g_mkeep : getF "keep" (fsM p as ev most kept far last here) = none := by simp [getF, fsM, ofString_inj]
@[simp] theorem g_mcame : getF "came" (fsM p as ev most kept far last here) = none := by simp [getF, fsM, ofString_inj]
@[simp] theorem g_mat : getF "at" (fsM p as ev most kept far last here) = none := by simp [getF, fsM, ofString_inj]
@[simp] theorem g_mend : getF "end" (fsM p as ev most kept far last here) = none := by simp [getF, fsM, ofString_inj]
@[simp] theorem g_mmarks : getF "marks" (fsM p as ev most kept far last here) = none := by simp [getF, fsM, ofString_inj]
@[simp] theorem g_mcost : getF "cost" (fsM p as ev most kept far last here) = none := by simp [getF, fsM, ofString_inj]
@[simp] theorem g_mmoment : getF "moment" (fsM p as ev most kept far last here) = none := by simp [getF, fsM, ofString_inj]
@[simp] theorem g_mstate : getF "state" (fsM p as ev most kept far last here) = none := by simp [getF, fsM, ofString_inj]
@[simp] theorem g_mto : getF "to" (fsM p as ev most kept far last here) = none := by simp [getF, fsM, ofString_inj]
@[simp] theorem g_mgo : getF "go" (fsM p as ev most kept far last here) = none := by simp [getF, fsM, ofString_inj]
@[simp] theorem g_mback : getF "back" (fsM p as ev most kept far last here) = none := by simp [getF, fsM, ofString_inj]
@[simp] theorem s_ev {x : Int} : setF "every" (.d (.int x)) (fsM p as ev most kept far last here) = fsM p as x most kept far last here := by simp [setF, fsM, ofString_inj]
@[simp] theorem s_kept {x : List (Key × D)} : setF "kept" (.k x) (fsM p as ev most kept far last here) = fsM p as ev most x far last here := by simp [setF, fsM, ofString_inj]
@[simp] theorem s_far {x : Int} : setF "far" (.d (.int x)) (fsM p as ev most kept far last here) = fsM p as ev most kept x last here := by simp [setF, fsM, ofString_inj]
@[simp] theorem s_last {x : D} : setF "last" (.d x) (fsM p as ev most kept far last here) = fsM p as ev most kept far x here := by simp [setF, fsM, ofString_inj]
@[simp] theorem s_here {x : Int} : setF "here" (.d (.int x)) (fsM p as ev most kept far last here) = fsM p as ev most kept far last x := by simp [setF, fsM, ofString_inj]
@[simp] theorem len_fs : (fsM p as ev most kept far last here).length = 8 := rfl
end
section
variable {S : Sto} {n : Nat} {fs : List (Str × FV)} {ρ : Env} {c f : Str}
theorem rd_set (h : n < S.length) : rdAt c (S.set n (.inst c fs)) (.obj n) = some fs := by
  unfold rdAt
  simp [h]
@[simp] theorem s_fld {fo : Ex} : eFld c f fo ρ S = (fo ρ S).bind fun d S1 => match rdAt c S1 d with
  | some fs => (match getF f fs with
    | some (.d x) => .ok x S1
    | _ => .bad)
  | none => .bad := rfl
@[simp] theorem s_fldS {fo fv : Ex} : sFldS c f fo fv ρ S = (fv ρ S).toS ρ fun x S1 => (fo ρ S1).toS ρ fun o S2 => match insAt c S2 o with
  | some (n, fs) => if fs.length < 1000 then .nx ρ (S2.set n (.inst c (setF f (.d x) fs))) else .bad
  | none => .bad := rfl
@[simp] theorem s_mcall {m : Str} {F : Fn} {fo fa : Ex} : eMCall c m F fo fa ρ S = (fo ρ S).bind fun o S1 => match rdAt c S1 o with
  | some fs => (match getF m fs with
    | none => (fa ρ S1).bind fun t S2 => (match t with
      | .tup l => F (o :: l) S2
      | _ => .bad)
    | some _ => .bad)
  | none => .bad := rfl
@[simp] theorem s_raise {k : Exc} : sRaise k ρ S = .exc k ρ S := rfl
@[simp] theorem sl_0 {d : D} {r : Env} : slotD (some d :: r) 0 = some d := rfl
@[simp] theorem sl_S {o : Option D} {r : Env} {i : Nat} : slotD (o :: r) (i + 1) = slotD r i := rfl
end
end Bt
namespace Bt
open PySem PySem.Spec PyProof.Rows L2
theorem all_set {S : Sto} {n : Nat} {o : AObj} (h : S.all noLk = true) (ho : noLk o = true) : (S.set n o).all noLk = true := by
  refine List.all_eq_true.mpr fun x hx => ?_
  rcases List.mem_or_eq_of_mem_set hx with q | q
  · exact List.all_eq_true.mp h x q
  · rw [q]; exact ho
theorem putD_new {kvs : List (Key × D)} {k : Key} {v : D} (h : (kvs.any fun kv => decide (kv.1 = k)) = false) : putD kvs k v = kvs ++ [(k, v)] := by
  unfold putD
  rw [h]; rfl
theorem mergeD_new : ∀ (more kvs : List (Key × D)), ((kvs ++ more).map (·.1)).Nodup → mergeD kvs more = kvs ++ more
  | [], kvs, _ => by simp [mergeD]
  | p :: more, kvs, h => by
    have e : putD kvs p.1 p.2 = kvs ++ [p] := by
      refine putD_new ?_
      cases q : (kvs.any fun kv => decide (kv.1 = p.1)) with
      | false => rfl
      | true =>
        obtain ⟨x, hx, hk⟩ := List.any_eq_true.mp q
        have hk' := of_decide_eq_true hk
        rw [List.map_append, List.map_cons] at h
        have := (List.nodup_append.mp h).2.2 x.1 (List.mem_map.mpr ⟨x, hx, rfl⟩) p.1 List.mem_cons_self
        exact absurd hk' this
    show mergeD (putD kvs p.1 p.2) more = _
    rw [e, mergeD_new more (kvs ++ [p]) (by rw [List.append_assoc]; exact h), List.append_assoc]; rfl
end Bt
namespace Bt
open PySem PySem.Spec PyProof.Rows L2
/-- the last moment of a tape -/
abbrev Tp.E (t : Tp) : Nat := endM t.p t.as t.most.toNat
section
variable {t : Tp} {S : Sto} {n : Nat}
theorem rdT (hn : n < S.length) : rdAt "Tape" (S.set n t.o) (.obj n) = some t.fs := rd_set hn
theorem TpOk.here {t : Tp} (h : TpOk t) {x : Int} (hx : 0 ≤ x ∧ x ≤ t.E) : TpOk { t with here := x } := ⟨h.p, h.as, h.e0, h.far, h.m0, h.m1, h.f1, h.last, hx⟩
end
end Bt
namespace Bt
open PySem PySem.Spec PyProof.Rows L2
/-- a tape of the same run -/
structure Like (t u : Tp) : Prop where
  p : u.p = t.p
  as : u.as = t.as
  e0 : u.e0 = t.e0
  most : u.most = t.most
  ok : TpOk u
theorem Like.E {t u : Tp} (L : Like t u) : u.E = t.E := by unfold Tp.E; rw [L.p, L.as, L.most]
theorem set_get {S : Sto} {n : Nat} {o : AObj} (h : S[n]? = some o) : S.set n o = S ∧ n < S.length := by
  have hn := (List.getElem?_eq_some_iff.mp h).1
  have e := (List.getElem?_eq_some_iff.mp h).2
  refine ⟨?_, hn⟩
  rw [← e]; exact List.set_getElem_self hn
section
variable {t u : Tp} {S : Sto} {n : Nat}
@[simp] theorem rd_c0 {r : Sto} : rdAt "Tape" (u.o :: r) (.obj 0) = some u.fs := rfl
@[simp] theorem rd_c1 {x : AObj} {r : Sto} : rdAt "Tape" (x :: u.o :: r) (.obj 1) = some u.fs := rfl
end
/-! ### loops that change the store -/
theorem itM_stok {p : Prg} (hp : PrgOk p) {as : List Int} (ha : ∀ n ∈ as, Wo n) {N m : Nat} (h : m ≤ endM p as N) : StOk p m (itM p as m) := itM_ok hp ha m fun j hj => endM_lt N j (by omega)
end Bt
namespace Bt
open PySem PySem.Spec PyProof.Rows L2
theorem range1_ev {fe : Ex} {ρ : Env} {S S1 : Sto} {n : Nat} (h : fe ρ S = .ok (.int (n : Nat)) S1) (hl : n ≤ lim) : iRange1 fe ρ S = .ok (.tup (rngD 0 n)) S1 := by
  have hl' : (n : Int) ≤ (lim : Int) := Int.ofNat_le.mpr hl
  unfold iRange1
  rw [h]
  simp only [ER.bind_ok]
  rw [if_pos ⟨by omega, hl'⟩]; rfl
/-! ### marks and costs -/
end Bt
namespace Bt
open PySem PySem.Spec PyProof.Rows L2
/-! ### a tape in the store, by its run alone -/
structure W (t : Tp) (n : Nat) (S : Sto) : Prop where
  ex : ∃ u, S[n]? = some u.o ∧ Like t u
  nl : S.all noLk = true
/-- nothing but the tape at n is changed -/
structure Ch (n : Nat) (S S' : Sto) : Prop where
  ex : ∃ u : Tp, S' = S.set n u.o
theorem Ch.trans {n : Nat} {S S1 S2 : Sto} (h : Ch n S S1) (k : Ch n S1 S2) : Ch n S S2 := by
  obtain ⟨u, rfl⟩ := h.ex
  obtain ⟨v, rfl⟩ := k.ex
  exact ⟨v, by rw [List.set_set]⟩
theorem Ch.len {n : Nat} {S S' : Sto} (h : Ch n S S') : S'.length = S.length := by
  obtain ⟨u, rfl⟩ := h.ex; exact List.length_set
theorem Ch.get {n m : Nat} {S S' : Sto} (h : Ch n S S') (hm : m ≠ n) : S'[m]? = S[m]? := by
  obtain ⟨u, rfl⟩ := h.ex
  rw [List.getElem?_set_ne (Ne.symm hm)]
theorem W.set {t u' : Tp} {n : Nat} {S : Sto} (w : W t n S) (L : Like t u') : W t n (S.set n u'.o) := by
  obtain ⟨u, h, _⟩ := w.ex
  refine ⟨⟨u', ?_, L⟩, all_set w.nl rfl⟩
  rw [List.getElem?_set_self (List.getElem?_eq_some_iff.mp h).1]
section
variable {t : Tp} {S : Sto} {n : Nat}
theorem W.rd (w : W t n S) : ∃ u : Tp, rdAt "Tape" S (.obj n) = some u.fs ∧ u.p = t.p ∧ u.as = t.as := by
  obtain ⟨u, h, L⟩ := w.ex
  obtain ⟨e, hn⟩ := set_get h
  have := rdT (t := u) hn
  rw [e] at this
  exact ⟨u, this, L.p, L.as⟩
end
end Bt
namespace Bt
open PySem PySem.Spec PyProof.Rows L2
/-- xs[::-1] of a list -/
def eRev (fe : Ex) : Ex := fun ρ S => (fe ρ S).bind fun d S1 => match d with
  | .lst l => .ok (.lst l.reverse) S1
  | .scr l => .ok (.lst l.reverse) S1
  | _ => .bad
@[simp] theorem s_rev {fe : Ex} {ρ : Env} {S : Sto} : eRev fe ρ S = (fe ρ S).bind fun d S1 => match d with
  | .lst l => .ok (.lst l.reverse) S1
  | .scr l => .ok (.lst l.reverse) S1
  | _ => .bad := rfl
/-! ### a def's own things are forgotten, what was there may have changed, being pure -/
def pureO : AObj → Bool
  | .list l => D.pures l
  | .dict kvs => kvs.all fun p => D.pure p.2
  | .dead => true
  | .inst _ fs => fs.all fun p => p.2.pure
  | .abs _ => false
  | .lki _ _ => false
  | .fdict kvs => kvs.all fun p => D.pure p.2
  | .flist l => D.pures l
end Bt
namespace Bt
open PySem PySem.Spec PyProof.Rows L2
noncomputable def F_is_name : Fn := fnBody 1 1
    (sRet (eAnd (eIsT .str (eVar 0)) (eAnd (eOp opEq (eCallB (f1 bLen) (eCons (eVar 0) eNil)) (eC (.int 1))) (eOp opIn (eVar 0) (eC c_NAMES)))))
noncomputable def G_is_name : Fn := F_is_name
end Bt
namespace Bt
open PySem PySem.Spec PyProof.Rows L2
section
variable {t : Tp} {S : Sto} {n : Nat}
theorem W.stok (w : W t n S) {m : Nat} (hm : m ≤ t.E) : StOk t.p m (itM t.p t.as m) := by
  obtain ⟨u, _, L⟩ := w.ex
  have hp := L.ok.p
  have ha := L.ok.as
  rw [L.p] at hp
  rw [L.as] at ha
  exact itM_stok hp ha hm
end
end Bt
namespace Bt
open PySem PySem.Spec PyProof.Rows L2
@[simp] theorem eqv_ns {s} : D.eqv .non (.str s) = false := by unfold D.eqv; simp only [D.toP, PyData.eqv]
@[simp] theorem eqv_sn {s} : D.eqv (.str s) .non = false := by unfold D.eqv; simp only [D.toP, PyData.eqv]
end Bt
namespace Bt
open PySem PySem.Spec PyProof.Rows L2
section
variable {t : Tp} {S : Sto} {n : Nat}
abbrev natsD (l : List Nat) : List D := l.map fun (n : Nat) => D.int n
end
end Bt
namespace Bt
open PySem PySem.Spec PyProof.Rows L2
/-! ### tapes by their runs alone: a store in which they never change but for where one looks -/
def plainO : AObj → Bool
  | .abs _ => false
  | .lki _ _ => false
  | _ => true
inductive RelO : AObj → AObj → Prop
  | tape {u : Tp} {t : TapeI} : TpOk u → u.p = t.prog → u.as = t.asked → u.most = (t.most : Nat) → u.here = (t.here : Nat) → RelO u.o (.abs (.tape t))
  | same {a : AObj} : plainO a = true → RelO a a
structure RelS (S T : Sto) : Prop where
  len : S.length = T.length
  at_ : ∀ (n : Nat) (a : AObj), T[n]? = some a → ∃ c, S[n]? = some c ∧ RelO c a
theorem RelO.nl {c a : AObj} (h : RelO c a) : noLk c = true := by
  cases h with
  | tape => rfl
  | same h => cases c <;> first | rfl | cases h
theorem RelS.nil : RelS [] [] := ⟨rfl, fun n a h => by simp at h⟩
theorem RelS.nl {S T : Sto} (r : RelS S T) : S.all noLk = true := by
  rw [List.all_eq_true]
  intro c hc
  obtain ⟨n, hn, rfl⟩ := List.getElem_of_mem hc
  have hT : n < T.length := by rw [← r.len]; exact hn
  obtain ⟨c', h1, h2⟩ := r.at_ n T[n] (List.getElem?_eq_getElem hT)
  rw [List.getElem?_eq_getElem hn] at h1
  cases h1
  exact h2.nl
theorem RelS.push {S T : Sto} (r : RelS S T) {c a : AObj} (h : RelO c a) : RelS (S ++ [c]) (T ++ [a]) := by
  refine ⟨by simp [r.len], fun n b hb => ?_⟩
  rcases Nat.lt_or_ge n T.length with q | q
  · rw [List.getElem?_append_left q] at hb
    rw [List.getElem?_append_left (by rw [r.len]; exact q)]
    exact r.at_ n b hb
  · rw [List.getElem?_append_right q] at hb
    rw [List.getElem?_append_right (by rw [r.len]; exact q), r.len]
    cases e : n - T.length with
    | zero => rw [e] at hb; cases hb; exact ⟨c, rfl, h⟩
    | succ k => rw [e] at hb; simp at hb
theorem RelS.set {S T : Sto} (r : RelS S T) {n : Nat} {c a : AObj} (h : RelO c a) : RelS (S.set n c) (T.set n a) := by
  refine ⟨by simp [r.len], fun m b hb => ?_⟩
  by_cases q : n = m
  · subst q
    have hn : n < T.length := by
      have := (List.getElem?_eq_some_iff.mp hb).1
      simpa using this
    rw [List.getElem?_set_self hn] at hb
    cases hb
    exact ⟨c, by rw [List.getElem?_set_self (by rw [r.len]; exact hn)], h⟩
  · rw [List.getElem?_set_ne q] at hb
    rw [List.getElem?_set_ne q]
    exact r.at_ m b hb
theorem RelS.take {S T : Sto} (r : RelS S T) (k : Nat) : RelS (S.take k) (T.take k) := by
  refine ⟨by simp [r.len], fun m b hb => ?_⟩
  rw [List.getElem?_take] at hb
  by_cases q : m < k
  · rw [if_pos q] at hb
    rw [List.getElem?_take, if_pos q]
    exact r.at_ m b hb
  · rw [if_neg q] at hb; cases hb
theorem RelS.tape {S T : Sto} (r : RelS S T) {n : Nat} {t : TapeI} (h : T[n]? = some (.abs (.tape t))) : ∃ u : Tp, S[n]? = some u.o ∧ TpOk u ∧ u.p = t.prog ∧ u.as = t.asked ∧ u.most = (t.most : Nat) ∧ u.here = (t.here : Nat) := by
  obtain ⟨c, h1, h2⟩ := r.at_ n _ h
  generalize ha : AObj.abs (.tape t) = a at h2
  cases h2 with
  | tape k1 k2 k3 k4 k5 => cases ha; exact ⟨_, h1, k1, k2, k3, k4, k5⟩
  | same q => rw [← ha] at q; cases q
def RelE (x : ER) : ER → Prop
  | .ok d T => ∃ S, x = .ok d S ∧ RelS S T
  | .exc k T => ∃ S, x = .exc k S ∧ RelS S T
  | .bad => True
def RelR (x : SR) : SR → Prop
  | .nx ρ T => ∃ S, x = .nx ρ S ∧ RelS S T
  | .rt d T => ∃ S, x = .rt d S ∧ RelS S T
  | .bk ρ T => ∃ S, x = .bk ρ S ∧ RelS S T
  | .ct ρ T => ∃ S, x = .ct ρ S ∧ RelS S T
  | .exc k ρ T => ∃ S, x = .exc k ρ S ∧ RelS S T
  | .bad => True
abbrev SimS (f g : Sx) : Prop := ∀ ρ S T, RelS S T → RelR (f ρ S) (g ρ T)
theorem RelE.bind {x y : ER} {k k' : D → Sto → ER} (h : RelE x y) (hk : ∀ d S T, RelS S T → RelE (k d S) (k' d T)) : RelE (x.bind k) (y.bind k') := by
  cases y with
  | ok d T => obtain ⟨S, rfl, r⟩ := h; exact hk d S T r
  | exc e T => obtain ⟨S, rfl, r⟩ := h; exact ⟨S, rfl, r⟩
  | bad => trivial
theorem RelE.toS {x y : ER} {ρ : Env} {k k' : D → Sto → SR} (h : RelE x y) (hk : ∀ d S T, RelS S T → RelR (k d S) (k' d T)) : RelR (x.toS ρ k) (y.toS ρ k') := by
  cases y with
  | ok d T => obtain ⟨S, rfl, r⟩ := h; exact hk d S T r
  | exc e T => obtain ⟨S, rfl, r⟩ := h; exact ⟨S, rfl, r⟩
  | bad => trivial
theorem RelE.lift {o o' : Option D} {S T : Sto} (r : RelS S T) (h : ∀ d, o' = some d → o = some d) : RelE (lift1 o S) (lift1 o' T) := by
  cases o' with
  | none => trivial
  | some d => rw [h d rfl]; exact ⟨S, rfl, r⟩
theorem RelR.toE {x y : SR} (h : RelR x y) : RelE x.toE y.toE := by
  cases y with
  | nx ρ T => obtain ⟨S, rfl, r⟩ := h; exact ⟨S, rfl, r⟩
  | rt ρ T => obtain ⟨S, rfl, r⟩ := h; exact ⟨S, rfl, r⟩
  | exc k ρ T => obtain ⟨S, rfl, r⟩ := h; exact ⟨S, rfl, r⟩
  | bk ρ T => trivial
  | ct ρ T => trivial
  | bad => trivial
theorem RelR.seq {x y : SR} {f g : Sx} (h : RelR x y) (k : SimS f g) : RelR (x.seq f) (y.seq g) := by
  cases y with
  | nx ρ T => obtain ⟨S, rfl, r⟩ := h; exact k ρ S T r
  | rt ρ T => obtain ⟨S, rfl, r⟩ := h; exact ⟨S, rfl, r⟩
  | exc k ρ T => obtain ⟨S, rfl, r⟩ := h; exact ⟨S, rfl, r⟩
  | bk ρ T => obtain ⟨S, rfl, r⟩ := h; exact ⟨S, rfl, r⟩
  | ct ρ T => obtain ⟨S, rfl, r⟩ := h; exact ⟨S, rfl, r⟩
  | bad => trivial
/-! ### operators -/
/-! ### parts of an expression -/
end Bt
namespace Bt
open PySem PySem.Spec PyProof.Rows L2
/-! ### sums, rows, programs by what they are laid as -/
/-! ### purity -/
theorem pures_map {α : Type} {f : α → D} (h : ∀ a, (f a).pure = true) : ∀ l : List α, D.pures (l.map f) = true
  | [] => rfl
  | a :: l => by
    show ((f a).pure && D.pures (l.map f)) = true
    rw [h a, pures_map h l]; rfl
theorem Sm.pure : ∀ a : Sm, a.d.pure = true := by
  intro a
  induction a with
  | num n => rfl
  | name i => rfl
  | cell a ih => show (true && (a.d.pure && true)) = true; rw [ih]; rfl
  | add a b ih ih2 => show (true && (a.d.pure && (b.d.pure && true))) = true; rw [ih, ih2]; rfl
  | sub a b ih ih2 => show (true && (a.d.pure && (b.d.pure && true))) = true; rw [ih, ih2]; rfl
  | mul a b ih ih2 => show (true && (a.d.pure && (b.d.pure && true))) = true; rw [ih, ih2]; rfl
  | less a b ih ih2 => show (true && (a.d.pure && (b.d.pure && true))) = true; rw [ih, ih2]; rfl
theorem Row.pure (r : Row) : r.d.pure = true := by
  cases r with
  | set i a => show (true && (true && (a.d.pure && true))) = true; rw [a.pure]; rfl
  | put a b => show (true && (a.d.pure && (b.d.pure && true))) = true; rw [a.pure, b.pure]; rfl
  | ask i => rfl
  | say a => show (true && (a.d.pure && true)) = true; rw [a.pure]; rfl
  | jump p => rfl
  | «unless» a p => show (true && (a.d.pure && (true && true))) = true; rw [a.pure]; rfl
  | call p => rfl
  | back => rfl
  | stop => rfl
theorem prg_pure (p : Prg) : (prgD p).pure = true := pures_map Row.pure p
theorem as_pure (p : List Int) : (asD p).pure = true := pures_map (fun _ => rfl) p
theorem Sta.pure (s : Sta) : s.d.pure = true := by
  show (true && (D.pures _ && (D.pures _ && (D.pures _ && (true && (D.pures _ && true)))))) = true
  rw [pures_map (fun _ => rfl), pures_map (fun _ => rfl), pures_map (fun _ => rfl), pures_map (fun _ => rfl)]; rfl
theorem tp_pure (u : Tp) : pureO u.o = true := by
  have hk : (keptM u.p u.as u.ev (u.far / u.ev + 1)).all (fun p => D.pure p.2) = true := by
    unfold keptM
    rw [List.all_map, List.all_eq_true]
    intro i _
    exact (itM u.p u.as _).pure
  show ((prgD u.p).pure && ((asD u.as).pure && (true && (true && (_ && (true && ((lastD u.last).pure && (true && true)))))))) = true
  rw [prg_pure, as_pure]
  show (true && (true && (true && (true && ((keptM u.p u.as u.ev (u.far / u.ev + 1)).all (fun p => D.pure p.2) && (true && ((lastD u.last).pure && (true && true)))))))) = true
  rw [hk]
  cases u.last <;> rfl
/-! ### calls of a tape -/
def endI (t : TapeI) : Nat := endM t.prog t.asked t.most
def tpAt (T : Sto) : D → Option TapeI
  | .obj n => (match T[n]? with
    | some (.abs (.tape t)) => some t
    | _ => none)
  | _ => none
def eT (F : Fn) (fo fa : Ex) : Ex := fun ρ T => (fo ρ T).bind fun o T1 => match tpAt T1 o with
  | some _ => (fa ρ T1).bind fun t T2 => (match t with
    | .tup l => F (o :: l) T2
    | _ => .bad)
  | none => .bad
def eTProg (fo : Ex) : Ex := fun ρ T => (fo ρ T).bind fun o T1 => match tpAt T1 o with
  | some t => .ok (prgD t.prog) T1
  | none => .bad
def eTAsk (fo : Ex) : Ex := fun ρ T => (fo ρ T).bind fun o T1 => match tpAt T1 o with
  | some t => .ok (asD t.asked) T1
  | none => .bad
/-! ### a meaning that the kernel does not unfold -/
/-! ### defs that do not look at the store -/
/-! ### defs that make lists -/
def pureA : AObj → Bool
  | .abs _ => true
  | o => pureO o
theorem pure_of {c a : AObj} (h : RelO c a) (hp : pureA a = true) : pureO c = true := by
  cases h with
  | tape => exact tp_pure _
  | same q => cases c <;> first | exact hp | cases q
theorem RelS.pure {S T : Sto} (r : RelS S T) (h : T.all pureA = true) : S.all pureO = true := by
  rw [List.all_eq_true] at h ⊢
  intro c hc
  obtain ⟨n, hn, rfl⟩ := List.getElem_of_mem hc
  have hT : n < T.length := by rw [← r.len]; exact hn
  obtain ⟨c', h1, h2⟩ := r.at_ n T[n] (List.getElem?_eq_getElem hT)
  rw [List.getElem?_eq_getElem hn] at h1
  cases h1
  exact pure_of h2 (h _ (List.getElem_mem hT))
/-! ### the calls, for a tape that stands in the store -/
section
variable {t : Tp} {T : Sto} {n : Nat} {fo fa : Ex} {ρ : Env}
@[simp] theorem endI_t : endI ⟨t.p, t.as, 0, t.most.toNat, t.here.toNat, none⟩ = t.E := rfl
@[simp] theorem s_eT {F : Fn} : eT F fo fa ρ T = (fo ρ T).bind fun o T1 => match tpAt T1 o with
  | some _ => (fa ρ T1).bind fun t T2 => (match t with
    | .tup l => F (o :: l) T2
    | _ => .bad)
  | none => .bad := rfl
@[simp] theorem s_eTProg : eTProg fo ρ T = (fo ρ T).bind fun o T1 => match tpAt T1 o with
  | some t => .ok (prgD t.prog) T1
  | none => .bad := rfl
@[simp] theorem s_eTAsk : eTAsk fo ρ T = (fo ρ T).bind fun o T1 => match tpAt T1 o with
  | some t => .ok (asD t.asked) T1
  | none => .bad := rfl
end
end Bt
namespace Bt
open PySem PySem.Spec PyProof.Rows L2
/-! ### evaluation step by step -/
theorem o_ltI {S : Sto} {i j : Int} : opLt S (.int i) (.int j) = some (.bl (decide (i < j))) := rfl
theorem o_gtI {S : Sto} {i j : Int} : opGt S (.int i) (.int j) = some (.bl (decide (j < i))) := rfl
theorem o_geI {S : Sto} {i j : Int} : opGe S (.int i) (.int j) = some (.bl (decide (j ≤ i))) := rfl
section
variable {Q : SR → Prop} {ρ ρ1 : Env} {S S1 : Sto} {g a b : Sx} {fe fc fi : Ex} {d : D} {i : Nat} {tg : D → Env → Option Env}
theorem q_set (h : fe ρ S = .ok d S1) (k : Q (g (ρ.set i (some d)) S1)) : Q (sSeq (sSet i fe) g ρ S) := by
  show Q (SR.seq (ER.toS (fe ρ S) ρ _) g); rw [h]; exact k
theorem q_set1 (h : fe ρ S = .ok d S1) (k : Q (.nx (ρ.set i (some d)) S1)) : Q (sSet i fe ρ S) := by
  show Q (ER.toS (fe ρ S) ρ _); rw [h]; exact k
theorem q_ret (h : fe ρ S = .ok d S1) (k : Q (.rt d S1)) : Q (sRet fe ρ S) := by
  show Q (ER.toS (fe ρ S) ρ _); rw [h]; exact k
theorem q_retX {k : Exc} (h : fe ρ S = .exc k S1) (q : Q (.exc k ρ S1)) : Q (sRet fe ρ S) := by
  show Q (ER.toS (fe ρ S) ρ _); rw [h]; exact q
theorem q_if0 (h : fc ρ S = .ok (.bl false) S1) (k : Q (g ρ S1)) : Q (sSeq (sIf fc a sSkip) g ρ S) := by
  show Q (SR.seq (ER.toS (fc ρ S) ρ _) g); rw [h]; exact k
theorem q_ifT (h : fc ρ S = .ok (.bl true) S1) (k : Q (sSeq a g ρ S1)) : Q (sSeq (sIf fc a b) g ρ S) := by
  show Q (SR.seq (ER.toS (fc ρ S) ρ _) g); rw [h]; exact k
theorem q_ifF1 (h : fc ρ S = .ok (.bl false) S1) (k : Q (b ρ S1)) : Q (sIf fc a b ρ S) := by
  show Q (ER.toS (fc ρ S) ρ _); rw [h]; exact k
theorem q_ifT1 (h : fc ρ S = .ok (.bl true) S1) (k : Q (a ρ S1)) : Q (sIf fc a b ρ S) := by
  show Q (ER.toS (fc ρ S) ρ _); rw [h]; exact k
theorem q_assoc {c : Sx} (k : Q (sSeq a (sSeq b c) ρ S)) : Q (sSeq (sSeq a b) c ρ S) := by
  have e : sSeq (sSeq a b) c ρ S = sSeq a (sSeq b c) ρ S := by
    show ((a ρ S).seq b).seq c = (a ρ S).seq (sSeq b c)
    cases a ρ S <;> rfl
  rw [e]; exact k
theorem q_seqRet (h : fe ρ S = .ok d S1) (k : Q (.rt d S1)) : Q (sSeq (sRet fe) g ρ S) := by
  show Q (SR.seq (ER.toS (fe ρ S) ρ _) g); rw [h]; exact k
/-- a loop over a list of such things, what holds told by the place -/
def NxP (P : Env → Sto → Prop) (r : SR) : Prop := ∃ ρ S, (r = .nx ρ S ∨ r = .ct ρ S) ∧ P ρ S
theorem nx_p {P : Env → Sto → Prop} (h : P ρ S) : NxP P (.nx ρ S) := ⟨ρ, S, .inl rfl, h⟩
theorem forL_P {α : Type} {f : α → D} (P : Nat → Env → Sto → Prop) (xs : List α) : ∀ (k i : Nat) (ρ : Env) (S : Sto), i + k = xs.length → (∀ j x, xs[j]? = some x → ∀ ρ S, P j ρ S → ∃ ρ1, tg (f x) ρ = some ρ1 ∧ NxP (P (j + 1)) (b ρ1 S)) → P i ρ S → ∃ ρ' S', forL tg b ((xs.drop i).map f) ρ S = .nx ρ' S' ∧ P xs.length ρ' S'
  | 0, i, ρ, S, hi, _, h => by
    have e : i = xs.length := by omega
    subst e
    refine ⟨ρ, S, ?_, h⟩
    rw [List.drop_of_length_le (Nat.le_refl _)]; rfl
  | k + 1, i, ρ, S, hi, e, h => by
    have hlt : i < xs.length := by omega
    obtain ⟨ρ1, e1, ρ2, S2, e2, h2⟩ := e i xs[i] (List.getElem?_eq_getElem hlt) ρ S h
    obtain ⟨ρ', S', e3, h3⟩ := forL_P P xs k (i + 1) ρ2 S2 (by omega) e h2
    refine ⟨ρ', S', ?_, h3⟩
    rw [List.drop_eq_getElem_cons hlt, List.map_cons]
    unfold forL
    rw [e1]; simp only
    rcases e2 with e2 | e2 <;> rw [e2] <;> exact e3
theorem q_for {α : Type} {f : α → D} {xs : List α} (P : Nat → Env → Sto → Prop) (hi : fi ρ S = .ok (.tup (xs.map f)) S1) (h0 : P 0 ρ S1)
    (hb : ∀ j x, xs[j]? = some x → ∀ ρ S, P j ρ S → ∃ ρ1, tg (f x) ρ = some ρ1 ∧ NxP (P (j + 1)) (b ρ1 S)) (hr : ∀ ρ S, P xs.length ρ S → Q (g ρ S)) : Q (sSeq (sFor fi tg b) g ρ S) := by
  obtain ⟨ρ', S', e, h⟩ := forL_P P xs xs.length 0 ρ S1 (by omega) hb h0
  rw [List.drop_zero] at e
  show Q (SR.seq (ER.toS (fi ρ S) ρ _) g)
  rw [hi]
  show Q (SR.seq (forL tg b (xs.map f) ρ S1) g)
  rw [e]
  exact hr ρ' S' h
/-- comprehensions -/
theorem compL_gen {α : Type} {f : α → D} {p : α → Bool} {gg : α → D} {vs : List Nat} : ∀ (xs : List α) (acc : List D), (∀ x ∈ xs, ∃ ρ1, tg (f x) (wipeD ρ vs) = some ρ1 ∧ fc ρ1 S = .ok (.bl (p x)) S ∧ (p x = true → fe ρ1 S = .ok (gg x) S)) → acc.length + xs.length ≤ lim → compL (stepC tg fc fe (wipeD ρ vs)) (xs.map f) acc S = .ok (.lst (acc ++ (xs.filter p).map gg)) S
  | [], acc, _, _ => by simp [compL]
  | x :: xs, acc, e, hl => by
    obtain ⟨ρ1, e1, e2, e3⟩ := e x List.mem_cons_self
    have hl' : acc.length + (xs.length + 1) ≤ lim := hl
    rw [List.map_cons]
    unfold compL
    by_cases q : p x = true
    · have es : stepC tg fc fe (wipeD ρ vs) (f x) S = some (some (gg x), S) := by
        unfold stepC; simp only [e1, e2, q, e3 q]
      rw [es]
      simp only
      rw [if_pos (by omega), compL_gen xs (acc ++ [gg x]) (fun y hy => e y (List.mem_cons_of_mem _ hy)) (by simp; omega), List.filter_cons_of_pos q, List.map_cons, List.append_assoc]
      rfl
    · have es : stepC tg fc fe (wipeD ρ vs) (f x) S = some (none, S) := by
        unfold stepC; simp only [e1, e2, Bool.eq_false_iff.mpr q]
      rw [es]
      simp only
      rw [compL_gen xs acc (fun y hy => e y (List.mem_cons_of_mem _ hy)) (by omega), List.filter_cons_of_neg q]
theorem comp_gen {α : Type} {f : α → D} {xs : List α} (p : α → Bool) (gg : α → D) {vs : List Nat} (hi : fi ρ S = .ok (.tup (xs.map f)) S1) (he : ∀ x ∈ xs, ∃ ρ1, tg (f x) (wipeD ρ vs) = some ρ1 ∧ fc ρ1 S1 = .ok (.bl (p x)) S1 ∧ (p x = true → fe ρ1 S1 = .ok (gg x) S1)) (hl : xs.length ≤ lim) : eComp vs fi tg fc fe ρ S = .ok (.lst ((xs.filter p).map gg)) S1 := by
  unfold eComp
  rw [hi]
  simp only [ER.bind_ok]
  rw [compL_gen xs [] he (by simpa using hl), List.nil_append]
theorem comp_all {α : Type} {f : α → D} {xs : List α} (gg : α → D) {vs : List Nat} (hi : fi ρ S = .ok (.tup (xs.map f)) S1) (he : ∀ x ∈ xs, ∃ ρ1, tg (f x) (wipeD ρ vs) = some ρ1 ∧ fe ρ1 S1 = .ok (gg x) S1) (hl : xs.length ≤ lim) : eComp vs fi tg eYes fe ρ S = .ok (.lst (xs.map gg)) S1 := by
  have := comp_gen (fc := eYes) (fun _ => true) gg hi (fun x hx => by
    obtain ⟨ρ1, h1, h2⟩ := he x hx
    exact ⟨ρ1, h1, rfl, fun _ => h2⟩) hl
  rw [this]
  congr 3
  exact List.filter_eq_self.mpr fun _ _ => rfl
end
/-! ### lists of numbers -/
theorem rng_nats {n : Nat} : rngD 0 n = natsD (List.range n) := by
  unfold rngD natsD
  apply List.map_congr_left
  intro a _
  rw [Int.zero_add]
section
variable {ρ : Env} {S S1 S2 : Sto} {fe fe2 : Ex}
theorem rg1 {n : Nat} (h : fe ρ S = .ok (.int (n : Nat)) S1) (hl : n ≤ 1000000) : iRange1 fe ρ S = .ok (.tup (natsD (List.range n))) S1 := by
  rw [range1_ev h hl, rng_nats]
theorem il {l : List D} (h : fe ρ S = .ok (.lst l) S1) : iLst fe ρ S = .ok (.tup l) S1 := by
  unfold iLst; rw [h]; rfl
theorem it {l : List D} (h : fe ρ S = .ok (.tup l) S1) : iTupl fe ρ S = .ok (.tup l) S1 := by
  unfold iTupl; rw [h]; rfl
end
/-! ### runs -/
abbrev Tp.st (t : Tp) (m : Nat) : Sta := itM t.p t.as m
structure RunOk (t : Tp) : Prop where
  p : PrgOk t.p
  as : ∀ n ∈ t.as, Wo n
  N : t.E < 10000
theorem RunOk.stok {t : Tp} (h : RunOk t) {m : Nat} (hm : m ≤ t.E) : StOk t.p m (t.st m) := itM_stok h.p h.as hm
theorem RunOk.so {t : Tp} (h : RunOk t) {m : Nat} (hm : m ≤ t.E) : (t.st m).ok := (h.stok hm).so
theorem RunOk.go {t : Tp} (h : RunOk t) {m : Nat} (hm : m < t.E) : over t.p (t.st m) = false := endM_lt _ _ hm
theorem RunOk.row {t : Tp} (h : RunOk t) {m : Nat} (hm : m < t.E) : (t.st m).row < t.p.length := row_lt (h.stok (by omega)).row (h.go hm)
end Bt
namespace Bt
open PySem PySem.Spec PyProof.Rows L2
section
variable {t : Tp} {T S : Sto} {n : Nat} {ρ : Env}
theorem rl {k : Nat} (h : k < 10001) : (List.range k).length ≤ lim := by rw [List.length_range]; show _ ≤ 1000000; omega
/-! ### changes -/
/-! ### moments at which a sum is so -/
/-! ### visits, what was said -/
end
end Bt
namespace Bt
open PySem PySem.Spec PyProof.Rows L2
/-! ### the first and the last that is so -/
section
variable {t : Tp}
/-- a row by its word -/
def Row.w : Row → String
  | .set _ _ => "set" | .put _ _ => "put" | .ask _ => "ask" | .say _ => "say" | .jump _ => "jump" | .unless _ _ => "unless" | .call _ => "call" | .back => "back" | .stop => "stop"
end
/-! ### programs of calls -/
end Bt
namespace Bt
open PySem PySem.Spec PyProof.Rows L2
/-! ### tests, both sides told -/
def andK (x : D) (S : Sto) (r : ER) : ER := match x with
  | .bl b => (match b with | true => r | false => .ok (.bl false) S)
  | _ => .bad
def orK (x : D) (S : Sto) (r : ER) : ER := match x with
  | .bl b => (match b with | true => .ok (.bl true) S | false => r)
  | _ => .bad
def notK (x : D) (S : Sto) : ER := match x with
  | .bl b => .ok (.bl !b) S
  | _ => .bad
def ifK (x : D) (r1 r2 : ER) : ER := match x with
  | .bl b => (match b with | true => r1 | false => r2)
  | _ => .bad
section
variable {S : Sto} {x y : Bool} {r r1 r2 : ER} {a b : D} {ρ : Env} {fa fb fc : Ex}
theorem andK_t : andK (.bl true) S r = r := rfl
theorem orK_f : orK (.bl false) S r = r := rfl
theorem t_and : eAnd fa fb ρ S = (fa ρ S).bind fun x S1 => andK x S1 (fb ρ S1) := rfl
theorem t_or : eOr fa fb ρ S = (fa ρ S).bind fun x S1 => orK x S1 (fb ρ S1) := rfl
theorem t_not : eNot fa ρ S = (fa ρ S).bind fun x S1 => notK x S1 := rfl
theorem t_ife : eIf fc fa fb ρ S = (fc ρ S).bind fun x S1 => ifK x (fa ρ S1) (fb ρ S1) := rfl
theorem t_chain {F F' : Sto → D → D → Option D} : eChain F F' fa fb fc ρ S = (fa ρ S).bind fun x S1 => (fb ρ S1).bind fun y S2 => (lift1 (F S2 x y) S2).bind fun z S3 => andK z S3 ((fc ρ S3).bind fun u S4 => lift1 (F' S4 y u) S4) := rfl
theorem x_and (ha : fa ρ S = .ok (.bl x) S) (hb : x = true → fb ρ S = .ok (.bl y) S) : eAnd fa fb ρ S = .ok (.bl (x && y)) S := by
  rw [t_and, ha]
  cases x with
  | true => simp only [ER.bind_ok, andK_t, hb rfl, Bool.true_and]
  | false => rfl
theorem x_or (ha : fa ρ S = .ok (.bl x) S) (hb : x = false → fb ρ S = .ok (.bl y) S) : eOr fa fb ρ S = .ok (.bl (x || y)) S := by
  rw [t_or, ha]
  cases x with
  | false => simp only [ER.bind_ok, orK_f, hb rfl, Bool.false_or]
  | true => rfl
variable {Q : SR → Prop} {S1 : Sto} {g s1 s2 : Sx} {bb : Bool}
theorem q_ifB (h : fc ρ S = .ok (.bl bb) S1) (hb : bb = false) (k : Q (g ρ S1)) : Q (sSeq (sIf fc s1 sSkip) g ρ S) := by
  subst hb; exact q_if0 h k
theorem q_ifBT (h : fc ρ S = .ok (.bl bb) S1) (hb : bb = true) (k : Q (sSeq s1 g ρ S1)) : Q (sSeq (sIf fc s1 s2) g ρ S) := by
  subst hb; exact q_ifT h k
theorem q_ifB1 (h : fc ρ S = .ok (.bl bb) S1) (hb : bb = false) (k : Q (s2 ρ S1)) : Q (sIf fc s1 s2 ρ S) := by
  subst hb; exact q_ifF1 h k
end
theorem eq_strS {S : Sto} {a b : String} : opEq S (.str (Str.ofString a)) (.str (Str.ofString b)) = some (.bl (decide (a = b))) := o_eqS
end Bt
namespace Bt
open PySem PySem.Spec PyProof.Rows L2
/-! ### lists of True and False: count, index -/
def blsOf : List D → Option (List Bool)
  | [] => some []
  | .bl b :: r => (match blsOf r with
    | some l => some (b :: l)
    | none => none)
  | _ => none
end Bt
namespace Bt
open PySem PySem.Spec PyProof.Rows L2
/-! ### isinstance of the exception that is handled -/
structure ErrP (K : PySem.W.Frag) (p : Addr × Obj) (k : Exc) : Prop where
  z : Zc (excV K k) none p.2
  f : ∃ vs, p.2.data = .fields vs
theorem call_isP {X : Cx} {p : Addr × Obj} {D : Addr} (hp : p ∈ X.pn) (C : ExcC X.K D) (hz : Zc (.ref D) none p.2) (hf : ∃ vs, p.2.data = .fields vs) : CallR X (.builtin "isinstance") (rIsE X.K D p.1) := by
  intro pins s σ H xs us Q I r h
  obtain ⟨c, cv, b, rfl, hcv, e, q⟩ := h
  cases r with
  | cons rx rr =>
    cases rr with
    | cons rt rr =>
      cases rr
      cases rx
      have ec := hcv _ rt
      subst ec
      obtain ⟨hget, _⟩ := I.pin p (List.mem_append.mpr (.inl hp))
      obtain ⟨vs, hv⟩ := hf
      have J : PySem.W.InstAt s.heap p.1 p.2 D none := by
        obtain ⟨pa, oc, od, oda, osl⟩ := p
        obtain ⟨h1, h2⟩ := hz
        dsimp only at h1 h2 hv hget ⊢
        subst h1 h2 hv
        exact ⟨hget, rfl, rfl, trivial⟩
      exact PySem.W.kia_one (PySem.W.handS_kitx_exc C.hg C.hk C.hs C.hd C.ha C.hn C.ht C.hm) I.kIn J e (fun z => nomatch z) fun tk => ⟨.bl b, H, I.kept (t' := tk) fun _ _ z => z, rfl, q⟩
def eIsE (a : Addr) (b : Bool) (i : Nat) : Ex := fun ρ S => match ρ[i]? with
  | some (some (.obj n)) => (match S[n]? with
    | some (.abs (.err c)) => if c = a then .ok (.bl b) S else .bad
    | _ => .bad)
  | _ => .bad
section
variable {X : Cx} {W : WX} {ec : Expr} {p q q1 pos : Pos} {x : Str}
theorem je_isE {i : Nat} {b : Bool} {k : Exc} {pp : Addr × Obj} {c : V} {cv : Value} (hp : pp ∈ X.pn) (C : ExcC X.K (He.ga X.K (excN k))) (E : ErrP X.K pp k) (hc : PE X ec (tC c)) (hcv : ∀ u, RelV c u → u = cv) (hk : PySem.W.kitOne X.K (excV X.K k) cv = some b) (hm : X.mg "isinstance" = none)
    (hN : X.N[i]? = some x := by rfl) (hv : Vis X.env.scope x := by first | exact Or.inl rfl | exact Or.inr (Or.inl rfl) | exact Or.inr (Or.inr rfl)) (hd : (x == ("__debug__" : Str)) = false := by decide) (hcd : (x == ("__classdict__" : Str)) = false := by decide)
    (hg : Gl X "isinstance" := by rfl)
    (he : starEach (.Name x q1 :: [ec]) X.env = (false, eval (.Name x q1) X.env) :: starEach [ec] X.env := by rfl) (he2 : starEach [ec] X.env = (false, eval ec X.env) :: starEach [] X.env := by rfl) (hpl : (backTo pos (starEach [ec] X.env)).any (·.1) = false := by rfl) :
    JE X W (.Call (.Name "isinstance" p) [.Name x q1, ec] [] pos) (eIsE pp.1 b i) :=
  ⟨peImp (pe_callB (x := "isinstance") (call_isP hp C E.z E.f) hg hm (by decide +kernel) (pa_cons (pe_var hN hv hd hcd) (pa_cons hc pa_nil he2) he) (by decide) (by decide) he hpl) fun σ H Q ⟨g, S, ρ, w, rs, q⟩ => by
    unfold eIsE at q
    cases e : ρ[i]? with
    | none => rw [e] at q; exact q.elim
    | some o =>
      rw [e] at q
      match o, e, q with
      | some (.obj n), e, q =>
        simp only at q
        cases e2 : S[n]? with
        | none => rw [e2] at q; exact q.elim
        | some u =>
          rw [e2] at q
          match u, e2, q with
          | .abs (.err a), e2, q =>
            simp only at q
            by_cases z : a = pp.1
            · rw [if_pos z] at q
              obtain ⟨v, h1, h2⟩ := rs.at_ i _ e
              have h3 := w.at_ n _ e2
              rcases h3 with ⟨_, _, h, _⟩ | ⟨a', h4, h5⟩
              · exact h.elim
              · cases h4
                cases h2 with
                | obj h6 =>
                  rw [h5] at h6; cases h6
                  subst z
                  exact ⟨_, h1, c, cv, b, rfl, hcv, hk, q _ g H (GExt.refl _) w (.bl _)⟩
            · rw [if_neg z] at q; exact q.elim
          | .abs (.tape _), _, q => exact q.elim
          | .list _, _, q => exact q.elim
          | .dict _, _, q => exact q.elim
          | .dead, _, q => exact q.elim
          | .inst _ _, _, q => exact q.elim
          | .lki _ _, _, q => exact q.elim
          | .fdict _, _, q => exact q.elim
          | .flist _, _, q => exact q.elim
      | none, _, q => exact q.elim
      | some .non, _, q => exact q.elim
      | some (.bl _), _, q => exact q.elim
      | some (.int _), _, q => exact q.elim
      | some (.str _), _, q => exact q.elim
      | some (.tup _), _, q => exact q.elim
      | some (.lst _), _, q => exact q.elim
      | some (.scr _), _, q => exact q.elim⟩
end
end Bt
namespace Bt
open PySem PySem.Spec PyProof.Rows L2
/-! ### except TapeError as e: return f(e) -/
theorem world_err {K : PySem.W.Frag} {g : G} {S : Sto} {H : Hp} (w : World K g S H) (a : Addr) : World K { g with α := g.α ++ [a] } (S ++ [.abs (.err a)]) H ∧ GExt g { g with α := g.α ++ [a] } := by
  have ex : GExt g { g with α := g.α ++ [a] } := ⟨fun _ _ h => h, fun n b h => by
    show (g.α ++ [a])[n]? = some b
    rw [List.getElem?_append_left (List.getElem?_eq_some_iff.mp h).1]; exact h, fun _ _ h => h⟩
  refine ⟨⟨w.sub, by simp [w.len], fun n o h => ?_, w.free, w.pin⟩, ex⟩
  rcases Nat.lt_or_ge n S.length with q | q
  · rw [List.getElem?_append_left q] at h
    exact (w.at_ n o h).mono ex fun b j hb => ⟨hb, rfl⟩
  · rw [List.getElem?_append_right q] at h
    cases e : n - S.length with
    | zero =>
      rw [e] at h; cases h
      refine .inr ⟨a, rfl, ?_⟩
      show (g.α ++ [a])[n]? = some a
      rw [List.getElem?_append_right (by rw [w.len]; exact q), w.len, e]; rfl
    | succ j => rw [e] at h; simp at h
end Bt
namespace Bt
open PySem PySem.Spec PyProof.Rows L2
/-! ### what the head sees, and a test more -/
abbrev AlB : Type := Bool × He.AlD
def obsB (n : Nat) (fa : List He.Fa) (fn : List He.DefD) (ex : PySem.W.Frag → Bool) (g : Addr → Option Obj) : AlB := (ex (He.frG g (He.asD g n)), He.obsDG n fa fn g)
inductive DvR (K : PySem.W.Frag) : List D → List He.Dv → Prop
  | nil : DvR K [] []
  | int {i : Int} {l : List D} {m : List He.Dv} : DvR K l m → DvR K (.int i :: l) (.int i :: m)
  | str {s : Str} {l : List D} {m : List He.Dv} : DvR K l m → DvR K (.str s :: l) (.str s :: m)
theorem DvR.reps {K : PySem.W.Frag} {g : G} : ∀ {l : List D} {m : List He.Dv}, DvR K l m → RepsG K g l (m.map (He.Dv.v K))
  | _, _, .nil => .nil
  | _, _, .int h => .cons (.int _) h.reps
  | _, _, .str h => .cons (.str _) h.reps
theorem glob_tup {K : PySem.W.Frag} {mg : Str → Option Value} {x : Str} {l : List D} {m : List He.Dv} (h : mg x = some (.ref (He.ga K x))) (c : He.tupB K x m = true) (r : DvR K l m) : GlobC K mg x (.tup l) :=
  ⟨_, .ref (He.ga K x), h, rfl, fun g => .tup (He.tupB_ok c g.F) r.reps⟩
end Bt
namespace Bt
open PySem PySem.Spec PyProof.Rows L2
/-! ### which refusal it is -/
def exAll : List Exc := [.moment, .run, .thing, .text]
theorem mem_exAll (e : Exc) : e ∈ exAll := by cases e <;> decide
def excCB (K : PySem.W.Frag) (D : Addr) : Bool :=
  decide (PySem.W.findIn K (.ref D) "__getattribute__" = some (some (.builtin "BaseException.__getattribute__"))) &&
  (decide (PySem.W.findIn K (.ref D) "__getattr__" = some none) &&
  (decide (PySem.W.subIn K (.ref D) (.type "BaseException") = some true) &&
  (PySem.W.hasDictIn K D &&
  (decide (PySem.W.findIn K (.ref D) "__class__" = some (some (.builtin "object.__class__"))) &&
  (decide (PySem.W.specialIn K (.builtin "object.__class__") "__get__" = some (some (.builtin "getset_descriptor.__get__"))) &&
  (decide (PySem.W.takesIn K (.builtin "object.__class__") = some true) &&
  decide (PySem.W.mroIn K D (.type "object") = some true)))))))
theorem excCB_ok {K : PySem.W.Frag} {D : Addr} (h : excCB K D = true) : ExcC K D := by
  unfold excCB at h
  simp only [Bool.and_eq_true, decide_eq_true_eq] at h
  exact ⟨h.1, h.2.1, h.2.2.1, h.2.2.2.1, h.2.2.2.2.1, h.2.2.2.2.2.1, h.2.2.2.2.2.2.1, h.2.2.2.2.2.2.2⟩
def refB (K : PySem.W.Frag) : Bool := exAll.all fun e => excCB K (He.ga K (excN e)) && (decide (PySem.W.exmOne K (excV K e) (.ref (He.ga K "TapeError")) = some true) && (decide (PySem.W.kitOne K (excV K e) (.type "ValueError") = some true) &&
  exAll.all fun e' => decide (PySem.W.kitOne K (excV K e) (excV K e') = some (decide (e = e')))))
structure RefOk (K : PySem.W.Frag) (mg : Str → Option Value) : Prop where
  b : refB K = true
  g : ∀ e : Exc, mg (excN e) = some (excV K e)
  gT : mg "TapeError" = some (.ref (He.ga K "TapeError"))
section
variable {K : PySem.W.Frag} {mg : Str → Option Value} (T : RefOk K mg)
include T
theorem RefOk.all (e : Exc) : excCB K (He.ga K (excN e)) = true ∧ PySem.W.exmOne K (excV K e) (.ref (He.ga K "TapeError")) = some true ∧ PySem.W.kitOne K (excV K e) (.type "ValueError") = some true ∧ ∀ e', PySem.W.kitOne K (excV K e) (excV K e') = some (decide (e = e')) := by
  have h := List.all_eq_true.mp T.b e (mem_exAll e)
  simp only [Bool.and_eq_true, decide_eq_true_eq] at h
  exact ⟨h.1, h.2.1, h.2.2.1, fun e' => of_decide_eq_true (List.all_eq_true.mp h.2.2.2 e' (mem_exAll e'))⟩
theorem RefOk.C (e : Exc) : ExcC K (He.ga K (excN e)) := excCB_ok (T.all e).1
theorem RefOk.v (e : Exc) : PySem.W.kitOne K (excV K e) (.type "ValueError") = some true := (T.all e).2.2.1
theorem RefOk.k (e e' : Exc) : PySem.W.kitOne K (excV K e) (excV K e') = some (decide (e = e')) := (T.all e).2.2.2 e'
end
end Bt
namespace Bt
open PySem PySem.Spec PyProof.Rows L2
/-! ### the steps once more, each for one kind of goal -/
section
variable {ρ ρ1 : Env} {S S1 : Sto} {g a b : Sx} {fe fc fi : Ex} {d : D} {i : Nat} {tg : D → Env → Option Env} {bb : Bool} {r : SR} {q : ER} {P : Env → Sto → Prop}
theorem e_set (h : fe ρ S = .ok d S1) (k : g (ρ.set i (some d)) S1 = r) : (sSeq (sSet i fe) g ρ S) = r := q_set (Q := fun x => x = r) h k
theorem e_set1 (h : fe ρ S = .ok d S1) (k : SR.nx (ρ.set i (some d)) S1 = r) : (sSet i fe ρ S) = r := q_set1 (Q := fun x => x = r) h k
theorem e_sret (h : fe ρ S = .ok d S1) (k : SR.rt d S1 = r) : (sSeq (sRet fe) g ρ S) = r := q_seqRet (Q := fun x => x = r) h k
theorem e_if (h : fc ρ S = .ok (.bl bb) S1) (hb : bb = false) (k : g ρ S1 = r) : (sSeq (sIf fc a sSkip) g ρ S) = r := q_ifB (Q := fun x => x = r) h hb k
theorem e_ifT (h : fc ρ S = .ok (.bl bb) S1) (hb : bb = true) (k : sSeq a g ρ S1 = r) : (sSeq (sIf fc a b) g ρ S) = r := q_ifBT (Q := fun x => x = r) h hb k
theorem e_if1 (h : fc ρ S = .ok (.bl bb) S1) (hb : bb = false) (k : b ρ S1 = r) : (sIf fc a b ρ S) = r := q_ifB1 (Q := fun x => x = r) h hb k
theorem e_ifT1 (h : fc ρ S = .ok (.bl bb) S1) (hb : bb = true) (k : a ρ S1 = r) : (sIf fc a b ρ S) = r := by subst hb; exact q_ifT1 (Q := fun x => x = r) h k
theorem f_set (h : fe ρ S = .ok d S1) (k : (g (ρ.set i (some d)) S1).toE = q) : (sSeq (sSet i fe) g ρ S).toE = q := q_set (Q := fun x => x.toE = q) h k
theorem f_ret (h : fe ρ S = .ok d S1) (k : (SR.rt d S1).toE = q) : (sRet fe ρ S).toE = q := q_ret (Q := fun x => x.toE = q) h k
theorem f_sret (h : fe ρ S = .ok d S1) (k : (SR.rt d S1).toE = q) : (sSeq (sRet fe) g ρ S).toE = q := q_seqRet (Q := fun x => x.toE = q) h k
theorem f_if (h : fc ρ S = .ok (.bl bb) S1) (hb : bb = false) (k : (g ρ S1).toE = q) : (sSeq (sIf fc a sSkip) g ρ S).toE = q := q_ifB (Q := fun x => x.toE = q) h hb k
theorem f_ifT (h : fc ρ S = .ok (.bl bb) S1) (hb : bb = true) (k : (sSeq a g ρ S1).toE = q) : (sSeq (sIf fc a b) g ρ S).toE = q := q_ifBT (Q := fun x => x.toE = q) h hb k
theorem f_assoc {c : Sx} (k : (sSeq a (sSeq b c) ρ S).toE = q) : (sSeq (sSeq a b) c ρ S).toE = q := q_assoc (Q := fun x => x.toE = q) k
theorem f_for {α : Type} {f : α → D} {xs : List α} (P : Nat → Env → Sto → Prop) (hi : fi ρ S = .ok (.tup (xs.map f)) S1) (h0 : P 0 ρ S1) (hb : ∀ j x, xs[j]? = some x → ∀ ρ S, P j ρ S → ∃ ρ1, tg (f x) ρ = some ρ1 ∧ NxP (P (j + 1)) (b ρ1 S)) (hr : ∀ ρ S, P xs.length ρ S → (g ρ S).toE = q) : (sSeq (sFor fi tg b) g ρ S).toE = q := q_for (Q := fun x => x.toE = q) P hi h0 hb hr
theorem n_set (h : fe ρ S = .ok d S1) (k : NxP P (g (ρ.set i (some d)) S1)) : NxP P (sSeq (sSet i fe) g ρ S) := q_set (Q := NxP P) h k
theorem n_set1 (h : fe ρ S = .ok d S1) (k : NxP P (SR.nx (ρ.set i (some d)) S1)) : NxP P (sSet i fe ρ S) := q_set1 (Q := NxP P) h k
theorem n_if1 (h : fc ρ S = .ok (.bl bb) S1) (hb : bb = false) (k : NxP P (b ρ S1)) : NxP P (sIf fc a b ρ S) := q_ifB1 (Q := NxP P) h hb k
end
end Bt
namespace Bt
open PySem PySem.Spec PyProof.Rows L2
/-! ### dicts of a def's own -/
/-- the dict that a value names, frozen or not -/
def ldAt (S : Sto) : D → Option (List (Key × D))
  | .obj n => (match S[n]? with
    | some (.dict kvs) => some kvs
    | some (.fdict kvs) => some kvs
    | _ => none)
  | _ => none
theorem ldAt_some {S : Sto} {d : D} {kvs : List (Key × D)} (h : ldAt S d = some kvs) : ∃ n, d = .obj n ∧ (S[n]? = some (.dict kvs) ∨ S[n]? = some (.fdict kvs)) := by
  cases d with
  | obj n =>
    refine ⟨n, rfl, ?_⟩
    have h' : (match S[n]? with | some (.dict kvs) => some kvs | some (.fdict kvs) => some kvs | _ => none) = some kvs := h
    cases e : S[n]? with
    | none => rw [e] at h'; cases h'
    | some o =>
      rw [e] at h'
      cases o with
      | dict k => cases h'; exact .inl rfl
      | fdict k => cases h'; exact .inr rfl
      | _ => cases h'
  | _ => cases h
theorem ldAt_rd {K : PySem.W.Frag} {g : G} {S : Sto} {H : Hp} {d : D} {v : V} {kvs : List (Key × D)} (w : World K g S H) (h : ldAt S d = some kvs) (r : RepG K g d v) : ∃ a ks, v = .ref a ∧ Rd H a (.dK ks) ∧ KReps K g kvs ks := by
  obtain ⟨n, rfl, h | h⟩ := ldAt_some h
  · obtain ⟨a, ks, h1, h2, h3, h4⟩ := w.at_ n _ h
    cases r with
    | obj e => rw [h1] at e; cases e; exact ⟨_, ks, rfl, .inl h3, h4⟩
  · obtain ⟨a, ks, od, h1, h2, h3⟩ := w.at_ n _ h
    cases r with
    | obj e => rw [h1] at e; cases e; exact ⟨_, ks, rfl, .inr ⟨od, (w.pin _ _ h2).1⟩, h3⟩
def eLDGet (fd fk fx : Ex) : Ex := fun ρ S => (fd ρ S).bind fun d S1 => match ldAt S1 d with
  | some _ => (fk ρ S1).bind fun k S2 => (fx ρ S2).bind fun x S3 => (match ldAt S3 d with
    | some kvs => (match keyD k with
      | some key => .ok ((valD kvs key).getD x) S3
      | none => .bad)
    | none => .bad)
  | none => .bad
section
variable {K : PySem.W.Frag} {g : G} {S : Sto} {H : Hp} {n : Nat} {kvs : List (Key × D)}
def G.frz (g : G) (a : Addr) (o : HO) : G := { g with own := fun b => if b = a then none else g.own b, pin := fun b => if b = a then some o else g.pin b }
end
section
variable {X : Cx} {W : WX} {pos pos' apos cpos : Pos} {o i e f value tg : Expr} {fd fk fx fv fe : Ex} {sts : List Stmt} {fs : Sx} {x : Str}
theorem je_ldget (hu : X.A.units + 1 < cLine) (ho : JE X W o fd) (hi : JE X W e fk) (hf : JE X W f fx) (m : M2 X o "get" apos e f cpos := by exact ⟨rfl, rfl, rfl, rfl⟩) : JE X W (.Call (.Attribute o "get" apos) [e, f] [] cpos) (eLDGet fd fk fx) :=
  ⟨peImp (pe_dget2 hu ho.run hi.run hf.run m) fun σ H Q ⟨g, S, ρ, w, rs, q⟩ => by
    unfold eLDGet at q
    refine ⟨g, S, ρ, w, rs, q.of_bind fun dd S1 x g1 H1 _ e1 w1 r1 q1 => ?_⟩
    cases e0 : ldAt S1 dd with
    | none => simp only [e0] at q1; exact q1.elim
    | some kv0 =>
      simp only [e0] at q1
      obtain ⟨a, ks0, rfl, hr0, hk0⟩ := ldAt_rd w1 e0 r1
      refine ⟨a, rfl, .inl ⟨ks0, hr0⟩, g1, S1, ρ, w1, rs.mono e1, q1.of_bind fun dk S2 y g2 H2 _ e2 w2 r2 q2 => ?_⟩
      refine ⟨g2, S2, ρ, w2, (rs.mono e1).mono e2, q2.of_bind fun dx S3 z g3 H3 _ e3 w3 r3 q3 => ?_⟩
      cases e : ldAt S3 dd with
      | none => simp only [e] at q3; exact q3.elim
      | some kvs =>
        simp only [e] at q3
        cases e4 : keyD dk with
        | none => simp only [e4] at q3; exact q3.elim
        | some k =>
          simp only [e4] at q3
          obtain ⟨a', ks, ea, hr, hk⟩ := ldAt_rd w3 e (e3.rep (e2.rep r1))
          cases ea
          have hy := kD_rep e4 (e3.rep r2)
          subst hy
          refine ⟨valV ks k, .inl ⟨ks, k, hr, rfl, rfl⟩, ?_⟩
          cases hv : valD kvs k with
          | none =>
            rw [(hk.val k).1 hv]
            rw [hv] at q3
            exact Post.val (d := dx) (S := S3) q3 w3 r3
          | some d =>
            obtain ⟨u, h3, h4⟩ := (hk.val k).2 d hv
            rw [h3]
            rw [hv] at q3
            exact Post.val (d := d) (S := S3) q3 w3 h4⟩
theorem blT {K : PySem.W.Frag} {f : Ex} {σ : L2.St} {H : Hp} {Q : Bool → Hp → Prop} (h : tT K W f σ H Q) : tE K W f σ H fun x H' => ∃ b, x = .bl b ∧ Q b H' := by
  obtain ⟨g, S, ρ, w, rs, q⟩ := h
  refine ⟨g, S, ρ, w, rs, ?_⟩
  cases e : f ρ S with
  | bad => rw [e] at q; exact q
  | exc k S' => rw [e] at q; exact q
  | ok d S' =>
    rw [e] at q
    cases d with
    | bl b => intro v g' H' e w r; cases r; exact ⟨b, rfl, q g' H' e w⟩
    | _ => exact q.elim
end
end Bt
namespace Bt
open PySem PySem.Spec PyProof.Rows L2
/-! ### dicts of a def's own, beside abstract tapes -/
/-! ### evaluation -/
section
variable {ρ : Env} {S S1 S2 S3 : Sto} {fd fk fv fx fe : Ex} {kvs : List (Key × D)} {n : Nat} {k d x : D} {key : Key}
theorem x_ldget (hd : fd ρ S = .ok d S1) {kv0 : List (Key × D)} (h0 : ldAt S1 d = some kv0) (hk : fk ρ S1 = .ok k S2) (hx : fx ρ S2 = .ok x S3) (h : ldAt S3 d = some kvs) (hy : keyD k = some key) : eLDGet fd fk fx ρ S = .ok ((valD kvs key).getD x) S3 := by
  unfold eLDGet
  rw [hd]; simp only [ER.bind_ok]
  rw [h0]; simp only
  rw [hk]; simp only [ER.bind_ok]
  rw [hx]; simp only [ER.bind_ok]
  rw [h]; simp only
  rw [hy]
end
end Bt
namespace Bt
open PySem PySem.Spec PyProof.Rows L2
/-! ### a dict written down, keys and worths being constants, as a def's own dict -/
def eLDDisp (l : List (Key × D)) : Ex := fun _ S => .ok (.obj S.length) (S ++ [.dict (mergeD [] l)])
structure JCs (X : Cx) (pos : Pos) (keys : List (Option Expr)) (values : List Expr) (l : List (Key × D)) : Prop where
  ex : ∃ trs, PPs X pos keys values trs ∧ ∃ ks : List (Key × V), (∀ g : G, KReps X.K g l ks) ∧ ∀ σ H Q, Q (ks.map fun kv => (kV kv.1, kv.2)) H → tPairs trs σ H Q
section
variable {X : Cx} {W : WX} {pos p1 p2 : Pos} {j1 j2 : Nat} {ks : List (Option Expr)} {vs : List Expr} {l : List (Key × D)}
theorem jcs_nil : JCs X pos [] [] [] := ⟨_, pps_nil, [], fun _ => .nil, fun σ H Q q => q⟩
theorem jcs_ss {a b : Str} (h : JCs X pos ks vs l) : JCs X pos (some (.Constant (.str a) j1 p1) :: ks) (.Constant (.str b) j2 p2 :: vs) ((.inr a, .str b) :: l) := by
  obtain ⟨trs, h1, ks', h2, h3⟩ := h.ex
  refine ⟨_, pps_cons pe_str pe_str h1, (.inr a, .str b) :: ks', fun g => .cons ⟨rfl, .str b⟩ (h2 g), fun σ H Q q => ?_⟩
  exact h3 σ H _ q
theorem jcs_si {a : Str} {b : Int} (h : JCs X pos ks vs l) : JCs X pos (some (.Constant (.str a) j1 p1) :: ks) (.Constant (.int b) j2 p2 :: vs) ((.inr a, .int b) :: l) := by
  obtain ⟨trs, h1, ks', h2, h3⟩ := h.ex
  refine ⟨_, pps_cons pe_str pe_int h1, (.inr a, .int b) :: ks', fun g => .cons ⟨rfl, .int b⟩ (h2 g), fun σ H Q q => ?_⟩
  exact h3 σ H _ q
theorem je_lddisp (h : JCs X pos ks vs l) (hall : ks.all (·.isSome) = true := by rfl) (hl : ks.length = vs.length := by rfl) (h0 : ks ≠ [] := by exact fun z => nomatch z) (h15 : ks.length ≤ 15 := by decide) (hz : l.length ≤ 15 := by decide) : JE X W (.Dict ks vs pos) (eLDDisp l) := by
  obtain ⟨trs, h1, ks', h2, h3⟩ := h.ex
  refine ⟨peImp (pe_disp h1 hall hl h0 h15) fun σ H Q ⟨g, S, ρ, w, rs, q⟩ p hp => h3 _ _ _ ⟨upd_same, ks', rfl, ?_, ?_⟩⟩
  · have := Paired.length (h2 g)
    omega
  · have e : upd (upd H p (.dK [])) p (.dK (mergeK [] ks')) = upd H p (.dK (mergeK [] ks')) := by
      funext b
      unfold upd
      by_cases z : b = p
      · rw [if_pos z, if_pos z]
      · rw [if_neg z, if_neg z, if_neg z]
    rw [e]
    obtain ⟨w2, r2⟩ := w.pushDict hp (KReps.merge (g := g) (h2 g) .nil)
    exact Post.valE (d := .obj S.length) (S := S ++ [.dict (mergeD [] l)]) q (gext_obj g p) w2 r2
end
end Bt
namespace Bt
open PySem PySem.Spec PyProof.Rows L2
/-! ### what can be walked: lists, tuples, texts -/
inductive Kd where
  | L (l : Addr) | T (l : Addr) | S (x : Str) (t : Tok)
def Kd.v : Kd → Value
  | .L l => .ref l
  | .T l => .ref l
  | .S x t => .str x t
def Kd.obj : Kd → Obj
  | .L l => { cls := .type "list_iterator", data := .fields #[.ref l, .int 0 0] }
  | .T l => { cls := .type "tuple_iterator", data := .fields #[.ref l, .int 0 0] }
  | .S x t => { cls := .type (strIterType x), data := .fields #[.str x t, .int 0 0] }
def Kd.st (it : Addr) : Kd → Nat → Heap → Prop
  | .L l => fun i h => h.IsListIter it l i
  | .T l => fun i h => h.IsTupleIter it l i
  | .S x t => fun i h => h.IsStrIter it (strIterType x) x t i
def signs (x : Str) : List Str := x.cps.toList.map fun c => ⟨#[c]⟩
def Kd.src (K : PySem.W.Frag) (H : Hp) : Kd → List V → Prop
  | .L l => fun xs => SqL K H l xs
  | .T l => fun xs => SqT K H l xs
  | .S x _ => fun xs => xs = (signs x).map V.str
theorem Kd.keep {h h' : Heap} {it : Addr} {i : Nat} (k0 : ∀ o, h.get? it = some o → h'.get? it = some o) : ∀ {k : Kd}, k.st it i h → k.st it i h'
  | .L l, ⟨o, e, r⟩ => ⟨o, k0 o e, r⟩
  | .T l, ⟨o, e, r⟩ => ⟨o, k0 o e, r⟩
  | .S x t, ⟨o, e, r⟩ => ⟨o, k0 o e, r⟩
section
variable {X : Cx} {pins : List (Addr × Obj)} {σ : L2.St} {H : Hp} {s : Shared}
theorem Kd.uniq (I : Inv X pins σ H s) : ∀ {k : Kd} {xs ys : List V}, k.src X.K H xs → k.src X.K H ys → xs = ys
  | .L l, _, _, h, h' => I.list_inj h h'
  | .T l, _, _, h, h' => I.tuple_inj h h'
  | .S x t, _, _, h, h' => h.trans h'.symm
end
/-! ### in the store -/
end Bt
namespace Bt
open PySem PySem.Spec PyProof.Rows L2
/-! ### t[::-1] of a tuple -/
/-! ### all, powers -/
def bAll : Sto → D → Option D := fun _ d => match d with
  | .lst l => (match blsOf l with
    | some bs => some (.bl (bs.all id))
    | none => none)
  | _ => none
theorem bls_repsG {K : PySem.W.Frag} {g : G} : ∀ {l : List D} {bs : List Bool} {xs : List V}, blsOf l = some bs → RepsG K g l xs → xs = bs.map V.bl
  | [], bs, xs, h, r => by cases h; cases r; rfl
  | d :: l, bs, xs, h, r => by
    cases d with
    | bl b =>
      have h' : (match blsOf l with | some m => some (b :: m) | none => none) = some bs := h
      cases q : blsOf l with
      | none => rw [q] at h'; cases h'
      | some m =>
        rw [q] at h'; cases h'
        cases r with
        | cons r1 r2 => cases r1; rw [bls_repsG q r2]; rfl
    | _ => cases h
theorem l_all {X : Cx} : LAr X.K (rAll X.K) (f1 bAll) := l_f1 <| by
  intro g S H x dx d Q w rx e k
  cases dx with
  | lst l =>
    have e' : (match blsOf l with | some bs => some (D.bl (bs.all id)) | none => none) = some d := e
    cases q : blsOf l with
    | none => rw [q] at e'; cases e'
    | some bs =>
      rw [q] at e'; cases e'
      cases rx with
      | @lst a xs _ s r =>
        have := bls_repsG q r
        subst this
        exact ⟨a, bs, rfl, SqL.of (w.sub _ _ s), k _ g H (GExt.refl _) w (.bl _)⟩
  | _ => cases e
end Bt
namespace Bt
open PySem PySem.Spec PyProof.Rows L2
/-! ### a walk through the signs of a text -/
def iStrE (fe : Ex) : Ex := fun ρ S => (fe ρ S).bind fun d S1 => match d with
  | .str s => .ok (.tup ((signs s).map D.str)) S1
  | _ => .bad
theorem signs_at {s : Str} {i : Nat} : (signs s)[i]? = (s.cps[i]?).map fun c => (⟨#[c]⟩ : Str) := by
  unfold signs
  rw [List.getElem?_map]
  simp
theorem its_ok {K : PySem.W.Frag} {g : G} {s : Str} : ItOk K g (Its s) ((signs s).map D.str) := by
  intro g' S' H' i e w
  rw [List.getElem?_map, signs_at]
  refine ⟨fun d hd => ?_, fun hn => ?_⟩
  · cases q : s.cps[i]? with
    | none => rw [q] at hd; cases hd
    | some c =>
      rw [q] at hd
      have hd' : D.str ⟨#[c]⟩ = d := Option.some.inj hd
      subst hd'
      refine ⟨(Array.getElem?_eq_some_iff.mp q).1, fun x H'' ⟨y1, c', y2, y3⟩ => ?_⟩
      subst y1
      rw [q] at y2; cases y2
      subst y3
      exact ⟨g', GExt.refl _, w, .str _⟩
  · show s.cps.size ≤ i
    cases q : s.cps[i]? with
    | none => exact Array.getElem?_eq_none_iff.mp q
    | some c => rw [q] at hn; cases hn
section
variable {X : Cx} {W : WX} {e o tg : Expr} {fe fo : Ex} {apos pos : Pos}
theorem ji_str (he : JE X W e fe) : JI X W tg e (iStrE fe) :=
  ⟨piImp (pi_str he.run) fun σ H R ⟨g, S, ρ, w, rs, q⟩ => ⟨g, S, ρ, w, rs, PostI.of_bind q fun d S1 v g1 H1 _ e1 w1 r1 q1 => by
    cases d with
    | str s =>
      cases r1
      exact ⟨s, rfl, q1 _ g1 H1 (GExt.refl _) w1 its_ok⟩
    | _ => exact q1.elim⟩⟩
/-! ### split, join -/
def eSplit (fo fe : Ex) : Ex := fun ρ S => (fo ρ S).bind fun d S1 => match d with
  | .str a => (fe ρ S1).bind fun d2 S2 => match d2 with
    | .str b => if (b.length == 0) = false ∧ a.length ≤ lim then .ok (.lst ((Txt.split a b).map D.str)) S2 else .bad
    | _ => .bad
  | _ => .bad
theorem strs_reps {K : PySem.W.Frag} {g : G} (l : List Str) : RepsG K g (l.map D.str) (l.map V.str) := by
  induction l with
  | nil => exact .nil
  | cons a l ih => exact .cons (.str a) ih
theorem je_split (ho : JE X W o fo) (he : JE X W e fe) (hs : starEach [e] X.env = [(false, eval e X.env)] := by rfl) (hbase : attributeBase o "split" X.env (eval o X.env) = eval o X.env := by rfl) (hline : (apos.endLine == pos.line) = true := by rfl) :
    JE X W (.Call (.Attribute o "split" apos) [e] [] pos) (eSplit fo fe) :=
  ⟨peImp (pe_split ho.run he.run hs hbase hline) fun σ H Q ⟨g, S, ρ, w, rs, q⟩ => ⟨g, S, ρ, w, rs, Post.of_bind q fun d S1 v g1 H1 _ e1 w1 r1 q1 => by
    cases d with
    | str a =>
      cases r1
      refine ⟨⟨a, rfl⟩, g1, S1, ρ, w1, rs.mono e1, Post.of_bind q1 fun d2 S2 v2 g2 H2 _ e2 w2 r2 q2 => ?_⟩
      cases d2 with
      | str b =>
        cases r2
        by_cases h : (b.length == 0) = false ∧ a.length ≤ lim
        · simp only [if_pos h] at q2
          refine ⟨a, b, rfl, rfl, h.1, ?_, fun p hp => ?_⟩
          · have := h.2
            have hl : lim = 1000000 := rfl
            rw [sizeLine_eq]; omega
          · obtain ⟨w3, e3⟩ := w2.add (o := .lst ((Txt.split a b).map V.str)) hp
            exact (q2.ext e3).val w3 (.lst upd_same (strs_reps _))
        · simp only [if_neg h] at q2; exact q2.elim
      | _ => exact q2.elim
    | _ => exact q1.elim⟩⟩
def strsOf : List D → Option (List Str)
  | [] => some []
  | .str s :: r => (match strsOf r with
    | some l => some (s :: l)
    | none => none)
  | _ :: _ => none
theorem strsOf_map (l : List Str) : strsOf (l.map D.str) = some l := by
  induction l with
  | nil => rfl
  | cons a l ih => show (match strsOf (l.map D.str) with | some m => some (a :: m) | none => none) = _; rw [ih]
theorem strsOf_reps {K : PySem.W.Frag} {g : G} : ∀ {l : List D} {ss : List Str} {xs : List V}, strsOf l = some ss → RepsG K g l xs → xs = ss.map V.str
  | [], ss, xs, h, r => by cases h; cases r; rfl
  | d :: l, ss, xs, h, r => by
    cases d with
    | str b =>
      have h' : (match strsOf l with | some m => some (b :: m) | none => none) = some ss := h
      cases q : strsOf l with
      | none => rw [q] at h'; cases h'
      | some m =>
        rw [q] at h'; cases h'
        cases r with
        | cons r1 r2 => cases r1; rw [strsOf_reps q r2]; rfl
    | _ => cases h
def eJoin (fo fe : Ex) : Ex := fun ρ S => (fo ρ S).bind fun d S1 => match d with
  | .str a => (fe ρ S1).bind fun d2 S2 => match d2 with
    | .lst l => (match strsOf l with
      | some ys => if (ys.map (·.length)).sum + ys.length * a.length ≤ 16777216 then .ok (.str (Txt.join a ys)) S2 else .bad
      | none => .bad)
    | _ => .bad
  | _ => .bad
theorem je_join (ho : JE X W o fo) (he : JE X W e fe) (hs : starEach [e] X.env = [(false, eval e X.env)] := by rfl) (hbase : attributeBase o "join" X.env (eval o X.env) = eval o X.env := by rfl) (hline : (apos.endLine == pos.line) = true := by rfl) :
    JE X W (.Call (.Attribute o "join" apos) [e] [] pos) (eJoin fo fe) :=
  ⟨peImp (pe_join ho.run he.run hs hbase hline) fun σ H Q ⟨g, S, ρ, w, rs, q⟩ => ⟨g, S, ρ, w, rs, Post.of_bind q fun d S1 v g1 H1 _ e1 w1 r1 q1 => by
    cases d with
    | str a =>
      cases r1
      refine ⟨⟨a, rfl⟩, g1, S1, ρ, w1, rs.mono e1, Post.of_bind q1 fun d2 S2 v2 g2 H2 _ e2 w2 r2 q2 => ?_⟩
      cases d2 with
      | lst l =>
        cases h : strsOf l with
        | none => simp only [h] at q2; exact q2.elim
        | some ys =>
          simp only [h] at q2
          by_cases z : (ys.map (·.length)).sum + ys.length * a.length ≤ 16777216
          · simp only [if_pos z] at q2
            cases r2 with
            | @lst p xs _ s rr =>
              have := strsOf_reps h rr
              subst this
              exact ⟨a, p, ys, rfl, rfl, .inl (SqL.of (w2.sub _ _ s)), z, q2.val w2 (.str _)⟩
          · simp only [if_neg z] at q2; exact q2.elim
      | _ => exact q2.elim
    | _ => exact q1.elim⟩⟩
/-! ### a new list, another one turned about -/
def eRevNew (fe : Ex) : Ex := fun ρ S => (fe ρ S).bind fun d S1 => match d with
  | .lst l => .ok (.obj S1.length) (S1 ++ [.list l.reverse])
  | _ => .bad
theorem je_revNew {k : Nat} {p1 p2 p3 : Pos} (h : JE X W e fe) : JE X W (.Subscript e (.Slice none none (some (.UnaryOp .USub (.Constant (.int 1) k p1) p2)) p3) pos) (eRevNew fe) :=
  ⟨peImp (pe_revL h.run) fun σ H Q ⟨g, S, ρ, w, rs, q⟩ => ⟨g, S, ρ, w, rs, Post.of_bind q fun d S1 v g1 H1 _ e1 w1 r1 q1 => by
    cases d with
    | lst l =>
      cases r1 with
      | @lst a xs _ s r =>
        refine ⟨a, xs, rfl, SqL.of (w1.sub _ _ s), fun p hp => ?_⟩
        obtain ⟨w2, r2⟩ := w1.pushList hp (Reps.reverse r)
        exact Post.valE (d := .obj S1.length) (S := S1 ++ [.list l.reverse]) q1 (gext_obj g1 p) w2 r2
    | _ => exact q1.elim⟩⟩
/-! ### the last one taken away -/
def ePop (fo : Ex) : Ex := fun ρ S => (fo ρ S).bind fun d S1 => match d with
  | .obj n => (match S1[n]? with
    | some (.list l) => (match l[l.length - 1]? with
      | some y => .ok y (S1.set n (.list l.dropLast))
      | none => .bad)
    | _ => .bad)
  | _ => .bad
theorem je_pop (ho : JE X W o fo) (hbase : attributeBase o "pop" X.env (eval o X.env) = eval o X.env := by rfl) (hline : (apos.endLine == pos.line) = true := by rfl) :
    JE X W (.Call (.Attribute o "pop" apos) [] [] pos) (ePop fo) :=
  ⟨peImp (pe_bm0 PySem.F.plainAttrs_list PySem.F.slot_list_pop PySem.F.type_list_pop mt_pop ho.run hbase hline) fun σ H Q ⟨g, S, ρ, w, rs, q⟩ => ⟨g, S, ρ, w, rs, Post.of_bind q fun d S1 v g1 H1 _ e1 w1 r1 q1 => by
    cases d with
    | obj n =>
      cases e : S1[n]? with
      | none => simp only [e] at q1; exact q1.elim
      | some u =>
        cases u with
        | list l =>
          simp only [e] at q1
          obtain ⟨a, xs, h1, h2, h3, h4⟩ := w1.at_ n _ e
          cases r1 with
          | obj h5 =>
            rw [h1] at h5; cases h5
            cases hy : l[l.length - 1]? with
            | none => simp only [hy] at q1; exact q1.elim
            | some y =>
              simp only [hy] at q1
              obtain ⟨x, hx, rx⟩ := h4.get hy
              rw [h4.length] at hx
              exact ⟨.inl ⟨rfl, xs, SqL.of h3⟩, _, xs, x, rfl, rfl, h3, hx, q1 x g1 _ (GExt.refl _) (w1.write h2 ⟨a, xs.dropLast, h1, h2, upd_same, Reps.dropLast h4⟩) rx⟩
        | _ => simp only [e] at q1; exact q1.elim
    | _ => exact q1.elim⟩⟩
end
end Bt
namespace Bt
open PySem PySem.Spec PyProof.Rows L2
/-! ### tables of the module with text keys -/
def tabD : List (Str × D) → Str → Option D
  | [], _ => none
  | (k, v) :: r, z => if k = z then some v else tabD r z
structure GlobT (K : PySem.W.Frag) (w : PySem.World) (mg : Str → Option Value) (x : Str) (kvs : List (Str × D)) : Prop where
  ex : ∃ a es n, mg x = some (.ref a) ∧ KDict K w a es n ∧ ∀ z : Str, match tabD kvs z with
    | none => PySem.W.nsIn K a z = some none
    | some d => ∃ u v, PySem.W.nsIn K a z = some (some u) ∧ RelV v u ∧ ∀ g : G, RepG K g d v
def eTIn (neg : Bool) (kvs : List (Str × D)) (fk : Ex) : Ex := fun ρ S => (fk ρ S).bind fun d S1 => match d with
  | .str z => .ok (.bl (if neg then !(tabD kvs z).isSome else (tabD kvs z).isSome)) S1
  | _ => .bad
def eTGet (kvs : List (Str × D)) (fk fx : Ex) : Ex := fun ρ S => (fk ρ S).bind fun d S1 => match d with
  | .str z => (fx ρ S1).bind fun x S2 => .ok ((tabD kvs z).getD x) S2
  | _ => .bad
def eTGet1 (kvs : List (Str × D)) (fk : Ex) : Ex := fun ρ S => (fk ρ S).bind fun d S1 => match d with
  | .str z => .ok ((tabD kvs z).getD .non) S1
  | _ => .bad
section
variable {X : Cx} {W : WX} {e f : Expr} {fe ff : Ex} {x : Str} {kvs : List (Str × D)} {xpos apos pos : Pos}
theorem tin_of {a : Addr} (hz : ∀ z : Str, match tabD kvs z with
    | none => PySem.W.nsIn X.K a z = some none
    | some d => ∃ u v, PySem.W.nsIn X.K a z = some (some u) ∧ RelV v u ∧ ∀ g : G, RepG X.K g d v) {z : Str} : ∃ r, PySem.W.nsIn X.K a z = some r ∧ r.isSome = (tabD kvs z).isSome := by
  have := hz z
  cases q : tabD kvs z with
  | none => rw [q] at this; exact ⟨none, this, rfl⟩
  | some d => rw [q] at this; obtain ⟨u, v, h1, _⟩ := this; exact ⟨some u, h1, rfl⟩
theorem pe_kget2 {d : Addr} {es : Array DictEntry} {n : Nat} {o : Expr} {ty tx : TE} (D : KDict X.K X.w d es n) (ho : PE X o (tC (.ref d))) (he : PE X e ty) (hf : PE X f tx) (m : M2 X o "get" apos e f pos) :
    PE X (.Call (.Attribute o "get" apos) [e, f] [] pos) (fun σ H Q => ty σ H fun y H2 => tx σ H2 fun z H3 => ∃ (s : Str) (r : Option Value), y = .str s ∧ PySem.W.nsIn X.K d s = some r ∧ (match r with | none => Q z H3 | some u => ∃ v, RelV v u ∧ Q v H3)) := by
  refine ⟨fun pins s σ H Q I h => ?_⟩
  refine wpAny_Call_method m.base m.few m.line PySem.F.plainAttrs_dict PySem.F.slot_dict_get PySem.F.type_dict_get (thn (ho.run pins s σ H (fun x H1 => x = .ref d ∧ H1 = H) I ⟨rfl, rfl⟩) fun u s1 ⟨x, H1, I1, rx, ex, eH⟩ => ?_)
  subst ex eH
  obtain rfl : u = Value.ref d := rx
  have ty := kd_type D I1
  refine ⟨ty, fun a q => ?_, ?_⟩
  · cases q
    exact ⟨_, I1.kIn _ _ D.at_, rfl⟩
  rw [m.trees]
  refine Calls.callWith_builtin rfl (Calls.evalArgs_plain (Calls.spliced_cons (thn (he.run pins s1 σ H1 _ I1 h) fun iv s2 ⟨y, H2, I2, ry, q2⟩ =>
    Calls.spliced_cons (thn (hf.run pins s2 σ H2 _ I2 q2) fun fv s3 ⟨z, H3, I3, rz, sz, r, ey, hr, q3⟩ => Calls.spliced_nil ?_))))
  subst ey
  obtain ⟨t, rfl⟩ := ry
  refine call_meetsIn PySem.F.slot_dict_get (kd_type D I3) PySem.F.entry_dict_get (PySem.F.args_dict_get_3 _ _ _) (meets_dict_get_default (strKind X.prog X.w) d (PySem.strKind_is X.prog X.w sz t) D.low fv) ⟨_, PySem.W.mapOf_K (prog := X.prog) I3.kIn D.at_ D.lit, ?_⟩
  rw [PySem.W.find_K D.at_ hr]
  cases r with
  | none => exact ⟨z, H3, I3.tok _, rz, q3⟩
  | some u => obtain ⟨v, rv, q3⟩ := q3; exact ⟨v, H3, I3.tok _, rv, q3⟩
theorem pe_kget1 {d : Addr} {es : Array DictEntry} {n : Nat} {o : Expr} {ty : TE} (D : KDict X.K X.w d es n) (ho : PE X o (tC (.ref d))) (he : PE X e ty) (m : M1 X o "get" apos e pos) :
    PE X (.Call (.Attribute o "get" apos) [e] [] pos) (fun σ H Q => ty σ H fun y H2 => ∃ (s : Str) (r : Option Value), y = .str s ∧ PySem.W.nsIn X.K d s = some r ∧ (match r with | none => Q .non H2 | some u => ∃ v, RelV v u ∧ Q v H2)) := by
  refine ⟨fun pins s σ H Q I h => ?_⟩
  refine wpAny_Call_method m.base m.few m.line PySem.F.plainAttrs_dict PySem.F.slot_dict_get PySem.F.type_dict_get (thn (ho.run pins s σ H (fun x H1 => x = .ref d ∧ H1 = H) I ⟨rfl, rfl⟩) fun u s1 ⟨x, H1, I1, rx, ex, eH⟩ => ?_)
  subst ex eH
  obtain rfl : u = Value.ref d := rx
  have ty := kd_type D I1
  refine ⟨ty, fun a q => ?_, ?_⟩
  · cases q
    exact ⟨_, I1.kIn _ _ D.at_, rfl⟩
  rw [m.trees]
  refine Calls.callWith_builtin rfl (Calls.evalArgs_plain (Calls.spliced_cons (thn (he.run pins s1 σ H1 _ I1 h) fun iv s2 ⟨y, H2, I2, ry, sz, r, ey, hr, q3⟩ => Calls.spliced_nil ?_)))
  subst ey
  obtain ⟨t, rfl⟩ := ry
  refine call_meetsIn PySem.F.slot_dict_get (kd_type D I2) PySem.F.entry_dict_get (PySem.F.args_dict_get_2 _ _) (meets_dict_get (strKind X.prog X.w) d (PySem.strKind_is X.prog X.w sz t) D.low) ⟨_, PySem.W.mapOf_K (prog := X.prog) I2.kIn D.at_ D.lit, ?_⟩
  rw [PySem.W.find_K D.at_ hr]
  cases r with
  | none => exact ⟨.non, H2, I2.tok _, rfl, q3⟩
  | some u => obtain ⟨v, rv, q3⟩ := q3; exact ⟨v, H2, I2.tok _, rv, q3⟩
theorem je_tget (T : GlobT X.K X.w X.mg x kvs) (he : JE X W e fe) (hf : JE X W f ff) (m : M2 X (.Name x xpos) "get" apos e f pos := by exact ⟨rfl, rfl, rfl, rfl⟩) (hg : Gl X x := by rfl) (hd : (x == ("__debug__" : Str)) = false := by decide) : JE X W (.Call (.Attribute (.Name x xpos) "get" apos) [e, f] [] pos) (eTGet kvs fe ff) := by
  obtain ⟨a, es, n, h1, h2, h3⟩ := T.ex
  refine ⟨peImp (pe_kget2 h2 (pe_glob (v := .ref a) hg h1 rfl hd) he.run hf.run m) fun σ H Q ⟨g, S, ρ, w, rs, q⟩ => ⟨g, S, ρ, w, rs, Post.of_bind q fun d S1 v g1 H1 _ e1 w1 r1 q1 => ?_⟩⟩
  cases d with
  | str z =>
    cases r1
    refine ⟨g1, S1, ρ, w1, rs.mono e1, Post.of_bind q1 fun dx S2 v2 g2 H2 _ e2 w2 r2 q2 => ?_⟩
    have hz := h3 z
    cases t : tabD kvs z with
    | none =>
      rw [t] at hz q2
      exact ⟨z, none, rfl, hz, q2.val w2 r2⟩
    | some dv =>
      rw [t] at hz q2
      obtain ⟨u, vv, k1, k2, k3⟩ := hz
      exact ⟨z, some u, rfl, k1, vv, k2, q2.val w2 (k3 _)⟩
  | _ => exact q1.elim
theorem je_tget1 (T : GlobT X.K X.w X.mg x kvs) (he : JE X W e fe) (m : M1 X (.Name x xpos) "get" apos e pos := by exact ⟨rfl, rfl, rfl, rfl⟩) (hg : Gl X x := by rfl) (hd : (x == ("__debug__" : Str)) = false := by decide) : JE X W (.Call (.Attribute (.Name x xpos) "get" apos) [e] [] pos) (eTGet1 kvs fe) := by
  obtain ⟨a, es, n, h1, h2, h3⟩ := T.ex
  refine ⟨peImp (pe_kget1 h2 (pe_glob (v := .ref a) hg h1 rfl hd) he.run m) fun σ H Q ⟨g, S, ρ, w, rs, q⟩ => ⟨g, S, ρ, w, rs, Post.of_bind q fun d S1 v g1 H1 _ e1 w1 r1 q1 => ?_⟩⟩
  cases d with
  | str z =>
    cases r1
    have hz := h3 z
    cases t : tabD kvs z with
    | none =>
      rw [t] at hz
      simp only [t] at q1
      exact ⟨z, none, rfl, hz, q1.val w1 .non⟩
    | some dv =>
      rw [t] at hz
      simp only [t] at q1
      obtain ⟨u, vv, k1, k2, k3⟩ := hz
      exact ⟨z, some u, rfl, k1, vv, k2, q1.val w1 (k3 _)⟩
  | _ => exact q1.elim
end
end Bt
namespace Bt
open PySem PySem.Spec PyProof.Rows L2
/-! ### str of a number or a text, int of a text -/
def bStrT : Sto → D → Option D := fun _ x => match x with
  | .int i => if i.natAbs < 10 ^ 15 then some (.str (toString i)) else none
  | .str s => some (.str s)
  | _ => none
section
variable {X : Cx} {K : PySem.W.Frag}
theorem call_str_any : CallR X (.type "str") (fun xs H Q => (∃ i, xs = [.int i] ∧ i.natAbs.log2 < 1920 ∧ Q (.str (toString i)) H) ∨ ∃ a, xs = [.str a] ∧ Q (.str a) H) := by
  intro pins s σ H vs us Q I r h
  rcases h with h | h
  · exact call_str_int pins s σ H vs us Q I r h
  · exact SkE.call_str_str pins s σ H vs us Q I r h
theorem l_strT : LAr K (fun xs H Q => (∃ i : Int, xs = [V.int i] ∧ i.natAbs.log2 < 1920 ∧ Q (.str (toString i)) H) ∨ ∃ a, xs = [V.str a] ∧ Q (.str a) H) (f1 bStrT) := l_f1 <| by
  intro g S H x dx d Q w rx e k
  cases dx with
  | int i =>
    cases rx
    have e' : (if i.natAbs < 10 ^ 15 then some (D.str (toString i)) else none) = some d := e
    by_cases z : i.natAbs < 10 ^ 15
    · rw [if_pos z] at e'; cases e'
      refine .inl ⟨i, rfl, ?_, k _ g H (GExt.refl _) w (.str _)⟩
      by_cases h0 : i.natAbs = 0
      · rw [h0]; decide
      · have := (Nat.log2_lt h0).mpr (Nat.lt_trans z (by decide : 10 ^ 15 < 2 ^ 60))
        omega
    · rw [if_neg z] at e'; cases e'
  | str s => cases rx; cases e; exact .inr ⟨s, rfl, k _ g H (GExt.refl _) w (.str _)⟩
  | _ => cases e
def bIntS : Sto → D → Option D := fun _ x => match x with
  | .str s => if s.length ≤ 640 then (match intText? s with
    | some n => some (.int n)
    | none => none) else none
  | _ => none
theorem l_intS : LAr K (fun xs H Q => ∃ a n, xs = [V.str a] ∧ PySem.intText? a = some n ∧ a.length ≤ 640 ∧ Q (.int n) H) (f1 bIntS) := l_f1 <| by
  intro g S H x dx d Q w rx e k
  cases dx with
  | str s =>
    cases rx
    have e' : (if s.length ≤ 640 then (match intText? s with | some n => some (D.int n) | none => none) else none) = some d := e
    by_cases z : s.length ≤ 640
    · rw [if_pos z] at e'
      cases q : intText? s with
      | none => rw [q] at e'; cases e'
      | some n => rw [q] at e'; cases e'; exact ⟨s, n, rfl, q, z, k _ g H (GExt.refl _) w (.int _)⟩
    · rw [if_neg z] at e'; cases e'
  | _ => cases e
/-! ### a list that lives compared -/
def unO (S : Sto) : D → D
  | .obj n => (match S[n]? with
    | some (.list l) => .lst l
    | _ => .obj n)
  | d => d
def opEqS : Sto → D → D → Option D := fun S x y => opEq S (unO S x) (unO S y)
def opNeS : Sto → D → D → Option D := fun S x y => opNe S (unO S x) (unO S y)
theorem unO_dp {g : G} {S : Sto} {H : Hp} {d : D} {v : V} (w : World K g S H) (r : RepG K g d v) (h : (unO S d).wf = true) : Dp K H v (unO S d).toP := by
  cases d with
  | obj n =>
    cases e : S[n]? with
    | none => unfold unO at h; simp only [e] at h; cases h
    | some u =>
      cases u with
      | list l =>
        have e2 : unO S (.obj n) = .lst l := by unfold unO; simp only [e]
        rw [e2] at h ⊢
        obtain ⟨a, xs, h1, h2, h3, h4⟩ := w.at_ n _ e
        cases r with
        | obj h5 =>
          rw [h1] at h5; cases h5
          exact .lst (SqL.of h3) (Reps.dp w.sub h h4)
      | _ => unfold unO at h; simp only [e] at h; cases h
  | _ => exact Rep.dp w.sub h r
theorem l_eqS : L2r X.K (rEqD X.K) opEqS := by
  intro g S H x y dx dy d Q w rx ry e k
  unfold opEqS opEq at e
  cases q : ((unO S dx).good && (unO S dy).good) with
  | false => rw [q] at e; cases e
  | true =>
    rw [q] at e; cases e
    have h' := Bool.and_eq_true_iff.mp q
    exact ⟨_, _, unO_dp w rx (good_wf h'.1), unO_dp w ry (good_wf h'.2), good_shaped h'.1, good_shaped h'.2, k _ g H (GExt.refl _) w (.bl _)⟩
theorem l_neS : L2r X.K (rNeD X.K) opNeS := by
  intro g S H x y dx dy d Q w rx ry e k
  unfold opNeS opNe at e
  cases q : ((unO S dx).good && (unO S dy).good) with
  | false => rw [q] at e; cases e
  | true =>
    rw [q] at e; cases e
    have h' := Bool.and_eq_true_iff.mp q
    exact ⟨_, _, unO_dp w rx (good_wf h'.1), unO_dp w ry (good_wf h'.2), good_shaped h'.1, good_shaped h'.2, k _ g H (GExt.refl _) w (.bl _)⟩
end
/-! ### tests -/
section
variable {X : Cx} {W : WX} {e : Expr} {fe : Ex} {x : Str} {kvs : List (Str × D)} {xpos pos : Pos}
theorem jt_tnotin (T : GlobT X.K X.w X.mg x kvs) (he : JE X W e fe) (hg : Gl X x := by rfl) (hd : (x == ("__debug__" : Str)) = false := by decide) (hm : behindInMarks .NotIn (.Name x xpos) = false := by rfl) : JT X W (.Compare e [.NotIn] [.Name x xpos] pos) (eTIn true kvs fe) := by
  obtain ⟨a, es, n, h1, h2, h3⟩ := T.ex
  refine ⟨ptImp (pt_cmpR (op_notIn_kd h2) he.run (pe_glob (v := .ref a) hg h1 rfl hd) hm) fun σ H Q h => ?_⟩
  obtain ⟨g, S, ρ, w, rs, q⟩ := blT h
  refine ⟨g, S, ρ, w, rs, Post.of_bind q fun d S1 v g1 H1 _ e1 w1 r1 q1 => ?_⟩
  cases d with
  | str z =>
    cases r1
    obtain ⟨r, hr, hs⟩ := tin_of h3 (z := z)
    refine ⟨z, r, rfl, rfl, hr, ?_⟩
    rw [hs]
    exact q1.val w1 (.bl _)
  | _ => exact q1.elim
end
/-! ### methods that call themselves -/
theorem MCal.imp {P : Program} {w : PySem.World} {K : PySem.W.Frag} {mg : Str → Option Value} {base : Heap} {c m : Str} {k : Nat} {F F' : Fn} (c0 : MCal P w K mg base c m k F) (h : ∀ g S H ds vs, World K g S H → RepsG K g ds vs → ∀ Q E, PostF K g Q E (F' ds S) → PostF K g Q E (F ds S)) : MCal P w K mg base c m k F' := by
  obtain ⟨f, fd, ps, h1, h2, h3, h4⟩ := c0.ex
  exact ⟨f, fd, ps, h1, h2, h3, h4.imp fun vs H Q E ⟨g, S, ds, w, r, q⟩ => ⟨g, S, ds, w, r, h g S H ds vs w r Q E q⟩⟩
theorem mcal_bad {P : Program} {w : PySem.World} {K : PySem.W.Frag} {mg : Str → Option Value} {base : Heap} {c m qual : Str} {st : Stmt} {N ps : List Str} {k : Nat} (D : MetAt K c m qual st) (S : FnScope N ps (defScope st))
    (hbd : ∀ (kV doc pm : Value) (an : Option Addr) (cdv ct : Value) (us : List Value), us.length = ps.length → bindArgs (PySem.W.fnOf m qual (defArgs st) (defBody st) (defScope st) .none kV doc pm an cdv ct) ⟨us, []⟩ = pure (ps.zip us)) : MCal P w K mg base c m (k + 1) (fun _ _ => .bad) :=
  (mcal_mk (k := k) D S hbd fun _ _ _ _ _ _ _ => jss_never).imp fun _ _ _ _ _ _ _ _ _ q => q.elim
end Bt
namespace Bt
open PySem PySem.Spec PyProof.Rows L2
abbrev kv_PAIRS : List (Str × D) := [("put", .str "ss"), ("unless", .str "sr")]
abbrev kv_SHAPES : List (Str × D) := [("stop", .str ""), ("back", .str ""), ("say", .str "s"), ("ask", .str "n"), ("jump", .str "r"), ("call", .str "r"), ("set", .str "ns")]
abbrev c_FIGURES : D := .str "0123456789"
abbrev c_MOST_PARTS : D := .int 15
abbrev c_MOST_ROWS : D := .int 20
abbrev c_WORDS : D := .tup [.str "add", .str "sub", .str "mul", .str "less"]
noncomputable def F_is_place : Fn := fnBody 2 2
    (sRet (eAnd (eIsT .int (eVar 0)) (eAnd (eNot (eIsT .bool (eVar 0))) (eChain opLe opLe (eC (.int 0)) (eVar 0) (eVar 1)))))
noncomputable def G_is_place : Fn := F_is_place
noncomputable def F_is_worth : Fn := fnBody 1 1
    (sRet (eAnd (eIsT .int (eVar 0)) (eAnd (eNot (eIsT .bool (eVar 0))) (eChain opLe opLt (eC (.int 0)) (eVar 0) (eC c_SIZE)))))
noncomputable def G_is_worth : Fn := F_is_worth
noncomputable def F_left_of (rec : Fn) : Fn := fnBody 2 2
    (sSeq (sIf (eOr (eOp opLe (eVar 1) (eC (.int 0))) (eOr (eNot (eIsT .tuple (eVar 0))) (eOr (eOp opLt (eCallB (f1 bLen) (eCons (eVar 0) eNil)) (eC (.int 2))) (eNot (eIsT .str (eOp opIx (eVar 0) (eC (.int 0))))))))
    (sRet (eUn opNeg (eC (.int 1))))
    sSkip)
    (sSeq (sIf (eOp opEq (eOp opIx (eVar 0) (eC (.int 0))) (eC (.str "num")))
    (sRet (eIf (eAnd (eOp opEq (eCallB (f1 bLen) (eCons (eVar 0) eNil)) (eC (.int 2))) (eCall G_is_worth (eCons (eOp opIx (eVar 0) (eC (.int 1))) eNil))) (eOp opSub (eVar 1) (eC (.int 1))) (eUn opNeg (eC (.int 1)))))
    sSkip)
    (sSeq (sIf (eOp opEq (eOp opIx (eVar 0) (eC (.int 0))) (eC (.str "name")))
    (sRet (eIf (eAnd (eOp opEq (eCallB (f1 bLen) (eCons (eVar 0) eNil)) (eC (.int 2))) (eCall G_is_name (eCons (eOp opIx (eVar 0) (eC (.int 1))) eNil))) (eOp opSub (eVar 1) (eC (.int 1))) (eUn opNeg (eC (.int 1)))))
    sSkip)
    (sSeq (sIf (eAnd (eOp opEq (eOp opIx (eVar 0) (eC (.int 0))) (eC (.str "cell"))) (eOp opEq (eCallB (f1 bLen) (eCons (eVar 0) eNil)) (eC (.int 2))))
    (sRet (eCall rec (eCons (eOp opIx (eVar 0) (eC (.int 1))) (eCons (eOp opSub (eVar 1) (eC (.int 1))) eNil))))
    sSkip)
    (sSeq (sIf (eOr (eOp opNotIn (eOp opIx (eVar 0) (eC (.int 0))) (eC c_WORDS)) (eOp opNe (eCallB (f1 bLen) (eCons (eVar 0) eNil)) (eC (.int 3))))
    (sRet (eUn opNeg (eC (.int 1))))
    sSkip)
    (sRet (eCall rec (eCons (eOp opIx (eVar 0) (eC (.int 2))) (eCons (eCall rec (eCons (eOp opIx (eVar 0) (eC (.int 1))) (eCons (eOp opSub (eVar 1) (eC (.int 1))) eNil))) eNil)))))))))
noncomputable def G_left_of : Fn := recN F_left_of 20
noncomputable def F_is_sum : Fn := fnBody 1 1
    (sRet (eOp opGe (eCall G_left_of (eCons (eVar 0) (eCons (eC c_MOST_PARTS) eNil))) (eC (.int 0))))
noncomputable def G_is_sum : Fn := F_is_sum
noncomputable def F_is_row : Fn := fnBody 2 3
    (sSeq (sIf (eOr (eNot (eIsT .tuple (eVar 0))) (eOr (eOp opEq (eCallB (f1 bLen) (eCons (eVar 0) eNil)) (eC (.int 0))) (eNot (eIsT .str (eOp opIx (eVar 0) (eC (.int 0)))))))
    (sRet (eC (.bl false)))
    sSkip)
    (sSeq (sSet 2 (eOp opIx (eVar 0) (eC (.int 0))))
    (sSeq (sIf (eOp opIn (eVar 2) (eTup (eCons (eC (.str "stop")) (eCons (eC (.str "back")) eNil))))
    (sRet (eOp opEq (eCallB (f1 bLen) (eCons (eVar 0) eNil)) (eC (.int 1))))
    sSkip)
    (sSeq (sIf (eOp opIn (eVar 2) (eTup (eCons (eC (.str "say")) (eCons (eC (.str "ask")) (eCons (eC (.str "jump")) (eCons (eC (.str "call")) eNil))))))
    (sSeq (sIf (eOp opNe (eCallB (f1 bLen) (eCons (eVar 0) eNil)) (eC (.int 2)))
    (sRet (eC (.bl false)))
    sSkip)
    (sSeq (sIf (eOp opEq (eVar 2) (eC (.str "say")))
    (sRet (eCall G_is_sum (eCons (eOp opIx (eVar 0) (eC (.int 1))) eNil)))
    sSkip)
    (sRet (eIf (eOp opEq (eVar 2) (eC (.str "ask"))) (eCall G_is_name (eCons (eOp opIx (eVar 0) (eC (.int 1))) eNil)) (eCall G_is_place (eCons (eOp opIx (eVar 0) (eC (.int 1))) (eCons (eVar 1) eNil)))))))
    sSkip)
    (sSeq (sIf (eOp opNe (eCallB (f1 bLen) (eCons (eVar 0) eNil)) (eC (.int 3)))
    (sRet (eC (.bl false)))
    sSkip)
    (sSeq (sIf (eOp opEq (eVar 2) (eC (.str "set")))
    (sRet (eAnd (eCall G_is_name (eCons (eOp opIx (eVar 0) (eC (.int 1))) eNil)) (eCall G_is_sum (eCons (eOp opIx (eVar 0) (eC (.int 2))) eNil))))
    sSkip)
    (sSeq (sIf (eOp opEq (eVar 2) (eC (.str "put")))
    (sRet (eAnd (eCall G_is_sum (eCons (eOp opIx (eVar 0) (eC (.int 1))) eNil)) (eCall G_is_sum (eCons (eOp opIx (eVar 0) (eC (.int 2))) eNil))))
    sSkip)
    (sRet (eAnd (eOp opEq (eVar 2) (eC (.str "unless"))) (eAnd (eCall G_is_sum (eCons (eOp opIx (eVar 0) (eC (.int 1))) eNil)) (eCall G_is_place (eCons (eOp opIx (eVar 0) (eC (.int 2))) (eCons (eVar 1) eNil)))))))))))))
noncomputable def G_is_row : Fn := F_is_row
noncomputable def F_is_program : Fn := fnBody 1 2
    (sSeq (sIf (eOr (eNot (eIsT .tuple (eVar 0))) (eOp opGt (eCallB (f1 bLen) (eCons (eVar 0) eNil)) (eC c_MOST_ROWS)))
    (sRet (eC (.bl false)))
    sSkip)
    (sRet (eCallB (f1 bAll) (eCons (eComp [1] (iTupl (eVar 0)) (dN 1) eYes (eCall G_is_row (eCons (eVar 1) (eCons (eCallB (f1 bLen) (eCons (eVar 0) eNil)) eNil)))) eNil))))
noncomputable def G_is_program : Fn := F_is_program
noncomputable def F_Words___init__ : Fn := fnBody 2 2
    (sFldS "Words" "left" (eVar 0) (eRevNew (eSplit (eVar 1) (eC (.str " ")))))
noncomputable def G_Words___init__ : Fn := F_Words___init__
noncomputable def F_Words_word : Fn := fnBody 1 1
    (sSeq (sIf (eOp opEqS (eFld "Words" "left" (eVar 0)) (eLst eNil))
    (sRaise .text)
    sSkip)
    (sRet (ePop (eFld "Words" "left" (eVar 0)))))
noncomputable def G_Words_word : Fn := F_Words_word
noncomputable def F_Words_number : Fn := fnBody 1 3
    (sSeq (sSet 1 (eMCall "Words" "word" G_Words_word (eVar 0) eNil))
    (sSeq (sIf (eOr (eNot (eChain opLe opLe (eC (.int 1)) (eCallB (f1 bLen) (eCons (eVar 1) eNil)) (eC (.int 5)))) (eNot (eCallB (f1 bAll) (eCons (eComp [2] (iStrE (eVar 1)) (dN 2) eYes (eOp opIn (eVar 2) (eC c_FIGURES))) eNil))))
    (sRaise .text)
    sSkip)
    (sRet (eCallB (f1 bIntS) (eCons (eVar 1) eNil)))))
noncomputable def G_Words_number : Fn := F_Words_number
noncomputable def F_Words_sum_in (rec : Fn) : Fn := fnBody 2 4
    (sSeq (sIf (eOr (eOp opEqS (eFld "Words" "left" (eVar 0)) (eLst eNil)) (eOp opEq (eVar 1) (eC (.int 0))))
    (sRaise .text)
    sSkip)
    (sSeq (sIf (eAnd (eOp opNe (eSl (eOp opIx (eFld "Words" "left" (eVar 0)) (eUn opNeg (eC (.int 1)))) eNo (eInt (eC (.int 1)))) (eC (.str ""))) (eOp opIn (eSl (eOp opIx (eFld "Words" "left" (eVar 0)) (eUn opNeg (eC (.int 1)))) eNo (eInt (eC (.int 1)))) (eC c_FIGURES)))
    (sRet (eTup (eCons (eC (.str "num")) (eCons (eMCall "Words" "number" G_Words_number (eVar 0) eNil) eNil))))
    sSkip)
    (sSeq (sSet 2 (eMCall "Words" "word" G_Words_word (eVar 0) eNil))
    (sSeq (sIf (eOp opEq (eVar 2) (eC (.str "cell")))
    (sRet (eTup (eCons (eC (.str "cell")) (eCons (eMCall "Words" "sum_in" rec (eVar 0) (eCons (eOp opSub (eVar 1) (eC (.int 1))) eNil)) eNil))))
    sSkip)
    (sSeq (sIf (eOp opNotIn (eVar 2) (eC c_WORDS))
    (sRet (eTup (eCons (eC (.str "name")) (eCons (eVar 2) eNil))))
    sSkip)
    (sSeq (sSet 3 (eMCall "Words" "sum_in" rec (eVar 0) (eCons (eOp opSub (eVar 1) (eC (.int 1))) eNil)))
    (sRet (eTup (eCons (eVar 2) (eCons (eVar 3) (eCons (eMCall "Words" "sum_in" rec (eVar 0) (eCons (eOp opSub (eVar 1) (eC (.int 1))) eNil)) eNil)))))))))))
noncomputable def G_Words_sum_in : Fn := recN F_Words_sum_in 17
noncomputable def F_Words_part : Fn := fnBody 2 2
    (sSeq (sIf (eOp opEq (eVar 1) (eC (.str "s")))
    (sRet (eMCall "Words" "sum_in" G_Words_sum_in (eVar 0) (eCons (eC c_MOST_PARTS) eNil)))
    sSkip)
    (sRet (eIf (eOp opEq (eVar 1) (eC (.str "n"))) (eMCall "Words" "word" G_Words_word (eVar 0) eNil) (eMCall "Words" "number" G_Words_number (eVar 0) eNil))))
noncomputable def G_Words_part : Fn := F_Words_part
noncomputable def F_sum_words (rec : Fn) : Fn := fnBody 1 3
    (sSeq (sIf (eOp opIn (eOp opIx (eVar 0) (eC (.int 0))) (eTup (eCons (eC (.str "num")) (eCons (eC (.str "name")) eNil))))
    (sRet (eLst (eCons (eCallB (f1 bStrT) (eCons (eOp opIx (eVar 0) (eC (.int 1))) eNil)) eNil)))
    sSkip)
    (sSeq (sSet 1 (eLst (eCons (eOp opIx (eVar 0) (eC (.int 0))) eNil)))
    (sSeq (sFor (iTupl (eSl (eVar 0) (eInt (eC (.int 1))) eNo)) (dN 2)
    (sSet 1 (eOp opAdd (eVar 1) (eCall rec (eCons (eVar 2) eNil)))))
    (sRet (eVar 1)))))
noncomputable def G_sum_words : Fn := recN F_sum_words 20
noncomputable def F_row_words : Fn := fnBody 1 3
    (sSeq (sSet 1 (eLst (eCons (eOp opIx (eVar 0) (eC (.int 0))) eNil)))
    (sSeq (sFor (iTupl (eSl (eVar 0) (eInt (eC (.int 1))) eNo)) (dN 2)
    (sSet 1 (eOp opAdd (eVar 1) (eIf (eIsT .tuple (eVar 2)) (eCall G_sum_words (eCons (eVar 2) eNil)) (eLst (eCons (eCallB (f1 bStrT) (eCons (eVar 2) eNil)) eNil))))))
    (sRet (eVar 1))))
noncomputable def G_row_words : Fn := F_row_words
noncomputable def F_written : Fn := fnBody 1 2
    (sRet (eJoin (eC (.str "")) (eComp [1] (iTupl (eVar 0)) (dN 1) eYes (eOp opAdd (eJoin (eC (.str " ")) (eCall G_row_words (eCons (eVar 1) eNil))) (eC (.str "\n"))))))
noncomputable def G_written : Fn := F_written
noncomputable def F_written_sum : Fn := fnBody 1 1
    (sRet (eJoin (eC (.str " ")) (eCall G_sum_words (eCons (eVar 0) eNil))))
noncomputable def G_written_sum : Fn := F_written_sum
noncomputable def F_read_sum : Fn := fnBody 1 3
    (sSeq (sSet 1 (eMake "Words" G_Words___init__ (eCons (eVar 0) eNil)))
    (sSeq (sSet 2 (eMCall "Words" "sum_in" G_Words_sum_in (eVar 1) (eCons (eC c_MOST_PARTS) eNil)))
    (sSeq (sIf (eOr (eOp opNeS (eFld "Words" "left" (eVar 1)) (eLst eNil)) (eOr (eNot (eCall G_is_sum (eCons (eVar 2) eNil))) (eOp opNe (eCall G_written_sum (eCons (eVar 2) eNil)) (eVar 0))))
    (sRaise .text)
    sSkip)
    (sRet (eVar 2)))))
noncomputable def G_read_sum : Fn := trunc F_read_sum
end Bt
namespace Bt
open PySem PySem.Spec PyProof.Rows L2
/-! ### a list comprehension whose element may be refused -/
section
variable {M : Model} {A : Around} {E : Value → Shared → Prop} {s : Shared} {Z : Obj → Prop} {base : Heap} {env : PySem.Env} {outer : List PySem.Env} {L e : Addr}
theorem looks_flZ {fl : Value} {Q : Unit → Shared → Prop} (hZ : HandSPX.Steady Z) (hfr : A.frames = some (env :: outer)) (hf : env.frame = some L) (hkb : base.StaysIn s.heap) (hen : base.get? e = none) (hl : s.heap.FunFrames base (env :: outer))
    (ht : HandSPX.TracedZ s.heap base e Z fl) (hfl : (fl == rawInt L) = false)
    (hQ : ∀ h', HandSPX.HeldZ base (env :: outer) e Z L h' → s.heap.UpToSlots h' → Q () { s with heap := h' }) : wpAny M A (noteFrame (.ref e) env) Q E s := by
  obtain ⟨oe, vs, T, oT, ts, he, hz, hd, h1, hnT, hTe, hT, hdT, h3⟩ := ht
  unfold noteFrame
  simp only [hf]
  refine wpAny_bind (wpAny_field he hd h1 ?_)
  rw [if_pos (show (Value.ref T != Value.none) = true from by simp)]
  refine wpAny_bind (wpAny_field hT hdT h3 ?_)
  rw [if_neg (by rw [hfl]; decide)]
  refine wpAny_bind (wpAny_setField hT hdT (Array.getElem?_eq_some_iff.mp h3).1 ?_)
  have other : ∀ b, b ≠ T → (s.heap.update T (Obj.mapFields (·.setIfInBounds 3 Value.none))).get? b = s.heap.get? b := fun b hb => Heap.get?_update_other _ _ (Ne.symm hb)
  have noRecord : ∀ b o, s.heap.get? b = some o → (∀ vs, o.data ≠ .fields vs) → b ≠ T := fun b o hb hnf q => by
    rw [q, hT] at hb; injection hb with hb; subst hb; exact hnf ts hdT
  refine HandSPX.wpAny_entryZ hZ hfr (hl.of_keeps fun b o hb hnf => ⟨o, (other b (noRecord b o hb hnf)).trans hb, rfl⟩) hf ((other e (Ne.symm hTe)).trans he)
    (fun b o hbo => (other b fun q => by rw [q, hnT] at hbo; cases hbo).trans (hkb b o hbo)) hen hd (Array.getElem?_eq_some_iff.mp h1).1 hz fun h' hN => ?_
  obtain ⟨x1, x2, x3, x4⟩ := hN
  exact hQ h' ⟨x1, hen, x2, x3⟩ fun b o hb hnf => x4 b o ((other b (noRecord b o hb hnf)).trans hb) hnf
end
abbrev blkE (X : Cx) (s : Shared) (H : Hp) (scope : Scope) (cenv : PySem.Env) (fp : List Addr) (xe : Value → Shared → Prop) : Cx := { X.blk s H scope cenv fp with xe := xe }
section
variable {X : Cx} {s0 s' : Shared} {H0 H' : Hp} {scope : Scope} {ce : PySem.Env} {fp : List Addr} {xe : Value → Shared → Prop} {pins : List (Addr × Obj)} {σ : L2.St}
theorem inv_toE (I : Inv (X.blk s0 H0 scope ce fp) pins σ H' s') : Inv (blkE X s0 H0 scope ce fp xe) pins σ H' s' :=
  ⟨⟨I.ok.mod, I.ok.kind, I.ok.glob, I.ok.blt, I.ok.above, I.ok.inj, I.ok.has, I.ok.cab, I.ok.hd, I.ok.frames, I.ok.stk, I.ok.exf, I.ok.bs, I.ok.bsz, I.ok.noex, I.ok.exfs, I.ok.funs, I.ok.frf⟩, I.os, I.bare, I.base, I.loc, I.cell, I.free, I.freeC, I.pin, I.hok, I.len⟩
theorem inv_ofE (I : Inv (blkE X s0 H0 scope ce fp xe) pins σ H' s') : Inv (X.blk s0 H0 scope ce fp) pins σ H' s' :=
  ⟨⟨I.ok.mod, I.ok.kind, I.ok.glob, I.ok.blt, I.ok.above, I.ok.inj, I.ok.has, I.ok.cab, I.ok.hd, I.ok.frames, I.ok.stk, I.ok.exf, I.ok.bs, I.ok.bsz, I.ok.noex, I.ok.exfs, I.ok.funs, I.ok.frf⟩, I.os, I.bare, I.base, I.loc, I.cell, I.free, I.freeC, I.pin, I.hok, I.len⟩
end
theorem blk_takes {X : Cx} {W : WX} {pins : List (Addr × Obj)} {σ : L2.St} {H3 : Hp} {s3 : Shared} {scope : Scope} {ce : PySem.Env} {fp : List Addr}
    (hs : X.stack = X.env :: X.outer) (hf : X.env.frame = some X.env.locals) (tk : Takes X W) (I3 : Inv X pins σ H3 s3) (f3 : ∀ b ∈ fp, FpOk X pins H3 b) (cL : ce.locals = s3.heap.objs.size) (cf : ce.frame = X.env.frame) :
    Takes (blkE X s3 H3 scope ce fp (notedBy (model X.prog X.w) X.A ce (CompFails (model X.prog X.w) X.A X.xe ce))) (fun cls d _ H => W cls d σ H) := by
  rintro u s' ⟨a, B, sI, pins', σ', H', cls, d, rfl, I, nb, up, sky, na, os, ag, w⟩
  have hfr : X.A.frames = some (X.env :: X.outer) := by rw [I3.ok.frames, hs]
  have sky' : Sky B (X.env :: X.outer) a (Zc cls d) ce.locals s'.heap := by rw [← hs]; exact sky
  show wpAny _ X.A (noteFrame (.ref a) ce) _ _ s'
  rw [noteFrame_env _ cf]
  have fin : ∀ h1, HandSPX.HeldZ B (X.env :: X.outer) a (Zc cls d) X.env.locals h1 → s'.heap.UpToSlots h1 → CompFails (model X.prog X.w) X.A X.xe ce (.ref a) { s' with heap := h1 } := by
    intro h1 hh up1
    obtain ⟨m, hn, _⟩ := I.loc
    have hn : sI.heap.Ns ce.locals m := hn
    have hn1 : h1.Ns ce.locals m := Heap.Ns.upToSlots (Heap.Ns.upToSlots hn (fun b o e nf => up b o e nf)) (fun b o e nf => up1 b o e nf)
    refine ⟨m, hn1, fun h2 m2 hn2 sb => ?_⟩
    have sb : Heap.SameBut ce.locals h1 h2 := sb
    have nC : H' ce.locals = none := I.free
    have g0 : ∀ b o, (PySem.W.hideAll B [ce.locals]).get? b = some o → B.get? b = some o ∧ b ≠ ce.locals := fun b o e => ⟨PySem.W.of_hideAll _ e, fun z => by
      rw [PySem.W.hideAll_none [ce.locals] (by rw [z]; exact List.mem_cons_self)] at e; cases e⟩
    have gn : ∀ b, B.get? b = none → (PySem.W.hideAll B [ce.locals]).get? b = none := fun b e => by
      cases q : (PySem.W.hideAll B [ce.locals]).get? b with
      | none => rfl
      | some o => rw [(g0 b o q).1] at e; cases e
    have st2 : (PySem.W.hideAll B [ce.locals]).StaysIn h2 := fun b o e => (sb.2 b (g0 b o e).2).trans (hh.1 b o (g0 b o e).1)
    have ff1 : h2.FunFrames B (X.env :: X.outer) := Heap.FunFrames.sameBut sb hn2 hh.2.2.1
    have ff2 : h2.FunFrames (PySem.W.hideAll B [ce.locals]) (X.env :: X.outer) := funFrames_none ff1 fun L hL => gn L (ff1.mem hL).1
    obtain ⟨oC, es, ep, hoC, hdC, _⟩ := hn1
    have nrec : ∀ b ob vs, h1.get? b = some ob → ob.data = .fields vs → b ≠ ce.locals := fun b ob vs e1 e2 z => by
      rw [z, hoC] at e1; cases e1; rw [hdC] at e2; cases e2
    obtain ⟨st1, hen, _, oe, vs, T, oT, ts, he, hz, hd, hv1, hnT, hTe, hT, hdT, hv3⟩ := hh
    have he2 : h2.get? a = some oe := (sb.2 a (nrec a oe vs he hd)).trans he
    have hT2 : h2.get? T = some oT := (sb.2 T (nrec T oT ts hT hdT)).trans hT
    unfold PySem.passOn
    refine wpAny_bind (wpAny_field he2 hd hv1 ?_)
    rw [if_neg (show ¬ ((Value.ref T == Value.none) = true) from by simp)]
    rw [cf, hf]
    refine wpAny_bind (HandSPX.setFlight_anyZ (base := PySem.W.hideAll B [ce.locals]) (l := X.env :: X.outer) (Z := Zc cls d) (fl := rawInt X.env.locals) st2 ff2 ⟨oe, vs, T, oT, ts, he2, hz, hd, hv1, gn T hnT, hTe, hT2, hdT, hv3⟩ fun h3 k1 k2 k3 k4 => ?_)
    refine wpAny_throw ?_
    have I7 : Inv X pins σ H' sI := I3.call' (ch := fp) I.os I.base I.hok I.bare fun b hb => ⟨(f3 b hb).2.2.2.1, (f3 b hb).2.1, (f3 b hb).2.2.2.2.1, (f3 b hb).2.2.2.2.2⟩
    obtain ⟨f0, f1, f2, f3', f4, f5⟩ := I3.fpOk (b := ce.locals) (H' := H') (Nat.le_of_eq cL.symm) nC
    have I8 : Inv X pins σ H' { sI with heap := PySem.W.hideAll sI.heap [ce.locals] } := I7.turned (t' := sI.toks) (fun b o hb e => PySem.W.hideAll_get [ce.locals] e (by simpa using hb)) f0 f1 f3' f4 f5
    refine tk _ _ ⟨a, PySem.W.hideAll B [ce.locals], { sI with heap := PySem.W.hideAll sI.heap [ce.locals] }, pins, σ, H', cls, d, rfl, I8, fun b o e hb => ?_, fun b o e nf => ?_, ?_, na, os, ag, w⟩
    · have e' : sI.heap.get? b = some o := PySem.W.of_hideAll _ e
      have hb' : b ≠ ce.locals := fun z => by
        have e : (PySem.W.hideAll sI.heap [ce.locals]).get? b = some o := e
        rw [PySem.W.hideAll_none [ce.locals] (by rw [z]; exact List.mem_cons_self)] at e; cases e
      exact PySem.W.hideAll_get [ce.locals] (nb b o e' hb) (by simpa using hb')
    · have e : (PySem.W.hideAll sI.heap [ce.locals]).get? b = some o := e
      have e' : sI.heap.get? b = some o := PySem.W.of_hideAll _ e
      have hb' : b ≠ ce.locals := fun z => by
        rw [PySem.W.hideAll_none [ce.locals] (by rw [z]; exact List.mem_cons_self)] at e; cases e
      obtain ⟨sl1, e1⟩ := up b o e' nf
      obtain ⟨sl2, e2⟩ := up1 b _ e1 nf
      obtain ⟨sl3, e3⟩ := k4 b _ ((sb.2 b hb').trans e2) nf
      exact ⟨sl3, e3⟩
    · rw [hs]
      exact .inr (.inr ⟨k1, gn a hen, k2, k3⟩)
  rcases sky' with ⟨hB, hn, hl, oe, vs, he, hz, hd, h1⟩ | fl | hh
  · exact HandSPX.look_newZ Zc.steady hfr hl hf he hB hn hd h1 hz fin
  · exact HandSPX.looks_onZ Zc.steady hfr hf fl fin
  · refine looks_flZ Zc.steady hfr hf hh.1 hh.2.1 hh.2.2.1 hh.2.2.2 ?_ fin
    have := I3.lt
    have ne : ce.locals ≠ X.env.locals := fun z => by rw [← z, cL] at this; exact Nat.lt_irrefl _ this
    simp only [rawInt]
    rw [beq_eq_false_iff_ne]
    intro z
    injection z with z
    exact ne (Int.ofNat.inj z)
end Bt
namespace Bt
open PySem PySem.Spec PyProof.Rows L2
def tLcX (Wx : WX) (wi : TI) (g : TG) (tt : TT) (te : WX → TE) (vs : List Nat) : TE := fun σ H Q => wi σ H fun J H1 => ∀ D, H1 D = none → ∃ W : Nat → Nat → Hp → Prop, (∃ m, W 0 m (upd H1 D (.lst []))) ∧ ∀ i m H, W i m H →
  (J.stop i H ∧ Q (.ref D) H) ∨ (J.go i H ∧ ∃ Nx : Hp → Prop, (∀ H', Nx H' → ∃ m', m' < m ∧ W (i + 1) m' H') ∧ ∀ x H', J.yld i H x H' → g x (wipe σ vs) H' fun σ2 H2 => wipe σ2 vs = wipe σ vs ∧ tt σ2 H2 fun b H3 =>
    if b = true then te (fun cls d _ H => Wx cls d σ H) σ2 H3 fun y H4 => ∃ acc, H4 D = some (.lst acc) ∧ acc.length < sizeLine ∧ Nx (upd H4 D (.lst (acc ++ [y]))) else Nx H3)
theorem pe_lcX {X : Cx} {Wx : WX} {elt tg iter : Expr} {ifs : List Expr} {scope : Scope} {own : List (Str × Nat)} {pos : Pos} {wi : TI} {g : TG} {tt : TT} {te : WX → TE} (hst : X.stack = X.env :: X.outer) (hfr : X.env.frame = some X.env.locals) (tk : Takes X Wx)
    (hc : X.calm = true) (hN : X.N.Nodup) (hi : PI X tg iter wi) (ok : BlkOk X.N X.env.scope scope own)
    (hg : ∀ (s : Shared) (H : Hp) (C : Addr) (cl : List (Str × Addr)) (fp : List Addr), PG (X.blk s H scope (compEnvC scope cl C X.env) fp) tg g) (ht : ∀ (s : Shared) (H : Hp) (C : Addr) (cl : List (Str × Addr)) (fp : List Addr), PTs (X.blk s H scope (compEnvC scope cl C X.env) fp) ifs tt)
    (he : ∀ (s : Shared) (H : Hp) (C : Addr) (cl : List (Str × Addr)) (fp : List Addr) (xe : Value → Shared → Prop) (W' : WX), Takes (blkE X s H scope (compEnvC scope cl C X.env) fp xe) W' → PE (blkE X s H scope (compEnvC scope cl C X.env) fp xe) elt (te W')) (hs : ∀ x, foldedSetIterable iter X.env x = pure x := by intro _; rfl) :
    PE X (.ListComp elt [⟨tg, iter, ifs, 0⟩] scope pos) (tLcX Wx wi g tt te (own.map (·.2))) := by
  refine ⟨fun pins s σ H Qv I h => ?_⟩
  rw [eval_ListComp]
  generalize hQf : EP X pins σ Qv = Qf
  have hfree : ∀ y ∈ scope.names, y.2 = .free → ∃ c, X.env.cells.lookup y.1 = some c := fun y hy e => by
    rcases ok.free y hy e with k | k
    · exact I.ok.has _ (.inl k)
    · exact I.ok.has _ (.inr k)
  refine comprehension_at (use := none) rfl hs (closure_ok hfree) ok.kind (fun y hy e => by rw [ok.uniq y hy, e])
    (thn (hi.run pins s σ H _ I h) fun xv s1 hx => thn hx fun itv s2 h2 => ?_)
  obtain ⟨it, fp, tn, J, H2, e, I2, T, st2, f2, q⟩ := h2
  subst e
  refine wpAny_newObj_type (newEnv_comp ?_) (by show 0 ≤ sizeLine; decide)
  generalize hD : s2.heap.objs.size = D
  have hDn : H2 D = none := I2.hok.fresh (Nat.le_of_eq hD)
  obtain ⟨W, ⟨m0, w0⟩, turn⟩ := q D hDn
  -- the new list
  generalize hs3 : ({ s2 with heap := s2.heap.push { cls := .type "list", data := .seq ([] : List Value).toArray } } : Shared) = s3
  have I3 : Inv X pins σ (upd H2 D (.lst [])) s3 := by
    rw [← hs3]
    refine I2.laid (t' := s2.toks) (fun b o e => Heap.get?_push_of_some _ e) (Nat.le_of_eq hD) ⟨Nat.zero_le _, [], 0, .nil, ?_⟩
    rw [← hD]
    exact Heap.get?_push_size _ rfl
  have h3 : s3.heap = s2.heap.push { cls := .type "list", data := .seq ([] : List Value).toArray } := by rw [← hs3]
  have sz : ∀ b ∈ fp, b < s2.heap.objs.size := fun b hb => by
    obtain ⟨o, e, _⟩ := T.obj _ _ st2 b hb
    exact Heap.lt_size e
  have f3 : ∀ b ∈ fp, FpOk X pins (upd H2 D (.lst [])) b ∧ b < s3.heap.objs.size := fun b hb => by
    have hlt := sz b hb
    refine ⟨⟨?_, (f2 b hb).2⟩, by rw [h3, Heap.size_push]; exact Nat.lt_succ_of_lt hlt⟩
    rw [upd_ne (by rw [← hD]; exact Nat.ne_of_lt hlt)]
    exact (f2 b hb).1
  have st3 : tn 0 s3.heap := T.keep _ _ _ st2 fun b _ o e => by rw [h3]; exact Heap.get?_push_of_some _ e
  have I4 := block_start I3 ok hN f3
  have pg := hg s3 (upd H2 D (.lst [])) s3.heap.objs.size (cellsFrom (s3.heap.objs.size + 1) scope.names (cloFrom X.env.cells scope.names [])) fp
  have pt := ht s3 (upd H2 D (.lst [])) s3.heap.objs.size (cellsFrom (s3.heap.objs.size + 1) scope.names (cloFrom X.env.cells scope.names [])) fp
  have pe := he s3 (upd H2 D (.lst [])) s3.heap.objs.size (cellsFrom (s3.heap.objs.size + 1) scope.names (cloFrom X.env.cells scope.names [])) fp
  show codeAny _ _ (.compStart (.ListComp elt [⟨tg, iter, ifs, 0⟩] scope pos) 0 (.ref it) (.ref D) (compEnvC scope (cellsFrom (s3.heap.objs.size + 1) scope.names (cloFrom X.env.cells scope.names [])) s3.heap.objs.size X.env)) (compEnds (model X.prog X.w) X.A X.xe none Qf (.ref D) (compEnvC scope (cellsFrom (s3.heap.objs.size + 1) scope.names (cloFrom X.env.cells scope.names [])) s3.heap.objs.size X.env)) { s3 with heap := pushCells (s3.heap.push { cls := .type "dict", data := .dict #[] }) scope.names }
  have nfp : ∀ b ∈ fp, (upd H2 D (.lst [])) b = none := fun b hb => (f3 b hb).1.1
  generalize hce : compEnvC scope (cellsFrom (s3.heap.objs.size + 1) scope.names (cloFrom X.env.cells scope.names [])) s3.heap.objs.size X.env = ce at I4 pg pt pe ⊢
  have cL : ce.locals = s3.heap.objs.size := by subst hce; rfl
  have cf : ce.frame = X.env.frame := by subst hce; rfl
  generalize hH3 : upd H2 D (.lst []) = H3 at I3 I4 pg pt pe w0 nfp f3
  generalize hs4 : ({ s3 with heap := pushCells (s3.heap.push { cls := .type "dict", data := .dict #[] }) scope.names } : Shared) = s4 at I4 ⊢
  have st4 : tn 0 s4.heap := T.keep _ _ _ st3 fun b _ o e => by rw [← hs4]; exact pushCells_keeps _ _ _ _ (Heap.get?_push_of_some _ e)
  have stat : ∀ {σ' : L2.St} {H' : Hp} {s' : Shared}, Inv (X.blk s3 H3 scope ce fp) [] σ' H' s' → (∀ b ∈ fp, H' b = none) → ∀ b ∈ fp, FpOk (X.blk s3 H3 scope ce fp) [] H' b := fun {σ' H' s'} I' hn b hb =>
    ⟨hn b hb, (I'.ok.exf b hb).1, I'.ok.exfs b hb, .inl hb, fun x c e => (I'.ok.exf b hb).2 x c e, fun p hp => absurd (show p ∈ ([] : List (Addr × Obj)) ++ [] from hp) (by simp)⟩
  have tkB := blk_takes (scope := scope) (ce := ce) (fp := fp) hst hfr tk I3 (fun b hb => (f3 b hb).1) cL cf
  have pe' := pe _ _ tkB
  have loop : codeAny (model X.prog X.w) X.A (.compLoop (.ListComp elt [⟨tg, iter, ifs, 0⟩] scope pos) 0 (.ref it) (.ref D) ce) (compEnds (model X.prog X.w) X.A X.xe none Qf (.ref D) ce) s4 := by
    refine compLoop_any (fun n s' => ∃ i H', Inv (X.blk s3 H3 scope ce fp) [] (wipe σ (own.map (·.2))) H' s' ∧ tn i s'.heap ∧ (∀ b ∈ fp, H' b = none) ∧ W i n H') ?_ m0 ⟨0, H3, I4, st4, nfp, w0⟩
    rintro n s5 ⟨i, H5, I5, st5, n5, w5⟩
    rcases turn i n H5 w5 with ⟨stop, qq⟩ | ⟨go, Nx, hNx, step⟩
    · have td := T.done (X.blk s3 H3 scope ce fp) rfl rfl rfl hc i [] s5 _ H5 (fun _ _ => False) I5 (stat I5 n5) st5 stop
      refine thnF td fun r s6 ⟨hr, I6⟩ => ?_
      subst hr
      -- back in the def's context
      have I7 : Inv X pins σ H5 s6 := I3.call' (ch := fp) I6.os I6.base I6.hok I6.bare fun b hb => ⟨(f3 b hb).1.2.2.2.1, (f3 b hb).1.2.1, (f3 b hb).1.2.2.2.2.1, (f3 b hb).1.2.2.2.2.2⟩
      have nC : H5 s3.heap.objs.size = none := by
        have z : H5 ce.locals = none := I6.free
        rw [cL] at z
        exact z
      obtain ⟨m, hn, _⟩ := I6.loc
      have hn : s6.heap.Ns ce.locals m := hn
      have f := I3.fpOk (H' := H5) (Nat.le_refl _) nC
      refine ⟨m, hn, fun h'' sb => ?_⟩
      have sb : Heap.SameBut s3.heap.objs.size s6.heap h'' := by rw [← cL]; exact sb
      obtain ⟨f0, f1, f2, f3, f4, f5⟩ := f
      rw [← hQf]
      exact ⟨.ref D, H5, I7.turned (t' := s6.toks) (fun b o hb e => (sb.2 b hb).trans e) f0 f1 f3 f4 f5, rfl, qq⟩
    · have ti := T.item (X.blk s3 H3 scope ce fp) rfl rfl rfl hc i [] s5 _ H5 (fun _ _ => False) I5 (stat I5 n5) st5 go
      refine thnF ti fun r s6 ⟨u, hr, h6⟩ => ?_
      subst hr
      refine thnF h6 fun _ s7 ⟨x, H7, I7, r7, y7, st7, n7⟩ => ?_
      have I7' := I7.pinned (stat I7 n7) (T.obj _ _ st7)
      refine thnF (pg.run _ s7 _ H7 x u _ I7' r7 (step x H7 y7)) fun _ s8 ⟨σ8, H8, I8, hw8, q8⟩ => ?_
      refine thnF (pt.run _ s8 σ8 H8 _ I8 q8) fun b s9 ⟨H9, I9, q9⟩ => ?_
      -- the turn's end
      have fin : ∀ {s' : Shared} {H' : Hp}, Inv (X.blk s3 H3 scope ce fp) ([] ++ pinsAt fp s7.heap) σ8 H' s' → Nx H' → ∃ m, m < n ∧ ∃ i H', Inv (X.blk s3 H3 scope ce fp) [] (wipe σ (own.map (·.2))) H' s' ∧ tn i s'.heap ∧ (∀ b ∈ fp, H' b = none) ∧ W i m H' := fun {s' H'} I' nx => by
        obtain ⟨m', hm, w'⟩ := hNx H' nx
        have pin' : ∀ b ∈ fp, ∀ o, s7.heap.get? b = some o → s'.heap.get? b = some o ∧ H' b = none := fun b hb o e =>
          let z := I'.pin (b, o) (List.mem_append_right _ (List.mem_append_right _ (mem_pinsAt hb e)))
          ⟨z.1, z.2.1⟩
        have hl : (wipe σ (own.map (·.2))).length = σ8.length := by rw [← hw8, wipe_length]
        refine ⟨m', hm, i + 1, H', (I'.unpinned (pins := [])).weak hl (fun j v e => ?_), T.keep _ _ _ st7 fun b hb o e => (pin' b hb o e).1, fun b hb => ?_, w'⟩
        · rw [← hw8] at e
          exact (wipe_some e).1
        · obtain ⟨o, e, _⟩ := T.obj _ _ st7 b hb
          exact (pin' b hb o e).2
      cases b with
      | false =>
        simp only [Bool.false_eq_true, if_false] at q9 ⊢
        exact fin I9 q9
      | true =>
        simp only [if_true] at q9 ⊢
        refine wpAny_mono (pe'.run _ s9 σ8 H9 _ (inv_toE I9) q9) (fun z s10 ⟨yv, H10, I10, r10, acc, hD10, hz10, nx⟩ => ?_) fun _ _ z => z
        exact app_ok (X := X.blk s3 H3 scope ce fp) (inv_ofE I10) hD10 hz10 r10 fun s11 I11 => fin I11 nx
  exact codeAny_compStart_list loop (T.self X.A 0 _ _ _ st4 loop)
/-! ### meanings -/
def compLX (f : D → Env → Option Env) (fc fe : Ex) (ρ : Env) : List D → List D → Sto → ER
  | [], acc, S => .ok (.lst acc) S
  | d :: ds, acc, S => match f d ρ with
    | none => .bad
    | some ρ1 => (match fc ρ1 S with
      | .ok (.bl true) S1 => (match fe ρ1 S1 with
        | .ok y S2 => if acc.length < lim then compLX f fc fe ρ ds (acc ++ [y]) S2 else .bad
        | .exc k S2 => .exc k S2
        | .bad => .bad)
      | .ok (.bl false) S1 => compLX f fc fe ρ ds acc S1
      | _ => .bad)
def eCompX (vs : List Nat) (fi : Ex) (f : D → Env → Option Env) (fc fe : Ex) : Ex := fun ρ S => (fi ρ S).bind fun t S1 => match t with
  | .tup l => compLX f fc fe (wipeD ρ vs) l [] S1
  | _ => .bad
theorem tLcX_of {K : PySem.W.Frag} {W : WX} {wi : TI} {g : TG} {tt : TT} {te : WX → TE} {vs ws : List Nat} {fi fc fe : Ex} {f : D → Env → Option Env} (hw : ∀ i ∈ ws, i ∈ vs)
    (hi : ∀ σ H R, tI K W fi σ H R → wi σ H R) (hg : ∀ v σ H Q, tG K ws f v σ H Q → g v σ H Q) (ht : ∀ σ H Q, tT K wNo fc σ H Q → tt σ H Q) (he : ∀ W' σ H Q, tE K W' fe σ H Q → te W' σ H Q) :
    ∀ σ H Q, tE K W (eCompX vs fi f fc fe) σ H Q → tLcX W wi g tt te vs σ H Q := fun σ H Q ⟨g0, S, ρ, w, rs, q⟩ => by
  refine hi σ H _ ⟨g0, S, ρ, w, rs, ?_⟩
  unfold eCompX at q
  cases e : fi ρ S with
  | bad => rw [e] at q; exact q.elim
  | exc k S1 => rw [e] at q; exact q
  | ok t S1 =>
    rw [e] at q
    cases t with
    | tup l =>
      have q : Post K W σ g0 Q (compLX f fc fe (wipeD ρ vs) l [] S1) := q
      intro J g1 H1 x1 w1 it C hC
      obtain ⟨w2, x2⟩ := w1.hold (o := .lst []) hC
      have fr : ∀ b o, g0.pin b = some o → b ≠ C := fun b o hb => ne_of_none (w1.pin b o (x1.p b o hb)).1 hC
      refine ⟨fun i m H => m = l.length - i ∧ i ≤ l.length ∧ ∃ g2 S2 acc xs, GExt g1 g2 ∧ g2.pin C = some (.lst xs) ∧ World K g2 S2 H ∧ RepsG K g2 acc xs ∧ Post K W σ g0 Q (compLX f fc fe (wipeD ρ vs) (l.drop i) acc S2), ⟨l.length, by simp, Nat.zero_le _, _, S1, [], [], x2, ?_, w2, .nil, q⟩, ?_⟩
      · show (if C = C then _ else _) = _
        rw [if_pos rfl]
      rintro i m H3 ⟨rfl, hi3, g2, S2, acc, xs, x3, pc, w3, ra, q3⟩
      obtain ⟨i1, i2⟩ := it g2 S2 H3 i x3 w3
      by_cases hlt : i < l.length
      · have hd : l[i]? = some l[i] := by simp [hlt]
        have hdrop : l.drop i = l[i] :: l.drop (i + 1) := List.drop_eq_getElem_cons hlt
        rw [hdrop] at q3
        obtain ⟨go, y⟩ := i1 _ hd
        refine .inr ⟨go, fun H => ∃ g2 S2 acc xs, GExt g1 g2 ∧ g2.pin C = some (.lst xs) ∧ World K g2 S2 H ∧ RepsG K g2 acc xs ∧ Post K W σ g0 Q (compLX f fc fe (wipeD ρ vs) (l.drop (i + 1)) acc S2), fun H4 ⟨g4, S4, acc4, xs4, z⟩ => ⟨l.length - (i + 1), by omega, rfl, hlt, g4, S4, acc4, xs4, z⟩, fun v H4 hy => ?_⟩
        obtain ⟨g4, x4, w4, r4⟩ := y v H4 hy
        unfold compLX at q3
        cases ef : f l[i] (wipeD ρ vs) with
        | none => simp only [ef] at q3; exact q3.elim
        | some ρ1 =>
          simp only [ef] at q3
          have rs4 : RelSt K g4 (L2.wipe σ vs) (wipeD ρ vs) := (rs.mono (x1.trans (x3.trans x4))).wipe vs
          refine hg v _ H4 _ ⟨g4, S2, wipeD ρ vs, l[i], ρ1, w4, rs4, r4, ef, fun σ5 g5 H5 x5 w5 rs5 o5 => ⟨wipe_off hw o5, ?_⟩⟩
          refine ht _ _ _ ⟨g5, S2, ρ1, w5, rs5, ?_⟩
          cases ec : fc ρ1 S2 with
          | bad => simp only [ec] at q3; exact q3.elim
          | exc k S5 => simp only [ec] at q3; exact q3.elim
          | ok d S5 =>
            cases d with
            | bl b =>
              cases b with
              | false =>
                simp only [ec] at q3
                intro g6 H6 x6 w6
                rw [if_neg Bool.false_ne_true]
                have xx := (x4.trans x5).trans x6
                exact ⟨g6, S5, acc, xs, x3.trans xx, xx.p _ _ pc, w6, xx.reps ra, q3⟩
              | true =>
                simp only [ec] at q3
                intro g6 H6 x6 w6
                rw [if_pos rfl]
                refine he _ _ _ _ ⟨g6, S5, ρ1, w6, rs5.mono x6, ?_⟩
                cases ee : fe ρ1 S5 with
                | bad => simp only [ee] at q3; exact q3.elim
                | exc k S6 =>
                  simp only [ee] at q3
                  intro g7 H7 x7 w7
                  exact q3 g7 H7 (x1.trans (x3.trans (((x4.trans x5).trans x6).trans x7))) w7
                | ok y S6 =>
                  simp only [ee] at q3
                  intro u g7 H7 x7 w7 r7
                  have xx := ((x4.trans x5).trans x6).trans x7
                  have pc7 := xx.p _ _ pc
                  obtain ⟨p1, p2, p3⟩ := w7.pin _ _ pc7
                  have ra7 := xx.reps ra
                  by_cases hz : acc.length < lim
                  · rw [if_pos hz] at q3
                    refine ⟨xs, p1, ?_, ?_⟩
                    · rw [← ra7.length]; exact Nat.lt_trans hz (by decide)
                    · have w8 := w7.rehold (u := .lst (xs ++ [u])) pc7 lko_lst
                      refine ⟨_, S6, acc ++ [y], xs ++ [u], ⟨fun a o h => ?_, fun n a h => ?_, fun a o h => ?_⟩, ?_, w8, ?_, q3⟩
                      · exact (x3.trans xx).f a o h
                      · exact (x3.trans xx).a n a h
                      · show (if a = C then _ else _) = _
                        rw [if_neg]
                        · exact (x3.trans xx).p a o h
                        · exact ne_of_none (w1.pin a o h).1 hC
                      · show (if C = C then _ else _) = _
                        rw [if_pos rfl]
                      · exact (ra7.snoc r7)
                  · rw [if_neg hz] at q3; exact q3.elim
            | _ => simp only [ec] at q3; exact q3.elim
      · have e2 : i = l.length := by omega
        subst e2
        refine .inl ⟨i2 (by simp), ?_⟩
        rw [List.drop_length] at q3
        have w4 := w3.thaw pc lko_lst
        refine q3 (.ref C) _ H3 ⟨fun a o h => ?_, fun n a h => ?_, fun a o h => ?_⟩ w4 (.lst upd_same ?_)
        · show upd g2.F C _ a = _
          have h2 := x3.f a o (x1.f a o h)
          rw [upd_ne (ne_of_none h2 (w3.pin _ _ pc).2.1)]; exact h2
        · exact x3.a n a (x1.a n a h)
        · show (if a = C then _ else _) = _
          rw [if_neg (fr a o h)]
          exact x3.p a o (x1.p a o h)
        · refine ra.mono (fun a o h => ?_) fun n a h => h
          show upd g2.F C _ a = _
          rw [upd_ne (ne_of_none h (w3.pin _ _ pc).2.1)]; exact h
    | _ => exact q.elim
section
variable {X : Cx} {W : WX} {elt tg iter : Expr} {ifs : List Expr} {scope : Scope} {own : List (Str × Nat)} {pos : Pos} {ws : List Nat} {fi fc fe : Ex} {f : D → Env → Option Env}
theorem je_compX (own : List (Str × Nat)) (hst : X.stack = X.env :: X.outer) (hfr : X.env.frame = some X.env.locals) (tk : Takes X W) (hc : X.calm = true) (hN : X.N.Nodup) (hi : JI X W tg iter fi) (ok : BlkOk X.N X.env.scope scope own)
    (hg : ∀ (s : Shared) (H : Hp) (C : Addr) (cl : List (Str × Addr)) (fp : List Addr), JG (X.blk s H scope (compEnvC scope cl C X.env) fp) tg ws f) (hw : ∀ i ∈ ws, i ∈ own.map (·.2))
    (ht : ∀ (s : Shared) (H : Hp) (C : Addr) (cl : List (Str × Addr)) (fp : List Addr), JTs (X.blk s H scope (compEnvC scope cl C X.env) fp) wNo ifs fc)
    (he : ∀ (s : Shared) (H : Hp) (C : Addr) (cl : List (Str × Addr)) (fp : List Addr) (xe : Value → Shared → Prop) (W' : WX), Takes (blkE X s H scope (compEnvC scope cl C X.env) fp xe) W' → JE (blkE X s H scope (compEnvC scope cl C X.env) fp xe) W' elt fe) (hs : ∀ x, foldedSetIterable iter X.env x = pure x := by intro _; rfl) :
    JE X W (.ListComp elt [⟨tg, iter, ifs, 0⟩] scope pos) (eCompX (own.map (·.2)) fi f fc fe) :=
  ⟨peImp (pe_lcX (own := own) hst hfr tk hc hN hi.run ok (fun s H C cl fp => (hg s H C cl fp).run) (fun s H C cl fp => (ht s H C cl fp).run) (fun s H C cl fp xe W' t => (he s H C cl fp xe W' t).run) hs) (tLcX_of hw (fun _ _ _ x => x) (fun _ _ _ _ x => x) (fun _ _ _ x => x) fun _ _ _ _ x => x)⟩
end
end Bt
namespace Bt
open PySem PySem.Spec PyProof.Rows L2
/-! ### what a part made for itself is forgotten -/
open Classical in
noncomputable def eTr (f : Ex) : Ex := fun ρ S => match f ρ S with
  | .ok d S' => if S'.take S.length = S ∧ d.pure = true then .ok d S else .bad
  | _ => .bad
theorem je_tr {X : Cx} {W : WX} {e : Expr} {f : Ex} (h : JE X W e f) : JE X W e (eTr f) :=
  ⟨peImp h.run fun σ H Q ⟨g, S, ρ, w, rs, q⟩ => ⟨g, S, ρ, w, rs, by
    unfold eTr at q
    cases e : f ρ S with
    | bad => rw [e] at q; exact q.elim
    | exc k S' => rw [e] at q; exact q.elim
    | ok d S' =>
      rw [e] at q
      simp only at q
      by_cases z : S'.take S.length = S ∧ d.pure = true
      · rw [if_pos z] at q
        intro v g' H' x1 w1 r1
        obtain ⟨w2, x2⟩ := World.cut w w1 x1 z.1
        exact q v _ H' x2 w2 (Rep.pureAny z.2 r1)
      · rw [if_neg z] at q; exact q.elim⟩⟩
theorem x_tr {f : Ex} {ρ : Env} {S S' : Sto} {d : D} (h : f ρ S = .ok d S') (hS : S'.take S.length = S) (hp : d.pure = true) : eTr f ρ S = .ok d S := by
  unfold eTr; rw [h]; exact if_pos ⟨hS, hp⟩
/-! ### d.get(k) of a def's own dict -/
def eLDGet1 (fd fk : Ex) : Ex := fun ρ S => (fd ρ S).bind fun d S1 => match ldAt S1 d with
  | some _ => (fk ρ S1).bind fun k S2 => (match ldAt S2 d with
    | some kvs => (match keyD k with
      | some key => .ok ((valD kvs key).getD .non) S2
      | none => .bad)
    | none => .bad)
  | none => .bad
section
variable {X : Cx} {W : WX} {o e : Expr} {fd fk : Ex} {apos cpos : Pos}
theorem je_ldget1 (hu : X.A.units + 1 < cLine) (ho : JE X W o fd) (hi : JE X W e fk) (m : M1 X o "get" apos e cpos := by exact ⟨rfl, rfl, rfl, rfl⟩) : JE X W (.Call (.Attribute o "get" apos) [e] [] cpos) (eLDGet1 fd fk) :=
  ⟨peImp (pe_dget1 hu ho.run hi.run m) fun σ H Q ⟨g, S, ρ, w, rs, q⟩ => by
    unfold eLDGet1 at q
    refine ⟨g, S, ρ, w, rs, q.of_bind fun dd S1 x g1 H1 _ e1 w1 r1 q1 => ?_⟩
    cases e0 : ldAt S1 dd with
    | none => simp only [e0] at q1; exact q1.elim
    | some kv0 =>
      simp only [e0] at q1
      obtain ⟨a, ks0, rfl, hr0, hk0⟩ := ldAt_rd w1 e0 r1
      refine ⟨a, rfl, .inl ⟨ks0, hr0⟩, g1, S1, ρ, w1, rs.mono e1, q1.of_bind fun dk S2 y g2 H2 _ e2 w2 r2 q2 => ?_⟩
      cases e : ldAt S2 dd with
      | none => simp only [e] at q2; exact q2.elim
      | some kvs =>
        simp only [e] at q2
        cases e4 : keyD dk with
        | none => simp only [e4] at q2; exact q2.elim
        | some k =>
          simp only [e4] at q2
          obtain ⟨a', ks, ea, hr, hk⟩ := ldAt_rd w2 e (e2.rep r1)
          cases ea
          have hy := kD_rep e4 r2
          subst hy
          refine ⟨valV ks k, .inl ⟨ks, k, hr, rfl, rfl⟩, ?_⟩
          cases hv : valD kvs k with
          | none =>
            rw [(hk.val k).1 hv]
            rw [hv] at q2
            exact Post.val (d := .non) (S := S2) q2 w2 .non
          | some d =>
            obtain ⟨u, h3, h4⟩ := (hk.val k).2 d hv
            rw [h3]
            rw [hv] at q2
            exact Post.val (d := d) (S := S2) q2 w2 h4⟩
end
/-! ### except TapeError as e: flags = [isinstance(e, ..), ..]; if ..: return None -/
def exT : List Exc := [.moment, .thing, .text]
theorem mem_exT {e : Exc} (h : e ≠ .run) : e ∈ exT := by cases e <;> first | decide | exact absurd rfl h
def telB (K : PySem.W.Frag) : Bool := excCB K (He.ga K (excN .text)) && (decide (PySem.W.exmOne K (excV K .text) (.ref (He.ga K "TapeError")) = some true) && (decide (PySem.W.kitOne K (excV K .text) (.type "ValueError") = some true) &&
  exT.all fun e' => decide (PySem.W.kitOne K (excV K .text) (excV K e') = some (decide (Exc.text = e')))))
structure TelOk (K : PySem.W.Frag) (mg : Str → Option Value) : Prop where
  b : telB K = true
  g : ∀ e : Exc, e ≠ .run → mg (excN e) = some (excV K e)
  gT : mg "TapeError" = some (.ref (He.ga K "TapeError"))
section
variable {K : PySem.W.Frag} {mg : Str → Option Value} (T : TelOk K mg)
include T
theorem TelOk.all : excCB K (He.ga K (excN .text)) = true ∧ PySem.W.exmOne K (excV K .text) (.ref (He.ga K "TapeError")) = some true ∧ PySem.W.kitOne K (excV K .text) (.type "ValueError") = some true ∧ ∀ e', e' ≠ .run → PySem.W.kitOne K (excV K .text) (excV K e') = some (decide (Exc.text = e')) := by
  have h := T.b
  unfold telB at h
  simp only [Bool.and_eq_true, decide_eq_true_eq] at h
  exact ⟨h.1, h.2.1, h.2.2.1, fun e' he => of_decide_eq_true (List.all_eq_true.mp h.2.2.2 e' (mem_exT he))⟩
theorem TelOk.C : ExcC K (He.ga K (excN .text)) := excCB_ok T.all.1
end
section
variable {X : Cx} {W : WX} {p q1 q2 pos : Pos} {x : Str}
theorem je_tel {i : Nat} {a : Addr} {oe : Obj} {pn : List (Addr × Obj)} (T : TelOk X.K X.mg) (E : ErrP X.K (a, oe) .text) (e' : Exc) (hr : e' ≠ .run) (hm : X.mg "isinstance" = none) (hN : X.N[i]? = some x := by rfl)
    (hg2 : Gl (X.suite a ((a, oe) :: pn)) (excN e') := by rfl) (hd2 : (excN e' == ("__debug__" : Str)) = false := by decide)
    (hv : Vis X.env.scope x := by first | exact Or.inl rfl | exact Or.inr (Or.inl rfl) | exact Or.inr (Or.inr rfl)) (hd : (x == ("__debug__" : Str)) = false := by decide) (hcd : (x == ("__classdict__" : Str)) = false := by decide)
    (hg : Gl (X.suite a ((a, oe) :: pn)) "isinstance" := by rfl)
    (he : starEach (.Name x q1 :: [.Name (excN e') q2]) X.env = (false, eval (.Name x q1) X.env) :: starEach [.Name (excN e') q2] X.env := by rfl) (he2 : starEach [.Name (excN e') q2] X.env = (false, eval (.Name (excN e') q2) X.env) :: starEach [] X.env := by rfl) (hpl : (backTo pos (starEach [.Name (excN e') q2] X.env)).any (·.1) = false := by rfl) :
    JE (X.suite a ((a, oe) :: pn)) W (.Call (.Name "isinstance" p) [.Name x q1, .Name (excN e') q2] [] pos) (eIsE a (decide (Exc.text = e')) i) :=
  je_isE (X := X.suite a ((a, oe) :: pn)) (pp := (a, oe)) List.mem_cons_self T.C E (pe_glob (X := X.suite a ((a, oe) :: pn)) (v := .ref (He.ga X.K (excN e'))) hg2 (T.g e' hr) rfl hd2) (fun u r => (ClsV.own _).eq r) (T.all.2.2.2 e' hr) hm hN hv hd hcd hg he he2 hpl
theorem je_telV {i : Nat} {a : Addr} {oe : Obj} {pn : List (Addr × Obj)} (T : TelOk X.K X.mg) (E : ErrP X.K (a, oe) .text) (hm : X.mg "isinstance" = none) (hm2 : X.mg "ValueError" = none) (hN : X.N[i]? = some x := by rfl)
    (hg2 : Gl (X.suite a ((a, oe) :: pn)) "ValueError" := by rfl)
    (hv : Vis X.env.scope x := by first | exact Or.inl rfl | exact Or.inr (Or.inl rfl) | exact Or.inr (Or.inr rfl)) (hd : (x == ("__debug__" : Str)) = false := by decide) (hcd : (x == ("__classdict__" : Str)) = false := by decide)
    (hg : Gl (X.suite a ((a, oe) :: pn)) "isinstance" := by rfl)
    (he : starEach (.Name x q1 :: [.Name "ValueError" q2]) X.env = (false, eval (.Name x q1) X.env) :: starEach [.Name "ValueError" q2] X.env := by rfl) (he2 : starEach [.Name "ValueError" q2] X.env = (false, eval (.Name "ValueError" q2) X.env) :: starEach [] X.env := by rfl) (hpl : (backTo pos (starEach [.Name "ValueError" q2] X.env)).any (·.1) = false := by rfl) :
    JE (X.suite a ((a, oe) :: pn)) W (.Call (.Name "isinstance" p) [.Name x q1, .Name "ValueError" q2] [] pos) (eIsE a true i) :=
  je_isE (X := X.suite a ((a, oe) :: pn)) (pp := (a, oe)) List.mem_cons_self T.C E (pe_bltn (X := X.suite a ((a, oe) :: pn)) (v := .ty "ValueError") hg2 hm2 (by decide +kernel : bootBuiltins "ValueError" = some (.type "ValueError")) rfl) (fun u r => (ClsV.ty _).eq r) T.all.2.2.1 hm hN hv hd hcd hg he he2 hpl
end
def tTel (K : PySem.W.Frag) (i : Nat) (a : Addr) (cls : Value) (d : Option Addr) : TS := fun N σ H => ∃ (g : G) (S : Sto) (σ0 : L2.St) (ρ0 : Env), cls = excV K .text ∧ d = none ∧ σ = σ0.set i (some (.ref a)) ∧ World K g S H ∧ RelSt K g σ0 ρ0 ∧
  ∀ v g' H', GExt g g' → World K g' S H' → RepG K g' .non v → N.rt v H'
def sTryN (f : Sx) : Sx := fun ρ S => match f ρ S with
  | .exc .text _ S' => .rt .non S'
  | .exc _ _ _ => .bad
  | r => r
theorem js_tryN {X : Cx} {W : WX} {n : Str} {i : Nat} {m : Addr → Sx} {f : Sx} {body suite : List Stmt} {b₀ : Stmt} {np pos' pos : Pos} (T : TelOk X.K X.mg)
    (hs : X.stack = X.env :: X.outer) (hf : X.env.frame = some X.env.locals) (hN : X.N.Nodup) (hi : X.N[i]? = some n) (hln : X.env.kindOf n = some .local) (hgy : Gl X "TapeError") (tk0 : Takes X (fun _ _ _ _ => False))
    (hb : ∀ (W : WX) (pn : List (Addr × Obj)) (xe : Value → Shared → Prop), Takes (X.tr pn xe) W → JSs (X.tr pn xe) W body f)
    (hh : ∀ (a : Addr) (oe : Obj) (pn : List (Addr × Obj)), ErrP X.K (a, oe) .text → JSs (X.suite a ((a, oe) :: pn)) (fun _ _ _ _ => False) (b₀ :: suite) (m a))
    (hm : ∀ (a : Addr) (n : Nat) (ρ : Env) (S : Sto), ρ.length = X.N.length → ρ[i]? = some (some (.obj n)) → S[n]? = some (.abs (.err a)) → m a ρ S = .rt .non S) :
    JS X W (.Try body [.ExceptHandler (some (.Name "TapeError" np)) (some n) (b₀ :: suite) pos'] [] [] pos) (sTryN f) :=
  ⟨psImp (ps_try_as (i := i) (Wout := fun _ _ _ _ => False) (tb := fun W => tS X.K W f) (ts := fun a cls d => tTel X.K i a cls d) hs hf hN hi hln ⟨hgy, by decide, .inl T.gT⟩ tk0 (fun W pn xe tk _ => (hb W pn xe tk).run)
    (fun a oe cls d pn hz hf => ⟨fun pins s σ H D I ⟨g, S, σ0, ρ0, hcls, hd, hσ, w, rs, q⟩ => by
      subst hcls hd hσ
      obtain ⟨w1, e1⟩ := world_err w a
      have hlen : (σ0.set i (some (V.ref a))).length = X.N.length := I.len
      rw [List.length_set] at hlen
      have hl : i < σ0.length := by rw [hlen]; exact (List.getElem?_eq_some_iff.mp hi).1
      have hla : (g.α ++ [a])[S.length]? = some a := by rw [← w.len]; simp
      refine (hh a oe pn ⟨hz, hf⟩).run.run pins s _ H D I ⟨_, S ++ [.abs (.err a)], ρ0.set i (some (.obj S.length)), w1, (rs.mono e1).set (d := .obj S.length) (v := .ref a) (.obj hla), ?_⟩
      rw [hm a S.length _ _ (by rw [List.length_set, rs.len, hlen]) (List.getElem?_set_self (by rw [rs.len]; exact hl)) (by simp)]
      intro v g2 H2 ext w2 rep
      obtain ⟨w3, e3⟩ := World.cut w w2 (e1.trans ext) (by simp)
      exact q v _ H2 e3 w3 (Rep.pureAny (d := .non) rfl rep)⟩)) fun N σ H ⟨g, S, ρ, w, rs, q⟩ => ⟨g, S, ρ, w, rs, by
      unfold sTryN at q
      cases e : f ρ S with
      | nx ρ' S' => rw [e] at q; exact q
      | rt d S' => rw [e] at q; exact q
      | bk ρ' S' => rw [e] at q; exact q
      | ct ρ' S' => rw [e] at q; exact q
      | bad => rw [e] at q; exact q
      | exc k ρ' S' =>
        rw [e] at q
        cases k with
        | text => exact fun σ' g' H' x y z => ⟨true, T.all.2.1, fun _ a ha => ⟨g', S', σ', ρ', rfl, rfl, rfl, y, z, fun v g2 H2 ext w2 r2 => q v g2 H2 (x.trans ext) w2 r2⟩, fun z => nomatch z⟩
        | _ => exact q.elim⟩⟩
/-- the handler of _law_told: e in slot i, the flags in slot j -/
noncomputable def mTold (i j : Nat) (a : Addr) : Sx :=
  (sSeq (sSet j (eLst (eCons (eIsE a (decide (Exc.text = .text)) i) (eCons (eIsE a (decide (Exc.text = .moment)) i) (eCons (eIsE a (decide (Exc.text = .thing)) i) eNil)))))
    (sIf (eAnd (eIsE a true i) (eOp opEq (eVar j) (eLst (eCons (eC (.bl true)) (eCons (eC (.bl false)) (eCons (eC (.bl false)) eNil))))))
    (sRet (eC .non))
    sSkip))
theorem mTold_ok {i j : Nat} (hij : j ≠ i) (a : Addr) (n : Nat) (ρ : Env) (S : Sto) (hj : j < ρ.length) (h : ρ[i]? = some (some (.obj n))) (hS : S[n]? = some (.abs (.err a))) : mTold i j a ρ S = .rt .non S := by
  have h1 : ∀ (b : Bool) (ρ : Env), ρ[i]? = some (some (.obj n)) → eIsE a b i ρ S = .ok (.bl b) S := fun b ρ h => by
    unfold eIsE; simp [h, hS]
  have h2 : (ρ.set j (some (.lst [.bl true, .bl false, .bl false])))[i]? = some (some (.obj n)) := by rw [List.getElem?_set_ne hij]; exact h
  have h3 : (ρ.set j (some (.lst [.bl true, .bl false, .bl false])))[j]? = some (some (.lst [.bl true, .bl false, .bl false])) := List.getElem?_set_self hj
  have l3 : 3 ≤ lim := by show 3 ≤ 1000000; decide
  have e1 : eLst (eCons (eIsE a (decide (Exc.text = .text)) i) (eCons (eIsE a (decide (Exc.text = .moment)) i) (eCons (eIsE a (decide (Exc.text = .thing)) i) eNil))) ρ S = .ok (.lst [.bl true, .bl false, .bl false]) S := by
    simp [s_lst, s_cons, s_nil, h1 _ ρ h, l3]
  have e2 : opEq S (.lst [.bl true, .bl false, .bl false]) (.lst [.bl true, .bl false, .bl false]) = some (.bl true) := rfl
  unfold mTold
  rw [s_seq, s_set, e1]
  simp [h1 _ _ h2, eVar, h3, s_op, s_lst, s_cons, s_nil, e2, s_if, s_ret, s_and, l3]
end Bt
namespace Bt
open PySem PySem.Spec PyProof.Rows L2
noncomputable def F_l_sum_at (rec : Fn) : Fn := fnBody 2 8
    (sSeq (sIf (eOr (eOp opGe (eVar 1) (eCallB (f1 bLen) (eCons (eVar 0) eNil))) (eOp opEq (eOp opIx (eVar 0) (eVar 1)) (eC (.str ""))))
    (sRet (eC .non))
    sSkip)
    (sSeq (sIf (eOp opEq (eComp [7] (iStrE (eOp opIx (eVar 0) (eVar 1))) (dN 7) (eOp opNotIn (eVar 7) (eC (.str "0123456789"))) (eVar 7)) (eLst eNil))
    (sRet (eTup (eCons (eTup (eCons (eC (.str "num")) (eCons (eCallB (f1 bIntS) (eCons (eOp opIx (eVar 0) (eVar 1)) eNil)) eNil))) (eCons (eOp opAdd (eVar 1) (eC (.int 1))) eNil))))
    sSkip)
    (sSeq (sSet 2 (eTr (eLDGet (eLDDisp [(.inr "cell", .int 1), (.inr "add", .int 2), (.inr "sub", .int 2), (.inr "mul", .int 2), (.inr "less", .int 2)]) (eOp opIx (eVar 0) (eVar 1)) (eC (.int 0)))))
    (sSeq (sSet 3 (eTup (eCons (eOp opIx (eVar 0) (eVar 1)) eNil)))
    (sSeq (sSet 4 (eOp opAdd (eVar 1) (eC (.int 1))))
    (sSeq (sFor (iRange1 (eVar 2)) (dN 5)
    (sSeq (sSet 6 (eCall rec (eCons (eVar 0) (eCons (eVar 4) eNil))))
    (sSeq (sIf (eIsN false (eVar 6))
    (sRet (eC .non))
    sSkip)
    (sSeq (sSet 3 (eOp opAdd (eVar 3) (eTup (eCons (eOp opIx (eVar 6) (eC (.int 0))) eNil))))
    (sSet 4 (eOp opIx (eVar 6) (eC (.int 1))))))))
    (sRet (eTup (eCons (eIf (eOp opGt (eVar 2) (eC (.int 0))) (eVar 3) (eTup (eCons (eC (.str "name")) (eCons (eOp opIx (eVar 0) (eVar 1)) eNil)))) (eCons (eVar 4) eNil))))))))))
noncomputable def G_l_sum_at : Fn := recN F_l_sum_at 60
noncomputable def F_l_row_of : Fn := fnBody 1 11
    (sSeq (sSet 1 (eSplit (eVar 0) (eC (.str " "))))
    (sSeq (sSet 2 (eLDDisp [(.inr "stop", .str ""), (.inr "back", .str ""), (.inr "say", .str "s"), (.inr "ask", .str "w"), (.inr "jump", .str "w"), (.inr "call", .str "w"), (.inr "set", .str "ws"), (.inr "put", .str "ss")]))
    (sSeq (sSet 3 (eIf (eOp opEq (eOp opIx (eVar 1) (eC (.int 0))) (eC (.str "unless"))) (eC (.str "sw")) (eLDGet1 (eVar 2) (eOp opIx (eVar 1) (eC (.int 0))))))
    (sSeq (sIf (eIsN false (eVar 3))
    (sRet (eC .non))
    sSkip)
    (sSeq (sSet 4 (eTup (eCons (eOp opIx (eVar 1) (eC (.int 0))) eNil)))
    (sSeq (sSet 5 (eC (.int 1)))
    (sSeq (sFor (iStrE (eVar 3)) (dN 6)
    (sIf (eOp opEq (eVar 6) (eC (.str "s")))
    (sSeq (sSet 7 (eCall G_l_sum_at (eCons (eVar 1) (eCons (eVar 5) eNil))))
    (sSeq (sIf (eIsN false (eVar 7))
    (sRet (eC .non))
    sSkip)
    (sSeq (sSet 4 (eOp opAdd (eVar 4) (eTup (eCons (eOp opIx (eVar 7) (eC (.int 0))) eNil))))
    (sSet 5 (eOp opIx (eVar 7) (eC (.int 1)))))))
    (sSeq (sIf (eOr (eOp opGe (eVar 5) (eCallB (f1 bLen) (eCons (eVar 1) eNil))) (eOp opGt (eCallB (f1 bLen) (eCons (eOp opIx (eVar 1) (eVar 5)) eNil)) (eC (.int 9))))
    (sRet (eC .non))
    sSkip)
    (sSeq (sSet 8 (eOp opIx (eVar 1) (eVar 5)))
    (sSeq (sSet 9 (eAnd (eOp opNe (eVar 8) (eC (.str ""))) (eOp opEq (eComp [10] (iStrE (eVar 8)) (dN 10) (eOp opNotIn (eVar 10) (eC (.str "0123456789"))) (eVar 10)) (eLst eNil))))
    (sSeq (sSet 4 (eOp opAdd (eVar 4) (eTup (eCons (eIf (eVar 9) (eCallB (f1 bIntS) (eCons (eVar 8) eNil)) (eVar 8)) eNil))))
    (sSet 5 (eOp opAdd (eVar 5) (eC (.int 1))))))))))
    (sRet (eIf (eOp opEq (eVar 5) (eCallB (f1 bLen) (eCons (eVar 1) eNil))) (eVar 4) (eC .non))))))))))
noncomputable def G_l_row_of : Fn := trunc F_l_row_of
noncomputable def F_l_due : Fn := fnBody 2 5
    (sSeq (sIf (eOp opEq (eVar 0) (eC (.int 0)))
    (sSeq (sSet 2 (eCall G_l_sum_at (eCons (eSplit (eVar 1) (eC (.str " "))) (eCons (eC (.int 0)) eNil))))
    (sSeq (sIf (eOr (eIsN false (eVar 2)) (eOr (eNot (eCall G_is_sum (eCons (eOp opIx (eVar 2) (eC (.int 0))) eNil))) (eOp opNe (eCall G_written_sum (eCons (eOp opIx (eVar 2) (eC (.int 0))) eNil)) (eVar 1))))
    (sRet (eC .non))
    sSkip)
    (sRet (eOp opIx (eVar 2) (eC (.int 0))))))
    sSkip)
    (sSeq (sSet 3 (eCallB (f1 bTuple) (eCons (eComp [4] (iLst (eSl (eSplit (eVar 1) (eC (.str "\n"))) eNo (eInt (eUn opNeg (eC (.int 1)))))) (dN 4) eYes (eCall G_l_row_of (eCons (eVar 4) eNil))) eNil)))
    (sSeq (sIf (eOr (eOp opIn (eC .non) (eVar 3)) (eOr (eNot (eCall G_is_program (eCons (eVar 3) eNil))) (eOp opNe (eCall G_written (eCons (eVar 3) eNil)) (eVar 1))))
    (sRet (eC .non))
    sSkip)
    (sRet (eVar 3)))))
noncomputable def G_l_due : Fn := F_l_due
noncomputable def F_read_rowX : Fn := fnBody 1 5
    (sSeq (sSet 1 (eMake "Words" G_Words___init__ (eCons (eVar 0) eNil)))
    (sSeq (sSet 2 (eMCall "Words" "word" G_Words_word (eVar 1) eNil))
    (sSeq (sIf (eAnd (eTIn true kv_SHAPES (eVar 2)) (eTIn true kv_PAIRS (eVar 2)))
    (sRaise .text)
    sSkip)
    (sSeq (sSet 3 (eOp opAdd (eTup (eCons (eVar 2) eNil)) (eCallB (f1 bTuple) (eCons (eCompX [4] (iStrE (eTGet kv_SHAPES (eVar 2) (eTGet1 kv_PAIRS (eVar 2)))) (dN 4) eYes (eMCall "Words" "part" G_Words_part (eVar 1) (eCons (eVar 4) eNil))) eNil))))
    (sSeq (sIf (eOp opNeS (eFld "Words" "left" (eVar 1)) (eLst eNil))
    (sRaise .text)
    sSkip)
    (sRet (eVar 3)))))))
noncomputable def G_read_rowX : Fn := trunc F_read_rowX
noncomputable def F_readX : Fn := fnBody 1 3
    (sSeq (sSet 1 (eCallB (f1 bTuple) (eCons (eCompX [2] (iLst (eSl (eSplit (eVar 0) (eC (.str "\n"))) eNo (eInt (eUn opNeg (eC (.int 1)))))) (dN 2) eYes (eCall G_read_rowX (eCons (eVar 2) eNil))) eNil)))
    (sSeq (sIf (eOr (eNot (eCall G_is_program (eCons (eVar 1) eNil))) (eOp opNe (eCall G_written (eCons (eVar 1) eNil)) (eVar 0)))
    (sRaise .text)
    sSkip)
    (sRet (eVar 1))))
noncomputable def G_readX : Fn := F_readX
noncomputable def F_l_told : Fn := fnBody 2 4
    (sSeq (sTryN
    (sRet (eIf (eOp opEq (eVar 0) (eC (.int 0))) (eCall G_read_sum (eCons (eVar 1) eNil)) (eCall G_readX (eCons (eVar 1) eNil)))))
    (sRet (eC (.bl false))))
noncomputable def G_l_told : Fn := F_l_told
noncomputable def F_law : Fn := fnBody 1 13
    (sSeq (sFor (iRange1 (eC (.int 2))) (dN 1)
    (sSeq (sSet 2 (eIf (eOp opEq (eVar 1) (eC (.int 0))) (eCall G_written_sum (eCons (eCall G_l_sum (eCons (eVar 0) (eCons (eC (.int 1)) (eCons (eC (.int 2)) eNil)))) eNil)) (eCall G_written (eCons (eCall G_l_program (eCons (eVar 0) (eCons (eC (.int 20)) eNil))) eNil))))
    (sSeq (sSet 3 (eSplit (eVar 2) (eC (.str " "))))
    (sSeq (sSet 4 (eCall G_l_drawn (eCons (eVar 0) (eCons (eOp opAdd (eC (.int 500)) (eVar 1)) (eCons (eCallB (f1 bLen) (eCons (eVar 3) eNil)) eNil)))))
    (sSeq (sSet 5 (eLst (eCons (eC (.str "add")) (eCons (eC (.str "a")) (eCons (eC (.str "7")) (eCons (eC (.str "07")) (eCons (eC (.str "cell")) (eCons (eC (.str "10007")) (eCons (eC (.str "x")) (eCons (eC (.str "")) (eCons (eC (.str "stop")) (eCons (eC (.str "set")) (eCons (eC (.str "-1")) (eCons (eC (.str "99999")) eNil))))))))))))))
    (sSeq (sSet 6 (eOp opIx (eVar 5) (eCall G_l_drawn (eCons (eVar 0) (eCons (eOp opAdd (eC (.int 502)) (eVar 1)) (eCons (eC (.int 12)) eNil))))))
    (sSeq (sSet 7 (eLst (eCons (eOp opAdd (eSl (eVar 3) eNo (eInt (eVar 4))) (eSl (eVar 3) (eInt (eOp opAdd (eVar 4) (eC (.int 1)))) eNo)) (eCons (eOp opAdd (eSl (eVar 3) eNo (eInt (eOp opAdd (eVar 4) (eC (.int 1))))) (eSl (eVar 3) (eInt (eVar 4)) eNo)) (eCons (eOp opAdd (eOp opAdd (eSl (eVar 3) eNo (eInt (eVar 4))) (eLst (eCons (eVar 6) eNil))) (eSl (eVar 3) (eInt (eOp opAdd (eVar 4) (eC (.int 1)))) eNo)) eNil)))))
    (sSeq (sSet 8 (eOp opAdd (eComp [12] (iLst (eVar 7)) (dN 12) eYes (eJoin (eC (.str " ")) (eVar 12))) (eLst (eCons (eVar 2) (eCons (eSl (eVar 2) eNo (eInt (eUn opNeg (eC (.int 1))))) (eCons (eOp opAdd (eVar 2) (eC (.str "\n"))) eNil))))))
    (sSeq (sSet 9 (eSplit (eVar 2) (eC (.str "\n"))))
    (sSeq (sSet 10 (eCall G_l_drawn (eCons (eVar 0) (eCons (eOp opAdd (eC (.int 504)) (eVar 1)) (eCons (eCallB (f1 bLen) (eCons (eVar 9) eNil)) eNil)))))
    (sSeq (sSet 8 (eOp opAdd (eVar 8) (eLst (eCons (eJoin (eC (.str "\n")) (eOp opAdd (eSl (eVar 9) eNo (eInt (eVar 10))) (eSl (eVar 9) (eInt (eOp opAdd (eVar 10) (eC (.int 1)))) eNo))) (eCons (eJoin (eC (.str "\n")) (eOp opAdd (eSl (eVar 9) eNo (eInt (eOp opAdd (eVar 10) (eC (.int 1))))) (eSl (eVar 9) (eInt (eVar 10)) eNo))) (eCons (eC (.str "")) (eCons (eC (.str "stop\n")) eNil)))))))
    (sFor (iLst (eVar 8)) (dN 11)
    (sIf (eOp opNe (eCall G_l_told (eCons (eVar 1) (eCons (eVar 11) eNil))) (eCall G_l_due (eCons (eVar 1) (eCons (eVar 11) eNil))))
    (sRet (eC (.bl false)))
    sSkip)))))))))))))
    (sRet (eC (.bl true))))
end Bt
namespace Bt
open PySem PySem.Spec PyProof.Rows L2
/-! ### rows of what differs, moments of like worths -/
/-! ### enumerate -/
/-! ### evaluations put together (where unfolding would be dear) -/
section
variable {ρ : Env} {S S1 S2 : Sto} {fa fb : Ex} {x y d : D} {l : List D}
theorem x_op {F : Sto → D → D → Option D} (ha : fa ρ S = .ok x S1) (hb : fb ρ S1 = .ok y S2) (h : F S2 x y = some d) : eOp F fa fb ρ S = .ok d S2 := by
  rw [s_op, ha]; simp only [ER.bind_ok]; rw [hb]; simp only [ER.bind_ok]; rw [h]; rfl
theorem x_lenL (ha : fa ρ S = .ok (.lst l) S1) : eCallB (f1 bLen) (eCons fa eNil) ρ S = .ok (.int (l.length : Nat)) S1 := by
  rw [s_callB, s_cons, ha]; rfl
theorem x_B1 {F : Sto → D → Option D} (ha : fa ρ S = .ok x S1) (h : F S1 x = some d) : eCallB (f1 F) (eCons fa eNil) ρ S = .ok d S1 := by
  rw [s_callB, s_cons, ha]
  simp only [ER.bind_ok, s_nil, b_f1]
  rw [h]; rfl
theorem x_c1 {F : Fn} (ha : fa ρ S = .ok x S1) (h : F [x] S1 = .ok d S2) : eCall F (eCons fa eNil) ρ S = .ok d S2 := by
  rw [s_call, s_cons, ha]
  simp only [ER.bind_ok, s_nil]
  exact h
end
end Bt
namespace Bt
open PySem PySem.Spec PyProof.Rows L2
section
variable {ρ : Env} {S S1 : Sto} {fa : Ex}
theorem x_isN {neg : Bool} {d : D} (h : fa ρ S = .ok d S1) (hd : d ≠ .non) : eIsN neg fa ρ S = .ok (.bl neg) S1 := by
  rw [s_isN, h]; cases d <;> first | rfl | exact absurd rfl hd
theorem x_isN0 {neg : Bool} (h : fa ρ S = .ok .non S1) : eIsN neg fa ρ S = .ok (.bl (!neg)) S1 := by
  rw [s_isN, h]; rfl
theorem x_iteT {fc fb : Ex} {r : ER} (hc : fc ρ S = .ok (.bl true) S1) (h : fa ρ S1 = r) : eIf fc fa fb ρ S = r := by
  rw [t_ife, hc]; exact h
theorem x_iteF {fc fb : Ex} {r : ER} (hc : fc ρ S = .ok (.bl false) S1) (h : fa ρ S1 = r) : eIf fc fb fa ρ S = r := by
  rw [t_ife, hc]; exact h
theorem eq_w {S : Sto} {v w : String} (h : v = w) : opEq S (.str (Str.ofString v)) (.str (Str.ofString w)) = some (.bl true) := by rw [eq_strS, decide_eq_true h]
theorem eq_w' {S : Sto} {v w : String} (h : v ≠ w) : opEq S (.str (Str.ofString v)) (.str (Str.ofString w)) = some (.bl false) := by rw [eq_strS, decide_eq_false h]
theorem x_c2 {F : Fn} {fb : Ex} {x y d : D} {S2 S3 : Sto} (ha : fa ρ S = .ok x S1) (hb : fb ρ S1 = .ok y S2) (h : F [x, y] S2 = .ok d S3) : eCall F (eCons fa (eCons fb eNil)) ρ S = .ok d S3 := by
  rw [s_call, s_cons, ha]
  simp only [ER.bind_ok]
  rw [s_cons, hb]
  simp only [ER.bind_ok, s_nil]
  exact h
end
end Bt
namespace Bt
open PySem PySem.Spec PyProof.Rows L2
section
variable {Q : SR → Prop} {ρ ρ1 : Env} {S S1 T : Sto} {g : Sx} {fe fa fb fr : Ex} {d x : D} {i n : Nat} {k : Exc} {t : Tp} {q : ER}
/-! ### refusals, step by step -/
theorem f_setX (h : fe ρ S = .exc k S1) (z : ER.exc k S1 = q) : (sSeq (sSet i fe) g ρ S).toE = q := by
  show (SR.seq (ER.toS (fe ρ S) ρ _) g).toE = q; rw [h]; exact z
variable {m : Int}
end
end Bt
namespace Bt
open PySem PySem.Spec PyProof.Rows L2
/-! ### neither names nor cells -/
/-! ### try -/
section
variable {ρ : Env} {S S1 : Sto} {g f : Sx} {fe : Ex} {k : Exc} {R : Exc → D} {d : D}
theorem e_sretX (h : fe ρ S = .exc k S1) : (sSeq (sRet fe) g ρ S) = .exc k ρ S1 := by
  show SR.seq (ER.toS (fe ρ S) ρ _) g = _; rw [h]; rfl
theorem e_retX (h : fe ρ S = .exc k S1) : (sRet fe ρ S) = .exc k ρ S1 := by
  show ER.toS (fe ρ S) ρ _ = _; rw [h]; rfl
end
/-! ### a thing or none among things -/
end Bt
namespace Bt
open PySem PySem.Spec PyProof.Rows L2
/-! ### laws that walk by steps of their own -/
section
variable {ρ : Env} {S S1 : Sto} {fi : Ex} {tg : D → Env → Option Env} {b : Sx}
theorem n_for1 {α : Type} {P0 : Env → Sto → Prop} {f : α → D} {xs : List α} (P : Nat → Env → Sto → Prop) (hi : fi ρ S = .ok (.tup (xs.map f)) S1) (h0 : P 0 ρ S1)
    (hb : ∀ j x, xs[j]? = some x → ∀ ρ S, P j ρ S → ∃ ρ1, tg (f x) ρ = some ρ1 ∧ NxP (P (j + 1)) (b ρ1 S)) (hr : ∀ ρ S, P xs.length ρ S → P0 ρ S) : NxP P0 (sFor fi tg b ρ S) := by
  obtain ⟨ρ', S', e, h⟩ := forL_P P xs xs.length 0 ρ S1 (by omega) hb h0
  rw [List.drop_zero] at e
  show NxP P0 (ER.toS (fi ρ S) ρ _)
  rw [hi]
  show NxP P0 (forL tg b (xs.map f) ρ S1)
  rw [e]
  exact nx_p (hr ρ' S' h)
end
end Bt
namespace Bt
open PySem PySem.Spec PyProof.Rows L2
/-! ### more evaluations put together -/
section
variable {ρ : Env} {S S1 S2 S3 S4 : Sto} {fa fb fc fe : Ex} {i j k : Int} {x y z d : D} {b : Bool} {l : List D}
theorem x_chLL (ha : fa ρ S = .ok (.int i) S1) (hb : fb ρ S1 = .ok (.int j) S1) (hc : fc ρ S1 = .ok (.int k) S1) : eChain opLe opLe fa fb fc ρ S = .ok (.bl (decide (i ≤ j ∧ j ≤ k))) S1 := by
  rw [t_chain, ha]
  simp only [ER.bind_ok]
  rw [hb]
  simp only [ER.bind_ok, o_leI, l1_some]
  by_cases q : i ≤ j
  · rw [decide_eq_true q]
    simp only [andK_t]
    rw [hc]
    simp only [ER.bind_ok, o_leI, l1_some]
    congr 2
    rw [decide_eq_decide]
    exact ⟨fun h => ⟨q, h⟩, fun h => h.2⟩
  · rw [decide_eq_false q, decide_eq_false fun h => q h.1]; rfl
theorem x_chLT (ha : fa ρ S = .ok (.int i) S1) (hb : fb ρ S1 = .ok (.int j) S1) (hc : fc ρ S1 = .ok (.int k) S1) : eChain opLe opLt fa fb fc ρ S = .ok (.bl (decide (i ≤ j ∧ j < k))) S1 := by
  rw [t_chain, ha]
  simp only [ER.bind_ok]
  rw [hb]
  simp only [ER.bind_ok, o_leI, l1_some]
  by_cases q : i ≤ j
  · rw [decide_eq_true q]
    simp only [andK_t]
    rw [hc]
    simp only [ER.bind_ok, o_ltI, l1_some]
    congr 2
    rw [decide_eq_decide]
    exact ⟨fun h => ⟨q, h⟩, fun h => h.2⟩
  · rw [decide_eq_false q, decide_eq_false fun h => q h.1]; rfl
theorem x_not (ha : fa ρ S = .ok (.bl b) S1) : eNot fa ρ S = .ok (.bl !b) S1 := by
  rw [t_not, ha]; rfl
theorem x_c3 {F : Fn} (ha : fa ρ S = .ok x S1) (hb : fb ρ S1 = .ok y S2) (hc : fc ρ S2 = .ok z S3) (h : F [x, y, z] S3 = .ok d S4) : eCall F (eCons fa (eCons fb (eCons fc eNil))) ρ S = .ok d S4 := by
  rw [s_call, s_cons, ha]
  simp only [ER.bind_ok]
  rw [s_cons, hb]
  simp only [ER.bind_ok]
  rw [s_cons, hc]
  simp only [ER.bind_ok, s_nil]
  exact h
theorem x_tup1 (ha : fa ρ S = .ok x S1) : eTup (eCons fa eNil) ρ S = .ok (.tup [x]) S1 := by
  rw [s_tup, s_cons, ha]; rfl
theorem x_tup2 (ha : fa ρ S = .ok x S1) (hb : fb ρ S1 = .ok y S2) : eTup (eCons fa (eCons fb eNil)) ρ S = .ok (.tup [x, y]) S2 := by
  rw [s_tup, s_cons, ha]
  simp only [ER.bind_ok]
  rw [s_cons, hb]; rfl
theorem x_lst1 (ha : fa ρ S = .ok x S1) : eLst (eCons fa eNil) ρ S = .ok (.lst [x]) S1 := by
  rw [s_lst, s_cons, ha]; rfl
theorem x_ite (hc : fc ρ S = .ok (.bl b) S1) (ha : b = true → fa ρ S1 = .ok d S2) (hb : b = false → fb ρ S1 = .ok d S2) : eIf fc fa fb ρ S = .ok d S2 := by
  cases b with
  | true => exact x_iteT hc (ha rfl)
  | false => exact x_iteF hc (hb rfl)
end
end Bt
namespace Bt
open PySem PySem.Spec PyProof.Rows L2
/-! ### things of any kind, not too great -/
def Nc : Nat → D → Prop
  | _, .str s => PyData.strOk s = true ∧ s.length ≤ 1000
  | _, .int _ => True
  | _, .bl _ => True
  | _, .non => True
  | n + 1, .tup l => l.length ≤ 1000 ∧ ∀ x ∈ l, Nc n x
  | n + 1, .lst l => l.length ≤ 1000 ∧ ∀ x ∈ l, Nc n x
  | _, _ => False
theorem Nc.gd : ∀ {n : Nat} {d : D}, Nc n d → d.gd n
  | 0, .str s, h => ⟨h.1, Nat.le_refl _⟩
  | n + 1, .str s, h => ⟨h.1, Nat.zero_le _⟩
  | n, .int _, _ => gd_int
  | n, .bl _, _ => gd_bl
  | n, .non, _ => gd_non
  | n + 1, .tup l, h => gd_tup fun x hx => Nc.gd (h.2 x hx)
  | n + 1, .lst l, h => gd_lst fun x hx => Nc.gd (h.2 x hx)
  | 0, .tup l, h => h.elim
  | 0, .lst l, h => h.elim
  | 0, .scr l, h => h.elim
  | n + 1, .scr l, h => h.elim
  | 0, .obj l, h => h.elim
  | n + 1, .obj l, h => h.elim
theorem Nc.mono : ∀ {n m : Nat} {d : D}, Nc n d → n ≤ m → Nc m d
  | 0, 0, _, h, _ => h
  | n, m + 1, .str s, h, _ => by cases n <;> exact h
  | n, m, .int _, h, _ => by cases m <;> trivial
  | n, m, .bl _, h, _ => by cases m <;> trivial
  | n, m, .non, h, _ => by cases m <;> trivial
  | n + 1, m + 1, .tup l, h, hm => ⟨h.1, fun x hx => Nc.mono (h.2 x hx) (Nat.le_of_succ_le_succ hm)⟩
  | n + 1, m + 1, .lst l, h, hm => ⟨h.1, fun x hx => Nc.mono (h.2 x hx) (Nat.le_of_succ_le_succ hm)⟩
  | 0, m + 1, .tup l, h, _ => h.elim
  | 0, m + 1, .lst l, h, _ => h.elim
  | 0, m + 1, .scr l, h, _ => h.elim
  | n + 1, m + 1, .scr l, h, _ => h.elim
  | 0, m + 1, .obj l, h, _ => h.elim
  | n + 1, m + 1, .obj l, h, _ => h.elim
def names6 : List Str := ["a", "b", "c", "d", "e", "f"]
def worthD : D → Bool
  | .int i => decide (0 ≤ i ∧ i < 10007)
  | _ => false
def nameD : D → Bool
  | .str s => decide (s ∈ names6)
  | _ => false
def placeD (size : Nat) : D → Bool
  | .int i => decide (0 ≤ i ∧ i ≤ size)
  | _ => false
theorem name_one {s : Str} : (∃ n, s.cps.toList = [n] ∧ n ∈ ("abcdef" : Str).cps.toList) ↔ s ∈ names6 := by
  have e : ∀ n : Nat, n ∈ ("abcdef" : Str).cps.toList ↔ n ∈ [97, 98, 99, 100, 101, 102] := fun n => by
    rw [show ("abcdef" : Str).cps.toList = [97, 98, 99, 100, 101, 102] from rfl]
  have h6 : names6 = [⟨#[97]⟩, ⟨#[98]⟩, ⟨#[99]⟩, ⟨#[100]⟩, ⟨#[101]⟩, ⟨#[102]⟩] := rfl
  have hs : ∀ n : Nat, s.cps.toList = [n] ↔ s = ⟨#[n]⟩ := fun n => by
    obtain ⟨a⟩ := s
    constructor
    · intro h
      have : a = #[n] := by
        apply Array.ext'
        simpa using h
      rw [this]
    · intro h
      cases h; rfl
  simp only [e, hs, h6, List.mem_cons, List.not_mem_nil, or_false]
  constructor
  · rintro ⟨n, rfl, h⟩
    rcases h with rfl | rfl | rfl | rfl | rfl | rfl <;> simp
  · rintro (rfl | rfl | rfl | rfl | rfl | rfl)
    · exact ⟨97, rfl, by simp⟩
    · exact ⟨98, rfl, by simp⟩
    · exact ⟨99, rfl, by simp⟩
    · exact ⟨100, rfl, by simp⟩
    · exact ⟨101, rfl, by simp⟩
    · exact ⟨102, rfl, by simp⟩
theorem worth_ok {x : D} {n : Nat} (h : Nc n x) (S : Sto) : G_is_worth [x] S = .ok (.bl (worthD x)) S := by
  unfold G_is_worth F_is_worth
  rw [fnB1]
  cases x with
  | int i =>
    refine f_ret (d := .bl (decide (0 ≤ i ∧ i < 10007))) (S1 := S) ?_ rfl
    have c := x_chLT (ρ := [some (.int i)]) (S := S) (S1 := S) (i := 0) (j := i) (k := 10007) (fa := eC (.int 0)) (fb := eVar 0) (fc := eC c_SIZE) rfl rfl rfl
    exact x_and (x := true) (y := decide (0 ≤ i ∧ i < 10007)) rfl fun _ => x_and (x := true) (y := decide (0 ≤ i ∧ i < 10007)) rfl fun _ => c
  | scr l => cases n <;> exact h.elim
  | obj l => cases n <;> exact h.elim
  | _ => simp [isTy, worthD]
theorem name_ok {x : D} {n : Nat} (h : Nc n x) (S : Sto) : G_is_name [x] S = .ok (.bl (nameD x)) S := by
  unfold G_is_name F_is_name
  rw [fnB1]
  cases x with
  | str s =>
    have hl : s.length ≤ 1000 := by cases n <;> exact h.2
    have h1 : bLen S (.str s) = some (.int s.length) := by
      show (if s.length ≤ lim then some (D.int s.length) else none) = _
      rw [if_pos (by show s.length ≤ 1000000; omega)]
    refine f_ret (d := .bl (nameD (.str s))) (S1 := S) ?_ rfl
    have hi := name_one (s := s)
    by_cases q : s.length = 1
    · obtain ⟨n, hn⟩ : ∃ n, s.cps.toList = [n] := by
        have : s.cps.toList.length = 1 := by rw [Array.length_toList]; exact q
        exact List.length_eq_one_iff.mp this
      have e : nameD (.str s) = decide (n ∈ ("abcdef" : Str).cps.toList) := by
        show decide (s ∈ names6) = _
        rw [decide_eq_decide, ← hi, hn]
        constructor
        · rintro ⟨m, h1, h2⟩; cases h1; exact h2
        · intro h; exact ⟨n, rfl, h⟩
      rw [e]
      refine x_and (x := true) (y := decide (n ∈ ("abcdef" : Str).cps.toList)) rfl fun _ => x_and (x := true) (y := decide (n ∈ ("abcdef" : Str).cps.toList)) (x_op (x := .int s.length) (y := .int 1) (x_B1 (x := .str s) rfl h1) rfl (by rw [o_eqI]; congr 2; exact decide_eq_true (by omega))) fun _ => x_op (x := .str s) (y := c_NAMES) rfl rfl ?_
      show (match s.cps.toList with | [n] => some (D.bl (decide (n ∈ ("abcdef" : Str).cps.toList))) | _ => none) = _
      rw [hn]
    · have e : nameD (.str s) = false := decide_eq_false fun h => by
        obtain ⟨n, h2, _⟩ := hi.mpr h
        apply q
        show s.cps.size = 1
        rw [← Array.length_toList, h2]; rfl
      rw [e]
      exact x_and (x := true) (y := false) rfl fun _ => x_and (x := false) (y := false) (x_op (x := .int s.length) (y := .int 1) (x_B1 (x := .str s) rfl h1) rfl (by rw [o_eqI]; congr 2; exact decide_eq_false (by omega))) fun z => by cases z
  | scr l => cases n <;> exact h.elim
  | obj l => cases n <;> exact h.elim
  | _ => simp [isTy, nameD]
def words4 : List Str := ["add", "sub", "mul", "less"]
def leftM : Nat → Nat → D → Option Nat
  | 0, _, _ => none
  | _ + 1, 0, _ => none
  | f + 1, l + 1, .tup [.str w, x] => if w = "num" then (if worthD x then some l else none) else if w = "name" then (if nameD x then some l else none) else if w = "cell" then leftM f l x else none
  | f + 1, l + 1, .tup [.str w, x, y] => if w ∈ words4 then (match leftM f l x with
    | some r => leftM f r y
    | none => none) else none
  | _ + 1, _ + 1, _ => none
def lI : Option Nat → Int
  | none => -1
  | some k => k
theorem leftM_lt : ∀ {f l : Nat} {d : D} {r : Nat}, leftM f l d = some r → r < l := by
  intro f
  induction f with
  | zero => intro l d r h; unfold leftM at h; cases h
  | succ f ih =>
    intro l d r h
    cases l with
    | zero => unfold leftM at h; cases h
    | succ l =>
      unfold leftM at h
      split at h
      · cases h
      · cases h
      · rename_i e2 e3; cases e2; cases e3
        split at h
        · split at h
          · cases h; omega
          · cases h
        · split at h
          · split at h
            · cases h; omega
            · cases h
          · split at h
            · have := ih h; omega
            · cases h
      · rename_i e2 e3; cases e2; cases e3
        split at h
        · split at h
          · rename_i q; have := ih q; have := ih h; omega
          · cases h
        · cases h
      · cases h
theorem leftM_0 {f : Nat} {d : D} : leftM f 0 d = none := by
  cases f <;> rfl
def isS : D → Bool
  | .str _ => true
  | _ => false
def shapeD : D → Bool
  | .tup l => (match l with
    | a :: _ :: _ => isS a
    | _ => false)
  | _ => false
theorem shape_of {d : D} (h : shapeD d = true) : ∃ w x r, d = .tup (.str w :: x :: r) := by
  cases d with
  | tup l =>
    cases l with
    | nil => cases h
    | cons a r =>
      cases r with
      | nil => cases h
      | cons x r =>
        cases a with
        | str w => exact ⟨w, x, r, rfl⟩
        | _ => cases h
  | _ => cases h
theorem leftM_no {f l : Nat} {d : D} (h : shapeD d = false) : leftM f l d = none := by
  unfold leftM
  split
  · rfl
  · rfl
  · cases h
  · cases h
  · rfl
theorem str_ok {w : Str} {n : Nat} (h : Nc n (.str w)) : (D.str w).good = true := (Nc.gd (n := n) h).1 ▸ (by
  have := (Nc.gd (n := n) h).1
  unfold D.good; rw [this]; rfl)
theorem eq_w1 {S : Sto} {w : Str} {c : String} (h : (D.str w).good = true) : opEq S (.str w) (.str (Str.ofString c)) = some (.bl (decide (w = Str.ofString c))) := by
  rw [b_good h good_str, eqv_str]
theorem memD_str {w : Str} {l : List Str} : memD (.str w) (l.map D.str) = decide (w ∈ l) := by
  unfold memD
  rw [List.any_map, Bool.eq_iff_iff, List.any_eq_true]
  simp only [Function.comp, eqv_str, decide_eq_true_eq]
  exact ⟨fun ⟨y, h1, h2⟩ => by rw [← h2]; exact h1, fun h => ⟨w, h, rfl⟩⟩
theorem in_w {S : Sto} {w : Str} {l : List Str} (h : (D.str w).good = true) (hl : (D.tup (l.map D.str)).good = true) : opIn S (.str w) (.tup (l.map D.str)) = some (.bl (decide (w ∈ l))) := by
  show (if (D.str w).good && (D.tup (l.map D.str)).good then some (D.bl (memD (.str w) (l.map D.str))) else _) = _
  rw [h, hl, memD_str]; rfl
theorem notIn_w {S : Sto} {w : Str} {l : List Str} (h : (D.str w).good = true) (hl : (D.tup (l.map D.str)).good = true) : opNotIn S (.str w) (.tup (l.map D.str)) = some (.bl (!decide (w ∈ l))) := by
  show (if (D.str w).good && (D.tup (l.map D.str)).good then some (D.bl (!memD (.str w) (l.map D.str))) else _) = _
  rw [h, hl, memD_str]; rfl
theorem words_gd : (D.tup (words4.map D.str)).good = true := (gd_tup (n := 0) fun d hd => by
  obtain ⟨i, hi, rfl⟩ := List.mem_map.mp hd
  simp only [words4, List.mem_cons, List.not_mem_nil, or_false] at hi
  rcases hi with rfl | rfl | rfl | rfl <;> exact gd_str).good
section
variable {ρ : Env} {S : Sto} {d : D} {n : Nat}
theorem x_ty {c t : Ty} {fa : Ex} {x : D} (h : fa ρ S = .ok x S) (ht : tyOf S x = some t) : eIsT c fa ρ S = .ok (.bl (isTy t c)) S := by
  rw [s_isT, h]
  simp only [ER.bind_ok, ht]
theorem x_lenT {i : Nat} {l : List D} (h : eVar i ρ S = .ok (.tup l) S) : eCallB (f1 bLen) (eCons (eVar i) eNil) ρ S = .ok (.int (l.length : Nat)) S := x_B1 h rfl
theorem x_ixk {i : Nat} {l : List D} {k : Nat} {x : D} (h : eVar i ρ S = .ok (.tup l) S) (hx : l[k]? = some x) : eOp opIx (eVar i) (eC (.int (k : Nat))) ρ S = .ok x S :=
  x_op (x := .tup l) (y := .int (k : Nat)) h rfl (by rw [o_ixT, atI_nat', hx])
noncomputable def shpE : Ex := eOr (eNot (eIsT .tuple (eVar 0))) (eOr (eOp opLt (eCallB (f1 bLen) (eCons (eVar 0) eNil)) (eC (.int 2))) (eNot (eIsT .str (eOp opIx (eVar 0) (eC (.int 0))))))
theorem shp (h : Nc n d) (hv : eVar 0 ρ S = .ok d S) : shpE ρ S = .ok (.bl (!shapeD d)) S := by
  unfold shpE
  cases d with
  | tup l =>
    refine x_or (x := false) (y := !shapeD (.tup l)) (x_not (b := true) (x_ty hv rfl)) fun _ => ?_
    cases l with
    | nil => exact x_or (x := true) (y := true) (x_op (F := opLt) (fb := eC (.int 2)) (x := .int (0 : Nat)) (y := .int 2) (x_lenT hv) rfl (by rw [o_ltI]; rfl)) fun z => by cases z
    | cons a r =>
      cases r with
      | nil => exact x_or (x := true) (y := true) (x_op (F := opLt) (fb := eC (.int 2)) (x := .int (1 : Nat)) (y := .int 2) (x_lenT hv) rfl (by rw [o_ltI]; rfl)) fun z => by cases z
      | cons b r =>
        refine x_or (x := false) (y := !shapeD (.tup (a :: b :: r))) (x_op (x := .int ((a :: b :: r).length : Nat)) (y := .int 2) (x_lenT hv) rfl (by rw [o_ltI, decide_eq_false (by have : (a :: b :: r).length = r.length + 2 := rfl; omega)])) fun _ => ?_
        have ha : ∃ m, Nc m a := by
          cases n with
          | zero => exact h.elim
          | succ n => exact ⟨n, h.2 a List.mem_cons_self⟩
        obtain ⟨m, ha⟩ := ha
        cases a with
        | str w => exact x_not (b := true) (x_ty (x_ixk (k := 0) hv rfl) rfl)
        | scr l => cases m <;> exact ha.elim
        | obj l => cases m <;> exact ha.elim
        | non => exact x_not (b := false) (x_ty (x_ixk (k := 0) hv rfl) rfl)
        | bl b => exact x_not (b := false) (x_ty (x_ixk (k := 0) hv rfl) rfl)
        | int b => exact x_not (b := false) (x_ty (x_ixk (k := 0) hv rfl) rfl)
        | tup b => exact x_not (b := false) (x_ty (x_ixk (k := 0) hv rfl) rfl)
        | lst b => exact x_not (b := false) (x_ty (x_ixk (k := 0) hv rfl) rfl)
  | scr l => cases n <;> exact h.elim
  | obj l => cases n <;> exact h.elim
  | non => exact x_or (x := true) (y := true) (x_not (b := false) (x_ty hv rfl)) fun z => by cases z
  | bl b => exact x_or (x := true) (y := true) (x_not (b := false) (x_ty hv rfl)) fun z => by cases z
  | int b => exact x_or (x := true) (y := true) (x_not (b := false) (x_ty hv rfl)) fun z => by cases z
  | str b => exact x_or (x := true) (y := true) (x_not (b := false) (x_ty hv rfl)) fun z => by cases z
  | lst b => exact x_or (x := true) (y := true) (x_not (b := false) (x_ty hv rfl)) fun z => by cases z
end
theorem left_1 {S : Sto} {rec : Fn} {f : Nat} (hf : 1 ≤ f) (hr : ∀ (x : D) (n : Nat) (k : Int), Nc n x → k < f → rec [x, .int k] S = .ok (.int (lI (leftM f k.toNat x))) S) {d : D} {n : Nat} (h : Nc n d) {k : Int} (hk : k < f + 1) :
    F_left_of rec [d, .int k] S = .ok (.int (lI (leftM (f + 1) k.toNat d))) S := by
  unfold F_left_of
  rw [fnB2]
  simp only [Nat.reduceSub, List.reduceReplicate, List.cons_append, List.nil_append]
  by_cases q : k ≤ 0
  · have e : k.toNat = 0 := by omega
    rw [e, leftM_0]
    exact f_ifT (bb := true) (S1 := S) (x_or (x := true) (y := true) (x_op (x := .int k) (y := .int 0) rfl rfl (by rw [o_leI, decide_eq_true q])) fun z => by cases z) rfl (q_seqRet (Q := fun r => r.toE = _) (d := .int (-1)) (S1 := S) rfl rfl)
  obtain ⟨l, hl⟩ : ∃ l : Nat, k = (l + 1 : Nat) := ⟨k.toNat - 1, by omega⟩
  subst hl
  have e1 : (((l + 1 : Nat) : Int)).toNat = l + 1 := by omega
  rw [e1]
  have c0 : (eOr (eOp opLe (eVar 1) (eC (.int 0))) shpE) [some d, some (.int ((l + 1 : Nat) : Int))] S = .ok (.bl (!shapeD d)) S :=
    x_or (x := false) (y := !shapeD d) (x_op (x := .int ((l + 1 : Nat) : Int)) (y := .int 0) rfl rfl (by rw [o_leI, decide_eq_false q])) fun _ => shp h rfl
  by_cases hs : shapeD d = false
  · rw [leftM_no hs]
    rw [hs] at c0
    exact f_ifT (bb := true) (S1 := S) c0 rfl (q_seqRet (Q := fun r => r.toE = _) (d := .int (-1)) (S1 := S) rfl rfl)
  have hs' : shapeD d = true := by cases z : shapeD d with | true => rfl | false => exact absurd z hs
  rw [hs'] at c0
  refine f_if (bb := false) (S1 := S) c0 rfl ?_
  obtain ⟨w, x, r, rfl⟩ := shape_of hs'
  · skip
    obtain ⟨n, rfl⟩ : ∃ m, n = m + 1 := by cases n with | zero => exact h.elim | succ n => exact ⟨n, rfl⟩
    have hw : (D.str w).good = true := str_ok (h.2 _ List.mem_cons_self)
    have hx : Nc n x := h.2 _ (List.mem_cons_of_mem _ List.mem_cons_self)
    have hlim := h.1
    have hv : eVar 0 [some (D.tup (.str w :: x :: r)), some (.int ((l + 1 : Nat) : Int))] S = .ok (.tup (.str w :: x :: r)) S := rfl
    have eq : ∀ c : String, eOp opEq (eOp opIx (eVar 0) (eC (.int 0))) (eC (.str (Str.ofString c))) [some (D.tup (.str w :: x :: r)), some (.int ((l + 1 : Nat) : Int))] S = .ok (.bl (decide (w = Str.ofString c))) S := fun c => x_op (x := .str w) (x_ixk (k := 0) hv rfl) rfl (eq_w1 hw)
    have len : ∀ k : Nat, eOp opEq (eCallB (f1 bLen) (eCons (eVar 0) eNil)) (eC (.int (k : Nat))) [some (D.tup (.str w :: x :: r)), some (.int ((l + 1 : Nat) : Int))] S = .ok (.bl (decide (r.length + 2 = k))) S := fun k => x_op (x := .int ((.str w :: x :: r : List D).length : Nat)) (y := .int (k : Nat)) (x_lenT hv) rfl (by rw [o_eqI]; congr 2; rw [decide_eq_decide]; have : (.str w :: x :: r : List D).length = r.length + 2 := rfl; omega)
    have sub : eOp opSub (eVar 1) (eC (.int 1)) [some (D.tup (.str w :: x :: r)), some (.int ((l + 1 : Nat) : Int))] S = .ok (.int (l : Nat)) S := x_op (x := .int ((l + 1 : Nat) : Int)) (y := .int 1) rfl rfl (by rw [o_sub, show ((l + 1 : Nat) : Int) - 1 = (l : Nat) by omega])
    have rx : eCall rec (eCons (eOp opIx (eVar 0) (eC (.int 1))) (eCons (eOp opSub (eVar 1) (eC (.int 1))) eNil)) [some (D.tup (.str w :: x :: r)), some (.int ((l + 1 : Nat) : Int))] S = .ok (.int (lI (leftM f l x))) S := x_c2 (x_ixk (k := 1) hv rfl) sub (hr x n l hx (by omega))
    have ne3 : eOp opNe (eCallB (f1 bLen) (eCons (eVar 0) eNil)) (eC (.int 3)) [some (D.tup (.str w :: x :: r)), some (.int ((l + 1 : Nat) : Int))] S = .ok (.bl (!decide (r.length = 1))) S := x_op (x := .int ((.str w :: x :: r : List D).length : Nat)) (y := .int 3) (x_lenT hv) rfl (by rw [o_neI]; congr 2; rw [decide_eq_decide.mpr (show (((.str w :: x :: r : List D).length : Int) = 3) ↔ r.length = 1 by have : (.str w :: x :: r : List D).length = r.length + 2 := rfl; omega)])
    have nw : eOp opNotIn (eOp opIx (eVar 0) (eC (.int 0))) (eC c_WORDS) [some (D.tup (.str w :: x :: r)), some (.int ((l + 1 : Nat) : Int))] S = .ok (.bl (!decide (w ∈ words4))) S := x_op (x := .str w) (y := c_WORDS) (x_ixk (k := 0) hv rfl) rfl (notIn_w (l := words4) hw words_gd)
    have n1 : ¬ ((("num" : String) : Str) ∈ words4) := by decide
    have n2 : ¬ ((("name" : String) : Str) ∈ words4) := by decide
    have n3 : ¬ ((("cell" : String) : Str) ∈ words4) := by decide
    have n12 : ¬ ((("name" : String) : Str) = ("num" : String)) := by decide
    have n13 : ¬ ((("cell" : String) : Str) = ("num" : String)) := by decide
    have n23 : ¬ ((("cell" : String) : Str) = ("name" : String)) := by decide
    match r with
    | [] =>
      have e0 : leftM (f + 1) (l + 1) (.tup [.str w, x]) = if w = "num" then (if worthD x then some l else none) else if w = "name" then (if nameD x then some l else none) else if w = "cell" then leftM f l x else none := rfl
      by_cases q1 : w = "num"
      · rw [e0, if_pos q1]
        refine f_ifT (bb := true) (S1 := S) (by rw [eq, decide_eq_true q1]) rfl (q_seqRet (Q := fun r => r.toE = _) (d := .int (lI (if worthD x then some l else none))) (S1 := S) (x_ite (b := worthD x) (S1 := S) (x_and (x := true) (y := worthD x) (len 2) fun _ => x_c1 (x_ixk (k := 1) hv rfl) (worth_ok hx S)) (fun z => ?_) (fun z => ?_)) rfl)
        · rw [z]; exact sub
        · rw [z]; rfl
      refine f_if (bb := false) (S1 := S) (by rw [eq, decide_eq_false q1]) rfl ?_
      by_cases q2 : w = "name"
      · rw [e0, if_neg q1, if_pos q2]
        refine f_ifT (bb := true) (S1 := S) (by rw [eq, decide_eq_true q2]) rfl (q_seqRet (Q := fun r => r.toE = _) (d := .int (lI (if nameD x then some l else none))) (S1 := S) (x_ite (b := nameD x) (S1 := S) (x_and (x := true) (y := nameD x) (len 2) fun _ => x_c1 (x_ixk (k := 1) hv rfl) (name_ok hx S)) (fun z => ?_) (fun z => ?_)) rfl)
        · rw [z]; exact sub
        · rw [z]; rfl
      refine f_if (bb := false) (S1 := S) (by rw [eq, decide_eq_false q2]) rfl ?_
      by_cases q3 : w = "cell"
      · rw [e0, if_neg q1, if_neg q2, if_pos q3]
        exact f_ifT (bb := true) (S1 := S) (x_and (x := true) (y := true) (by rw [eq, decide_eq_true q3]) fun _ => len 2) rfl (q_seqRet (Q := fun r => r.toE = _) rx rfl)
      refine f_if (bb := false) (S1 := S) (x_and (x := false) (y := false) (by rw [eq, decide_eq_false q3]) fun z => by cases z) rfl ?_
      rw [e0, if_neg q1, if_neg q2, if_neg q3]
      refine f_ifT (bb := true) (S1 := S) ?_ rfl (q_seqRet (Q := fun r => r.toE = _) (d := .int (-1)) (S1 := S) rfl rfl)
      have := x_or (y := true) nw (fun _ => ne3)
      rwa [Bool.or_true] at this
    | [y] =>
      have hy : Nc n y := h.2 _ (List.mem_cons_of_mem _ (List.mem_cons_of_mem _ List.mem_cons_self))
      have e0 : leftM (f + 1) (l + 1) (.tup [.str w, x, y]) = if w ∈ words4 then (match leftM f l x with | some r => leftM f r y | none => none) else none := rfl
      by_cases q1 : w = "num"
      · rw [e0, if_neg (by rw [q1]; exact n1)]
        exact f_ifT (bb := true) (S1 := S) (by rw [eq, decide_eq_true q1]) rfl (q_seqRet (Q := fun r => r.toE = _) (d := .int (-1)) (S1 := S) (x_ite (b := false) (S1 := S) (x_and (x := false) (y := false) (len 2) fun z => by cases z) (fun z => by cases z) (fun z => rfl)) rfl)
      refine f_if (bb := false) (S1 := S) (by rw [eq, decide_eq_false q1]) rfl ?_
      by_cases q2 : w = "name"
      · rw [e0, if_neg (by rw [q2]; exact n2)]
        exact f_ifT (bb := true) (S1 := S) (by rw [eq, decide_eq_true q2]) rfl (q_seqRet (Q := fun r => r.toE = _) (d := .int (-1)) (S1 := S) (x_ite (b := false) (S1 := S) (x_and (x := false) (y := false) (len 2) fun z => by cases z) (fun z => by cases z) (fun z => rfl)) rfl)
      refine f_if (bb := false) (S1 := S) (by rw [eq, decide_eq_false q2]) rfl ?_
      refine f_if (bb := false) (S1 := S) ?_ rfl ?_
      · have := x_and (y := false) (eq "cell") (fun _ => len 2)
        rwa [Bool.and_false] at this
      by_cases q4 : w ∈ words4
      · rw [e0, if_pos q4]
        refine f_if (bb := false) (S1 := S) (x_or (x := false) (y := false) (by rw [nw, decide_eq_true q4]; rfl) fun _ => ne3) rfl ?_
        refine f_ret (d := .int (lI (match leftM f l x with | some r => leftM f r y | none => none))) (S1 := S) (x_c2 (x := y) (y := .int (lI (leftM f l x))) (x_ixk (k := 2) hv rfl) rx ?_) rfl
        cases e : leftM f l x with
        | none => rw [hr y n (lI none) hy (by show (-1 : Int) < f; omega), show (lI none).toNat = 0 from rfl, leftM_0]
        | some j =>
          have := leftM_lt e
          rw [hr y n (lI (some j)) hy (by show (j : Int) < f; omega), show (lI (some j)).toNat = j from Int.toNat_natCast j]
      · rw [e0, if_neg q4]
        exact f_ifT (bb := true) (S1 := S) (x_or (x := true) (y := true) (by rw [nw, decide_eq_false q4]; rfl) fun z => by cases z) rfl (q_seqRet (Q := fun r => r.toE = _) (d := .int (-1)) (S1 := S) rfl rfl)
    | a :: b :: r =>
      have e0 : leftM (f + 1) (l + 1) (.tup (.str w :: x :: a :: b :: r)) = none := rfl
      have hl2 : ¬ ((a :: b :: r).length + 2 = 2) := by simp
      have hl3 : ¬ ((a :: b :: r).length = 1) := by simp
      rw [e0]
      have len2 := len 2
      rw [decide_eq_false hl2] at len2
      rw [decide_eq_false hl3] at ne3
      by_cases q1 : w = "num"
      · exact f_ifT (bb := true) (S1 := S) (by rw [eq, decide_eq_true q1]) rfl (q_seqRet (Q := fun r => r.toE = _) (d := .int (-1)) (S1 := S) (x_ite (b := false) (S1 := S) (x_and (x := false) (y := false) len2 fun z => by cases z) (fun z => by cases z) (fun z => rfl)) rfl)
      refine f_if (bb := false) (S1 := S) (by rw [eq, decide_eq_false q1]) rfl ?_
      by_cases q2 : w = "name"
      · exact f_ifT (bb := true) (S1 := S) (by rw [eq, decide_eq_true q2]) rfl (q_seqRet (Q := fun r => r.toE = _) (d := .int (-1)) (S1 := S) (x_ite (b := false) (S1 := S) (x_and (x := false) (y := false) len2 fun z => by cases z) (fun z => by cases z) (fun z => rfl)) rfl)
      refine f_if (bb := false) (S1 := S) (by rw [eq, decide_eq_false q2]) rfl ?_
      refine f_if (bb := false) (S1 := S) ?_ rfl ?_
      · have := x_and (y := false) (eq "cell") (fun _ => len2)
        rwa [Bool.and_false] at this
      refine f_ifT (bb := true) (S1 := S) ?_ rfl (q_seqRet (Q := fun r => r.toE = _) (d := .int (-1)) (S1 := S) rfl rfl)
      have := x_or (y := true) nw (fun _ => ne3)
      rwa [Bool.or_true] at this
theorem leftP_n (S : Sto) : ∀ (f : Nat) (d : D) (n : Nat) (k : Int), 1 ≤ f → Nc n d → k < f → recN F_left_of f [d, .int k] S = .ok (.int (lI (leftM f k.toNat d))) S
  | 0, _, _, _, h, _, _ => by omega
  | 1, d, n, k, _, h, hk => by
    have e : k.toNat = 0 := by omega
    rw [e, leftM_0]
    show F_left_of (recN F_left_of 0) [d, .int k] S = _
    unfold F_left_of
    rw [fnB2]
    simp only [Nat.reduceSub, List.reduceReplicate, List.cons_append, List.nil_append]
    exact f_ifT (bb := true) (S1 := S) (x_or (x := true) (y := true) (x_op (x := .int k) (y := .int 0) rfl rfl (by rw [o_leI, decide_eq_true (by omega)])) fun z => by cases z) rfl (q_seqRet (Q := fun r => r.toE = _) (d := .int (-1)) (S1 := S) rfl rfl)
  | f + 2, d, n, k, _, h, hk => left_1 (f := f + 1) (by omega) (fun x n k hx hk => leftP_n S (f + 1) x n k (by omega) hx hk) h (by omega)
def sumD (d : D) : Bool := (leftM 20 15 d).isSome
theorem ge_lI {S : Sto} {o : Option Nat} : opGe S (.int (lI o)) (.int 0) = some (.bl o.isSome) := by
  rw [o_geI]
  cases o with
  | none => rfl
  | some k =>
    show some (D.bl (decide ((0 : Int) ≤ (k : Nat)))) = _
    rw [decide_eq_true (show (0 : Int) ≤ (k : Nat) by omega)]; rfl
theorem is_sum_ok {d : D} {n : Nat} (h : Nc n d) (S : Sto) : G_is_sum [d] S = .ok (.bl (sumD d)) S := by
  unfold G_is_sum F_is_sum
  rw [fnB1]
  exact f_ret (d := .bl (sumD d)) (S1 := S) (x_op (x := .int (lI (leftM 20 15 d))) (y := .int 0) (x_c2 (x := d) (y := .int 15) rfl rfl (leftP_n S 20 d n 15 (by decide) h (by decide))) rfl ge_lI) rfl
/-! ### rows -/
theorem place_ok {x : D} {n size : Nat} (h : Nc n x) (S : Sto) : G_is_place [x, .int (size : Nat)] S = .ok (.bl (placeD size x)) S := by
  unfold G_is_place F_is_place
  rw [fnB2]
  cases x with
  | int i =>
    refine f_ret (d := .bl (decide (0 ≤ i ∧ i ≤ (size : Nat)))) (S1 := S) ?_ rfl
    have c := x_chLL (ρ := [some (.int i), some (.int (size : Nat))]) (S := S) (S1 := S) (i := 0) (j := i) (k := (size : Nat)) (fa := eC (.int 0)) (fb := eVar 0) (fc := eVar 1) rfl rfl rfl
    exact x_and (x := true) (y := decide (0 ≤ i ∧ i ≤ (size : Nat))) rfl fun _ => x_and (x := true) (y := decide (0 ≤ i ∧ i ≤ (size : Nat))) rfl fun _ => c
  | scr l => cases n <;> exact h.elim
  | obj l => cases n <;> exact h.elim
  | _ => simp [isTy, placeD]
def words2 : List Str := ["stop", "back"]
def wordsO : List Str := ["say", "ask", "jump", "call"]
theorem words2_gd : (D.tup (words2.map D.str)).good = true := (gd_tup (n := 0) fun d hd => by
  obtain ⟨i, hi, rfl⟩ := List.mem_map.mp hd
  simp only [words2, List.mem_cons, List.not_mem_nil, or_false] at hi
  rcases hi with rfl | rfl <;> exact gd_str).good
theorem wordsO_gd : (D.tup (wordsO.map D.str)).good = true := (gd_tup (n := 0) fun d hd => by
  obtain ⟨i, hi, rfl⟩ := List.mem_map.mp hd
  simp only [wordsO, List.mem_cons, List.not_mem_nil, or_false] at hi
  rcases hi with rfl | rfl | rfl | rfl <;> exact gd_str).good
def row1 (size : Nat) (w : Str) (x : D) : Bool := if w = "say" then sumD x else if w = "ask" then nameD x else placeD size x
def row2 (size : Nat) (w : Str) (x y : D) : Bool := if w = "set" then nameD x && sumD y else if w = "put" then sumD x && sumD y else decide (w = "unless") && (sumD x && placeD size y)
def rowO (size : Nat) (w : Str) : List D → Bool
  | [x] => row1 size w x
  | _ => false
def rowW (size : Nat) (w : Str) : List D → Bool
  | [x, y] => row2 size w x y
  | _ => false
def rowT (size : Nat) : D → Bool
  | .tup l => (match l with
    | .str w :: r => if w ∈ words2 then decide (r.length = 0) else if w ∈ wordsO then rowO size w r else rowW size w r
    | _ => false)
  | _ => false
def headS : D → Bool
  | .tup l => (match l with
    | a :: _ => isS a
    | _ => false)
  | _ => false
theorem is_head_of {d : D} (h : headS d = true) : ∃ w r, d = .tup (.str w :: r) := by
  cases d with
  | tup l =>
    cases l with
    | nil => cases h
    | cons a r =>
      cases a with
      | str w => exact ⟨w, r, rfl⟩
      | _ => cases h
  | _ => cases h
theorem row_no {size : Nat} {d : D} (h : headS d = false) : rowT size d = false := by
  cases d with
  | tup l =>
    cases l with
    | nil => rfl
    | cons a r =>
      cases a with
      | str w => cases h
      | _ => rfl
  | _ => rfl
theorem hds {ρ : Env} {S : Sto} {d : D} {n : Nat} {em : Ex} (h : Nc n d) (hv : eVar 0 ρ S = .ok d S) (he : ∀ l, d = .tup l → em ρ S = .ok (.bl (decide (l = []))) S) : eOr (eNot (eIsT .tuple (eVar 0))) (eOr em (eNot (eIsT .str (eOp opIx (eVar 0) (eC (.int 0)))))) ρ S = .ok (.bl (!headS d)) S := by
  cases d with
  | tup l =>
    refine x_or (x := false) (y := !headS (.tup l)) (x_not (b := true) (x_ty hv rfl)) fun _ => ?_
    cases l with
    | nil => exact x_or (x := true) (y := true) (he [] rfl) fun z => by cases z
    | cons a r =>
      refine x_or (x := false) (y := !headS (.tup (a :: r))) (he _ rfl) fun _ => ?_
      have ha : ∃ m, Nc m a := by
        cases n with
        | zero => exact h.elim
        | succ n => exact ⟨n, h.2 a List.mem_cons_self⟩
      obtain ⟨m, ha⟩ := ha
      cases a with
      | str w => exact x_not (b := true) (x_ty (x_ixk (k := 0) hv rfl) rfl)
      | scr l => cases m <;> exact ha.elim
      | obj l => cases m <;> exact ha.elim
      | non => exact x_not (b := false) (x_ty (x_ixk (k := 0) hv rfl) rfl)
      | bl b => exact x_not (b := false) (x_ty (x_ixk (k := 0) hv rfl) rfl)
      | int b => exact x_not (b := false) (x_ty (x_ixk (k := 0) hv rfl) rfl)
      | tup b => exact x_not (b := false) (x_ty (x_ixk (k := 0) hv rfl) rfl)
      | lst b => exact x_not (b := false) (x_ty (x_ixk (k := 0) hv rfl) rfl)
  | scr l => cases n <;> exact h.elim
  | obj l => cases n <;> exact h.elim
  | non => exact x_or (x := true) (y := true) (x_not (b := false) (x_ty hv rfl)) fun z => by cases z
  | bl b => exact x_or (x := true) (y := true) (x_not (b := false) (x_ty hv rfl)) fun z => by cases z
  | int b => exact x_or (x := true) (y := true) (x_not (b := false) (x_ty hv rfl)) fun z => by cases z
  | str b => exact x_or (x := true) (y := true) (x_not (b := false) (x_ty hv rfl)) fun z => by cases z
  | lst b => exact x_or (x := true) (y := true) (x_not (b := false) (x_ty hv rfl)) fun z => by cases z
theorem is_row_ok {d : D} {n size : Nat} (h : Nc n d) (S : Sto) : G_is_row [d, .int (size : Nat)] S = .ok (.bl (rowT size d)) S := by
  unfold G_is_row F_is_row
  rw [fnB2]
  simp only [Nat.reduceSub, List.reduceReplicate, List.cons_append, List.nil_append]
  have c0 := hds (ρ := [some d, some (.int (size : Nat)), none]) (S := S) (em := eOp opEq (eCallB (f1 bLen) (eCons (eVar 0) eNil)) (eC (.int 0))) h rfl (fun l hl => by
    subst hl
    refine x_op (x := .int (l.length : Nat)) (y := .int 0) (x_lenT rfl) rfl ?_
    rw [o_eqI]; congr 2; rw [decide_eq_decide]
    cases l with
    | nil => simp
    | cons a r => simp only [List.length_cons, reduceCtorEq, iff_false]; omega)
  by_cases hs : headS d = false
  · rw [row_no hs]
    rw [hs] at c0
    exact f_ifT (bb := true) (S1 := S) c0 rfl (q_seqRet (Q := fun r => r.toE = _) (d := .bl false) (S1 := S) rfl rfl)
  have hs' : headS d = true := by cases z : headS d with | true => rfl | false => exact absurd z hs
  rw [hs'] at c0
  refine f_if (bb := false) (S1 := S) c0 rfl ?_
  obtain ⟨w, r, rfl⟩ := is_head_of hs'
  obtain ⟨n, rfl⟩ : ∃ m, n = m + 1 := by cases n with | zero => exact h.elim | succ n => exact ⟨n, rfl⟩
  have hw : (D.str w).good = true := str_ok (h.2 _ List.mem_cons_self)
  refine f_set (d := .str w) (S1 := S) (x_ixk (k := 0) rfl rfl) ?_
  have hv : eVar 0 [some (D.tup (.str w :: r)), some (.int (size : Nat)), some (.str w)] S = .ok (.tup (.str w :: r)) S := rfl
  have eq : ∀ c : String, eOp opEq (eVar 2) (eC (.str (Str.ofString c))) [some (D.tup (.str w :: r)), some (.int (size : Nat)), some (.str w)] S = .ok (.bl (decide (w = Str.ofString c))) S := fun c => x_op (x := .str w) rfl rfl (eq_w1 hw)
  have len : ∀ k : Nat, eOp opEq (eCallB (f1 bLen) (eCons (eVar 0) eNil)) (eC (.int (k : Nat))) [some (D.tup (.str w :: r)), some (.int (size : Nat)), some (.str w)] S = .ok (.bl (decide (r.length + 1 = k))) S := fun k => x_op (x := .int ((.str w :: r : List D).length : Nat)) (y := .int (k : Nat)) (x_lenT hv) rfl (by rw [o_eqI]; congr 2; rw [decide_eq_decide]; have : (.str w :: r : List D).length = r.length + 1 := rfl; omega)
  have nlen : ∀ k : Nat, eOp opNe (eCallB (f1 bLen) (eCons (eVar 0) eNil)) (eC (.int (k : Nat))) [some (D.tup (.str w :: r)), some (.int (size : Nat)), some (.str w)] S = .ok (.bl (!decide (r.length + 1 = k))) S := fun k => x_op (x := .int ((.str w :: r : List D).length : Nat)) (y := .int (k : Nat)) (x_lenT hv) rfl (by rw [o_neI]; congr 2; rw [decide_eq_decide.mpr (show (((.str w :: r : List D).length : Int) = (k : Nat)) ↔ r.length + 1 = k by have : (.str w :: r : List D).length = r.length + 1 := rfl; omega)])
  have e0 : rowT size (.tup (.str w :: r)) = if w ∈ words2 then decide (r.length = 0) else if w ∈ wordsO then rowO size w r else rowW size w r := rfl
  by_cases q1 : w ∈ words2
  · rw [e0, if_pos q1]
    refine f_ifT (bb := true) (S1 := S) (x_op (x := .str w) (y := .tup (words2.map D.str)) rfl rfl (by rw [in_w hw words2_gd, decide_eq_true q1])) rfl (q_seqRet (Q := fun r => r.toE = _) (d := .bl (decide (r.length = 0))) (S1 := S) ?_ rfl)
    have := len 1
    rwa [decide_eq_decide.mpr (show r.length + 1 = 1 ↔ r.length = 0 by omega)] at this
  rw [e0, if_neg q1]
  refine f_if (bb := false) (S1 := S) (x_op (x := .str w) (y := .tup (words2.map D.str)) rfl rfl (by rw [in_w hw words2_gd, decide_eq_false q1])) rfl ?_
  by_cases q2 : w ∈ wordsO
  · rw [if_pos q2]
    refine f_ifT (bb := true) (S1 := S) (x_op (x := .str w) (y := .tup (wordsO.map D.str)) rfl rfl (by rw [in_w hw wordsO_gd, decide_eq_true q2])) rfl ?_
    have nl := nlen 2
    match r, nl with
    | [], nl => exact q_assoc (Q := fun r => r.toE = _) (f_ifT (bb := true) (S1 := S) nl rfl (q_seqRet (Q := fun r => r.toE = _) (d := .bl false) (S1 := S) rfl rfl))
    | _ :: _ :: r, nl =>
      rw [decide_eq_false (by simp)] at nl
      exact q_assoc (Q := fun r => r.toE = _) (f_ifT (bb := true) (S1 := S) nl rfl (q_seqRet (Q := fun r => r.toE = _) (d := .bl false) (S1 := S) rfl rfl))
    | [x], nl =>
      have hx : Nc n x := h.2 _ (List.mem_cons_of_mem _ List.mem_cons_self)
      refine q_assoc (Q := fun r => r.toE = _) (f_if (bb := false) (S1 := S) nl rfl ?_)
      show _ = ER.ok (.bl (row1 size w x)) S
      unfold row1
      by_cases q3 : w = "say"
      · rw [if_pos q3]
        exact q_assoc (Q := fun r => r.toE = _) (f_ifT (bb := true) (S1 := S) ((eq "say").trans (by rw [decide_eq_true q3])) rfl (q_seqRet (Q := fun r => r.toE = _) (d := .bl (sumD x)) (S1 := S) (x_c1 (x_ixk (k := 1) hv rfl) (is_sum_ok hx S)) rfl))
      rw [if_neg q3]
      refine q_assoc (Q := fun r => r.toE = _) (f_if (bb := false) (S1 := S) ((eq "say").trans (by rw [decide_eq_false q3])) rfl ?_)
      refine q_seqRet (Q := fun r => r.toE = _) (d := .bl (if w = "ask" then nameD x else placeD size x)) (S1 := S) (x_ite (b := decide (w = "ask")) (eq "ask") (fun z => ?_) (fun z => ?_)) rfl
      · rw [if_pos (of_decide_eq_true z)]; exact x_c1 (x_ixk (k := 1) hv rfl) (name_ok hx S)
      · rw [if_neg (of_decide_eq_false z)]; exact x_c2 (x_ixk (k := 1) hv rfl) rfl (place_ok hx S)
  rw [if_neg q2]
  refine f_if (bb := false) (S1 := S) (x_op (x := .str w) (y := .tup (wordsO.map D.str)) rfl rfl (by rw [in_w hw wordsO_gd, decide_eq_false q2])) rfl ?_
  have nl := nlen 3
  match r, nl with
  | [], nl => exact f_ifT (bb := true) (S1 := S) nl rfl (q_seqRet (Q := fun r => r.toE = _) (d := .bl false) (S1 := S) rfl rfl)
  | [_], nl => exact f_ifT (bb := true) (S1 := S) nl rfl (q_seqRet (Q := fun r => r.toE = _) (d := .bl false) (S1 := S) rfl rfl)
  | _ :: _ :: _ :: r, nl =>
    rw [decide_eq_false (by simp)] at nl
    exact f_ifT (bb := true) (S1 := S) nl rfl (q_seqRet (Q := fun r => r.toE = _) (d := .bl false) (S1 := S) rfl rfl)
  | [x, y], nl =>
    have hx : Nc n x := h.2 _ (List.mem_cons_of_mem _ List.mem_cons_self)
    have hy : Nc n y := h.2 _ (List.mem_cons_of_mem _ (List.mem_cons_of_mem _ List.mem_cons_self))
    refine f_if (bb := false) (S1 := S) nl rfl ?_
    show _ = ER.ok (.bl (row2 size w x y)) S
    unfold row2
    by_cases q3 : w = "set"
    · rw [if_pos q3]
      exact f_ifT (bb := true) (S1 := S) ((eq "set").trans (by rw [decide_eq_true q3])) rfl (q_seqRet (Q := fun r => r.toE = _) (d := .bl (nameD x && sumD y)) (S1 := S) (x_and (x_c1 (x_ixk (k := 1) hv rfl) (name_ok hx S)) fun _ => x_c1 (x_ixk (k := 2) hv rfl) (is_sum_ok hy S)) rfl)
    rw [if_neg q3]
    refine f_if (bb := false) (S1 := S) ((eq "set").trans (by rw [decide_eq_false q3])) rfl ?_
    by_cases q4 : w = "put"
    · rw [if_pos q4]
      exact f_ifT (bb := true) (S1 := S) ((eq "put").trans (by rw [decide_eq_true q4])) rfl (q_seqRet (Q := fun r => r.toE = _) (d := .bl (sumD x && sumD y)) (S1 := S) (x_and (x_c1 (x_ixk (k := 1) hv rfl) (is_sum_ok hx S)) fun _ => x_c1 (x_ixk (k := 2) hv rfl) (is_sum_ok hy S)) rfl)
    rw [if_neg q4]
    refine f_if (bb := false) (S1 := S) ((eq "put").trans (by rw [decide_eq_false q4])) rfl ?_
    exact f_ret (d := .bl (decide (w = "unless") && (sumD x && placeD size y))) (S1 := S) (x_and (eq "unless") fun _ => x_and (x_c1 (x_ixk (k := 1) hv rfl) (is_sum_ok hx S)) fun _ => x_c2 (x_ixk (k := 2) hv rfl) rfl (place_ok hy S)) rfl
def prgT : D → Bool
  | .tup l => decide (l.length ≤ 20) && l.all (rowT l.length)
  | _ => false
theorem all_bls {S : Sto} (bs : List Bool) : bAll S (.lst (bs.map D.bl)) = some (.bl (bs.all id)) := by
  have : blsOf (bs.map D.bl) = some bs := by
    induction bs with
    | nil => rfl
    | cons b bs ih => show (match blsOf (bs.map D.bl) with | some m => some (b :: m) | none => none) = _; rw [ih]
  show (match blsOf (bs.map D.bl) with | some bs => some (D.bl (bs.all id)) | none => none) = _
  rw [this]
def big20 : D → Bool
  | .tup l => !decide (l.length ≤ 20)
  | _ => true
theorem prg_hd {ρ : Env} {S : Sto} {d : D} {n : Nat} (h : Nc n d) (hv : eVar 0 ρ S = .ok d S) : eOr (eNot (eIsT .tuple (eVar 0))) (eOp opGt (eCallB (f1 bLen) (eCons (eVar 0) eNil)) (eC (.int 20))) ρ S = .ok (.bl (big20 d)) S := by
  cases d with
  | tup l => exact x_or (x := false) (y := !decide (l.length ≤ 20)) (x_not (b := true) (x_ty hv rfl)) fun _ => x_op (x := .int (l.length : Nat)) (y := .int 20) (x_lenT hv) rfl (by rw [o_gtI]; congr 2; rw [← decide_not, decide_eq_decide]; omega)
  | scr l => cases n <;> exact h.elim
  | obj l => cases n <;> exact h.elim
  | non => exact x_or (x := true) (y := true) (x_not (b := false) (x_ty hv rfl)) fun z => by cases z
  | bl b => exact x_or (x := true) (y := true) (x_not (b := false) (x_ty hv rfl)) fun z => by cases z
  | int b => exact x_or (x := true) (y := true) (x_not (b := false) (x_ty hv rfl)) fun z => by cases z
  | str b => exact x_or (x := true) (y := true) (x_not (b := false) (x_ty hv rfl)) fun z => by cases z
  | lst b => exact x_or (x := true) (y := true) (x_not (b := false) (x_ty hv rfl)) fun z => by cases z
theorem ilT {ρ : Env} {S : Sto} {i : Nat} {l : List D} (hv : eVar i ρ S = .ok (.tup l) S) : iTupl (eVar i) ρ S = .ok (.tup (l.map id)) S := by
  rw [List.map_id]; exact it hv
theorem is_prg_ok {d : D} {n : Nat} (h : Nc n d) (S : Sto) : G_is_program [d] S = .ok (.bl (prgT d)) S := by
  unfold G_is_program F_is_program
  rw [fnB1]
  simp only [Nat.reduceSub, List.reduceReplicate, List.cons_append, List.nil_append]
  have c0 := prg_hd (ρ := [some d, none]) (S := S) h rfl
  have no : (big20 d) = true → prgT d = false := fun z => by
    cases d with
    | tup l => have z : (!decide (l.length ≤ 20)) = true := z
               simp only [Bool.not_eq_true'] at z; show (decide (l.length ≤ 20) && _) = false; rw [z]; rfl
    | _ => rfl
  cases z : (big20 d) with
  | true =>
    rw [z] at c0
    rw [no z]
    exact f_ifT (bb := true) (S1 := S) c0 rfl (q_seqRet (Q := fun r => r.toE = _) (d := .bl false) (S1 := S) rfl rfl)
  | false =>
    rw [z] at c0
    refine f_if (bb := false) (S1 := S) c0 rfl ?_
    cases d with
    | tup l =>
      obtain ⟨n, rfl⟩ : ∃ m, n = m + 1 := by cases n with | zero => exact h.elim | succ n => exact ⟨n, rfl⟩
      have hl : l.length ≤ 20 := by have z : (!decide (l.length ≤ 20)) = false := z; simpa using z
      have e : prgT (.tup l) = (l.map (rowT l.length)).all id := by show (decide (l.length ≤ 20) && l.all (rowT l.length)) = _; rw [decide_eq_true hl, Bool.true_and, List.all_map]; rfl
      rw [e]
      refine f_ret (S1 := S) (x_B1 (x := .lst ((l.map (rowT l.length)).map D.bl)) ?_ (all_bls _)) rfl
      rw [List.map_map]
      exact comp_all (f := id) (xs := l) (fun x => D.bl (rowT l.length x)) (ilT rfl) (fun x hx => ⟨[some (.tup l), some x], rfl, x_c2 (x := x) (y := .int (l.length : Nat)) rfl (x_lenT rfl) (is_row_ok (h.2 x hx) S)⟩) (by show l.length ≤ 1000000; omega)
    | _ => cases z
end Bt
namespace Bt
open PySem PySem.Spec PyProof.Rows L2 TL
/-! ### sums and rows as words -/
def nS (k : Int) : Str := Str.ofString (toString k)
def swM : Sm → List Str
  | .num k => [nS k]
  | .name i => [nmS i]
  | .cell a => "cell" :: swM a
  | .add a b => "add" :: (swM a ++ swM b)
  | .sub a b => "sub" :: (swM a ++ swM b)
  | .mul a b => "mul" :: (swM a ++ swM b)
  | .less a b => "less" :: (swM a ++ swM b)
def rwM : Row → List Str
  | .set i a => "set" :: nmS i :: swM a
  | .put a b => "put" :: (swM a ++ swM b)
  | .ask i => ["ask", nmS i]
  | .say a => "say" :: swM a
  | .jump k => ["jump", nS k]
  | .unless a k => "unless" :: (swM a ++ [nS k])
  | .call k => ["call", nS k]
  | .back => ["back"]
  | .stop => ["stop"]
/-- a word as the texts have them -/
structure Wd (w : Str) : Prop where
  ok : PyData.strOk w = true
  len : w.length ≤ 10
  sp : 32 ∉ tl w
  nl : 10 ∉ tl w
  ne : tl w ≠ []
theorem wd_lit {s : String} (h1 : (Str.ofString s).length ≤ 10 := by decide) (h2 : 32 ∉ tl (Str.ofString s) := by decide) (h3 : 10 ∉ tl (Str.ofString s) := by decide) (h4 : tl (Str.ofString s) ≠ [] := by decide) : Wd (Str.ofString s) := ⟨strOk_of s, h1, h2, h3, h4⟩
theorem wd_nm (i : Fin 6) : Wd (nmS i) := by
  have h : ∀ i : Fin 6, (nmS i).length ≤ 10 ∧ 32 ∉ tl (nmS i) ∧ 10 ∉ tl (nmS i) ∧ tl (nmS i) ≠ [] := by decide
  obtain ⟨h1, h2, h3, h4⟩ := h i
  exact ⟨(gd_nm (i := i) (n := 0)).1, h1, h2, h3, h4⟩
theorem tl_nS {k : Int} (h : 0 ≤ k) : tl (nS k) = numL k.toNat := by
  obtain ⟨n, rfl⟩ := Int.eq_ofNat_of_zero_le h
  rw [Int.toNat_natCast]
  exact tl_num n
theorem wd_nS {k : Int} (h : 0 ≤ k) (h2 : k < 100000) : Wd (nS k) := by
  have e := tl_nS h
  have hl : (numL k.toNat).length ≤ 5 := numL_len (by decide) (by omega)
  refine ⟨strOk_of _, ?_, ?_, ?_, ?_⟩
  · show (nS k).cps.size ≤ 10
    rw [← Array.length_toList]
    show (tl (nS k)).length ≤ 10
    rw [e]; omega
  · rw [e]; exact numL_free (.inl (by decide))
  · rw [e]; exact numL_free (.inl (by decide))
  · rw [e]; exact numL_ne _
theorem sw_wd : ∀ {a : Sm}, a.ok → ∀ w ∈ swM a, Wd w
  | .num k, h, w, hw => by rw [List.mem_singleton.mp hw]; exact wd_nS h.1 (by have := h.2; omega)
  | .name i, h, w, hw => by rw [List.mem_singleton.mp hw]; exact wd_nm i
  | .cell a, h, w, hw => by
    rcases List.mem_cons.mp hw with rfl | hw
    · exact wd_lit
    · exact sw_wd (a := a) h w hw
  | .add a b, h, w, hw => by
    rcases List.mem_cons.mp hw with rfl | hw
    · exact wd_lit
    · exact (List.mem_append.mp hw).elim (sw_wd (a := a) h.1 w) (sw_wd (a := b) h.2 w)
  | .sub a b, h, w, hw => by
    rcases List.mem_cons.mp hw with rfl | hw
    · exact wd_lit
    · exact (List.mem_append.mp hw).elim (sw_wd (a := a) h.1 w) (sw_wd (a := b) h.2 w)
  | .mul a b, h, w, hw => by
    rcases List.mem_cons.mp hw with rfl | hw
    · exact wd_lit
    · exact (List.mem_append.mp hw).elim (sw_wd (a := a) h.1 w) (sw_wd (a := b) h.2 w)
  | .less a b, h, w, hw => by
    rcases List.mem_cons.mp hw with rfl | hw
    · exact wd_lit
    · exact (List.mem_append.mp hw).elim (sw_wd (a := a) h.1 w) (sw_wd (a := b) h.2 w)
theorem sw_ne (a : Sm) : swM a ≠ [] := by cases a <;> simp [swM]
theorem sw_two (a b : Sm) (ha : (swM a).length + 1 ≤ 2 ^ (a.dep + 1)) (hb : (swM b).length + 1 ≤ 2 ^ (b.dep + 1)) : (swM a ++ swM b).length + 1 + 1 ≤ 2 ^ (max a.dep b.dep + 1 + 1) := by
  have h1 : 2 ^ (a.dep + 1) ≤ 2 ^ (max a.dep b.dep + 1) := Nat.pow_le_pow_right (by decide) (by omega)
  have h2 : 2 ^ (b.dep + 1) ≤ 2 ^ (max a.dep b.dep + 1) := Nat.pow_le_pow_right (by decide) (by omega)
  rw [List.length_append, Nat.pow_succ]; omega
theorem sw_len : ∀ a : Sm, (swM a).length + 1 ≤ 2 ^ (a.dep + 1)
  | .num k => by show 1 + 1 ≤ 2 ^ 1; decide
  | .name i => by show 1 + 1 ≤ 2 ^ 1; decide
  | .cell a => by
    have := sw_len a
    show (swM a).length + 1 + 1 ≤ 2 ^ (a.dep + 1 + 1)
    rw [Nat.pow_succ]; omega
  | .add a b => sw_two a b (sw_len a) (sw_len b)
  | .sub a b => sw_two a b (sw_len a) (sw_len b)
  | .mul a b => sw_two a b (sw_len a) (sw_len b)
  | .less a b => sw_two a b (sw_len a) (sw_len b)
theorem sw_few {a : Sm} (h : a.dep < 10) : (swM a).length ≤ 1024 := by
  have := sw_len a
  have h1 : 2 ^ (a.dep + 1) ≤ 2 ^ 10 := Nat.pow_le_pow_right (by decide) (by omega)
  have : (2 : Nat) ^ 10 = 1024 := by decide
  omega
/-! ### the defs -/
def wNN : List Str := ["num", "name"]
theorem wNN_gd : (D.tup (wNN.map D.str)).good = true := (gd_tup (n := 0) fun d hd => by
  obtain ⟨i, hi, rfl⟩ := List.mem_map.mp hd
  simp only [wNN, List.mem_cons, List.not_mem_nil, or_false] at hi
  rcases hi with rfl | rfl <;> exact gd_str).good
theorem bstr_i {S : Sto} {k : Int} (h : k.natAbs < 10 ^ 15) : bStrT S (.int k) = some (.str (nS k)) := by
  show (if k.natAbs < 10 ^ 15 then some (D.str (toString k)) else none) = _
  rw [if_pos h]; rfl
theorem add_strs {S : Sto} {l m : List Str} (h : l.length + m.length ≤ 1000000) : opAdd S (.lst (l.map D.str)) (.lst (m.map D.str)) = some (.lst ((l ++ m).map D.str)) := by
  rw [o_addL, if_pos (by show (l.map D.str).length + (m.map D.str).length ≤ 1000000; rw [List.length_map, List.length_map]; exact h), List.map_append]
theorem sum_words_1 {S : Sto} {rec : Fn} {w : String} (hw : Str.ofString w ∉ wNN) {xs : List Sm} (hx : ∀ x ∈ xs, rec [x.d] S = .ok (.lst ((swM x).map D.str)) S ∧ x.dep < 10) (h2 : xs.length ≤ 2) :
    F_sum_words rec [.tup (.str (Str.ofString w) :: xs.map Sm.d)] S = .ok (.lst ((Str.ofString w :: (xs.map swM).flatten).map D.str)) S := by
  unfold F_sum_words
  rw [fnB1]
  simp only [Nat.reduceSub, List.reduceReplicate, List.cons_append, List.nil_append]
  have hv : eVar 0 [some (D.tup (.str (Str.ofString w) :: xs.map Sm.d)), none, none] S = .ok (.tup (.str (Str.ofString w) :: xs.map Sm.d)) S := rfl
  refine f_if (bb := false) (S1 := S) (x_op (x := .str (Str.ofString w)) (y := .tup (wNN.map D.str)) (x_ixk (k := 0) hv rfl) rfl (by rw [in_w good_str wNN_gd, decide_eq_false hw])) rfl ?_
  refine f_set (d := .lst ([Str.ofString w].map D.str)) (S1 := S) (x_lst1 (x_ixk (k := 0) hv rfl)) ?_
  have fl : ∀ k, ((xs.take k).map swM).flatten.length ≤ 2048 := fun k => by
    have : ∀ l : List Sm, (∀ x ∈ l, x.dep < 10) → (l.map swM).flatten.length ≤ l.length * 1024 := by
      intro l
      induction l with
      | nil => intro _; simp
      | cons a l ih =>
        intro h
        rw [List.map_cons, List.flatten_cons, List.length_append, List.length_cons]
        have := sw_few (h a List.mem_cons_self)
        have := ih fun x hx => h x (List.mem_cons_of_mem _ hx)
        omega
    have h3 := this (xs.take k) fun x hxx => (hx x (List.mem_of_mem_take hxx)).2
    have : (xs.take k).length ≤ 2 := by rw [List.length_take]; omega
    have : (xs.take k).length * 1024 ≤ 2 * 1024 := Nat.mul_le_mul_right _ this
    omega
  refine f_for (f := Sm.d) (xs := xs) (S1 := S) (fun k ρ S' => S' = S ∧ ∃ o2, ρ = [some (D.tup (.str (Str.ofString w) :: xs.map Sm.d)), some (.lst ((Str.ofString w :: ((xs.take k).map swM).flatten).map D.str)), o2]) (it ?_) ⟨rfl, none, rfl⟩ ?_ ?_
  · rw [s_sl]
    show lift1 (some (D.tup (cutD (.str (Str.ofString w) :: xs.map Sm.d) (some 1) none))) S = _
    rw [cut_suf (by decide)]; rfl
  · rintro k x hk ρ S' ⟨rfl, o2, rfl⟩
    refine ⟨[some (D.tup (.str (Str.ofString w) :: xs.map Sm.d)), some (.lst ((Str.ofString w :: ((xs.take k).map swM).flatten).map D.str)), some x.d], rfl, ?_⟩
    have hm := List.mem_of_getElem? hk
    have e : ((xs.take (k + 1)).map swM).flatten = ((xs.take k).map swM).flatten ++ swM x := by
      rw [List.take_succ, hk]; simp
    have := fl k
    have := sw_few (hx x hm).2
    refine n_set1 (d := .lst ((Str.ofString w :: ((xs.take (k + 1)).map swM).flatten).map D.str)) (S1 := S') (x_op (x := .lst ((Str.ofString w :: ((xs.take k).map swM).flatten).map D.str)) (y := .lst ((swM x).map D.str)) rfl (x_c1 (x := x.d) rfl (hx x hm).1) ?_) (nx_p ⟨rfl, _, rfl⟩)
    rw [add_strs (by rw [List.length_cons]; omega), e]; rfl
  rintro ρ S' ⟨rfl, o2, rfl⟩
  rw [List.take_length]
  exact f_ret (S1 := S') rfl rfl
theorem sum_words_0 {S : Sto} {rec : Fn} {w : String} (hw : Str.ofString w ∈ wNN) {x : D} {z : Str} (hz : bStrT S x = some (.str z)) : F_sum_words rec [.tup [.str (Str.ofString w), x]] S = .ok (.lst [.str z]) S := by
  unfold F_sum_words
  rw [fnB1]
  simp only [Nat.reduceSub, List.reduceReplicate, List.cons_append, List.nil_append]
  exact f_ifT (bb := true) (S1 := S) (x_op (x := .str (Str.ofString w)) (y := .tup (wNN.map D.str)) rfl rfl (by rw [in_w good_str wNN_gd, decide_eq_true hw])) rfl (q_seqRet (Q := fun r => r.toE = _) (S1 := S) (x_lst1 (x_B1 (x := x) rfl hz)) rfl)
theorem sw2 {S : Sto} (f : Nat) (w : String) (hw : Str.ofString w ∉ wNN) (a b : Sm) (ia : a.dep < f → a.dep < 10 → recN F_sum_words f [a.d] S = .ok (.lst ((swM a).map D.str)) S) (ib : b.dep < f → b.dep < 10 → recN F_sum_words f [b.d] S = .ok (.lst ((swM b).map D.str)) S)
    (hf : max a.dep b.dep + 1 < f + 1) (hd : max a.dep b.dep + 1 < 10) : F_sum_words (recN F_sum_words f) [.tup [.str (Str.ofString w), a.d, b.d]] S = .ok (.lst ((Str.ofString w :: (swM a ++ swM b)).map D.str)) S := by
      have := sum_words_1 (S := S) (rec := recN F_sum_words f) (w := w) hw (xs := [a, b]) (fun x hx => by
        simp only [List.mem_cons, List.not_mem_nil, or_false] at hx
        rcases hx with rfl | rfl
        · exact ⟨ia (by omega) (by omega), by omega⟩
        · exact ⟨ib (by omega) (by omega), by omega⟩) (by show 2 ≤ 2; decide)
      simpa using this
theorem sum_words_law (S : Sto) : ∀ (f : Nat) (a : Sm), a.ok → a.dep < f → a.dep < 10 → recN F_sum_words f [a.d] S = .ok (.lst ((swM a).map D.str)) S
  | 0, _, _, h, _ => by omega
  | f + 1, .num k, ha, _, _ => sum_words_0 (w := "num") (by decide) (bstr_i (by have := ha.1; have := ha.2; omega))
  | f + 1, .name i, ha, _, _ => sum_words_0 (w := "name") (by decide) rfl
  | f + 1, .cell a, ha, hf, hd => by
    have hf : a.dep + 1 < f + 1 := hf
    have hd : a.dep + 1 < 10 := hd
    have := sum_words_1 (S := S) (rec := recN F_sum_words f) (w := "cell") (by decide) (xs := [a]) (fun x hx => by rw [List.mem_singleton.mp hx]; exact ⟨sum_words_law S f a ha (by omega) (by omega), by omega⟩) (by show 1 ≤ 2; decide)
    show F_sum_words (recN F_sum_words f) [.tup [.str (Str.ofString "cell"), a.d]] S = .ok (.lst ((Str.ofString "cell" :: swM a).map D.str)) S
    simpa using this
  | f + 1, .add a b, ha, hf, hd => sw2 f "add" (by decide) a b (sum_words_law S f a ha.1) (sum_words_law S f b ha.2) hf hd
  | f + 1, .sub a b, ha, hf, hd => sw2 f "sub" (by decide) a b (sum_words_law S f a ha.1) (sum_words_law S f b ha.2) hf hd
  | f + 1, .mul a b, ha, hf, hd => sw2 f "mul" (by decide) a b (sum_words_law S f a ha.1) (sum_words_law S f b ha.2) hf hd
  | f + 1, .less a b, ha, hf, hd => sw2 f "less" (by decide) a b (sum_words_law S f a ha.1) (sum_words_law S f b ha.2) hf hd
end Bt
namespace Bt
open PySem PySem.Spec PyProof.Rows L2 TL
/-! ### joins of joins -/
theorem joinL_app {S : List Nat} : ∀ {a b : List (List Nat)}, a ≠ [] → b ≠ [] → joinL S (a ++ b) = joinL S a ++ (S ++ joinL S b)
  | [], _, h, _ => absurd rfl h
  | [p], [], _, h => absurd rfl h
  | [p], q :: r, _, _ => rfl
  | p :: q :: r, b, _, hb => by
    show p ++ (S ++ joinL S ((q :: r) ++ b)) = (p ++ (S ++ joinL S (q :: r))) ++ (S ++ joinL S b)
    rw [joinL_app (a := q :: r) (by simp) hb]
    simp [List.append_assoc]
theorem jn_one (y w : Str) : Txt.join y [w] = w := by rw [join_eq]; rfl
/-! ### rows as words -/
theorem row_words_1 {S : Sto} {w : String} {ps : List (D × List Str)}
    (hp : ∀ p ∈ ps, (∀ ρ, eVar 2 ρ S = .ok p.1 S → eIf (eIsT .tuple (eVar 2)) (eCall G_sum_words (eCons (eVar 2) eNil)) (eLst (eCons (eCallB (f1 bStrT) (eCons (eVar 2) eNil)) eNil)) ρ S = .ok (.lst (p.2.map D.str)) S) ∧ p.2.length ≤ 1024) (h2 : ps.length ≤ 2) :
    F_row_words [.tup (.str (Str.ofString w) :: ps.map (·.1))] S = .ok (.lst ((Str.ofString w :: (ps.map (·.2)).flatten).map D.str)) S := by
  unfold F_row_words
  rw [fnB1]
  simp only [Nat.reduceSub, List.reduceReplicate, List.cons_append, List.nil_append]
  have hv : eVar 0 [some (D.tup (.str (Str.ofString w) :: ps.map (·.1))), none, none] S = .ok (.tup (.str (Str.ofString w) :: ps.map (·.1))) S := rfl
  refine f_set (d := .lst ([Str.ofString w].map D.str)) (S1 := S) (x_lst1 (x_ixk (k := 0) hv rfl)) ?_
  have fl : ∀ k, ((ps.take k).map (·.2)).flatten.length ≤ 2048 := fun k => by
    have : ∀ l : List (D × List Str), (∀ x ∈ l, x.2.length ≤ 1024) → (l.map (·.2)).flatten.length ≤ l.length * 1024 := by
      intro l
      induction l with
      | nil => intro _; simp
      | cons a l ih =>
        intro h
        rw [List.map_cons, List.flatten_cons, List.length_append, List.length_cons]
        have := h a List.mem_cons_self
        have := ih fun x hx => h x (List.mem_cons_of_mem _ hx)
        omega
    have h3 := this (ps.take k) fun x hxx => (hp x (List.mem_of_mem_take hxx)).2
    have : (ps.take k).length ≤ 2 := by rw [List.length_take]; omega
    have : (ps.take k).length * 1024 ≤ 2 * 1024 := Nat.mul_le_mul_right _ this
    omega
  refine f_for (f := fun p : D × List Str => p.1) (xs := ps) (S1 := S) (fun k ρ S' => S' = S ∧ ∃ o2, ρ = [some (D.tup (.str (Str.ofString w) :: ps.map (·.1))), some (.lst ((Str.ofString w :: ((ps.take k).map (·.2)).flatten).map D.str)), o2]) (it ?_) ⟨rfl, none, rfl⟩ ?_ ?_
  · rw [s_sl]
    show lift1 (some (D.tup (cutD (.str (Str.ofString w) :: ps.map (·.1)) (some 1) none))) S = _
    rw [cut_suf (by decide)]; rfl
  · rintro k x hk ρ S' ⟨rfl, o2, rfl⟩
    refine ⟨[some (D.tup (.str (Str.ofString w) :: ps.map (·.1))), some (.lst ((Str.ofString w :: ((ps.take k).map (·.2)).flatten).map D.str)), some x.1], rfl, ?_⟩
    have hm := List.mem_of_getElem? hk
    have e : ((ps.take (k + 1)).map (·.2)).flatten = ((ps.take k).map (·.2)).flatten ++ x.2 := by
      rw [List.take_succ, hk]; simp
    have := fl k
    have := (hp x hm).2
    refine n_set1 (d := .lst ((Str.ofString w :: ((ps.take (k + 1)).map (·.2)).flatten).map D.str)) (S1 := S') (x_op (x := .lst ((Str.ofString w :: ((ps.take k).map (·.2)).flatten).map D.str)) (y := .lst (x.2.map D.str)) rfl ((hp x hm).1 _ rfl) ?_) (nx_p ⟨rfl, _, rfl⟩)
    rw [add_strs (by rw [List.length_cons]; omega), e]; rfl
  rintro ρ S' ⟨rfl, o2, rfl⟩
  rw [List.take_length]
  exact f_ret (S1 := S') rfl rfl
theorem d_tup (a : Sm) : ∃ w l, a.d = .tup (.str w :: l) := by cases a <;> exact ⟨_, _, rfl⟩
theorem part_sum {S : Sto} {a : Sm} (ha : a.ok) (hd : a.dep < 10) : (∀ ρ, eVar 2 ρ S = .ok a.d S → eIf (eIsT .tuple (eVar 2)) (eCall G_sum_words (eCons (eVar 2) eNil)) (eLst (eCons (eCallB (f1 bStrT) (eCons (eVar 2) eNil)) eNil)) ρ S = .ok (.lst ((swM a).map D.str)) S) ∧ (swM a).length ≤ 1024 := by
  refine ⟨fun ρ h => ?_, sw_few hd⟩
  obtain ⟨w, l, e⟩ := d_tup a
  refine x_iteT (S1 := S) (x_ty (t := .tuple) h (by rw [e]; rfl)) (x_c1 h ?_)
  exact sum_words_law S 20 a ha (by omega) hd
theorem part_str {S : Sto} {s : Str} : (∀ ρ, eVar 2 ρ S = .ok (.str s) S → eIf (eIsT .tuple (eVar 2)) (eCall G_sum_words (eCons (eVar 2) eNil)) (eLst (eCons (eCallB (f1 bStrT) (eCons (eVar 2) eNil)) eNil)) ρ S = .ok (.lst ([s].map D.str)) S) ∧ [s].length ≤ 1024 :=
  ⟨fun ρ h => x_iteF (S1 := S) (x_ty (t := .str) h rfl) (x_lst1 (x_B1 (x := .str s) h rfl)), by show 1 ≤ 1024; decide⟩
theorem part_int {S : Sto} {k : Int} (hk : k.natAbs < 10 ^ 15) : (∀ ρ, eVar 2 ρ S = .ok (.int k) S → eIf (eIsT .tuple (eVar 2)) (eCall G_sum_words (eCons (eVar 2) eNil)) (eLst (eCons (eCallB (f1 bStrT) (eCons (eVar 2) eNil)) eNil)) ρ S = .ok (.lst ([nS k].map D.str)) S) ∧ [nS k].length ≤ 1024 :=
  ⟨fun ρ h => x_iteF (S1 := S) (x_ty (t := .int) h rfl) (x_lst1 (x_B1 (x := .int k) h (bstr_i hk))), by show 1 ≤ 1024; decide⟩
end Bt
namespace Bt
open PySem PySem.Spec PyProof.Rows L2 TL
theorem row_words_law (S : Sto) {n : Nat} (hn : n ≤ 1000) : ∀ r : Row, r.ok n → F_row_words [r.d] S = .ok (.lst ((rwM r).map D.str)) S
  | .set i a, h => by
    have := row_words_1 (S := S) (w := "set") (ps := [(.str (nmS i), [nmS i]), (a.d, swM a)]) (fun p hp => by
      simp only [List.mem_cons, List.not_mem_nil, or_false] at hp
      rcases hp with rfl | rfl
      · exact part_str
      · exact part_sum h.1 (by have := h.2; omega)) (by simp)
    simpa [rwM, Row.d] using this
  | .put a b, h => by
    have := row_words_1 (S := S) (w := "put") (ps := [(a.d, swM a), (b.d, swM b)]) (fun p hp => by
      simp only [List.mem_cons, List.not_mem_nil, or_false] at hp
      rcases hp with rfl | rfl
      · exact part_sum h.1.1 (by have := h.1.2; omega)
      · exact part_sum h.2.1 (by have := h.2.2; omega)) (by simp)
    simpa [rwM, Row.d] using this
  | .ask i, h => by
    have := row_words_1 (S := S) (w := "ask") (ps := [(.str (nmS i), [nmS i])]) (fun p hp => by
      rw [List.mem_singleton.mp hp]; exact part_str) (by simp)
    simpa [rwM, Row.d] using this
  | .say a, h => by
    have := row_words_1 (S := S) (w := "say") (ps := [(a.d, swM a)]) (fun p hp => by
      rw [List.mem_singleton.mp hp]; exact part_sum h.1 (by have := h.2; omega)) (by simp)
    simpa [rwM, Row.d] using this
  | .jump k, h => by
    have h : k ≤ n := h
    have := row_words_1 (S := S) (w := "jump") (ps := [(.int k, [nS k])]) (fun p hp => by
      rw [List.mem_singleton.mp hp]; exact part_int (by omega)) (by simp)
    simpa [rwM, Row.d] using this
  | .unless a k, h => by
    have h2 : k ≤ n := h.2
    have := row_words_1 (S := S) (w := "unless") (ps := [(a.d, swM a), (.int k, [nS k])]) (fun p hp => by
      simp only [List.mem_cons, List.not_mem_nil, or_false] at hp
      rcases hp with rfl | rfl
      · exact part_sum h.1.1 (by have := h.1.2; omega)
      · exact part_int (by omega)) (by simp)
    simpa [rwM, Row.d] using this
  | .call k, h => by
    have h : k ≤ n := h
    have := row_words_1 (S := S) (w := "call") (ps := [(.int k, [nS k])]) (fun p hp => by
      rw [List.mem_singleton.mp hp]; exact part_int (by omega)) (by simp)
    simpa [rwM, Row.d] using this
  | .back, h => by
    have := row_words_1 (S := S) (w := "back") (ps := []) (fun p hp => by cases hp) (by simp)
    simpa [rwM, Row.d] using this
  | .stop, h => by
    have := row_words_1 (S := S) (w := "stop") (ps := []) (fun p hp => by cases hp) (by simp)
    simpa [rwM, Row.d] using this
theorem rw_wd {n : Nat} (hn : n ≤ 1000) : ∀ {r : Row}, r.ok n → ∀ w ∈ rwM r, Wd w
  | .set i a, h, w, hw => by
    rcases List.mem_cons.mp hw with rfl | hw
    · exact wd_lit
    · rcases List.mem_cons.mp hw with rfl | hw
      · exact wd_nm i
      · exact sw_wd h.1 w hw
  | .put a b, h, w, hw => by
    rcases List.mem_cons.mp hw with rfl | hw
    · exact wd_lit
    · exact (List.mem_append.mp hw).elim (sw_wd h.1.1 w) (sw_wd h.2.1 w)
  | .ask i, h, w, hw => by
    rcases List.mem_cons.mp hw with rfl | hw
    · exact wd_lit
    · rw [List.mem_singleton.mp hw]; exact wd_nm i
  | .say a, h, w, hw => by
    rcases List.mem_cons.mp hw with rfl | hw
    · exact wd_lit
    · exact sw_wd h.1 w hw
  | .jump k, h, w, hw => by
    have h : k ≤ n := h
    rcases List.mem_cons.mp hw with rfl | hw
    · exact wd_lit
    · rw [List.mem_singleton.mp hw]; exact wd_nS (by omega) (by omega)
  | .unless a k, h, w, hw => by
    have h2 : k ≤ n := h.2
    rcases List.mem_cons.mp hw with rfl | hw
    · exact wd_lit
    · refine (List.mem_append.mp hw).elim (sw_wd h.1.1 w) fun hw => ?_
      rw [List.mem_singleton.mp hw]; exact wd_nS (by omega) (by omega)
  | .call k, h, w, hw => by
    have h : k ≤ n := h
    rcases List.mem_cons.mp hw with rfl | hw
    · exact wd_lit
    · rw [List.mem_singleton.mp hw]; exact wd_nS (by omega) (by omega)
  | .back, _, w, hw => by rw [List.mem_singleton.mp hw]; exact wd_lit
  | .stop, _, w, hw => by rw [List.mem_singleton.mp hw]; exact wd_lit
theorem rw_ne (r : Row) : rwM r ≠ [] := by cases r <;> simp [rwM]
theorem rw_few {n : Nat} {r : Row} (h : r.ok n) : (rwM r).length ≤ 2100 := by
  have f : ∀ {a : Sm}, a.dep < 9 → (swM a).length ≤ 1024 := fun h => sw_few (by omega)
  cases r with
  | set i a => have := f h.2; simp only [rwM, List.length_cons]; omega
  | put a b => have := f h.1.2; have := f h.2.2; simp only [rwM, List.length_cons, List.length_append]; omega
  | say a => have := f h.2; simp only [rwM, List.length_cons]; omega
  | «unless» a k => have := f h.1.2; simp only [rwM, List.length_cons, List.length_append, List.length_nil]; omega
  | _ => simp only [rwM, List.length_cons, List.length_nil]; omega
/-! ### joins of words -/
theorem x_join {fo fe : Ex} {ρ : Env} {S S1 S2 : Sto} {y : Str} {ws : List Str} (ho : fo ρ S = .ok (.str y) S1) (he : fe ρ S1 = .ok (.lst (ws.map D.str)) S2) (hl : (ws.map (·.length)).sum + ws.length * y.length ≤ 16777216) : eJoin fo fe ρ S = .ok (.str (Txt.join y ws)) S2 := by
  unfold eJoin
  rw [ho]
  show (fe ρ S1).bind _ = _
  rw [he]
  show (match strsOf (ws.map D.str) with | some ys => _ | none => _) = _
  rw [strsOf_map]
  exact if_pos hl
theorem sum_le {l : List Nat} {k : Nat} (h : ∀ x ∈ l, x ≤ k) : l.sum ≤ l.length * k := by
  induction l with
  | nil => simp
  | cons a l ih =>
    rw [List.sum_cons, List.length_cons, Nat.succ_mul]
    have := h a List.mem_cons_self
    have := ih fun x hx => h x (List.mem_cons_of_mem _ hx)
    omega
theorem wd_room {ws : List Str} {y : Str} {k : Nat} (h : ∀ w ∈ ws, w.length ≤ k) (hy : y.length ≤ 1) (hl : ws.length * (k + 1) ≤ 16777216) : (ws.map (·.length)).sum + ws.length * y.length ≤ 16777216 := by
  have h1 : (ws.map (·.length)).sum ≤ ws.length * k := by
    have := sum_le (l := ws.map (·.length)) (k := k) (by simpa using h)
    rwa [List.length_map] at this
  have h2 : ws.length * y.length ≤ ws.length * 1 := Nat.mul_le_mul_left _ hy
  have : ws.length * (k + 1) = ws.length * k + ws.length := by rw [Nat.mul_add]; omega
  omega
theorem len_join (y : Str) (hy : y.length ≤ 1) : ∀ (ws : List Str) (k : Nat), (∀ w ∈ ws, w.length ≤ k) → (Txt.join y ws).length ≤ ws.length * (k + 1) := by
  intro ws k h
  rw [join_eq]
  induction ws with
  | nil => exact Nat.zero_le _
  | cons a l ih =>
    have ha := h a List.mem_cons_self
    cases l with
    | nil =>
      show a.length ≤ (0 + 1) * (k + 1)
      omega
    | cons b r =>
      have e : Str.join y (a :: b :: r) = a ++ y ++ Str.join y (b :: r) := rfl
      have := ih fun x hx => h x (List.mem_cons_of_mem _ hx)
      rw [e, len_tl, tl_append, tl_append, List.length_append, List.length_append, ← len_tl, ← len_tl, ← len_tl]
      show _ ≤ ((b :: r).length + 1) * (k + 1)
      rw [Nat.succ_mul]; omega
end Bt
namespace Bt
open PySem PySem.Spec PyProof.Rows L2 TL
abbrev blank : Str := " "
abbrev feed : Str := "\n"
/-- a sum's, a row's, a program's text -/
noncomputable def stM (a : Sm) : Str := Txt.join blank (swM a)
noncomputable def rtM (r : Row) : Str := Txt.join blank (rwM r)
noncomputable def ptM (p : Prg) : Str := Txt.join "" (p.map fun r => rtM r ++ feed)
theorem blank_len : blank.length ≤ 1 := by decide
theorem rt_len {n : Nat} (hn : n ≤ 1000) {r : Row} (h : r.ok n) : (rtM r).length ≤ 23100 := by
  have h1 := len_join blank blank_len (rwM r) 10 fun w hw => (rw_wd hn h w hw).len
  have h2 := rw_few h
  have : (rwM r).length * 11 ≤ 2100 * 11 := Nat.mul_le_mul_right _ h2
  unfold rtM; omega
theorem add_feed {S : Sto} {x : Str} (h : x.length ≤ 23100) : opAdd S (.str x) (.str feed) = some (.str (x ++ feed)) := by
  rw [o_addS]
  exact if_pos (by show x.length + 1 ≤ 1000000; omega)
theorem written_sum_txt (S : Sto) {a : Sm} (ha : a.ok) (hd : a.dep < 10) : F_written_sum [a.d] S = .ok (.str (stM a)) S := by
  unfold F_written_sum
  rw [fnB1]
  simp only [Nat.reduceSub, List.reduceReplicate, List.cons_append, List.nil_append]
  refine f_ret (S1 := S) (x_join (y := blank) (ws := swM a) rfl (x_c1 (x := a.d) rfl (sum_words_law S 20 a ha (by omega) hd)) ?_) rfl
  refine wd_room (k := 10) (fun w hw => (sw_wd ha w hw).len) blank_len ?_
  have := sw_few hd
  omega
theorem written_txt (S : Sto) {p : Prg} (hp : PrgOk p) (h20 : p.length ≤ 600) : F_written [prgD p] S = .ok (.str (ptM p)) S := by
  unfold F_written
  rw [fnB1]
  simp only [Nat.reduceSub, List.reduceReplicate, List.cons_append, List.nil_append]
  have hn : p.length ≤ 1000 := hp.len
  have hl : ∀ r ∈ p, (rtM r ++ feed).length ≤ 23101 := fun r hr => by
    have := rt_len hn (hp.rows r hr)
    rw [len_tl, tl_append, List.length_append, ← len_tl, ← len_tl]
    show _ + 1 ≤ _
    omega
  refine f_ret (S1 := S) (x_join (y := "") (ws := p.map fun r => rtM r ++ feed) (S1 := S) rfl ?_ ?_) rfl
  · rw [List.map_map]
    refine comp_all (f := Row.d) (xs := p) (fun r => .str (rtM r ++ feed)) (it rfl) (fun r hr => ⟨[some (prgD p), some r.d], rfl, ?_⟩) (by show p.length ≤ 1000000; omega)
    refine x_op (x := .str (rtM r)) (y := .str feed) (S1 := S) (S2 := S) (x_join (y := blank) (ws := rwM r) (S1 := S) rfl (x_c1 (x := r.d) rfl (row_words_law S hn r (hp.rows r hr))) (wd_room (k := 10) (fun w hw => (rw_wd hn (hp.rows r hr) w hw).len) blank_len (by have := rw_few (hp.rows r hr); omega))) rfl (add_feed (rt_len hn (hp.rows r hr)))
  · refine wd_room (k := 23101) (fun w hw => ?_) (by decide) (by rw [List.length_map]; omega)
    obtain ⟨r, hr, rfl⟩ := List.mem_map.mp hw
    exact hl r hr
end Bt
namespace Bt
open PySem PySem.Spec PyProof.Rows L2 TL
/-! ### reading: the words still to be read -/
abbrev wF (n : Nat) : List (Str × FV) := [("left", .d (.obj (n + 1)))]
abbrev wdO (n : Nat) : AObj := .inst "Words" (wF n)
def WS (T : Sto) (ws : List Str) : Sto := T ++ [wdO T.length, .list (ws.reverse.map D.str)]
section
variable {T : Sto} {ws vs : List Str} {ρ : Env} {fo fa : Ex} {w : Str}
theorem ws_0 : (WS T ws)[T.length]? = some (wdO T.length) := by
  unfold WS; rw [List.getElem?_append_right (Nat.le_refl _), Nat.sub_self]; rfl
theorem ws_1 : (WS T ws)[T.length + 1]? = some (.list (ws.reverse.map D.str)) := by
  unfold WS; rw [List.getElem?_append_right (by omega), Nat.add_sub_cancel_left]; rfl
theorem ws_set : (WS T ws).set (T.length + 1) (.list (vs.reverse.map D.str)) = WS T vs := by
  unfold WS; rw [List.set_append_right _ _ (by omega), Nat.add_sub_cancel_left]; rfl
theorem ws_take : (WS T ws).take T.length = T := by unfold WS; rw [List.take_left]
theorem w_rd : rdAt "Words" (WS T ws) (.obj T.length) = some (wF T.length) := by
  unfold rdAt; simp only [ws_0, if_true]
theorem w_left (ho : fo ρ (WS T ws) = .ok (.obj T.length) (WS T ws)) : eFld "Words" "left" fo ρ (WS T ws) = .ok (.obj (T.length + 1)) (WS T ws) := by
  rw [s_fld, ho]
  simp only [ER.bind_ok, w_rd]
  rfl
theorem w_m0 {m : Str} {F : Fn} {r : ER} (ho : fo ρ (WS T ws) = .ok (.obj T.length) (WS T ws)) (hm : getF m (wF T.length) = none) (h : F [.obj T.length] (WS T ws) = r) : eMCall "Words" m F fo eNil ρ (WS T ws) = r := by
  rw [s_mcall, ho]
  simp only [ER.bind_ok, w_rd, hm]
  exact h
theorem w_m1 {m : Str} {F : Fn} {r : ER} {y : D} {S2 : Sto} (ho : fo ρ (WS T ws) = .ok (.obj T.length) (WS T ws)) (hm : getF m (wF T.length) = none) (ha : fa ρ (WS T ws) = .ok y S2) (h : F [.obj T.length, y] S2 = r) : eMCall "Words" m F fo (eCons fa eNil) ρ (WS T ws) = r := by
  rw [s_mcall, ho]
  simp only [ER.bind_ok, w_rd, hm, s_cons, ha, s_nil]
  exact h
theorem w_pop (h : fo ρ (WS T (w :: ws)) = .ok (.obj (T.length + 1)) (WS T (w :: ws))) : ePop fo ρ (WS T (w :: ws)) = .ok (.str w) (WS T ws) := by
  unfold ePop
  rw [h]
  have e : ((w :: ws).reverse.map D.str) = ws.reverse.map D.str ++ [.str w] := by simp
  simp only [ER.bind_ok, ws_1]
  rw [e]
  have e2 : (ws.reverse.map D.str ++ [D.str w])[(ws.reverse.map D.str ++ [D.str w]).length - 1]? = some (D.str w) := by simp
  simp only [e2, List.dropLast_concat]
  rw [ws_set]
theorem strs_gd (h : ∀ w ∈ ws, PyData.strOk w = true) : (D.lst (ws.map D.str)).good = true := (gd_lst (n := 0) fun d hd => by
  obtain ⟨i, hi, rfl⟩ := List.mem_map.mp hd
  exact ⟨h i hi, Nat.zero_le _⟩).good
theorem eqv_nil : ∀ l : List D, D.eqv (.lst l) (.lst []) = decide (l = [])
  | [] => rfl
  | a :: l => rfl
theorem ws_eq (h : ∀ w ∈ ws, PyData.strOk w = true) : opEqS (WS T ws) (.obj (T.length + 1)) (.lst []) = some (.bl (decide (ws = []))) := by
  have e : unO (WS T ws) (.obj (T.length + 1)) = .lst (ws.reverse.map D.str) := by unfold unO; simp only [ws_1]
  unfold opEqS
  rw [e]
  show opEq _ (.lst (ws.reverse.map D.str)) (.lst []) = _
  unfold opEq
  rw [strs_gd (fun w hw => h w (List.mem_reverse.mp hw)), eqv_nil]
  show some (D.bl _) = _
  congr 2
  simp
theorem ws_ne (h : ∀ w ∈ ws, PyData.strOk w = true) : opNeS (WS T ws) (.obj (T.length + 1)) (.lst []) = some (.bl (!decide (ws = []))) := by
  have e : unO (WS T ws) (.obj (T.length + 1)) = .lst (ws.reverse.map D.str) := by unfold unO; simp only [ws_1]
  unfold opNeS
  rw [e]
  show opNe _ (.lst (ws.reverse.map D.str)) (.lst []) = _
  unfold opNe
  rw [strs_gd (fun w hw => h w (List.mem_reverse.mp hw)), eqv_nil]
  show some (D.bl _) = _
  congr 3
  simp
theorem ws_last : opIx (WS T (w :: ws)) (.obj (T.length + 1)) (.int (-1)) = some (.str w) := by
  have e : ((w :: ws).reverse.map D.str) = ws.reverse.map D.str ++ [.str w] := by simp
  show (match seqOf (WS T (w :: ws)) (.obj (T.length + 1)) with | some l => atI l (-1) | none => none) = _
  have e2 : seqOf (WS T (w :: ws)) (.obj (T.length + 1)) = some ((w :: ws).reverse.map D.str) := by unfold seqOf; simp only [ws_1]
  rw [e2, e]
  simp only
  unfold atI ixN
  rw [if_neg (by decide), if_pos (by rw [List.length_append]; show -(((ws.reverse.map D.str).length + 1 : Nat) : Int) ≤ -1; omega)]
  show (ws.reverse.map D.str ++ [D.str w])[((-1 : Int) + ((ws.reverse.map D.str ++ [D.str w]).length : Int)).toNat]? = _
  have e3 : ((-1 : Int) + ((ws.reverse.map D.str ++ [D.str w]).length : Int)).toNat = (ws.reverse.map D.str).length := by rw [List.length_append]; simp; omega
  rw [e3]; simp
end
structure WsOk (ws : List Str) : Prop where
  wd : ∀ w ∈ ws, Wd w
theorem WsOk.so {ws : List Str} (h : WsOk ws) : ∀ w ∈ ws, PyData.strOk w = true := fun w hw => (h.wd w hw).ok
end Bt
namespace Bt
open PySem PySem.Spec PyProof.Rows L2 TL
def digs : List Nat := [48, 49, 50, 51, 52, 53, 54, 55, 56, 57]
theorem in_figs {S : Sto} {c : Nat} : opIn S (.str ⟨#[c]⟩) c_FIGURES = some (.bl (decide (c ∈ digs))) := rfl
theorem numL_dig {n c : Nat} (h : c ∈ numL n) : c ∈ digs := by
  have := numL_digits n c h
  have h1 : 48 ≤ c ∧ c ≤ 57 := this
  have : c = 48 ∨ c = 49 ∨ c = 50 ∨ c = 51 ∨ c = 52 ∨ c = 53 ∨ c = 54 ∨ c = 55 ∨ c = 56 ∨ c = 57 := by omega
  rcases this with rfl | rfl | rfl | rfl | rfl | rfl | rfl | rfl | rfl | rfl <;> decide
end Bt
namespace Bt
open PySem PySem.Spec PyProof.Rows L2 TL
theorem WsOk.app {l ws : List Str} (h : WsOk (l ++ ws)) : WsOk ws := ⟨fun w hw => h.wd w (List.mem_append_right _ hw)⟩
theorem WsOk.tail {w : Str} {ws : List Str} (h : WsOk (w :: ws)) : WsOk ws := ⟨fun x hx => h.wd x (List.mem_cons_of_mem _ hx)⟩
theorem cut_first {w : Str} {c : Nat} {r : List Nat} (h : tl w = c :: r) : cutS w none (some 1) = ⟨#[c]⟩ := by
  refine ext_tl ?_
  show (w.cps.toList.drop (HT.sIx w.length 0 none)).take (HT.sIx w.length w.length (some 1) - HT.sIx w.length 0 none) = [c]
  have hl : w.length = (c :: r).length := by rw [len_tl, h]
  have e1 : HT.sIx w.length 0 none = 0 := rfl
  have e2 : HT.sIx w.length w.length (some 1) = 1 := by
    have := HT.sIx_nat w.length w.length 1
    rw [hl] at this ⊢
    rw [show ((1 : Int)) = ((1 : Nat) : Int) from rfl, this]
    show min 1 (r.length + 1) = 1
    omega
  rw [e1, e2]
  show (tl w).take 1 = [c]
  rw [h]; rfl
noncomputable def fstE : Ex := eSl (eOp opIx (eFld "Words" "left" (eVar 0)) (eUn opNeg (eC (.int 1)))) eNo (eInt (eC (.int 1)))
theorem str1_ok {w : Str} {c : Nat} {r : List Nat} (h : PyData.strOk w = true) (hc : tl w = c :: r) : PyData.strOk ⟨#[c]⟩ = true := by
  have h1 : w.cps = (c :: r).toArray := by
    apply Array.ext'
    rw [show w.cps.toList = c :: r from hc]
  unfold PyData.strOk at h ⊢
  rw [h1] at h
  simp at h ⊢
  first | exact h.1 | exact h
theorem x_tup3' {ρ : Env} {S S1 S2 S3 : Sto} {fa fb fc : Ex} {x y z : D} (ha : fa ρ S = .ok x S1) (hb : fb ρ S1 = .ok y S2) (hc : fc ρ S2 = .ok z S3) : eTup (eCons fa (eCons fb (eCons fc eNil))) ρ S = .ok (.tup [x, y, z]) S3 := by
  simp only [s_tup, s_cons, s_nil, ha, hb, hc, ER.bind_ok]; rfl
end Bt
namespace Bt
open PySem PySem.Spec PyProof.Rows L2 TL
theorem left_two {f l : Nat} {w : Str} (hw : w ∈ words4) (a b : Sm) (ia : ∀ l, (swM a).length ≤ l → leftM f l a.d = some (l - (swM a).length)) (ib : ∀ l, (swM b).length ≤ l → leftM f l b.d = some (l - (swM b).length))
    (hl : (w :: (swM a ++ swM b)).length ≤ l) : leftM (f + 1) l (.tup [.str w, a.d, b.d]) = some (l - (w :: (swM a ++ swM b)).length) := by
  rw [List.length_cons, List.length_append] at hl ⊢
  cases l with
  | zero => omega
  | succ l =>
    show (if w ∈ words4 then (match leftM f l a.d with
      | some r => leftM f r b.d
      | none => none) else none) = _
    rw [if_pos hw, ia l (by omega)]
    show leftM f (l - (swM a).length) b.d = _
    rw [ib _ (by omega)]
    congr 1
    omega
theorem left_sm : ∀ (f : Nat) (a : Sm) (l : Nat), a.ok → a.dep < f → (swM a).length ≤ l → leftM f l a.d = some (l - (swM a).length)
  | 0, _, _, _, h, _ => by omega
  | f + 1, .num k, l, ha, _, hl => by
    cases l with
    | zero => exact absurd hl (by show ¬ 1 ≤ 0; omega)
    | succ l =>
      show (if ("num" : Str) = "num" then (if worthD (.int k) then some l else none) else _) = some (l + 1 - 1)
      have : worthD (.int k) = true := decide_eq_true ⟨ha.1, ha.2⟩
      rw [if_pos rfl, if_pos this]
      rfl
  | f + 1, .name i, l, ha, _, hl => by
    cases l with
    | zero => exact absurd hl (by show ¬ 1 ≤ 0; omega)
    | succ l =>
      have : nameD (.str (nmS i)) = true := (by decide : ∀ i : Fin 6, nameD (.str (nmS i)) = true) i
      show (if ("name" : Str) = "num" then _ else if ("name" : Str) = "name" then (if nameD (.str (nmS i)) then some l else none) else _) = some (l + 1 - 1)
      rw [if_neg (by decide), if_pos rfl, if_pos this]
      rfl
  | f + 1, .cell a, l, ha, hf, hl => by
    have hf : a.dep + 1 < f + 1 := hf
    have hl : (swM a).length + 1 ≤ l := hl
    cases l with
    | zero => omega
    | succ l =>
      show (if ("cell" : Str) = "num" then _ else if ("cell" : Str) = "name" then _ else if ("cell" : Str) = "cell" then leftM f l a.d else none) = some (l + 1 - ((swM a).length + 1))
      rw [if_neg (by decide), if_neg (by decide), if_pos rfl, left_sm f a l ha (by omega) (by omega)]
      congr 1
      omega
  | f + 1, .add a b, l, ha, hf, hl => by
    have hf : max a.dep b.dep + 1 < f + 1 := hf
    exact left_two (by decide) a b (fun l => left_sm f a l ha.1 (by omega)) (fun l => left_sm f b l ha.2 (by omega)) hl
  | f + 1, .sub a b, l, ha, hf, hl => by
    have hf : max a.dep b.dep + 1 < f + 1 := hf
    exact left_two (by decide) a b (fun l => left_sm f a l ha.1 (by omega)) (fun l => left_sm f b l ha.2 (by omega)) hl
  | f + 1, .mul a b, l, ha, hf, hl => by
    have hf : max a.dep b.dep + 1 < f + 1 := hf
    exact left_two (by decide) a b (fun l => left_sm f a l ha.1 (by omega)) (fun l => left_sm f b l ha.2 (by omega)) hl
  | f + 1, .less a b, l, ha, hf, hl => by
    have hf : max a.dep b.dep + 1 < f + 1 := hf
    exact left_two (by decide) a b (fun l => left_sm f a l ha.1 (by omega)) (fun l => left_sm f b l ha.2 (by omega)) hl
theorem nc_lit {n : Nat} {s : String} (h : (Str.ofString s).length ≤ 1000) : Nc n (.str (Str.ofString s)) := by cases n <;> exact ⟨strOk_of s, h⟩
theorem nc_nm {n : Nat} {i : Fin 6} : Nc n (.str (nmS i)) := by
  have := (wd_nm i).len
  cases n <;> exact ⟨(wd_nm i).ok, by omega⟩
theorem nc_int {n : Nat} {k : Int} : Nc n (.int k) := by cases n <;> trivial
theorem nc_t2 {n : Nat} {x y : D} (hx : Nc n x) (hy : Nc n y) : Nc (n + 1) (.tup [x, y]) := ⟨by show 2 ≤ 1000; decide, fun d hd => by
  simp only [List.mem_cons, List.not_mem_nil, or_false] at hd
  rcases hd with rfl | rfl
  · exact hx
  · exact hy⟩
theorem nc_t3 {n : Nat} {x y z : D} (hx : Nc n x) (hy : Nc n y) (hz : Nc n z) : Nc (n + 1) (.tup [x, y, z]) := ⟨by show 3 ≤ 1000; decide, fun d hd => by
  simp only [List.mem_cons, List.not_mem_nil, or_false] at hd
  rcases hd with rfl | rfl | rfl
  · exact hx
  · exact hy
  · exact hz⟩
theorem nc_sm : ∀ a : Sm, Nc (a.dep + 1) a.d
  | .num k => nc_t2 (nc_lit (by decide)) nc_int
  | .name i => nc_t2 (nc_lit (by decide)) nc_nm
  | .cell a => nc_t2 (nc_lit (by decide)) (nc_sm a)
  | .add a b => nc_t3 (nc_lit (by decide)) ((nc_sm a).mono (Nat.succ_le_succ (Nat.le_max_left _ _))) ((nc_sm b).mono (Nat.succ_le_succ (Nat.le_max_right _ _)))
  | .sub a b => nc_t3 (nc_lit (by decide)) ((nc_sm a).mono (Nat.succ_le_succ (Nat.le_max_left _ _))) ((nc_sm b).mono (Nat.succ_le_succ (Nat.le_max_right _ _)))
  | .mul a b => nc_t3 (nc_lit (by decide)) ((nc_sm a).mono (Nat.succ_le_succ (Nat.le_max_left _ _))) ((nc_sm b).mono (Nat.succ_le_succ (Nat.le_max_right _ _)))
  | .less a b => nc_t3 (nc_lit (by decide)) ((nc_sm a).mono (Nat.succ_le_succ (Nat.le_max_left _ _))) ((nc_sm b).mono (Nat.succ_le_succ (Nat.le_max_right _ _)))
/-- rows whose sums are three deep at most -/
def Row.few : Row → Prop
  | .set _ a => a.dep ≤ 3
  | .put a b => a.dep ≤ 3 ∧ b.dep ≤ 3
  | .say a => a.dep ≤ 3
  | .unless a _ => a.dep ≤ 3
  | _ => True
theorem name_t (i : Fin 6) : nameD (.str (nmS i)) = true := (by decide : ∀ i : Fin 6, nameD (.str (nmS i)) = true) i
theorem place_t {k n : Nat} (h : k ≤ n) : placeD n (.int k) = true := decide_eq_true ⟨by omega, by omega⟩
theorem rowT_2 {n : Nat} {w : Str} {x y : D} : rowT n (.tup [.str w, x, y]) = if w ∈ words2 then decide ([x, y].length = 0) else if w ∈ wordsO then rowO n w [x, y] else row2 n w x y := rfl
theorem rowT_1 {n : Nat} {w : Str} {x : D} : rowT n (.tup [.str w, x]) = if w ∈ words2 then decide ([x].length = 0) else if w ∈ wordsO then row1 n w x else rowW n w [x] := rfl
end Bt
namespace Bt
open PySem PySem.Spec PyProof.Rows L2 TL
theorem split_words {ws : List Str} (hne : ws ≠ []) (h : WsOk ws) : Txt.split (Txt.join blank ws) blank = ws := split_join (s := 32) (S := []) rfl (by rw [← Array.all_toList]; rfl) hne fun p hp => (h.wd p hp).sp
theorem opNe_str {S : Sto} {a b : Str} (ha : PyData.strOk a = true) (hb : PyData.strOk b = true) : opNe S (.str a) (.str b) = some (.bl (!decide (a = b))) := by
  have g : ∀ {x : Str}, PyData.strOk x = true → (D.str x).good = true := fun hx => by unfold D.good D.wf D.dep; rw [hx]; rfl
  unfold opNe
  rw [g ha, g hb, eqv_str]; rfl
theorem sm_pure : ∀ a : Sm, a.d.pure = true
  | .num k => rfl
  | .name i => rfl
  | .cell a => by show (true && (a.d.pure && true)) = true; rw [sm_pure a]; rfl
  | .add a b => by show (true && (a.d.pure && (b.d.pure && true))) = true; rw [sm_pure a, sm_pure b]; rfl
  | .sub a b => by show (true && (a.d.pure && (b.d.pure && true))) = true; rw [sm_pure a, sm_pure b]; rfl
  | .mul a b => by show (true && (a.d.pure && (b.d.pure && true))) = true; rw [sm_pure a, sm_pure b]; rfl
  | .less a b => by show (true && (a.d.pure && (b.d.pure && true))) = true; rw [sm_pure a, sm_pure b]; rfl
end Bt
namespace Bt
open PySem PySem.Spec PyProof.Rows L2 TL
theorem so_iff {x : Str} : PyData.strOk x = true ↔ ∀ c ∈ tl x, c < 1114112 := by
  unfold PyData.strOk
  rw [← Array.all_toList, List.all_eq_true]
  simp only [decide_eq_true_eq]
theorem so_joinL {S : List Nat} (hS : ∀ c ∈ S, c < 1114112) : ∀ ps : List (List Nat), (∀ p ∈ ps, ∀ c ∈ p, c < 1114112) → ∀ c ∈ joinL S ps, c < 1114112
  | [], _, c, hc => by cases hc
  | [p], h, c, hc => h p (by simp) c hc
  | p :: q :: r, h, c, hc => by
    have hc : c ∈ p ++ (S ++ joinL S (q :: r)) := hc
    rcases List.mem_append.mp hc with hc | hc
    · exact h p (by simp) c hc
    · rcases List.mem_append.mp hc with hc | hc
      · exact hS c hc
      · exact so_joinL hS (q :: r) (fun x hx => h x (List.mem_cons_of_mem _ hx)) c hc
theorem so_join {y : Str} {ws : List Str} (hy : PyData.strOk y = true) (h : ∀ w ∈ ws, PyData.strOk w = true) : PyData.strOk (Txt.join y ws) = true := by
  rw [so_iff, join_eq, tl_join]
  refine so_joinL (so_iff.mp hy) _ fun p hp => ?_
  obtain ⟨w, hw, rfl⟩ := List.mem_map.mp hp
  exact so_iff.mp (h w hw)
theorem so_blank : PyData.strOk blank = true := strOk_of _
theorem so_feed : PyData.strOk feed = true := strOk_of _
theorem ok_sw {a : Sm} (ha : a.ok) : WsOk (swM a) := ⟨sw_wd ha⟩
theorem ok_rw {n : Nat} (hn : n ≤ 1000) {r : Row} (h : r.ok n) : WsOk (rwM r) := ⟨rw_wd hn h⟩
theorem so_st {a : Sm} (ha : a.ok) : PyData.strOk (stM a) = true := so_join so_blank (ok_sw ha).so
theorem ws_nil : WsOk [] := ⟨fun w hw => by cases hw⟩
end Bt
namespace Bt
open PySem PySem.Spec PyProof.Rows L2 TL
noncomputable def partX : Ex := eMCall "Words" "part" G_Words_part (eVar 1) (eCons (eVar 4) eNil)
end Bt
namespace Bt
open PySem PySem.Spec PyProof.Rows L2 TL
/-! ### words that may be anything: the program's reading -/
structure WsG (ws : List Str) : Prop where
  wd : ∀ w ∈ ws, PyData.strOk w = true ∧ w.length ≤ 640
theorem WsG.so {ws : List Str} (h : WsG ws) : ∀ w ∈ ws, PyData.strOk w = true := fun w hw => (h.wd w hw).1
theorem WsG.tail {w : Str} {ws : List Str} (h : WsG (w :: ws)) : WsG ws := ⟨fun x hx => h.wd x (List.mem_cons_of_mem _ hx)⟩
theorem WsG.hd {w : Str} {ws : List Str} (h : WsG (w :: ws)) : PyData.strOk w = true ∧ w.length ≤ 640 := h.wd w List.mem_cons_self
def isDig (w : Str) : Bool := (tl w).all fun c => decide (c ∈ digs)
def intV (w : Str) : Int := (intText? w).getD 0
theorem dig_iff {c : Nat} : c ∈ digs ↔ 48 ≤ c ∧ c ≤ 57 := by
  constructor
  · intro h
    simp only [digs, List.mem_cons, List.not_mem_nil, or_false] at h
    omega
  · intro h
    have : c = 48 ∨ c = 49 ∨ c = 50 ∨ c = 51 ∨ c = 52 ∨ c = 53 ∨ c = 54 ∨ c = 55 ∨ c = 56 ∨ c = 57 := by omega
    rcases this with rfl | rfl | rfl | rfl | rfl | rfl | rfl | rfl | rfl | rfl <;> decide
theorem isDig_all {w : Str} (h : isDig w = true) : NumText.AllDigits w.cps.toList := fun c hc => dig_iff.mp (of_decide_eq_true (List.all_eq_true.mp h c hc))
theorem int_dig {S : Sto} {w : Str} (h : isDig w = true) (hne : tl w ≠ []) (hl : w.length ≤ 640) : bIntS S (.str w) = some (.int (intV w)) := by
  have e := PySem.intText_digits (isDig_all h) hne (by omega)
  show (if w.length ≤ 640 then (match intText? w with | some n => some (D.int n) | none => none) else none) = _
  rw [if_pos hl]
  unfold intV
  rw [e]; rfl
theorem intV_nS {n : Nat} (h : n < 100000) : intV (nS (n : Int)) = (n : Int) := by
  have hl : (numL n).length ≤ 5 := numL_len (by decide) (by omega)
  unfold intV
  rw [show intText? (nS (n : Int)) = some (n : Int) from int_num (by omega)]; rfl
theorem isDig_nS (n : Nat) : isDig (nS (n : Int)) = true := by
  unfold isDig
  rw [show tl (nS (n : Int)) = numL n from tl_nS (k := (n : Int)) (by omega)]
  exact List.all_eq_true.mpr fun c hc => decide_eq_true (numL_dig hc)
theorem f_raise {k : Exc} {g : Sx} {ρ : Env} {S : Sto} : (sSeq (sRaise k) g ρ S).toE = .exc k S := rfl
theorem wordX (T : Sto) : ∀ ws : List Str, WsG ws → F_Words_word [.obj T.length] (WS T ws) = match ws with | w :: r => .ok (.str w) (WS T r) | [] => .exc .text (WS T [])
  | [], h => by
    unfold F_Words_word
    rw [fnB1]
    simp only [Nat.reduceSub, List.reduceReplicate, List.cons_append, List.nil_append]
    exact f_ifT (bb := true) (S1 := WS T []) (x_op (x := .obj (T.length + 1)) (y := .lst []) (w_left rfl) rfl (by rw [ws_eq h.so]; rfl)) rfl f_raise
  | w :: r, h => by
    unfold F_Words_word
    rw [fnB1]
    simp only [Nat.reduceSub, List.reduceReplicate, List.cons_append, List.nil_append]
    refine f_if (bb := false) (S1 := WS T (w :: r)) (x_op (x := .obj (T.length + 1)) (y := .lst []) (w_left rfl) rfl (by rw [ws_eq h.so]; rfl)) rfl ?_
    exact f_ret (S1 := WS T r) (w_pop (w_left rfl)) rfl
def prN (w : Str) : Bool := decide (1 ≤ (w.length : Int) ∧ (w.length : Int) ≤ 5) && isDig w
theorem prN_ne {w : Str} (h : prN w = true) : tl w ≠ [] := fun e => by
  have h1 := of_decide_eq_true (Bool.and_eq_true_iff.mp h).1
  rw [len_tl, e] at h1
  exact absurd h1.1 (by decide)
theorem numberX (T : Sto) : ∀ ws : List Str, WsG ws → F_Words_number [.obj T.length] (WS T ws) = match ws with | w :: r => (if prN w then .ok (.int (intV w)) (WS T r) else .exc .text (WS T r)) | [] => .exc .text (WS T [])
  | [], h => by
    unfold F_Words_number
    rw [fnB1]
    simp only [Nat.reduceSub, List.reduceReplicate, List.cons_append, List.nil_append]
    exact f_setX (w_m0 rfl rfl (wordX T [] h)) rfl
  | w :: r, h => by
    obtain ⟨hso, hl⟩ := h.hd
    unfold F_Words_number
    rw [fnB1]
    simp only [Nat.reduceSub, List.reduceReplicate, List.cons_append, List.nil_append]
    refine f_set (d := .str w) (S1 := WS T r) (w_m0 rfl rfl (wordX T (w :: r) h)) ?_
    have c1 : eNot (eChain opLe opLe (eC (.int 1)) (eCallB (f1 bLen) (eCons (eVar 1) eNil)) (eC (.int 5))) [some (D.obj T.length), some (.str w), none] (WS T r) = .ok (.bl (!decide (1 ≤ (w.length : Int) ∧ (w.length : Int) ≤ 5))) (WS T r) :=
      x_not (x_chLL (i := 1) (j := (w.length : Nat)) (k := 5) rfl (x_B1 (x := .str w) rfl (by
        show (if w.length ≤ lim then some (D.int w.length) else none) = _
        rw [if_pos (by show _ ≤ 1000000; omega)])) rfl)
    have c2 : eNot (eCallB (f1 bAll) (eCons (eComp [2] (iStrE (eVar 1)) (dN 2) eYes (eOp opIn (eVar 2) (eC c_FIGURES))) eNil)) [some (D.obj T.length), some (.str w), none] (WS T r) = .ok (.bl (!isDig w)) (WS T r) := by
      refine x_not (x_B1 (x := .lst (((tl w).map fun c => decide (c ∈ digs)).map D.bl)) ?_ ?_)
      · have := comp_all (ρ := [some (D.obj T.length), some (.str w), none]) (S := WS T r) (S1 := WS T r) (fi := iStrE (eVar 1)) (tg := dN 2) (vs := [2]) (fe := eOp opIn (eVar 2) (eC c_FIGURES)) (f := fun c : Nat => D.str ⟨#[c]⟩) (xs := tl w) (fun c => .bl (decide (c ∈ digs))) (by
          show ER.ok (.tup ((signs w).map D.str)) (WS T r) = _
          unfold signs
          rw [List.map_map]; rfl) (fun c hc => ⟨[some (D.obj T.length), some (.str w), some (.str ⟨#[c]⟩)], rfl, x_op (x := .str ⟨#[c]⟩) (y := c_FIGURES) rfl rfl in_figs⟩) (by rw [← len_tl]; show _ ≤ 1000000; omega)
        rw [List.map_map]
        exact this
      · rw [all_bls]
        unfold isDig
        rw [List.all_map]; rfl
    have cc := x_or c1 fun _ => c2
    rw [← Bool.not_and] at cc
    show _ = if prN w = true then _ else _
    by_cases hp : prN w = true
    · rw [if_pos hp]
      refine f_if (S1 := WS T r) cc (by show (!prN w) = false; rw [hp]; rfl) ?_
      exact f_ret (d := .int (intV w)) (S1 := WS T r) (x_B1 (x := .str w) rfl (int_dig (Bool.and_eq_true_iff.mp hp).2 (prN_ne hp) hl)) rfl
    · rw [if_neg hp]
      exact f_ifT (S1 := WS T r) cc (by show (!prN w) = true; rw [Bool.eq_false_iff.mpr hp]; rfl) f_raise
def fstDig (w : Str) : Bool := match tl w with
  | c :: _ => decide (c ∈ digs)
  | [] => false
section
variable {T : Sto} {w : Str} {ws : List Str} {o1 o2 o3 : Option D}
theorem fst_runX {x : Str} (hl : w.length ≤ 640) (h : cutS w none (some 1) = x) : fstE [some (.obj T.length), o1, o2, o3] (WS T (w :: ws)) = .ok (.str x) (WS T (w :: ws)) := by
  unfold fstE
  have e : eOp opIx (eFld "Words" "left" (eVar 0)) (eUn opNeg (eC (.int 1))) [some (.obj T.length), o1, o2, o3] (WS T (w :: ws)) = .ok (.str w) (WS T (w :: ws)) := x_op (x := .obj (T.length + 1)) (y := .int (-1)) (w_left rfl) rfl ws_last
  rw [s_sl, e]
  show lift1 (opSl (.str w) none (some 1)) (WS T (w :: ws)) = _
  show lift1 (if w.length ≤ lim then some (D.str (cutS w none (some 1))) else none) _ = _
  rw [if_pos (by show _ ≤ 1000000; omega), h]; rfl
theorem fst_condX (hs : PyData.strOk w = true) (hl : w.length ≤ 640) : eAnd (eOp opNe fstE (eC (.str ""))) (eOp opIn fstE (eC c_FIGURES)) [some (.obj T.length), o1, o2, o3] (WS T (w :: ws)) = .ok (.bl (fstDig w)) (WS T (w :: ws)) := by
  cases e : tl w with
  | nil =>
    have ew : w = ("" : Str) := ext_tl (by rw [e]; rfl)
    have e1 : fstDig w = false := by unfold fstDig; rw [e]
    rw [e1]
    have h1 : opNe (WS T (w :: ws)) (.str ("" : Str)) (.str "") = some (.bl false) := by rw [opNe_str (strOk_of _) (strOk_of _)]; simp
    exact x_and (x := false) (y := false) (x_op (x := .str ("" : Str)) (y := .str "") (fst_runX hl (by rw [ew]; rfl)) rfl h1) fun z => by cases z
  | cons c r =>
    have e1 : fstDig w = decide (c ∈ digs) := by unfold fstDig; rw [e]
    rw [e1]
    have hcs : PyData.strOk ⟨#[c]⟩ = true := str1_ok hs e
    have h1 : opNe (WS T (w :: ws)) (.str ⟨#[c]⟩) (.str "") = some (.bl true) := by
      have g1 : (D.str ⟨#[c]⟩).good = true := by unfold D.good D.wf D.dep; rw [hcs]; rfl
      unfold opNe
      rw [g1, good_str, eqv_str]
      show some (D.bl _) = _
      congr 1
    exact x_and (x := true) (y := decide (c ∈ digs)) (x_op (x := .str ⟨#[c]⟩) (y := .str "") (fst_runX hl (cut_first e)) rfl h1) fun _ => x_op (x := .str ⟨#[c]⟩) (y := c_FIGURES) (fst_runX hl (cut_first e)) rfl in_figs
end
/-! ### a sum out of words -/
def prS : Nat → List Str → Option (D × List Str)
  | 0, _ => none
  | _ + 1, [] => none
  | n + 1, w :: ws => if fstDig w then (if prN w then some (.tup [.str "num", .int (intV w)], ws) else none)
    else if w = "cell" then (match prS n ws with
      | some (d, r) => some (.tup [.str "cell", d], r)
      | none => none)
    else if w ∈ words4 then (match prS n ws with
      | some (d, r) => (match prS n r with
        | some (e, r2) => some (.tup [.str w, d, e], r2)
        | none => none)
      | none => none)
    else some (.tup [.str "name", .str w], ws)
/-- what a reading does -/
def Rds (T : Sto) (o : Option (D × List Str)) (q : ER) : Prop := match o with
  | some (d, r) => q = .ok d (WS T r) ∧ WsG r
  | none => ∃ r, q = .exc .text (WS T r)
section
variable {ρ : Env} {S S1 S2 : Sto} {k : Exc} {x y : D} {fa fb fc : Ex}
theorem x_tupX2 (ha : fa ρ S = .ok x S1) (hb : fb ρ S1 = .exc k S2) : eTup (eCons fa (eCons fb eNil)) ρ S = .exc k S2 := by
  simp only [s_tup, s_cons, s_nil, ha, hb, ER.bind_ok, ER.bind_exc]
theorem x_tupX3 (ha : fa ρ S = .ok x S1) (hb : fb ρ S1 = .ok y S1) (hc : fc ρ S1 = .exc k S2) : eTup (eCons fa (eCons fb (eCons fc eNil))) ρ S = .exc k S2 := by
  simp only [s_tup, s_cons, s_nil, ha, hb, hc, ER.bind_ok, ER.bind_exc]
end
/-- .. behind statements -/
def RdQ (T : Sto) (o : Option (D × List Str)) (x : SR) : Prop := Rds T o x.toE
section
variable {Q : SR → Prop} {ρ : Env} {S S1 : Sto} {k : Exc} {fe : Ex} {g : Sx} {i : Nat}
theorem q_setX (h : fe ρ S = .exc k S1) (q : Q (.exc k ρ S1)) : Q (sSeq (sSet i fe) g ρ S) := by
  unfold sSeq sSet; rw [h]; exact q
theorem q_sretX (h : fe ρ S = .exc k S1) (q : Q (.exc k ρ S1)) : Q (sSeq (sRet fe) g ρ S) := by
  rw [e_sretX h]; exact q
theorem q_raise (q : Q (.exc k ρ S)) : Q (sSeq (sRaise k) g ρ S) := q
end
theorem sum_inX (T : Sto) : ∀ (f n : Nat) (ws : List Str), n < f → WsG ws → Rds T (prS n ws) (recN F_Words_sum_in f [.obj T.length, .int (n : Nat)] (WS T ws))
  | 0, _, _, h, _ => by omega
  | f + 1, n, ws, hf, h => by
    have c0 : (eOr (eOp opEqS (eFld "Words" "left" (eVar 0)) (eLst eNil)) (eOp opEq (eVar 1) (eC (.int 0)))) [some (.obj T.length), some (.int (n : Nat)), none, none] (WS T ws) = .ok (.bl (decide (ws = []) || decide (((n : Nat) : Int) = 0))) (WS T ws) :=
      x_or (x_op (x := .obj (T.length + 1)) (y := .lst []) (w_left rfl) rfl (by rw [ws_eq h.so])) fun _ => x_op (x := .int (n : Nat)) (y := .int 0) rfl rfl (by rw [o_eqI])
    show Rds T (prS n ws) (F_Words_sum_in (recN F_Words_sum_in f) [.obj T.length, .int (n : Nat)] (WS T ws))
    unfold F_Words_sum_in
    rw [fnB2]
    simp only [Nat.reduceSub, List.reduceReplicate, List.cons_append, List.nil_append]
    show RdQ T (prS n ws) _
    cases n with
    | zero => exact q_ifBT (Q := RdQ T _) (S1 := WS T ws) c0 (by simp) (q_raise ⟨ws, rfl⟩)
    | succ n =>
      cases ws with
      | nil => exact q_ifBT (Q := RdQ T _) (S1 := WS T []) c0 (by simp) (q_raise ⟨[], rfl⟩)
      | cons w ws =>
        obtain ⟨hso, hl⟩ := h.hd
        have hwg : (D.str w).good = true := by unfold D.good D.wf D.dep; rw [hso]; rfl
        have c1 := fst_condX (T := T) (w := w) (ws := ws) (o1 := some (.int (((n + 1 : Nat)) : Int))) (o2 := none) (o3 := none) hso hl
        refine q_ifB (Q := RdQ T _) (S1 := WS T (w :: ws)) c0 (by simp; omega) ?_
        have e1 : (((n + 1 : Nat)) : Int) - 1 = (n : Int) := by omega
        have ep : prS (n + 1) (w :: ws) = if fstDig w then (if prN w then some (.tup [.str "num", .int (intV w)], ws) else none)
          else if w = "cell" then (match prS n ws with
            | some (d, r) => some (.tup [.str "cell", d], r)
            | none => none)
          else if w ∈ words4 then (match prS n ws with
            | some (d, r) => (match prS n r with
              | some (e, r2) => some (.tup [.str w, d, e], r2)
              | none => none)
            | none => none)
          else some (.tup [.str "name", .str w], ws) := rfl
        rw [ep]
        by_cases hd : fstDig w = true
        · rw [if_pos hd]
          refine q_ifBT (Q := RdQ T _) (S1 := WS T (w :: ws)) c1 hd ?_
          by_cases hp : prN w = true
          · rw [if_pos hp]
            exact q_seqRet (Q := RdQ T _) (d := .tup [.str "num", .int (intV w)]) (S1 := WS T ws) (x_tup2 (x := .str "num") rfl (w_m0 rfl rfl ((numberX T (w :: ws) h).trans (if_pos hp)))) ⟨rfl, h.tail⟩
          · rw [if_neg hp]
            exact q_sretX (Q := RdQ T _) (x_tupX2 (x := .str "num") rfl (w_m0 rfl rfl ((numberX T (w :: ws) h).trans (if_neg hp)))) ⟨ws, rfl⟩
        rw [if_neg hd]
        refine q_ifB (Q := RdQ T _) (S1 := WS T (w :: ws)) c1 (Bool.eq_false_iff.mpr hd) ?_
        refine q_set (Q := RdQ T _) (d := .str w) (S1 := WS T ws) (w_m0 rfl rfl (wordX T (w :: ws) h)) ?_
        have r1 := sum_inX T f n ws (by omega) h.tail
        have m1 : ∀ {o2 o3 : Option D} {vs : List Str} {q : ER}, recN F_Words_sum_in f [.obj T.length, .int (n : Nat)] (WS T vs) = q → eMCall "Words" "sum_in" (recN F_Words_sum_in f) (eVar 0) (eCons (eOp opSub (eVar 1) (eC (.int 1))) eNil) [some (.obj T.length), some (.int (((n + 1 : Nat)) : Int)), o2, o3] (WS T vs) = q := fun {o2 o3 vs q} k =>
          w_m1 rfl rfl (x_op (x := .int (((n + 1 : Nat)) : Int)) (y := .int 1) rfl rfl (by rw [o_sub, e1])) k
        by_cases hc : w = Str.ofString "cell"
        · rw [if_pos hc]
          refine q_ifBT (Q := RdQ T _) (bb := true) (S1 := WS T ws) (x_op (x := .str w) (y := .str (Str.ofString "cell")) rfl rfl (by rw [eq_w1 hwg, decide_eq_true hc])) rfl ?_
          cases e : prS n ws with
          | none =>
            rw [e] at r1
            obtain ⟨r, r1⟩ := r1
            exact q_sretX (Q := RdQ T _) (x_tupX2 (x := .str "cell") rfl (m1 r1)) ⟨r, rfl⟩
          | some p =>
            obtain ⟨d, r⟩ := p
            rw [e] at r1
            exact q_seqRet (Q := RdQ T _) (d := .tup [.str "cell", d]) (S1 := WS T r) (x_tup2 (x := .str "cell") rfl (m1 r1.1)) ⟨rfl, r1.2⟩
        rw [if_neg hc]
        refine q_ifB (Q := RdQ T _) (bb := false) (S1 := WS T ws) (x_op (x := .str w) (y := .str (Str.ofString "cell")) rfl rfl (by rw [eq_w1 hwg, decide_eq_false hc])) rfl ?_
        have cn : eOp opNotIn (eVar 2) (eC c_WORDS) [some (.obj T.length), some (.int (((n + 1 : Nat)) : Int)), some (.str w), none] (WS T ws) = .ok (.bl (!decide (w ∈ words4))) (WS T ws) := x_op (x := .str w) (y := .tup (words4.map D.str)) rfl rfl (notIn_w hwg words_gd)
        by_cases hw : w ∈ words4
        · rw [if_pos hw]
          refine q_ifB (Q := RdQ T _) (S1 := WS T ws) cn (by rw [decide_eq_true hw]; rfl) ?_
          cases e : prS n ws with
          | none =>
            rw [e] at r1
            obtain ⟨r, r1⟩ := r1
            exact q_setX (Q := RdQ T _) (m1 r1) ⟨r, rfl⟩
          | some p =>
            obtain ⟨d, r⟩ := p
            rw [e] at r1
            refine q_set (Q := RdQ T _) (d := d) (S1 := WS T r) (m1 r1.1) ?_
            have r2 := sum_inX T f n r (by omega) r1.2
            show RdQ T (match prS n r with | some (e, r2) => some (.tup [.str w, d, e], r2) | none => none) _
            cases e2 : prS n r with
            | none =>
              rw [e2] at r2
              obtain ⟨r', r2⟩ := r2
              exact q_retX (Q := RdQ T _) (x_tupX3 (x := .str w) (y := d) rfl rfl (m1 r2)) ⟨r', rfl⟩
            | some p2 =>
              obtain ⟨d2, r2'⟩ := p2
              rw [e2] at r2
              exact q_ret (Q := RdQ T _) (d := .tup [.str w, d, d2]) (S1 := WS T r2') (x_tup3' (x := .str w) (y := d) (z := d2) rfl rfl (m1 r2.1)) ⟨rfl, r2.2⟩
        · rw [if_neg hw]
          exact q_ifBT (Q := RdQ T _) (S1 := WS T ws) cn (by rw [decide_eq_false hw]; rfl) (q_seqRet (Q := RdQ T _) (d := .tup [.str "name", .str w]) (S1 := WS T ws) (x_tup2 (x := .str "name") rfl rfl) ⟨rfl, h.tail⟩)
end Bt
namespace Bt
open PySem PySem.Spec PyProof.Rows L2 TL
/-! ### sums of fifteen parts at most -/
def FewS (a : Sm) : Prop := a.ok ∧ (swM a).length ≤ 15
theorem dep_two {a b : Sm} (ha : a.dep < (swM a).length) (hb : b.dep < (swM b).length) : max a.dep b.dep + 1 < (swM a ++ swM b).length + 1 := by
  rw [List.length_append]; omega
theorem dep_lt : ∀ a : Sm, a.dep < (swM a).length
  | .num _ => by show 0 < 1; decide
  | .name _ => by show 0 < 1; decide
  | .cell a => by have := dep_lt a; show a.dep + 1 < (swM a).length + 1; omega
  | .add a b => dep_two (dep_lt a) (dep_lt b)
  | .sub a b => dep_two (dep_lt a) (dep_lt b)
  | .mul a b => dep_two (dep_lt a) (dep_lt b)
  | .less a b => dep_two (dep_lt a) (dep_lt b)
theorem FewS.dep {a : Sm} (h : FewS a) : a.dep < 15 := by have := dep_lt a; have := h.2; omega
theorem sum_few {a : Sm} (h : FewS a) : sumD a.d = true := by
  unfold sumD
  rw [left_sm 20 a 15 h.1 (by have := h.dep; omega) h.2]; rfl
theorem name_inv {x : D} (h : nameD x = true) : ∃ i : Fin 6, x = .str (nmS i) := by
  cases x with
  | str s =>
    have h : s ∈ names6 := of_decide_eq_true h
    simp only [names6, List.mem_cons, List.not_mem_nil, or_false] at h
    rcases h with rfl | rfl | rfl | rfl | rfl | rfl
    · exact ⟨0, rfl⟩
    · exact ⟨1, rfl⟩
    · exact ⟨2, rfl⟩
    · exact ⟨3, rfl⟩
    · exact ⟨4, rfl⟩
    · exact ⟨5, rfl⟩
  | _ => cases h
theorem worth_inv {x : D} (h : worthD x = true) : ∃ i : Int, x = .int i ∧ 0 ≤ i ∧ i < 10007 := by
  cases x with
  | int i => exact ⟨i, rfl, of_decide_eq_true h⟩
  | _ => cases h
theorem leftM_inv : ∀ {f l : Nat} {d : D} {r : Nat}, leftM f l d = some r → ∃ a : Sm, d = a.d ∧ a.ok ∧ (swM a).length + r = l := by
  intro f
  induction f with
  | zero => intro l d r h; unfold leftM at h; cases h
  | succ f ih =>
    intro l d r h
    cases l with
    | zero => unfold leftM at h; cases h
    | succ l =>
      unfold leftM at h
      split at h
      · cases h
      · cases h
      · rename_i e2 e3; cases e2; cases e3
        split at h
        · rename_i hw; subst hw
          split at h
          · rename_i hx
            obtain ⟨i, rfl, h1, h2⟩ := worth_inv hx
            cases h
            exact ⟨.num i, rfl, ⟨h1, h2⟩, Nat.add_comm 1 _⟩
          · cases h
        · split at h
          · rename_i hw; subst hw
            split at h
            · rename_i hx
              obtain ⟨i, rfl⟩ := name_inv hx
              cases h
              exact ⟨.name i, rfl, trivial, Nat.add_comm 1 _⟩
            · cases h
          · split at h
            · rename_i hw; subst hw
              obtain ⟨a, rfl, h1, h2⟩ := ih h
              exact ⟨.cell a, rfl, h1, by show (swM a).length + 1 + r = l + 1; omega⟩
            · cases h
      · rename_i e2 e3; cases e2; cases e3
        split at h
        · rename_i hw
          split at h
          · rename_i q
            obtain ⟨a, rfl, h1, h2⟩ := ih q
            obtain ⟨b, rfl, h3, h4⟩ := ih h
            simp only [words4, List.mem_cons, List.not_mem_nil, or_false] at hw
            rcases hw with rfl | rfl | rfl | rfl
            · exact ⟨.add a b, rfl, ⟨h1, h3⟩, by show (swM a ++ swM b).length + 1 + r = l + 1; rw [List.length_append]; omega⟩
            · exact ⟨.sub a b, rfl, ⟨h1, h3⟩, by show (swM a ++ swM b).length + 1 + r = l + 1; rw [List.length_append]; omega⟩
            · exact ⟨.mul a b, rfl, ⟨h1, h3⟩, by show (swM a ++ swM b).length + 1 + r = l + 1; rw [List.length_append]; omega⟩
            · exact ⟨.less a b, rfl, ⟨h1, h3⟩, by show (swM a ++ swM b).length + 1 + r = l + 1; rw [List.length_append]; omega⟩
          · cases h
        · cases h
      · cases h
theorem sumD_inv {d : D} (h : sumD d = true) : ∃ a : Sm, d = a.d ∧ FewS a := by
  unfold sumD at h
  cases e : leftM 20 15 d with
  | none => rw [e] at h; cases h
  | some r =>
    obtain ⟨a, h1, h2, h3⟩ := leftM_inv e
    exact ⟨a, h1, h2, by omega⟩
/-! ### rows of such sums -/
def Row.okF (n : Nat) : Row → Prop
  | .set _ a => FewS a
  | .put a b => FewS a ∧ FewS b
  | .ask _ => True
  | .say a => FewS a
  | .jump p => p ≤ n
  | .unless a p => FewS a ∧ p ≤ n
  | .call p => p ≤ n
  | .back => True
  | .stop => True
theorem row_few {n : Nat} {r : Row} (h : r.okF n) : rowT n r.d = true := by
  cases r with
  | set i a =>
    show rowT n (.tup [.str "set", .str (nmS i), a.d]) = true
    rw [rowT_2, if_neg (by decide), if_neg (by decide)]
    unfold row2
    rw [if_pos rfl, name_t, sum_few h]; rfl
  | put a b =>
    show rowT n (.tup [.str "put", a.d, b.d]) = true
    rw [rowT_2, if_neg (by decide), if_neg (by decide)]
    unfold row2
    rw [if_neg (by decide), if_pos rfl, sum_few h.1, sum_few h.2]; rfl
  | ask i =>
    show rowT n (.tup [.str "ask", .str (nmS i)]) = true
    rw [rowT_1, if_neg (by decide), if_pos (by decide)]
    unfold row1
    rw [if_neg (by decide), if_pos rfl, name_t]
  | say a =>
    show rowT n (.tup [.str "say", a.d]) = true
    rw [rowT_1, if_neg (by decide), if_pos (by decide)]
    unfold row1
    rw [if_pos rfl, sum_few h]
  | jump k =>
    show rowT n (.tup [.str "jump", .int k]) = true
    rw [rowT_1, if_neg (by decide), if_pos (by decide)]
    unfold row1
    rw [if_neg (by decide), if_neg (by decide), place_t h]
  | «unless» a k =>
    show rowT n (.tup [.str "unless", a.d, .int k]) = true
    rw [rowT_2, if_neg (by decide), if_neg (by decide)]
    unfold row2
    rw [if_neg (by decide), if_neg (by decide), sum_few h.1, place_t h.2]; rfl
  | call k =>
    show rowT n (.tup [.str "call", .int k]) = true
    rw [rowT_1, if_neg (by decide), if_pos (by decide)]
    unfold row1
    rw [if_neg (by decide), if_neg (by decide), place_t h]
  | back => rfl
  | stop => rfl
theorem place_inv {n : Nat} {x : D} (h : placeD n x = true) : ∃ p : Nat, x = .int (p : Nat) ∧ p ≤ n := by
  cases x with
  | int i =>
    have h := of_decide_eq_true h
    obtain ⟨p, rfl⟩ := Int.eq_ofNat_of_zero_le h.1
    exact ⟨p, rfl, by have := h.2; omega⟩
  | _ => cases h
theorem rowT_inv {n : Nat} {d : D} (h : rowT n d = true) : ∃ r : Row, d = r.d ∧ r.okF n := by
  have hs : headS d = true := by
    cases z : headS d with
    | true => rfl
    | false => rw [row_no z] at h; cases h
  obtain ⟨w, l, rfl⟩ := is_head_of hs
  have h : (if w ∈ words2 then decide (l.length = 0) else if w ∈ wordsO then rowO n w l else rowW n w l) = true := h
  by_cases q1 : w ∈ words2
  · rw [if_pos q1] at h
    have hl := List.length_eq_zero_iff.mp (of_decide_eq_true h)
    subst hl
    simp only [words2, List.mem_cons, List.not_mem_nil, or_false] at q1
    rcases q1 with rfl | rfl
    · exact ⟨.stop, rfl, trivial⟩
    · exact ⟨.back, rfl, trivial⟩
  rw [if_neg q1] at h
  by_cases q2 : w ∈ wordsO
  · rw [if_pos q2] at h
    match l, h with
    | [x], h =>
      have h : row1 n w x = true := h
      unfold row1 at h
      by_cases q3 : w = "say"
      · rw [if_pos q3] at h
        subst q3
        obtain ⟨a, rfl, ha⟩ := sumD_inv h
        exact ⟨.say a, rfl, ha⟩
      rw [if_neg q3] at h
      by_cases q4 : w = "ask"
      · rw [if_pos q4] at h
        subst q4
        obtain ⟨i, rfl⟩ := name_inv h
        exact ⟨.ask i, rfl, trivial⟩
      rw [if_neg q4] at h
      obtain ⟨p, rfl, hp⟩ := place_inv h
      simp only [wordsO, List.mem_cons, List.not_mem_nil, or_false] at q2
      rcases q2 with rfl | rfl | rfl | rfl
      · exact absurd rfl q3
      · exact absurd rfl q4
      · exact ⟨.jump p, rfl, hp⟩
      · exact ⟨.call p, rfl, hp⟩
    | [], h => cases h
    | _ :: _ :: _, h => cases h
  rw [if_neg q2] at h
  match l, h with
  | [x, y], h =>
    have h : row2 n w x y = true := h
    unfold row2 at h
    by_cases q3 : w = "set"
    · rw [if_pos q3] at h
      subst q3
      obtain ⟨h1, h2⟩ := Bool.and_eq_true_iff.mp h
      obtain ⟨i, rfl⟩ := name_inv h1
      obtain ⟨a, rfl, ha⟩ := sumD_inv h2
      exact ⟨.set i a, rfl, ha⟩
    rw [if_neg q3] at h
    by_cases q4 : w = "put"
    · rw [if_pos q4] at h
      subst q4
      obtain ⟨h1, h2⟩ := Bool.and_eq_true_iff.mp h
      obtain ⟨a, rfl, ha⟩ := sumD_inv h1
      obtain ⟨b, rfl, hb⟩ := sumD_inv h2
      exact ⟨.put a b, rfl, ha, hb⟩
    rw [if_neg q4] at h
    obtain ⟨h0, h5⟩ := Bool.and_eq_true_iff.mp h
    have q5 := of_decide_eq_true h0
    subst q5
    obtain ⟨h1, h2⟩ := Bool.and_eq_true_iff.mp h5
    obtain ⟨a, rfl, ha⟩ := sumD_inv h1
    obtain ⟨p, rfl, hp⟩ := place_inv h2
    exact ⟨.unless a p, rfl, ha, hp⟩
  | [], h => cases h
  | [_], h => cases h
  | _ :: _ :: _ :: _, h => cases h
/-- programs of such rows -/
structure PrgF (p : Prg) : Prop where
  rows : ∀ r ∈ p, r.okF p.length
  len : p.length ≤ 20
theorem prg_few {p : Prg} (hp : PrgF p) : prgT (prgD p) = true := by
  show (decide ((p.map Row.d).length ≤ 20) && (p.map Row.d).all (rowT (p.map Row.d).length)) = true
  rw [List.length_map, decide_eq_true hp.len, List.all_map]
  exact List.all_eq_true.mpr fun r hr => row_few (hp.rows r hr)
theorem rows_inv {n : Nat} : ∀ {l : List D}, (∀ d ∈ l, rowT n d = true) → ∃ p : Prg, l = p.map Row.d ∧ ∀ r ∈ p, r.okF n
  | [], _ => ⟨[], rfl, fun r hr => by cases hr⟩
  | d :: l, h => by
    obtain ⟨r, rfl, hr⟩ := rowT_inv (h d List.mem_cons_self)
    obtain ⟨p, rfl, hp⟩ := rows_inv fun x hx => h x (List.mem_cons_of_mem _ hx)
    exact ⟨r :: p, rfl, fun x hx => (List.mem_cons.mp hx).elim (fun e => e ▸ hr) (hp x)⟩
theorem prgT_inv {d : D} (h : prgT d = true) : ∃ p : Prg, d = prgD p ∧ PrgF p := by
  cases d with
  | tup l =>
    have h : (decide (l.length ≤ 20) && l.all (rowT l.length)) = true := h
    obtain ⟨h1, h2⟩ := Bool.and_eq_true_iff.mp h
    obtain ⟨p, hp, hr⟩ := rows_inv fun d hd => List.all_eq_true.mp h2 d hd
    have hl : l.length = p.length := by rw [hp, List.length_map]
    refine ⟨p, by rw [hp]; rfl, ⟨fun r hm => ?_, ?_⟩⟩
    · rw [← hl]; exact hr r hm
    · rw [← hl]; exact of_decide_eq_true h1
  | _ => cases h
/-! ### their words -/
theorem sum_wordsF_1 {S : Sto} {rec : Fn} {w : String} (hw : Str.ofString w ∉ wNN) {xs : List Sm} (hx : ∀ x ∈ xs, rec [x.d] S = .ok (.lst ((swM x).map D.str)) S ∧ (swM x).length ≤ 1024) (h2 : xs.length ≤ 2) :
    F_sum_words rec [.tup (.str (Str.ofString w) :: xs.map Sm.d)] S = .ok (.lst ((Str.ofString w :: (xs.map swM).flatten).map D.str)) S := by
  unfold F_sum_words
  rw [fnB1]
  simp only [Nat.reduceSub, List.reduceReplicate, List.cons_append, List.nil_append]
  have hv : eVar 0 [some (D.tup (.str (Str.ofString w) :: xs.map Sm.d)), none, none] S = .ok (.tup (.str (Str.ofString w) :: xs.map Sm.d)) S := rfl
  refine f_if (bb := false) (S1 := S) (x_op (x := .str (Str.ofString w)) (y := .tup (wNN.map D.str)) (x_ixk (k := 0) hv rfl) rfl (by rw [in_w good_str wNN_gd, decide_eq_false hw])) rfl ?_
  refine f_set (d := .lst ([Str.ofString w].map D.str)) (S1 := S) (x_lst1 (x_ixk (k := 0) hv rfl)) ?_
  have fl : ∀ k, ((xs.take k).map swM).flatten.length ≤ 2048 := fun k => by
    have : ∀ l : List Sm, (∀ x ∈ l, (swM x).length ≤ 1024) → (l.map swM).flatten.length ≤ l.length * 1024 := by
      intro l
      induction l with
      | nil => intro _; simp
      | cons a l ih =>
        intro h
        rw [List.map_cons, List.flatten_cons, List.length_append, List.length_cons]
        have := h a List.mem_cons_self
        have := ih fun x hx => h x (List.mem_cons_of_mem _ hx)
        omega
    have h3 := this (xs.take k) fun x hxx => (hx x (List.mem_of_mem_take hxx)).2
    have : (xs.take k).length ≤ 2 := by rw [List.length_take]; omega
    have : (xs.take k).length * 1024 ≤ 2 * 1024 := Nat.mul_le_mul_right _ this
    omega
  refine f_for (f := Sm.d) (xs := xs) (S1 := S) (fun k ρ S' => S' = S ∧ ∃ o2, ρ = [some (D.tup (.str (Str.ofString w) :: xs.map Sm.d)), some (.lst ((Str.ofString w :: ((xs.take k).map swM).flatten).map D.str)), o2]) (it ?_) ⟨rfl, none, rfl⟩ ?_ ?_
  · rw [s_sl]
    show lift1 (some (D.tup (cutD (.str (Str.ofString w) :: xs.map Sm.d) (some 1) none))) S = _
    rw [cut_suf (by decide)]; rfl
  · rintro k x hk ρ S' ⟨rfl, o2, rfl⟩
    refine ⟨[some (D.tup (.str (Str.ofString w) :: xs.map Sm.d)), some (.lst ((Str.ofString w :: ((xs.take k).map swM).flatten).map D.str)), some x.d], rfl, ?_⟩
    have hm := List.mem_of_getElem? hk
    have e : ((xs.take (k + 1)).map swM).flatten = ((xs.take k).map swM).flatten ++ swM x := by
      rw [List.take_succ, hk]; simp
    have := fl k
    have := (hx x hm).2
    refine n_set1 (d := .lst ((Str.ofString w :: ((xs.take (k + 1)).map swM).flatten).map D.str)) (S1 := S') (x_op (x := .lst ((Str.ofString w :: ((xs.take k).map swM).flatten).map D.str)) (y := .lst ((swM x).map D.str)) rfl (x_c1 (x := x.d) rfl (hx x hm).1) ?_) (nx_p ⟨rfl, _, rfl⟩)
    rw [add_strs (by rw [List.length_cons]; omega), e]; rfl
  rintro ρ S' ⟨rfl, o2, rfl⟩
  rw [List.take_length]
  exact f_ret (S1 := S') rfl rfl
theorem swF2 {S : Sto} (f : Nat) (w : String) (hw : Str.ofString w ∉ wNN) (a b : Sm) (ia : a.dep < f → (swM a).length ≤ 1000 → recN F_sum_words f [a.d] S = .ok (.lst ((swM a).map D.str)) S) (ib : b.dep < f → (swM b).length ≤ 1000 → recN F_sum_words f [b.d] S = .ok (.lst ((swM b).map D.str)) S)
    (hf : max a.dep b.dep + 1 < f + 1) (hd : (swM a ++ swM b).length + 1 ≤ 1000) : F_sum_words (recN F_sum_words f) [.tup [.str (Str.ofString w), a.d, b.d]] S = .ok (.lst ((Str.ofString w :: (swM a ++ swM b)).map D.str)) S := by
      rw [List.length_append] at hd
      have := sum_wordsF_1 (S := S) (rec := recN F_sum_words f) (w := w) hw (xs := [a, b]) (fun x hx => by
        simp only [List.mem_cons, List.not_mem_nil, or_false] at hx
        rcases hx with rfl | rfl
        · exact ⟨ia (by omega) (by omega), by omega⟩
        · exact ⟨ib (by omega) (by omega), by omega⟩) (by show 2 ≤ 2; decide)
      simpa using this
theorem sum_words_lawF (S : Sto) : ∀ (f : Nat) (a : Sm), a.ok → a.dep < f → (swM a).length ≤ 1000 → recN F_sum_words f [a.d] S = .ok (.lst ((swM a).map D.str)) S
  | 0, _, _, h, _ => by omega
  | f + 1, .num k, ha, _, _ => sum_words_0 (w := "num") (by decide) (bstr_i (by have := ha.1; have := ha.2; omega))
  | f + 1, .name i, ha, _, _ => sum_words_0 (w := "name") (by decide) rfl
  | f + 1, .cell a, ha, hf, hd => by
    have hf : a.dep + 1 < f + 1 := hf
    have hd : (swM a).length + 1 ≤ 1000 := hd
    have := sum_wordsF_1 (S := S) (rec := recN F_sum_words f) (w := "cell") (by decide) (xs := [a]) (fun x hx => by rw [List.mem_singleton.mp hx]; exact ⟨sum_words_lawF S f a ha (by omega) (by omega), by omega⟩) (by show 1 ≤ 2; decide)
    show F_sum_words (recN F_sum_words f) [.tup [.str (Str.ofString "cell"), a.d]] S = .ok (.lst ((Str.ofString "cell" :: swM a).map D.str)) S
    simpa using this
  | f + 1, .add a b, ha, hf, hd => swF2 f "add" (by decide) a b (sum_words_lawF S f a ha.1) (sum_words_lawF S f b ha.2) hf hd
  | f + 1, .sub a b, ha, hf, hd => swF2 f "sub" (by decide) a b (sum_words_lawF S f a ha.1) (sum_words_lawF S f b ha.2) hf hd
  | f + 1, .mul a b, ha, hf, hd => swF2 f "mul" (by decide) a b (sum_words_lawF S f a ha.1) (sum_words_lawF S f b ha.2) hf hd
  | f + 1, .less a b, ha, hf, hd => swF2 f "less" (by decide) a b (sum_words_lawF S f a ha.1) (sum_words_lawF S f b ha.2) hf hd
theorem part_sumF {S : Sto} {a : Sm} (h : FewS a) : (∀ ρ, eVar 2 ρ S = .ok a.d S → eIf (eIsT .tuple (eVar 2)) (eCall G_sum_words (eCons (eVar 2) eNil)) (eLst (eCons (eCallB (f1 bStrT) (eCons (eVar 2) eNil)) eNil)) ρ S = .ok (.lst ((swM a).map D.str)) S) ∧ (swM a).length ≤ 1024 := by
  refine ⟨fun ρ hv => ?_, by have := h.2; omega⟩
  obtain ⟨w, l, e⟩ := d_tup a
  refine x_iteT (S1 := S) (x_ty (t := .tuple) hv (by rw [e]; rfl)) (x_c1 hv ?_)
  exact sum_words_lawF S 20 a h.1 (by have := h.dep; omega) (by have := h.2; omega)
theorem row_words_lawF (S : Sto) {n : Nat} (hn : n ≤ 1000) : ∀ r : Row, r.okF n → F_row_words [r.d] S = .ok (.lst ((rwM r).map D.str)) S
  | .set i a, h => by
    have := row_words_1 (S := S) (w := "set") (ps := [(.str (nmS i), [nmS i]), (a.d, swM a)]) (fun p hp => by
      simp only [List.mem_cons, List.not_mem_nil, or_false] at hp
      rcases hp with rfl | rfl
      · exact part_str
      · exact part_sumF h) (by simp)
    simpa [rwM, Row.d] using this
  | .put a b, h => by
    have := row_words_1 (S := S) (w := "put") (ps := [(a.d, swM a), (b.d, swM b)]) (fun p hp => by
      simp only [List.mem_cons, List.not_mem_nil, or_false] at hp
      rcases hp with rfl | rfl
      · exact part_sumF h.1
      · exact part_sumF h.2) (by simp)
    simpa [rwM, Row.d] using this
  | .ask i, h => by
    have := row_words_1 (S := S) (w := "ask") (ps := [(.str (nmS i), [nmS i])]) (fun p hp => by
      rw [List.mem_singleton.mp hp]; exact part_str) (by simp)
    simpa [rwM, Row.d] using this
  | .say a, h => by
    have := row_words_1 (S := S) (w := "say") (ps := [(a.d, swM a)]) (fun p hp => by
      rw [List.mem_singleton.mp hp]; exact part_sumF h) (by simp)
    simpa [rwM, Row.d] using this
  | .jump k, h => by
    have h : k ≤ n := h
    have := row_words_1 (S := S) (w := "jump") (ps := [(.int k, [nS k])]) (fun p hp => by
      rw [List.mem_singleton.mp hp]; exact part_int (by omega)) (by simp)
    simpa [rwM, Row.d] using this
  | .unless a k, h => by
    have h2 : k ≤ n := h.2
    have := row_words_1 (S := S) (w := "unless") (ps := [(a.d, swM a), (.int k, [nS k])]) (fun p hp => by
      simp only [List.mem_cons, List.not_mem_nil, or_false] at hp
      rcases hp with rfl | rfl
      · exact part_sumF h.1
      · exact part_int (by omega)) (by simp)
    simpa [rwM, Row.d] using this
  | .call k, h => by
    have h : k ≤ n := h
    have := row_words_1 (S := S) (w := "call") (ps := [(.int k, [nS k])]) (fun p hp => by
      rw [List.mem_singleton.mp hp]; exact part_int (by omega)) (by simp)
    simpa [rwM, Row.d] using this
  | .back, h => by
    have := row_words_1 (S := S) (w := "back") (ps := []) (fun p hp => by cases hp) (by simp)
    simpa [rwM, Row.d] using this
  | .stop, h => by
    have := row_words_1 (S := S) (w := "stop") (ps := []) (fun p hp => by cases hp) (by simp)
    simpa [rwM, Row.d] using this
theorem rw_wdF {n : Nat} (hn : n ≤ 1000) : ∀ {r : Row}, r.okF n → ∀ w ∈ rwM r, Wd w
  | .set i a, h, w, hw => by
    rcases List.mem_cons.mp hw with rfl | hw
    · exact wd_lit
    · rcases List.mem_cons.mp hw with rfl | hw
      · exact wd_nm i
      · exact sw_wd h.1 w hw
  | .put a b, h, w, hw => by
    rcases List.mem_cons.mp hw with rfl | hw
    · exact wd_lit
    · exact (List.mem_append.mp hw).elim (sw_wd h.1.1 w) (sw_wd h.2.1 w)
  | .ask i, h, w, hw => by
    rcases List.mem_cons.mp hw with rfl | hw
    · exact wd_lit
    · rw [List.mem_singleton.mp hw]; exact wd_nm i
  | .say a, h, w, hw => by
    rcases List.mem_cons.mp hw with rfl | hw
    · exact wd_lit
    · exact sw_wd h.1 w hw
  | .jump k, h, w, hw => by
    have h : k ≤ n := h
    rcases List.mem_cons.mp hw with rfl | hw
    · exact wd_lit
    · rw [List.mem_singleton.mp hw]; exact wd_nS (by omega) (by omega)
  | .unless a k, h, w, hw => by
    have h2 : k ≤ n := h.2
    rcases List.mem_cons.mp hw with rfl | hw
    · exact wd_lit
    · refine (List.mem_append.mp hw).elim (sw_wd h.1.1 w) fun hw => ?_
      rw [List.mem_singleton.mp hw]; exact wd_nS (by omega) (by omega)
  | .call k, h, w, hw => by
    have h : k ≤ n := h
    rcases List.mem_cons.mp hw with rfl | hw
    · exact wd_lit
    · rw [List.mem_singleton.mp hw]; exact wd_nS (by omega) (by omega)
  | .back, _, w, hw => by rw [List.mem_singleton.mp hw]; exact wd_lit
  | .stop, _, w, hw => by rw [List.mem_singleton.mp hw]; exact wd_lit
theorem rw_fewF {n : Nat} {r : Row} (h : r.okF n) : (rwM r).length ≤ 40 := by
  cases r with
  | set i a => have := h.2; simp only [rwM, List.length_cons]; omega
  | put a b => have := h.1.2; have := h.2.2; simp only [rwM, List.length_cons, List.length_append]; omega
  | say a => have := h.2; simp only [rwM, List.length_cons]; omega
  | «unless» a k => have := h.1.2; simp only [rwM, List.length_cons, List.length_append, List.length_nil]; omega
  | _ => simp only [rwM, List.length_cons, List.length_nil]; omega
theorem rt_lenF {n : Nat} (hn : n ≤ 1000) {r : Row} (h : r.okF n) : (rtM r).length ≤ 23100 := by
  have h1 := len_join blank blank_len (rwM r) 10 fun w hw => (rw_wdF hn h w hw).len
  have h2 := rw_fewF h
  have : (rwM r).length * 11 ≤ 2100 * 11 := Nat.mul_le_mul_right _ (by omega)
  unfold rtM; omega
theorem written_sum_txtF (S : Sto) {a : Sm} (h : FewS a) : F_written_sum [a.d] S = .ok (.str (stM a)) S := by
  unfold F_written_sum
  rw [fnB1]
  simp only [Nat.reduceSub, List.reduceReplicate, List.cons_append, List.nil_append]
  refine f_ret (S1 := S) (x_join (y := blank) (ws := swM a) rfl (x_c1 (x := a.d) rfl (sum_words_lawF S 20 a h.1 (by have := h.dep; omega) (by have := h.2; omega))) ?_) rfl
  refine wd_room (k := 10) (fun w hw => (sw_wd h.1 w hw).len) blank_len ?_
  have := h.2
  omega
theorem written_txtF (S : Sto) {p : Prg} (hp : PrgF p) : F_written [prgD p] S = .ok (.str (ptM p)) S := by
  unfold F_written
  rw [fnB1]
  simp only [Nat.reduceSub, List.reduceReplicate, List.cons_append, List.nil_append]
  have h20 := hp.len
  have hn : p.length ≤ 1000 := by omega
  have hl : ∀ r ∈ p, (rtM r ++ feed).length ≤ 23101 := fun r hr => by
    have := rt_lenF hn (hp.rows r hr)
    rw [len_tl, tl_append, List.length_append, ← len_tl, ← len_tl]
    show _ + 1 ≤ _
    omega
  refine f_ret (S1 := S) (x_join (y := "") (ws := p.map fun r => rtM r ++ feed) (S1 := S) rfl ?_ ?_) rfl
  · rw [List.map_map]
    refine comp_all (f := Row.d) (xs := p) (fun r => .str (rtM r ++ feed)) (it rfl) (fun r hr => ⟨[some (prgD p), some r.d], rfl, ?_⟩) (by show p.length ≤ 1000000; omega)
    refine x_op (x := .str (rtM r)) (y := .str feed) (S1 := S) (S2 := S) (x_join (y := blank) (ws := rwM r) (S1 := S) rfl (x_c1 (x := r.d) rfl (row_words_lawF S hn r (hp.rows r hr))) (wd_room (k := 10) (fun w hw => (rw_wdF hn (hp.rows r hr) w hw).len) blank_len (by have := rw_fewF (hp.rows r hr); omega))) rfl (add_feed (rt_lenF hn (hp.rows r hr)))
  · refine wd_room (k := 23101) (fun w hw => ?_) (by decide) (by rw [List.length_map]; omega)
    obtain ⟨r, hr, rfl⟩ := List.mem_map.mp hw
    exact hl r hr
end Bt
namespace Bt
open PySem PySem.Spec PyProof.Rows L2 TL
theorem prS_eq (n : Nat) (w : Str) (ws : List Str) : prS (n + 1) (w :: ws) = if fstDig w then (if prN w then some (.tup [.str "num", .int (intV w)], ws) else none)
    else if w = "cell" then (match prS n ws with
      | some (d, r) => some (.tup [.str "cell", d], r)
      | none => none)
    else if w ∈ words4 then (match prS n ws with
      | some (d, r) => (match prS n r with
        | some (e, r2) => some (.tup [.str w, d, e], r2)
        | none => none)
      | none => none)
    else some (.tup [.str "name", .str w], ws) := rfl
theorem nc_w {n : Nat} {w : Str} (h : PyData.strOk w = true ∧ w.length ≤ 640) : Nc n (.str w) := by cases n <;> exact ⟨h.1, by omega⟩
/-- what is read is a thing of fair size -/
theorem prS_prop : ∀ (n : Nat) (ws : List Str) (d : D) (r : List Str), prS n ws = some (d, r) → WsG ws → Nc n d ∧ d.pure = true ∧ WsG r
  | 0, _, _, _, h, _ => by cases h
  | _ + 1, [], _, _, h, _ => by cases h
  | n + 1, w :: ws, d, r, h, hw => by
    rw [prS_eq] at h
    split at h
    · split at h
      · cases h; exact ⟨nc_t2 (nc_lit (by decide)) nc_int, rfl, hw.tail⟩
      · cases h
    · split at h
      · split at h
        · rename_i d' r' e
          obtain ⟨h1, h2, h3⟩ := prS_prop n ws d' r' e hw.tail
          cases h
          exact ⟨nc_t2 (nc_lit (by decide)) h1, by show (true && (d'.pure && true)) = true; rw [h2]; rfl, h3⟩
        · cases h
      · split at h
        · split at h
          · rename_i d' r' e
            obtain ⟨h1, h2, h3⟩ := prS_prop n ws d' r' e hw.tail
            split at h
            · rename_i d2 r2 e2
              obtain ⟨h4, h5, h6⟩ := prS_prop n r' d2 r2 e2 h3
              cases h
              exact ⟨nc_t3 (nc_w hw.hd) h1 h4, by show (true && (d'.pure && (d2.pure && true))) = true; rw [h2, h5]; rfl, h6⟩
            · cases h
          · cases h
        · cases h; exact ⟨nc_t2 (nc_lit (by decide)) (nc_w hw.hd), rfl, hw.tail⟩
theorem fstDig_nS {k : Int} (h : 0 ≤ k) : fstDig (nS k) = true := by
  obtain ⟨n, rfl⟩ := Int.eq_ofNat_of_zero_le h
  unfold fstDig
  rw [tl_nS h]
  obtain ⟨c, r, e⟩ := List.exists_cons_of_ne_nil (numL_ne n)
  rw [show ((n : Nat) : Int).toNat = n from Int.toNat_natCast n, e]
  exact decide_eq_true (numL_dig (n := n) (by rw [e]; exact List.mem_cons_self))
theorem prN_nS {k : Int} (h : 0 ≤ k) (h2 : k < 100000) : prN (nS k) = true := by
  obtain ⟨n, rfl⟩ := Int.eq_ofNat_of_zero_le h
  have hl : (numL n).length ≤ 5 := numL_len (by decide) (by omega)
  have hl1 : 1 ≤ (numL n).length := by
    cases e : numL n with
    | nil => exact absurd e (numL_ne n)
    | cons a l => simp
  unfold prN
  rw [isDig_nS, Bool.and_true]
  refine decide_eq_true ?_
  rw [len_tl, tl_nS h, show ((n : Nat) : Int).toNat = n from Int.toNat_natCast n]
  omega
theorem prS_w4 {n : Nat} {w : String} (h1 : fstDig (Str.ofString w) = false) (h2 : Str.ofString w ≠ Str.ofString "cell") (h3 : Str.ofString w ∈ words4) {a b : Sm} {ws : List Str} (ha : prS n (swM a ++ (swM b ++ ws)) = some (a.d, swM b ++ ws)) (hb : prS n (swM b ++ ws) = some (b.d, ws)) :
    prS (n + 1) (Str.ofString w :: (swM a ++ swM b) ++ ws) = some (.tup [.str (Str.ofString w), a.d, b.d], ws) := by
  show prS (n + 1) (Str.ofString w :: ((swM a ++ swM b) ++ ws)) = _
  rw [prS_eq, h1, if_neg (by decide), if_neg h2, if_pos h3, List.append_assoc, ha]
  show (match prS n (swM b ++ ws) with | some (e, r2) => some (D.tup [.str (Str.ofString w), a.d, e], r2) | none => none) = _
  rw [hb]
theorem prS_fwd : ∀ (n : Nat) (a : Sm) (ws : List Str), a.ok → a.dep < n → prS n (swM a ++ ws) = some (a.d, ws)
  | 0, _, _, _, h => by omega
  | n + 1, .num k, ws, ha, _ => by
    show prS (n + 1) (nS k :: ws) = _
    have h0 : 0 ≤ k := ha.1
    have h1 : k < 10007 := ha.2
    rw [prS_eq, if_pos (fstDig_nS h0), if_pos (prN_nS h0 (by omega))]
    obtain ⟨m, rfl⟩ := Int.eq_ofNat_of_zero_le h0
    rw [intV_nS (by omega)]; rfl
  | n + 1, .name i, ws, ha, _ => by
    show prS (n + 1) (nmS i :: ws) = _
    rw [prS_eq, (by decide : ∀ i : Fin 6, fstDig (nmS i) = false) i, if_neg (by decide), if_neg ((by decide : ∀ i : Fin 6, nmS i ≠ Str.ofString "cell") i), if_neg ((by decide : ∀ i : Fin 6, nmS i ∉ words4) i)]; rfl
  | n + 1, .cell a, ws, ha, hd => by
    have hd : a.dep + 1 < n + 1 := hd
    show prS (n + 1) (Str.ofString "cell" :: (swM a ++ ws)) = _
    rw [prS_eq, if_neg (by decide), if_pos rfl, prS_fwd n a ws ha (by omega)]; rfl
  | n + 1, .add a b, ws, ha, hd => by
    have hd : max a.dep b.dep + 1 < n + 1 := hd
    exact prS_w4 (w := "add") (by decide) (by decide) (by decide) (prS_fwd n a _ ha.1 (by omega)) (prS_fwd n b ws ha.2 (by omega))
  | n + 1, .sub a b, ws, ha, hd => by
    have hd : max a.dep b.dep + 1 < n + 1 := hd
    exact prS_w4 (w := "sub") (by decide) (by decide) (by decide) (prS_fwd n a _ ha.1 (by omega)) (prS_fwd n b ws ha.2 (by omega))
  | n + 1, .mul a b, ws, ha, hd => by
    have hd : max a.dep b.dep + 1 < n + 1 := hd
    exact prS_w4 (w := "mul") (by decide) (by decide) (by decide) (prS_fwd n a _ ha.1 (by omega)) (prS_fwd n b ws ha.2 (by omega))
  | n + 1, .less a b, ws, ha, hd => by
    have hd : max a.dep b.dep + 1 < n + 1 := hd
    exact prS_w4 (w := "less") (by decide) (by decide) (by decide) (prS_fwd n a _ ha.1 (by omega)) (prS_fwd n b ws ha.2 (by omega))
/-! ### parts of rows -/
inductive Sg where
  | s | n | r
def Sg.t : Sg → Str
  | .s => "s"
  | .n => "n"
  | .r => "r"
def prP : Sg → List Str → Option (D × List Str)
  | .s, ws => prS 15 ws
  | .n, ws => (match ws with
    | w :: r => some (.str w, r)
    | [] => none)
  | .r, ws => (match ws with
    | w :: r => if prN w then some (.int (intV w), r) else none
    | [] => none)
theorem toE_ret {fe : Ex} {ρ : Env} {S : Sto} : (sRet fe ρ S).toE = fe ρ S := by
  unfold sRet
  cases fe ρ S <;> rfl
theorem toE_sret {fe : Ex} {g : Sx} {ρ : Env} {S : Sto} : (sSeq (sRet fe) g ρ S).toE = fe ρ S := by
  unfold sSeq sRet
  cases fe ρ S <;> rfl
theorem part_any (T : Sto) : ∀ (g : Sg) (ws : List Str), WsG ws → Rds T (prP g ws) (F_Words_part [.obj T.length, .str g.t] (WS T ws))
  | .s, ws, h => by
    unfold F_Words_part
    rw [fnB2]
    simp only [Nat.reduceSub, List.reduceReplicate, List.cons_append, List.nil_append]
    refine q_ifBT (Q := RdQ T _) (bb := true) (S1 := WS T ws) (x_op (x := .str "s") (y := .str "s") rfl rfl (eq_w rfl)) rfl ?_
    show Rds T _ (SR.toE _)
    rw [toE_sret]
    have e := w_m1 (T := T) (ws := ws) (ρ := [some (D.obj T.length), some (.str "s")]) (fo := eVar 0) (fa := eC c_MOST_PARTS) (m := "sum_in") (F := G_Words_sum_in) (y := .int 15) (S2 := WS T ws) rfl rfl rfl rfl
    exact e ▸ sum_inX T 17 15 ws (by decide) h
  | .n, ws, h => by
    unfold F_Words_part
    rw [fnB2]
    simp only [Nat.reduceSub, List.reduceReplicate, List.cons_append, List.nil_append]
    refine q_ifB (Q := RdQ T _) (bb := false) (S1 := WS T ws) (x_op (x := .str "n") (y := .str "s") rfl rfl (eq_w' (by decide))) rfl ?_
    show Rds T _ (SR.toE _)
    rw [toE_ret]
    have e1 := w_m0 (T := T) (ws := ws) (ρ := [some (D.obj T.length), some (.str "n")]) (fo := eVar 0) (m := "word") (F := G_Words_word) rfl rfl (wordX T ws h)
    have e := x_iteT (fb := eMCall "Words" "number" G_Words_number (eVar 0) eNil) (S1 := WS T ws) (x_op (fa := eVar 1) (fb := eC (.str "n")) (x := .str "n") (y := .str "n") rfl rfl (eq_w rfl)) e1
    cases ws with
    | nil => exact ⟨[], e⟩
    | cons w r => exact ⟨e, h.tail⟩
  | .r, ws, h => by
    unfold F_Words_part
    rw [fnB2]
    simp only [Nat.reduceSub, List.reduceReplicate, List.cons_append, List.nil_append]
    refine q_ifB (Q := RdQ T _) (bb := false) (S1 := WS T ws) (x_op (x := .str "r") (y := .str "s") rfl rfl (eq_w' (by decide))) rfl ?_
    show Rds T _ (SR.toE _)
    rw [toE_ret]
    have e1 := w_m0 (T := T) (ws := ws) (ρ := [some (D.obj T.length), some (.str "r")]) (fo := eVar 0) (m := "number") (F := G_Words_number) rfl rfl (numberX T ws h)
    have e := x_iteF (fb := eMCall "Words" "word" G_Words_word (eVar 0) eNil) (S1 := WS T ws) (x_op (fa := eVar 1) (fb := eC (.str "n")) (x := .str "r") (y := .str "n") rfl rfl (eq_w' (by decide))) e1
    cases ws with
    | nil => exact ⟨[], e⟩
    | cons w r =>
      show Rds T (if prN w then some (.int (intV w), r) else none) _
      by_cases hp : prN w = true
      · have e : _ = if prN w = true then _ else _ := e
        rw [if_pos hp] at e ⊢
        exact ⟨e, h.tail⟩
      · have e : _ = if prN w = true then _ else _ := e
        rw [if_neg hp] at e ⊢
        exact ⟨r, e⟩
theorem prP_prop : ∀ {g : Sg} {ws : List Str} {d : D} {r : List Str}, prP g ws = some (d, r) → WsG ws → Nc 15 d ∧ d.pure = true ∧ WsG r
  | .s, ws, d, r, h, hw => prS_prop 15 ws d r h hw
  | .n, [], d, r, h, hw => by cases h
  | .n, w :: ws, d, r, h, hw => by cases h; exact ⟨nc_w hw.hd, rfl, hw.tail⟩
  | .r, [], d, r, h, hw => by cases h
  | .r, w :: ws, d, r, h, hw => by
    have h : (if prN w then some (D.int (intV w), ws) else none) = some (d, r) := h
    split at h
    · cases h; exact ⟨nc_int, rfl, hw.tail⟩
    · cases h
def prPs : List Sg → List Str → Option (List D × List Str)
  | [], ws => some ([], ws)
  | g :: gs, ws => (match prP g ws with
    | some (d, r) => (match prPs gs r with
      | some (ds, r2) => some (d :: ds, r2)
      | none => none)
    | none => none)
theorem prPs_prop : ∀ {gs : List Sg} {ws : List Str} {ds : List D} {r : List Str}, prPs gs ws = some (ds, r) → WsG ws → (∀ d ∈ ds, Nc 15 d) ∧ D.pures ds = true ∧ WsG r ∧ ds.length = gs.length
  | [], ws, ds, r, h, hw => by cases h; exact ⟨fun d hd => (by cases hd), rfl, hw, rfl⟩
  | g :: gs, ws, ds, r, h, hw => by
    unfold prPs at h
    split at h
    · rename_i d r1 e
      obtain ⟨h1, h2, h3⟩ := prP_prop e hw
      split at h
      · rename_i ds2 r2 e2
        obtain ⟨h4, h5, h6, h7⟩ := prPs_prop e2 h3
        cases h
        exact ⟨fun x hx => (List.mem_cons.mp hx).elim (fun z => z ▸ h1) (h4 x), by show (d.pure && D.pures ds2) = true; rw [h2, h5]; rfl, h6, by rw [List.length_cons, List.length_cons, h7]⟩
      · cases h
    · cases h
def RdsL (T : Sto) (acc : List D) (o : Option (List D × List Str)) (q : ER) : Prop := match o with
  | some (ds, r) => q = .ok (.lst (acc ++ ds)) (WS T r)
  | none => ∃ r, q = .exc .text (WS T r)
theorem comp_any (T : Sto) {o0 o2 o3 : Option D} : ∀ (gs : List Sg) (acc : List D) (ws : List Str), WsG ws → acc.length + gs.length ≤ lim →
    RdsL T acc (prPs gs ws) (compLX (dN 4) eYes partX [o0, some (.obj T.length), o2, o3, none] (gs.map fun g => D.str g.t) acc (WS T ws))
  | [], acc, ws, hw, _ => by
    show ER.ok (.lst acc) (WS T ws) = .ok (.lst (acc ++ [])) (WS T ws)
    rw [List.append_nil]
  | g :: gs, acc, ws, hw, hl => by
    have hl : acc.length + (gs.length + 1) ≤ lim := hl
    have e : compLX (dN 4) eYes partX [o0, some (.obj T.length), o2, o3, none] ((g :: gs).map fun g => D.str g.t) acc (WS T ws) = (match partX [o0, some (.obj T.length), o2, o3, some (.str g.t)] (WS T ws) with
      | .ok y S2 => if acc.length < lim then compLX (dN 4) eYes partX [o0, some (.obj T.length), o2, o3, none] (gs.map fun g => D.str g.t) (acc ++ [y]) S2 else .bad
      | .exc k S2 => .exc k S2
      | .bad => .bad) := rfl
    have p := part_any T g ws hw
    have ex : partX [o0, some (.obj T.length), o2, o3, some (.str g.t)] (WS T ws) = F_Words_part [.obj T.length, .str g.t] (WS T ws) := w_m1 rfl rfl rfl rfl
    rw [e, ex]
    unfold prPs
    cases q : prP g ws with
    | none =>
      rw [q] at p
      obtain ⟨r, p⟩ := p
      rw [p]
      exact ⟨r, rfl⟩
    | some y =>
      obtain ⟨d, r⟩ := y
      rw [q] at p
      rw [p.1]
      show RdsL T acc (match prPs gs r with | some (ds, r2) => some (d :: ds, r2) | none => none) (if acc.length < lim then _ else _)
      rw [if_pos (by omega)]
      have ih := comp_any T (o0 := o0) (o2 := o2) (o3 := o3) gs (acc ++ [d]) r p.2 (by rw [List.length_append]; show acc.length + 1 + gs.length ≤ lim; omega)
      cases q2 : prPs gs r with
      | none =>
        rw [q2] at ih
        exact ih
      | some z =>
        obtain ⟨ds, r2⟩ := z
        rw [q2] at ih
        have ih : _ = ER.ok (.lst (acc ++ [d] ++ ds)) (WS T r2) := ih
        show _ = ER.ok (.lst (acc ++ d :: ds)) (WS T r2)
        rw [ih, List.append_assoc]; rfl
/-! ### which parts a row has -/
def shapeOf (w : Str) : Option (List Sg) := if w = "stop" then some [] else if w = "back" then some [] else if w = "say" then some [.s] else if w = "ask" then some [.n] else if w = "jump" then some [.r] else if w = "call" then some [.r]
  else if w = "set" then some [.n, .s] else if w = "put" then some [.s, .s] else if w = "unless" then some [.s, .r] else none
/-- the tables tell the same -/
theorem shape_tab (w : Str) : match shapeOf w with
    | some gs => ∃ sh : Str, (tabD kv_SHAPES w).getD ((tabD kv_PAIRS w).getD .non) = .str sh ∧ (signs sh).map D.str = gs.map (fun g => D.str g.t) ∧ ((tabD kv_SHAPES w).isSome || (tabD kv_PAIRS w).isSome) = true ∧ gs.length ≤ 2
    | none => ((tabD kv_SHAPES w).isSome || (tabD kv_PAIRS w).isSome) = false := by
  unfold shapeOf
  by_cases h1 : w = "stop"
  · subst h1; exact ⟨"", rfl, rfl, rfl, by decide⟩
  rw [if_neg h1]
  by_cases h2 : w = "back"
  · subst h2; exact ⟨"", rfl, rfl, rfl, by decide⟩
  rw [if_neg h2]
  by_cases h3 : w = "say"
  · subst h3; exact ⟨"s", rfl, rfl, rfl, by decide⟩
  rw [if_neg h3]
  by_cases h4 : w = "ask"
  · subst h4; exact ⟨"n", rfl, rfl, rfl, by decide⟩
  rw [if_neg h4]
  by_cases h5 : w = "jump"
  · subst h5; exact ⟨"r", rfl, rfl, rfl, by decide⟩
  rw [if_neg h5]
  by_cases h6 : w = "call"
  · subst h6; exact ⟨"r", rfl, rfl, rfl, by decide⟩
  rw [if_neg h6]
  by_cases h7 : w = "set"
  · subst h7; exact ⟨"ns", rfl, rfl, rfl, by decide⟩
  rw [if_neg h7]
  by_cases h8 : w = "put"
  · subst h8; exact ⟨"ss", rfl, rfl, rfl, by decide⟩
  rw [if_neg h8]
  by_cases h9 : w = "unless"
  · subst h9; exact ⟨"sr", rfl, rfl, rfl, by decide⟩
  rw [if_neg h9]
  have n : ∀ (k : Str), w ≠ k → ∀ (v : D) (r : List (Str × D)), tabD ((k, v) :: r) w = tabD r w := fun k hk v r => by
    show (if k = w then some v else tabD r w) = _
    rw [if_neg (fun z => hk z.symm)]
  have e1 : tabD kv_SHAPES w = none := by
    show tabD [("stop", .str ""), ("back", .str ""), ("say", .str "s"), ("ask", .str "n"), ("jump", .str "r"), ("call", .str "r"), ("set", .str "ns")] w = none
    rw [n _ h1, n _ h2, n _ h3, n _ h4, n _ h5, n _ h6, n _ h7]; rfl
  have e2 : tabD kv_PAIRS w = none := by
    show tabD [("put", .str "ss"), ("unless", .str "sr")] w = none
    rw [n _ h8, n _ h9]; rfl
  show ((tabD kv_SHAPES w).isSome || (tabD kv_PAIRS w).isSome) = false
  rw [e1, e2]; rfl
/-- a row out of a line's words -/
def prRow : List Str → Option D
  | [] => none
  | w :: ws => (match shapeOf w with
    | some gs => (match prPs gs ws with
      | some (ds, []) => some (.tup (.str w :: ds))
      | _ => none)
    | none => none)
theorem prRow_prop {ws : List Str} {d : D} (h : prRow ws = some d) (hw : WsG ws) : Nc 16 d ∧ d.pure = true := by
  cases ws with
  | nil => cases h
  | cons w ws =>
    have h : (match shapeOf w with
      | some gs => (match prPs gs ws with
        | some (ds, []) => some (D.tup (.str w :: ds))
        | _ => none)
      | none => none) = some d := h
    split at h
    · rename_i gs eg
      split at h
      · rename_i ds e
        obtain ⟨h1, h2, h3, h4⟩ := prPs_prop e hw.tail
        have hg : gs.length ≤ 2 := by
          have := shape_tab w
          rw [eg] at this
          obtain ⟨_, _, _, _, h⟩ := this
          exact h
        cases h
        refine ⟨⟨by rw [List.length_cons, h4]; omega, fun x hx => ?_⟩, by show (true && D.pures ds) = true; rw [h2]; rfl⟩
        exact (List.mem_cons.mp hx).elim (fun z => z ▸ nc_w hw.hd) (h1 x)
      · cases h
    · cases h
end Bt
namespace Bt
open PySem PySem.Spec PyProof.Rows L2 TL
/-! ### a program's text, cut into lines -/
theorem joinL_nl (L : List (List Nat)) : joinL [] (L.map fun l => l ++ [10]) = joinL [10] (L ++ [[]]) := by
  induction L with
  | nil => rfl
  | cons a l ih =>
    cases l with
    | nil =>
      show a ++ [10] = a ++ ([10] ++ [])
      simp
    | cons b r =>
      have e1 : joinL [] ((a :: b :: r).map fun l => l ++ [10]) = (a ++ [10]) ++ ([] ++ joinL [] ((b :: r).map fun l => l ++ [10])) := rfl
      have e2 : joinL [10] ((a :: b :: r) ++ [[]]) = a ++ ([10] ++ joinL [10] ((b :: r) ++ [[]])) := rfl
      rw [e1, e2, ih]
      simp
theorem pt_lines (p : Prg) : ptM p = Txt.join feed (p.map rtM ++ [("" : Str)]) := by
  refine ext_tl ?_
  unfold ptM
  rw [join_eq, join_eq, tl_join, tl_join, List.map_append, List.map_map, List.map_map]
  have := joinL_nl (p.map fun r => tl (rtM r))
  rw [List.map_map] at this
  have e : tl ("" : Str) = [] := rfl
  have e3 : tl feed = [10] := rfl
  rw [e, e3]
  refine Eq.trans ?_ this
  congr 1
  refine List.map_congr_left fun r _ => ?_
  show tl (rtM r ++ feed) = tl (rtM r) ++ [10]
  rw [tl_append]; rfl
theorem mem_joinL {S : List Nat} : ∀ {ps : List (List Nat)} {c : Nat}, c ∈ joinL S ps → c ∈ S ∨ ∃ p ∈ ps, c ∈ p
  | [], c, h => by cases h
  | [p], c, h => .inr ⟨p, by simp, h⟩
  | p :: q :: r, c, h => by
    have h : c ∈ p ++ (S ++ joinL S (q :: r)) := h
    rcases List.mem_append.mp h with h | h
    · exact .inr ⟨p, by simp, h⟩
    · rcases List.mem_append.mp h with h | h
      · exact .inl h
      · rcases mem_joinL h with h | ⟨x, hx, hc⟩
        · exact .inl h
        · exact .inr ⟨x, List.mem_cons_of_mem _ hx, hc⟩
theorem rt_nl {n : Nat} (hn : n ≤ 1000) {r : Row} (h : r.ok n) : 10 ∉ tl (rtM r) := by
  unfold rtM
  rw [join_eq, tl_join]
  intro hm
  rcases mem_joinL hm with hm | ⟨p, hp, hc⟩
  · revert hm; decide
  · obtain ⟨w, hw, rfl⟩ := List.mem_map.mp hp
    exact (rw_wd hn h w hw).nl hc
theorem split_lines {p : Prg} (hp : PrgOk p) : Txt.split (ptM p) feed = p.map rtM ++ [("" : Str)] := by
  rw [pt_lines]
  refine split_join (s := 10) (S := []) rfl (by rw [← Array.all_toList]; rfl) (by simp) fun x hx => ?_
  rcases List.mem_append.mp hx with hx | hx
  · obtain ⟨r, hr, rfl⟩ := List.mem_map.mp hx
    exact rt_nl hp.len (hp.rows r hr)
  · rw [List.mem_singleton.mp hx]
    show 10 ∉ ([] : List Nat)
    simp
end Bt
namespace Bt
open PySem PySem.Spec PyProof.Rows L2 TL
theorem so_app {x y : Str} (hx : PyData.strOk x = true) (hy : PyData.strOk y = true) : PyData.strOk (x ++ y) = true := by
  rw [so_iff, tl_append]
  intro c hc
  exact (List.mem_append.mp hc).elim (so_iff.mp hx c) (so_iff.mp hy c)
theorem so_rt {n : Nat} (hn : n ≤ 1000) {r : Row} (h : r.ok n) : PyData.strOk (rtM r) = true := so_join so_blank (ok_rw hn h).so
theorem so_pt {p : Prg} (hp : PrgOk p) : PyData.strOk (ptM p) = true := by
  refine so_join (strOk_of "") fun w hw => ?_
  obtain ⟨r, hr, rfl⟩ := List.mem_map.mp hw
  exact so_app (so_rt hp.len (hp.rows r hr)) so_feed
end Bt
namespace Bt
open PySem PySem.Spec PyProof.Rows L2 TL
/-! ### the program's readers on any text -/
theorem split_cons (x y : Str) : ∃ w ws, Txt.split x y = w :: ws := by
  have := PyProof.Rows.split_pos x y
  cases e : Txt.split x y with
  | nil => rw [e] at this; exact absurd this (by decide)
  | cons w ws => exact ⟨w, ws, rfl⟩
theorem init_wordsX (T : Sto) {t : Str} (hl : t.length ≤ 1000000) : G_Words___init__ [.obj T.length, .str t] (T ++ [.inst "Words" []]) = .ok .non (WS T (Txt.split t blank)) := by
  generalize hws : Txt.split t blank = ws
  unfold G_Words___init__ F_Words___init__
  rw [fnB2]
  simp only [Nat.reduceSub, List.reduceReplicate, List.cons_append, List.nil_append]
  have e1 : eSplit (eVar 1) (eC (.str " ")) [some (.obj T.length), some (.str t)] (T ++ [.inst "Words" []]) = .ok (.lst (ws.map D.str)) (T ++ [.inst "Words" []]) := by
    show (if (blank.length == 0) = false ∧ t.length ≤ lim then ER.ok (.lst ((Txt.split t blank).map D.str)) (T ++ [AObj.inst "Words" []]) else .bad) = _
    rw [if_pos ⟨by decide, hl⟩, hws]
  have e2 : eRevNew (eSplit (eVar 1) (eC (.str " "))) [some (.obj T.length), some (.str t)] (T ++ [.inst "Words" []]) = .ok (.obj (T.length + 1)) ((T ++ [.inst "Words" []]) ++ [AObj.list (ws.reverse.map D.str)]) := by
    unfold eRevNew
    rw [e1]
    simp only [ER.bind_ok, List.length_append, List.length_cons, List.length_nil, List.map_reverse]
  have e3 : ((T ++ [AObj.inst "Words" []]) ++ [AObj.list (ws.reverse.map D.str)])[T.length]? = some (.inst "Words" []) := by
    rw [List.append_assoc, List.getElem?_append_right (Nat.le_refl _), Nat.sub_self]; rfl
  have e4 : insAt "Words" ((T ++ [AObj.inst "Words" []]) ++ [AObj.list (ws.reverse.map D.str)]) (.obj T.length) = some (T.length, []) := by
    unfold insAt; simp only [e3, if_true]
  rw [s_fldS, e2]
  show (match insAt "Words" ((T ++ [AObj.inst "Words" []]) ++ [AObj.list (ws.reverse.map D.str)]) (.obj T.length) with
    | some (n, fs) => if fs.length < 1000 then SR.nx _ (((T ++ [AObj.inst "Words" []]) ++ [AObj.list (ws.reverse.map D.str)]).set n (.inst "Words" (setF "left" (.d (.obj (T.length + 1))) fs))) else .bad
    | none => .bad).toE = _
  rw [e4]
  show ER.ok .non (((T ++ [AObj.inst "Words" []]) ++ [AObj.list (ws.reverse.map D.str)]).set T.length (.inst "Words" [("left", .d (.obj (T.length + 1)))])) = _
  rw [List.append_assoc, List.set_append_right _ _ (Nat.le_refl _), Nat.sub_self]
  rfl
theorem make_wordsX {T : Sto} {t : Str} {ρ : Env} {fa : Ex} (hl : t.length ≤ 1000000) (ha : fa ρ T = .ok (.str t) T) : eMake "Words" G_Words___init__ (eCons fa eNil) ρ T = .ok (.obj T.length) (WS T (Txt.split t blank)) := by
  unfold eMake
  simp only [s_cons, s_nil, ha, ER.bind_ok, init_wordsX T hl]
theorem split_st {a : Sm} (h : FewS a) : Txt.split (stM a) blank = swM a := split_words (sw_ne a) (ok_sw h.1)
theorem read_sum_any (T : Sto) {t : Str} (hso : PyData.strOk t = true) (hl : t.length ≤ 1000000) (hw : WsG (Txt.split t blank)) :
    (∃ a, FewS a ∧ stM a = t ∧ G_read_sum [.str t] T = .ok a.d T) ∨ ((∀ a, FewS a → stM a ≠ t) ∧ G_read_sum [.str t] T = .exc .text T) := by
  have sx := sum_inX T 17 15 _ (by decide) hw
  have mk := fun (ρ : Env) (h : eVar 0 ρ T = .ok (.str t) T) => make_wordsX (T := T) (ρ := ρ) (fa := eVar 0) hl h
  by_cases hex : ∃ a, FewS a ∧ stM a = t
  · obtain ⟨a, ha, rfl⟩ := hex
    left
    refine ⟨a, ha, rfl, trunc_ok (S' := WS T []) ?_ ws_take (sm_pure a)⟩
    have pf := prS_fwd 15 a [] ha.1 ha.dep
    rw [List.append_nil] at pf
    rw [split_st ha] at sx mk
    rw [pf] at sx
    unfold F_read_sum
    rw [fnB1]
    simp only [Nat.reduceSub, List.reduceReplicate, List.cons_append, List.nil_append]
    refine f_set (d := .obj T.length) (S1 := WS T (swM a)) (mk _ rfl) ?_
    refine f_set (d := a.d) (S1 := WS T []) (w_m1 rfl rfl rfl sx.1) ?_
    refine f_if (bb := false) (S1 := WS T []) (x_or (x := false) (y := false) (x_op (x := .obj (T.length + 1)) (y := .lst []) (w_left rfl) rfl (by rw [ws_ne ws_nil.so]; rfl)) fun _ => x_or (x := false) (y := false) (x_not (b := true) (x_c1 (x := a.d) rfl ((is_sum_ok (nc_sm a) _).trans (by rw [sum_few ha])))) fun _ => x_op (x := .str (stM a)) (y := .str (stM a)) (x_c1 (x := a.d) rfl (written_sum_txtF _ ha)) rfl (by rw [opNe_str (so_st ha.1) (so_st ha.1)]; simp)) rfl ?_
    exact f_ret (S1 := WS T []) rfl rfl
  · right
    refine ⟨fun a ha e => hex ⟨a, ha, e⟩, ?_⟩
    generalize Txt.split t blank = ws at *
    cases e : prS 15 ws with
    | none =>
      rw [e] at sx
      obtain ⟨r, sx⟩ := sx
      refine trunc_exc (S' := WS T r) ?_ ws_take
      unfold F_read_sum
      rw [fnB1]
      simp only [Nat.reduceSub, List.reduceReplicate, List.cons_append, List.nil_append]
      refine f_set (d := .obj T.length) (S1 := WS T ws) (mk _ rfl) ?_
      exact f_setX (w_m1 rfl rfl rfl sx) rfl
    | some p =>
      obtain ⟨d, r⟩ := p
      rw [e] at sx
      obtain ⟨hn, hp, hr⟩ := prS_prop _ _ _ _ e hw
      refine trunc_exc (S' := WS T r) ?_ ws_take
      unfold F_read_sum
      rw [fnB1]
      simp only [Nat.reduceSub, List.reduceReplicate, List.cons_append, List.nil_append]
      refine f_set (d := .obj T.length) (S1 := WS T ws) (mk _ rfl) ?_
      refine f_set (d := d) (S1 := WS T r) (w_m1 rfl rfl rfl sx.1) ?_
      have c1 : eOp opNeS (eFld "Words" "left" (eVar 1)) (eLst eNil) [some (.str t), some (.obj T.length), some d] (WS T r) = .ok (.bl (!decide (r = []))) (WS T r) := x_op (x := .obj (T.length + 1)) (y := .lst []) (w_left rfl) rfl (by rw [ws_ne hr.so])
      by_cases h1 : r = []
      · have c2 : eNot (eCall G_is_sum (eCons (eVar 2) eNil)) [some (.str t), some (.obj T.length), some d] (WS T r) = .ok (.bl (!sumD d)) (WS T r) := x_not (x_c1 (x := d) rfl (is_sum_ok hn _))
        refine f_ifT (bb := true) (S1 := WS T r) ?_ rfl f_raise
        refine x_or (x := false) (y := true) (c1.trans (by rw [decide_eq_true h1]; rfl)) fun _ => ?_
        cases h2 : sumD d with
        | false => exact x_or (x := true) (y := true) (c2.trans (by rw [h2]; rfl)) fun z => by cases z
        | true =>
          obtain ⟨a, rfl, ha⟩ := sumD_inv h2
          refine x_or (x := false) (y := true) (c2.trans (by rw [h2]; rfl)) fun _ => ?_
          exact x_op (x := .str (stM a)) (y := .str t) (x_c1 (x := a.d) rfl (written_sum_txtF _ ha)) rfl (by rw [opNe_str (so_st ha.1) hso, decide_eq_false fun z => hex ⟨a, ha, z⟩]; rfl)
      · exact f_ifT (bb := true) (S1 := WS T r) (x_or (x := true) (y := true) (c1.trans (by rw [decide_eq_false h1]; rfl)) fun z => by cases z) rfl f_raise
section
variable {ρ : Env} {S S1 S2 : Sto} {k : Exc} {x : D} {fa fb : Ex}
theorem x_opX {F : Sto → D → D → Option D} (ha : fa ρ S = .ok x S1) (hb : fb ρ S1 = .exc k S2) : eOp F fa fb ρ S = .exc k S2 := by
  unfold eOp; rw [ha]; show (fb ρ S1).bind _ = _; rw [hb]; rfl
theorem x_BX {F : Sto → List D → Option D} (ha : fa ρ S = .exc k S1) : eCallB F (eCons fa eNil) ρ S = .exc k S1 := by
  unfold eCallB; simp only [s_cons, ha, ER.bind_exc]
end
theorem read_rowX_law (T : Sto) {t : Str} (hl : t.length ≤ 1000000) (hw : WsG (Txt.split t blank)) : G_read_rowX [.str t] T = match prRow (Txt.split t blank) with | some d => .ok d T | none => .exc .text T := by
  have mk := fun (ρ : Env) (h : eVar 0 ρ T = .ok (.str t) T) => make_wordsX (T := T) (ρ := ρ) (fa := eVar 0) hl h
  obtain ⟨w, ws, es⟩ := split_cons t blank
  rw [es] at hw mk ⊢
  have ht := shape_tab w
  have cw : eAnd (eTIn true kv_SHAPES (eVar 2)) (eTIn true kv_PAIRS (eVar 2)) [some (.str t), some (.obj T.length), some (.str w), none, none] (WS T ws) = .ok (.bl ((!(tabD kv_SHAPES w).isSome) && (!(tabD kv_PAIRS w).isSome))) (WS T ws) := x_and rfl fun _ => rfl
  rw [← Bool.not_or] at cw
  cases eg : shapeOf w with
  | none =>
    rw [eg] at ht
    have ep : prRow (w :: ws) = none := by
      show (match shapeOf w with
        | some gs => (match prPs gs ws with
          | some (ds, []) => some (D.tup (.str w :: ds))
          | _ => none)
        | none => none) = none
      rw [eg]
    rw [ep]
    refine trunc_exc (S' := WS T ws) ?_ ws_take
    unfold F_read_rowX
    rw [fnB1]
    simp only [Nat.reduceSub, List.reduceReplicate, List.cons_append, List.nil_append]
    refine f_set (d := .obj T.length) (S1 := WS T (w :: ws)) (mk _ rfl) ?_
    refine f_set (d := .str w) (S1 := WS T ws) (w_m0 rfl rfl (wordX T (w :: ws) hw)) ?_
    exact f_ifT (S1 := WS T ws) cw (by rw [ht]; rfl) f_raise
  | some gs =>
    rw [eg] at ht
    obtain ⟨sh, h1, h2, h3, h4⟩ := ht
    have ep : prRow (w :: ws) = (match prPs gs ws with
          | some (ds, []) => some (D.tup (.str w :: ds))
          | _ => none) := by
      show (match shapeOf w with
        | some gs => (match prPs gs ws with
          | some (ds, []) => some (D.tup (.str w :: ds))
          | _ => none)
        | none => none) = _
      rw [eg]
    rw [ep]
    have cx := comp_any T (o0 := some (.str t)) (o2 := some (.str w)) (o3 := none) gs [] ws hw.tail (by show 0 + gs.length ≤ 1000000; omega)
    have ce : eCompX [4] (iStrE (eTGet kv_SHAPES (eVar 2) (eTGet1 kv_PAIRS (eVar 2)))) (dN 4) eYes partX [some (.str t), some (.obj T.length), some (.str w), none, none] (WS T ws) = compLX (dN 4) eYes partX [some (.str t), some (.obj T.length), some (.str w), none, none] (gs.map fun g => D.str g.t) [] (WS T ws) := by
      have e : iStrE (eTGet kv_SHAPES (eVar 2) (eTGet1 kv_PAIRS (eVar 2))) [some (.str t), some (.obj T.length), some (.str w), none, none] (WS T ws) = .ok (.tup (gs.map fun g => D.str g.t)) (WS T ws) := by
        unfold iStrE
        show (ER.ok ((tabD kv_SHAPES w).getD ((tabD kv_PAIRS w).getD .non)) (WS T ws)).bind _ = _
        rw [h1]
        show ER.ok (.tup ((signs sh).map D.str)) _ = _
        rw [h2]
      unfold eCompX
      rw [e]; rfl
    cases q : prPs gs ws with
    | none =>
      rw [q] at cx
      obtain ⟨r, cx⟩ := cx
      refine trunc_exc (S' := WS T r) ?_ ws_take
      unfold F_read_rowX
      rw [fnB1]
      simp only [Nat.reduceSub, List.reduceReplicate, List.cons_append, List.nil_append]
      refine f_set (d := .obj T.length) (S1 := WS T (w :: ws)) (mk _ rfl) ?_
      refine f_set (d := .str w) (S1 := WS T ws) (w_m0 rfl rfl (wordX T (w :: ws) hw)) ?_
      refine f_if (S1 := WS T ws) cw (by rw [h3]; rfl) ?_
      exact f_setX (x_opX (x := .tup [.str w]) (x_tup1 rfl) (x_BX (ce.trans cx))) rfl
    | some y =>
      obtain ⟨ds, r⟩ := y
      rw [q] at cx
      have cx : _ = ER.ok (.lst ds) (WS T r) := cx
      obtain ⟨n1, n2, n3, n4⟩ := prPs_prop q hw.tail
      have body : ∀ {z : ER}, (sSeq (sIf (eOp opNeS (eFld "Words" "left" (eVar 1)) (eLst eNil)) (sRaise .text) sSkip) (sRet (eVar 3)) [some (.str t), some (.obj T.length), some (.str w), some (.tup (.str w :: ds)), none] (WS T r)).toE = z → F_read_rowX [.str t] T = z := fun {z} hz => by
        unfold F_read_rowX
        rw [fnB1]
        simp only [Nat.reduceSub, List.reduceReplicate, List.cons_append, List.nil_append]
        refine f_set (d := .obj T.length) (S1 := WS T (w :: ws)) (mk _ rfl) ?_
        refine f_set (d := .str w) (S1 := WS T ws) (w_m0 rfl rfl (wordX T (w :: ws) hw)) ?_
        refine f_if (S1 := WS T ws) cw (by rw [h3]; rfl) ?_
        refine f_set (d := .tup (.str w :: ds)) (S1 := WS T r) (x_op (x := .tup [.str w]) (y := .tup ds) (S1 := WS T ws) (S2 := WS T r) (x_tup1 rfl) (x_B1 (x := .lst ds) (ce.trans cx) rfl) ?_) hz
        rw [o_addT, if_pos (by show 1 + ds.length ≤ 1000000; omega)]; rfl
      have c1 : eOp opNeS (eFld "Words" "left" (eVar 1)) (eLst eNil) [some (.str t), some (.obj T.length), some (.str w), some (.tup (.str w :: ds)), none] (WS T r) = .ok (.bl (!decide (r = []))) (WS T r) := x_op (x := .obj (T.length + 1)) (y := .lst []) (w_left rfl) rfl (by rw [ws_ne n3.so])
      cases r with
      | nil =>
        refine trunc_ok (S' := WS T []) (body ?_) ws_take (by show (true && D.pures ds) = true; rw [n2]; rfl)
        exact f_if (S1 := WS T []) c1 rfl (f_ret (S1 := WS T []) rfl rfl)
      | cons v r => exact trunc_exc (S' := WS T (v :: r)) (body (f_ifT (S1 := WS T (v :: r)) c1 rfl f_raise)) ws_take
/-! ### programs -/
def prRows : List Str → Option (List D)
  | [] => some []
  | l :: ls => (match prRow (Txt.split l blank) with
    | some d => (match prRows ls with
      | some ds => some (d :: ds)
      | none => none)
    | none => none)
structure LnG (ls : List Str) : Prop where
  l : ∀ x ∈ ls, x.length ≤ 1000000 ∧ WsG (Txt.split x blank)
theorem prRows_prop : ∀ {ls : List Str} {ds : List D}, prRows ls = some ds → LnG ls → (∀ d ∈ ds, Nc 16 d) ∧ ds.length = ls.length
  | [], ds, h, _ => by cases h; exact ⟨fun d hd => (by cases hd), rfl⟩
  | l :: ls, ds, h, hg => by
    unfold prRows at h
    split at h
    · rename_i d e
      have h1 := prRow_prop e (hg.l l List.mem_cons_self).2
      split at h
      · rename_i ds2 e2
        obtain ⟨h3, h4⟩ := prRows_prop e2 ⟨fun x hx => hg.l x (List.mem_cons_of_mem _ hx)⟩
        cases h
        exact ⟨fun x hx => (List.mem_cons.mp hx).elim (fun z => z ▸ h1.1) (h3 x), by rw [List.length_cons, List.length_cons, h4]⟩
      · cases h
    · cases h
noncomputable def rowE : Ex := eCall G_read_rowX (eCons (eVar 2) eNil)
def RdsM (T : Sto) (acc : List D) (o : Option (List D)) (q : ER) : Prop := match o with
  | some ds => q = .ok (.lst (acc ++ ds)) T
  | none => q = .exc .text T
theorem comp_rows (T : Sto) {o0 o1 : Option D} : ∀ (ls : List Str) (acc : List D), LnG ls → acc.length + ls.length ≤ lim →
    RdsM T acc (prRows ls) (compLX (dN 2) eYes rowE [o0, o1, none] (ls.map D.str) acc T)
  | [], acc, _, _ => by
    show ER.ok (.lst acc) T = .ok (.lst (acc ++ [])) T
    rw [List.append_nil]
  | l :: ls, acc, hg, hl => by
    have hl : acc.length + (ls.length + 1) ≤ lim := hl
    have e : compLX (dN 2) eYes rowE [o0, o1, none] ((l :: ls).map D.str) acc T = (match rowE [o0, o1, some (.str l)] T with
      | .ok y S2 => if acc.length < lim then compLX (dN 2) eYes rowE [o0, o1, none] (ls.map D.str) (acc ++ [y]) S2 else .bad
      | .exc k S2 => .exc k S2
      | .bad => .bad) := rfl
    have hh := hg.l l List.mem_cons_self
    have ex : rowE [o0, o1, some (.str l)] T = G_read_rowX [.str l] T := rfl
    rw [e, ex, read_rowX_law T hh.1 hh.2]
    unfold prRows
    cases q : prRow (Txt.split l blank) with
    | none => rfl
    | some d =>
      show RdsM T acc (match prRows ls with | some ds => some (d :: ds) | none => none) (if acc.length < lim then _ else _)
      rw [if_pos (by omega)]
      have ih := comp_rows T (o0 := o0) (o1 := o1) ls (acc ++ [d]) ⟨fun x hx => hg.l x (List.mem_cons_of_mem _ hx)⟩ (by rw [List.length_append]; show acc.length + 1 + ls.length ≤ lim; omega)
      cases q2 : prRows ls with
      | none =>
        rw [q2] at ih
        exact ih
      | some ds =>
        rw [q2] at ih
        have ih : _ = ER.ok (.lst (acc ++ [d] ++ ds)) T := ih
        show _ = ER.ok (.lst (acc ++ d :: ds)) T
        rw [ih, List.append_assoc]; rfl
end Bt
namespace Bt
open PySem PySem.Spec PyProof.Rows L2 TL
theorem prRow_1 {w : Str} {gs : List Sg} {ws : List Str} {ds : List D} (h1 : shapeOf w = some gs) (h2 : prPs gs ws = some (ds, [])) : prRow (w :: ws) = some (.tup (.str w :: ds)) := by
  show (match shapeOf w with
        | some gs => (match prPs gs ws with
          | some (ds, []) => some (D.tup (.str w :: ds))
          | _ => none)
        | none => none) = _
  rw [h1]
  show (match prPs gs ws with
          | some (ds, []) => some (D.tup (.str w :: ds))
          | _ => none) = _
  rw [h2]
theorem prPs_0 : prPs [] [] = some ([], []) := rfl
theorem prPs_1 {g : Sg} {gs : List Sg} {ws r r2 : List Str} {d : D} {ds : List D} (h : prP g ws = some (d, r)) (h2 : prPs gs r = some (ds, r2)) : prPs (g :: gs) ws = some (d :: ds, r2) := by
  unfold prPs
  rw [h]
  show (match prPs gs r with | some (ds, r2) => some (d :: ds, r2) | none => none) = _
  rw [h2]
theorem prP_s {a : Sm} {ws : List Str} (h : FewS a) : prP .s (swM a ++ ws) = some (a.d, ws) := prS_fwd 15 a ws h.1 h.dep
theorem prP_s0 {a : Sm} (h : FewS a) : prP .s (swM a) = some (a.d, []) := by
  have := prP_s (ws := []) h
  rwa [List.append_nil] at this
theorem prP_r {k n : Nat} (hn : n ≤ 1000) (h : k ≤ n) : prP .r [nS (k : Int)] = some (.int (k : Nat), []) := by
  show (if prN (nS (k : Int)) then some (D.int (intV (nS (k : Int))), ([] : List Str)) else none) = _
  rw [if_pos (prN_nS (by omega) (by omega)), intV_nS (by omega)]
theorem prRow_fwd {n : Nat} (hn : n ≤ 1000) : ∀ r : Row, r.okF n → prRow (rwM r) = some r.d
  | .set i a, h => prRow_1 (w := "set") rfl (prPs_1 (g := .n) rfl (prPs_1 (prP_s0 h) prPs_0))
  | .put a b, h => prRow_1 (w := "put") rfl (prPs_1 (prP_s h.1) (prPs_1 (prP_s0 h.2) prPs_0))
  | .ask i, h => prRow_1 (w := "ask") rfl (prPs_1 (g := .n) rfl prPs_0)
  | .say a, h => prRow_1 (w := "say") rfl (prPs_1 (prP_s0 h) prPs_0)
  | .jump k, h => prRow_1 (w := "jump") rfl (prPs_1 (prP_r hn h) prPs_0)
  | .unless a k, h => prRow_1 (w := "unless") rfl (prPs_1 (prP_s h.1) (prPs_1 (prP_r hn h.2) prPs_0))
  | .call k, h => prRow_1 (w := "call") rfl (prPs_1 (prP_r hn h) prPs_0)
  | .back, h => prRow_1 (w := "back") rfl prPs_0
  | .stop, h => prRow_1 (w := "stop") rfl prPs_0
theorem ok_rwF {n : Nat} (hn : n ≤ 1000) {r : Row} (h : r.okF n) : WsOk (rwM r) := ⟨rw_wdF hn h⟩
theorem split_rt {n : Nat} (hn : n ≤ 1000) {r : Row} (h : r.okF n) : Txt.split (rtM r) blank = rwM r := split_words (rw_ne r) (ok_rwF hn h)
theorem rt_nlF {n : Nat} (hn : n ≤ 1000) {r : Row} (h : r.okF n) : 10 ∉ tl (rtM r) := by
  unfold rtM
  rw [join_eq, tl_join]
  intro hm
  rcases mem_joinL hm with hm | ⟨p, hp, hc⟩
  · revert hm; decide
  · obtain ⟨w, hw, rfl⟩ := List.mem_map.mp hp
    exact (rw_wdF hn h w hw).nl hc
theorem PrgF.l1 {p : Prg} (hp : PrgF p) : p.length ≤ 1000 := by have := hp.len; omega
theorem split_linesF {p : Prg} (hp : PrgF p) : Txt.split (ptM p) feed = p.map rtM ++ [("" : Str)] := by
  rw [pt_lines]
  refine split_join (s := 10) (S := []) rfl (by rw [← Array.all_toList]; rfl) (by simp) fun x hx => ?_
  rcases List.mem_append.mp hx with hx | hx
  · obtain ⟨r, hr, rfl⟩ := List.mem_map.mp hx
    exact rt_nlF hp.l1 (hp.rows r hr)
  · rw [List.mem_singleton.mp hx]
    show 10 ∉ ([] : List Nat)
    simp
theorem so_rtF {n : Nat} (hn : n ≤ 1000) {r : Row} (h : r.okF n) : PyData.strOk (rtM r) = true := so_join so_blank (ok_rwF hn h).so
theorem so_ptF {p : Prg} (hp : PrgF p) : PyData.strOk (ptM p) = true := by
  refine so_join (strOk_of "") fun w hw => ?_
  obtain ⟨r, hr, rfl⟩ := List.mem_map.mp hw
  exact so_app (so_rtF hp.l1 (hp.rows r hr)) so_feed
def linesOf (t : Str) : List Str := (Txt.split t feed).dropLast
theorem lines_pt {p : Prg} (hp : PrgF p) : linesOf (ptM p) = p.map rtM := by
  unfold linesOf
  rw [split_linesF hp, List.dropLast_concat]
theorem prRows_map {n : Nat} (hn : n ≤ 1000) : ∀ {p : Prg}, (∀ r ∈ p, r.okF n) → prRows (p.map rtM) = some (p.map Row.d)
  | [], _ => rfl
  | r :: p, h => by
    have h1 : prRow (Txt.split (rtM r) blank) = some r.d := by rw [split_rt hn (h r List.mem_cons_self)]; exact prRow_fwd hn r (h r List.mem_cons_self)
    have h2 := prRows_map hn (p := p) fun x hx => h x (List.mem_cons_of_mem _ hx)
    show (match prRow (Txt.split (rtM r) blank) with
    | some d => (match prRows (p.map rtM) with
      | some ds => some (d :: ds)
      | none => none)
    | none => none) = _
    rw [h1, h2]; rfl
theorem iter_lines {T : Sto} {t : Str} {o1 o2 : Option D} (hl : t.length ≤ 1000000) : iLst (eSl (eSplit (eVar 0) (eC (.str "\n"))) eNo (eInt (eUn opNeg (eC (.int 1))))) [some (.str t), o1, o2] T = .ok (.tup ((linesOf t).map D.str)) T := by
  have e1 : eSplit (eVar 0) (eC (.str "\n")) [some (.str t), o1, o2] T = .ok (.lst ((Txt.split t feed).map D.str)) T := by
    show (if (feed.length == 0) = false ∧ t.length ≤ lim then ER.ok (.lst ((Txt.split t feed).map D.str)) T else .bad) = _
    rw [if_pos ⟨by decide, hl⟩]
  unfold iLst
  rw [s_sl, e1]
  show (lift1 (some (D.lst (cutD ((Txt.split t feed).map D.str) none (some (-1))))) T).bind _ = _
  rw [cut_last, ← List.map_dropLast]; rfl
theorem readX_any (T : Sto) {t : Str} (hso : PyData.strOk t = true) (hl : t.length ≤ 1000000) (hg : LnG (linesOf t)) (hn : (linesOf t).length ≤ 1000) :
    (∃ p, PrgF p ∧ ptM p = t ∧ F_readX [.str t] T = .ok (prgD p) T) ∨ ((∀ p, PrgF p → ptM p ≠ t) ∧ F_readX [.str t] T = .exc .text T) := by
  have cr := comp_rows T (o0 := some (.str t)) (o1 := none) (linesOf t) [] hg (by show 0 + (linesOf t).length ≤ 1000000; omega)
  have ce : eCompX [2] (iLst (eSl (eSplit (eVar 0) (eC (.str "\n"))) eNo (eInt (eUn opNeg (eC (.int 1)))))) (dN 2) eYes rowE [some (.str t), none, none] T = compLX (dN 2) eYes rowE [some (.str t), none, none] ((linesOf t).map D.str) [] T := by
    unfold eCompX
    rw [iter_lines hl]; rfl
  by_cases hex : ∃ p, PrgF p ∧ ptM p = t
  · obtain ⟨p, hp, rfl⟩ := hex
    left
    refine ⟨p, hp, rfl, ?_⟩
    have hr : prRows (linesOf (ptM p)) = some (p.map Row.d) := by rw [lines_pt hp]; exact prRows_map hp.l1 hp.rows
    have hN := prRows_prop hr hg
    rw [hr] at cr
    have cr : _ = ER.ok (.lst (p.map Row.d)) T := cr
    unfold F_readX
    rw [fnB1]
    simp only [Nat.reduceSub, List.reduceReplicate, List.cons_append, List.nil_append]
    refine f_set (d := prgD p) (S1 := T) (x_B1 (x := .lst (p.map Row.d)) (ce.trans cr) rfl) ?_
    have nd : Nc 17 (prgD p) := ⟨by rw [List.length_map]; exact hp.l1, fun d hd => hN.1 d hd⟩
    refine f_if (bb := false) (S1 := T) (x_or (x := false) (y := false) (x_not (b := true) (x_c1 (x := prgD p) rfl ((is_prg_ok nd T).trans (by rw [prg_few hp])))) fun _ => x_op (x := .str (ptM p)) (y := .str (ptM p)) (x_c1 (x := prgD p) rfl (written_txtF T hp)) rfl (by rw [opNe_str (so_ptF hp) (so_ptF hp)]; simp)) rfl ?_
    exact f_ret (S1 := T) rfl rfl
  · right
    refine ⟨fun p hp e => hex ⟨p, hp, e⟩, ?_⟩
    cases q : prRows (linesOf t) with
    | none =>
      rw [q] at cr
      have cr : _ = ER.exc .text T := cr
      unfold F_readX
      rw [fnB1]
      simp only [Nat.reduceSub, List.reduceReplicate, List.cons_append, List.nil_append]
      exact f_setX (x_BX (ce.trans cr)) rfl
    | some ds =>
      have hN := prRows_prop q hg
      rw [q] at cr
      have cr : _ = ER.ok (.lst ds) T := cr
      have nd : Nc 17 (.tup ds) := ⟨by rw [hN.2]; exact hn, hN.1⟩
      unfold F_readX
      rw [fnB1]
      simp only [Nat.reduceSub, List.reduceReplicate, List.cons_append, List.nil_append]
      refine f_set (d := .tup ds) (S1 := T) (x_B1 (x := .lst ds) (ce.trans cr) rfl) ?_
      refine f_ifT (bb := true) (S1 := T) ?_ rfl f_raise
      have c1 : eNot (eCall G_is_program (eCons (eVar 1) eNil)) [some (.str t), some (.tup ds), none] T = .ok (.bl (!prgT (.tup ds))) T := x_not (x_c1 (x := .tup ds) rfl (is_prg_ok nd T))
      cases h2 : prgT (.tup ds) with
      | false => exact x_or (x := true) (y := true) (c1.trans (by rw [h2]; rfl)) fun z => by cases z
      | true =>
        obtain ⟨p, e, hp⟩ := prgT_inv h2
        refine x_or (x := false) (y := true) (c1.trans (by rw [h2]; rfl)) fun _ => ?_
        exact x_op (x := .str (ptM p)) (y := .str t) (x_c1 (x := .tup ds) rfl (e ▸ written_txtF T hp)) rfl (by rw [opNe_str (so_ptF hp) hso, decide_eq_false fun z => hex ⟨p, hp, z⟩]; rfl)
end Bt
namespace Bt
open PySem PySem.Spec PyProof.Rows L2 TL
/-! ### the law's own reading of a sum -/
theorem notin_figs {S : Sto} {c : Nat} : opNotIn S (.str ⟨#[c]⟩) (.str "0123456789") = some (.bl (!decide (c ∈ digs))) := rfl
theorem so_one {w : Str} {c : Nat} (h : PyData.strOk w = true) (hc : c ∈ tl w) : PyData.strOk ⟨#[c]⟩ = true := by
  rw [so_iff]
  intro x hx
  have : x = c := by
    have hx : x ∈ [c] := hx
    simpa using hx
  rw [this]
  exact so_iff.mp h c hc
theorem c_dig {ρ : Env} {S : Sto} {w : Str} {e : Ex} {v : Nat} (he : e ρ S = .ok (.str w) S) (hso : PyData.strOk w = true) (hl : w.length ≤ 640) (hv : v < ρ.length) :
    eOp opEq (eComp [v] (iStrE e) (dN v) (eOp opNotIn (eVar v) (eC (.str "0123456789"))) (eVar v)) (eLst eNil) ρ S = .ok (.bl (isDig w)) S := by
  have hvar : ∀ x : D, eVar v ((wipeD ρ [v]).set v (some x)) S = .ok x S := fun x => by
    unfold eVar
    rw [List.getElem?_set_self (by rw [wipeD_length]; exact hv)]
  have hc := comp_gen (ρ := ρ) (S := S) (S1 := S) (fi := iStrE e) (tg := dN v) (vs := [v]) (fc := eOp opNotIn (eVar v) (eC (.str "0123456789"))) (fe := eVar v) (f := fun c : Nat => D.str ⟨#[c]⟩) (xs := tl w) (fun c => !decide (c ∈ digs)) (fun c => .str ⟨#[c]⟩) (by
    unfold iStrE
    rw [he]
    show ER.ok (.tup ((signs w).map D.str)) S = _
    unfold signs
    rw [List.map_map]; rfl) (fun c hc => ⟨(wipeD ρ [v]).set v (some (.str ⟨#[c]⟩)), rfl, x_op (x := .str ⟨#[c]⟩) (y := .str "0123456789") (hvar _) rfl notin_figs, fun _ => hvar _⟩) (by rw [← len_tl]; show _ ≤ 1000000; omega)
  refine x_op (x := .lst (((tl w).filter fun c => !decide (c ∈ digs)).map fun c => .str ⟨#[c]⟩)) (y := .lst []) hc rfl ?_
  have e1 : (((tl w).filter fun c => !decide (c ∈ digs)).map fun c => D.str ⟨#[c]⟩) = ((((tl w).filter fun c => !decide (c ∈ digs)).map fun c => (⟨#[c]⟩ : Str)).map D.str) := by rw [List.map_map]; rfl
  unfold opEq
  rw [e1, strs_gd (fun x hx => by
    obtain ⟨c, hc, rfl⟩ := List.mem_map.mp hx
    exact so_one hso (List.mem_filter.mp hc).1), eqv_nil]
  show some (D.bl _) = _
  congr 2
  unfold isDig
  rw [Bool.eq_iff_iff, decide_eq_true_eq, List.map_eq_nil_iff, List.map_eq_nil_iff, List.filter_eq_nil_iff, List.all_eq_true]
  simp
def lwS : Nat → List Str → Option (D × List Str)
  | 0, _ => none
  | _ + 1, [] => none
  | n + 1, w :: ws => if w = "" then none else if isDig w then some (.tup [.str "num", .int (intV w)], ws)
    else if w = "cell" then (match lwS n ws with
      | some (d, r) => some (.tup [.str "cell", d], r)
      | none => none)
    else if w ∈ words4 then (match lwS n ws with
      | some (d, r) => (match lwS n r with
        | some (e, r2) => some (.tup [.str w, d, e], r2)
        | none => none)
      | none => none)
    else some (.tup [.str "name", .str w], ws)
theorem lwS_eq (n : Nat) (w : Str) (ws : List Str) : lwS (n + 1) (w :: ws) = if w = "" then none else if isDig w then some (.tup [.str "num", .int (intV w)], ws)
    else if w = "cell" then (match lwS n ws with
      | some (d, r) => some (.tup [.str "cell", d], r)
      | none => none)
    else if w ∈ words4 then (match lwS n ws with
      | some (d, r) => (match lwS n r with
        | some (e, r2) => some (.tup [.str w, d, e], r2)
        | none => none)
      | none => none)
    else some (.tup [.str "name", .str w], ws) := rfl
/-- what is read is a thing of fair size -/
theorem lwS_prop : ∀ (n : Nat) (ws : List Str) (d : D) (r : List Str), lwS n ws = some (d, r) → WsG ws → Nc ws.length d ∧ d.pure = true ∧ WsG r ∧ r.length < ws.length
  | 0, _, _, _, h, _ => by cases h
  | _ + 1, [], _, _, h, _ => by cases h
  | n + 1, w :: ws, d, r, h, hw => by
    rw [lwS_eq] at h
    have hlen : (w :: ws).length = ws.length + 1 := rfl
    split at h
    · cases h
    · split at h
      · cases h; exact ⟨nc_t2 (nc_lit (by decide)) nc_int, rfl, hw.tail, by omega⟩
      · split at h
        · split at h
          · rename_i d' r' e
            obtain ⟨h1, h2, h3, h4⟩ := lwS_prop n ws d' r' e hw.tail
            cases h
            exact ⟨nc_t2 (nc_lit (by decide)) h1, by show (true && (d'.pure && true)) = true; rw [h2]; rfl, h3, by omega⟩
          · cases h
        · split at h
          · split at h
            · rename_i d' r' e
              obtain ⟨h1, h2, h3, h4⟩ := lwS_prop n ws d' r' e hw.tail
              split at h
              · rename_i d2 r2 e2
                obtain ⟨h5, h6, h7, h8⟩ := lwS_prop n r' d2 r2 e2 h3
                cases h
                exact ⟨nc_t3 (nc_w hw.hd) h1 (h5.mono (by omega)), by show (true && (d'.pure && (d2.pure && true))) = true; rw [h2, h6]; rfl, h7, by omega⟩
              · cases h
            · cases h
          · cases h; exact ⟨nc_t2 (nc_lit (by decide)) (nc_w hw.hd), rfl, hw.tail, by omega⟩
theorem lwS_w4 {n : Nat} {w : String} (h0 : Str.ofString w ≠ Str.ofString "") (h1 : isDig (Str.ofString w) = false) (h2 : Str.ofString w ≠ Str.ofString "cell") (h3 : Str.ofString w ∈ words4) {a b : Sm} {ws : List Str} (ha : lwS n (swM a ++ (swM b ++ ws)) = some (a.d, swM b ++ ws)) (hb : lwS n (swM b ++ ws) = some (b.d, ws)) :
    lwS (n + 1) (Str.ofString w :: (swM a ++ swM b) ++ ws) = some (.tup [.str (Str.ofString w), a.d, b.d], ws) := by
  show lwS (n + 1) (Str.ofString w :: ((swM a ++ swM b) ++ ws)) = _
  rw [lwS_eq, if_neg h0, h1, if_neg (by decide), if_neg h2, if_pos h3, List.append_assoc, ha]
  show (match lwS n (swM b ++ ws) with | some (e, r2) => some (D.tup [.str (Str.ofString w), a.d, e], r2) | none => none) = _
  rw [hb]
theorem lwS_fwd : ∀ (n : Nat) (a : Sm) (ws : List Str), a.ok → a.dep < n → lwS n (swM a ++ ws) = some (a.d, ws)
  | 0, _, _, _, h => by omega
  | n + 1, .num k, ws, ha, _ => by
    show lwS (n + 1) (nS k :: ws) = _
    have h0 : 0 ≤ k := ha.1
    have h1 : k < 10007 := ha.2
    obtain ⟨m, rfl⟩ := Int.eq_ofNat_of_zero_le h0
    have hne : nS (m : Int) ≠ ("" : Str) := fun z => by
      have := prN_ne (prN_nS h0 (by omega))
      rw [z] at this
      exact this rfl
    rw [lwS_eq, if_neg hne, if_pos (isDig_nS m), intV_nS (by omega)]; rfl
  | n + 1, .name i, ws, ha, _ => by
    show lwS (n + 1) (nmS i :: ws) = _
    rw [lwS_eq, if_neg ((by decide : ∀ i : Fin 6, nmS i ≠ Str.ofString "") i), (by decide : ∀ i : Fin 6, isDig (nmS i) = false) i, if_neg (by decide), if_neg ((by decide : ∀ i : Fin 6, nmS i ≠ Str.ofString "cell") i), if_neg ((by decide : ∀ i : Fin 6, nmS i ∉ words4) i)]; rfl
  | n + 1, .cell a, ws, ha, hd => by
    have hd : a.dep + 1 < n + 1 := hd
    show lwS (n + 1) (Str.ofString "cell" :: (swM a ++ ws)) = _
    rw [lwS_eq, if_neg (by decide), if_neg (by decide), if_pos rfl, lwS_fwd n a ws ha (by omega)]; rfl
  | n + 1, .add a b, ws, ha, hd => by
    have hd : max a.dep b.dep + 1 < n + 1 := hd
    exact lwS_w4 (w := "add") (by decide) (by decide) (by decide) (by decide) (lwS_fwd n a _ ha.1 (by omega)) (lwS_fwd n b ws ha.2 (by omega))
  | n + 1, .sub a b, ws, ha, hd => by
    have hd : max a.dep b.dep + 1 < n + 1 := hd
    exact lwS_w4 (w := "sub") (by decide) (by decide) (by decide) (by decide) (lwS_fwd n a _ ha.1 (by omega)) (lwS_fwd n b ws ha.2 (by omega))
  | n + 1, .mul a b, ws, ha, hd => by
    have hd : max a.dep b.dep + 1 < n + 1 := hd
    exact lwS_w4 (w := "mul") (by decide) (by decide) (by decide) (by decide) (lwS_fwd n a _ ha.1 (by omega)) (lwS_fwd n b ws ha.2 (by omega))
  | n + 1, .less a b, ws, ha, hd => by
    have hd : max a.dep b.dep + 1 < n + 1 := hd
    exact lwS_w4 (w := "less") (by decide) (by decide) (by decide) (by decide) (lwS_fwd n a _ ha.1 (by omega)) (lwS_fwd n b ws ha.2 (by omega))
/-! ### the def -/
noncomputable def B81 (rec : Fn) : Sx := (sSeq (sSet 6 (eCall rec (eCons (eVar 0) (eCons (eVar 4) eNil))))
    (sSeq (sIf (eIsN false (eVar 6))
    (sRet (eC .non))
    sSkip)
    (sSeq (sSet 3 (eOp opAdd (eVar 3) (eTup (eCons (eOp opIx (eVar 6) (eC (.int 0))) eNil))))
    (sSet 4 (eOp opIx (eVar 6) (eC (.int 1)))))))
section
variable {rec : Fn} {W d : D} {p q : Int} {S : Sto} {fd : List D} {o1 o2 o5 o6 o7 : Option D}
theorem it81_none (h : rec [W, .int p] S = .ok .non S) : B81 rec [some W, o1, o2, some (.tup fd), some (.int p), o5, o6, o7] S = .rt .non S := by
  unfold B81
  exact e_set (d := .non) (S1 := S) (x_c2 (x := W) (y := .int p) rfl rfl h) (e_ifT (bb := true) (S1 := S) (x_isN0 rfl) rfl (e_sret (d := .non) (S1 := S) rfl rfl))
theorem it81_some (h : rec [W, .int p] S = .ok (.tup [d, .int q]) S) (hl : fd.length ≤ 100) : B81 rec [some W, o1, o2, some (.tup fd), some (.int p), o5, o6, o7] S = .nx [some W, o1, o2, some (.tup (fd ++ [d])), some (.int q), o5, some (.tup [d, .int q]), o7] S := by
  unfold B81
  refine e_set (d := .tup [d, .int q]) (S1 := S) (x_c2 (x := W) (y := .int p) rfl rfl h) ?_
  refine e_if (bb := false) (S1 := S) (x_isN rfl (by simp)) rfl ?_
  refine e_set (d := .tup (fd ++ [d])) (S1 := S) (x_op (x := .tup fd) (y := .tup [d]) rfl (x_tup1 (x_ixk (k := 0) rfl rfl)) ?_) ?_
  · rw [o_addT, if_pos (by show fd.length + 1 ≤ 1000000; omega)]
  · exact e_set1 (d := .int q) (S1 := S) (x_ixk (k := 1) rfl rfl) rfl
end
section
variable {fi : Ex} {tg : D → Env → Option Env} {b g : Sx} {ρ ρ1 ρ2 : Env} {S S1 S2 : Sto} {q : ER} {l : List D} {d x : D}
theorem f_forT (hi : fi ρ S = .ok (.tup l) S1) (k : (SR.seq (forL tg b l ρ S1) g).toE = q) : (sSeq (sFor fi tg b) g ρ S).toE = q := by
  show (SR.seq (ER.toS _ _ _) _).toE = _
  rw [hi]; exact k
theorem fl_nx (h1 : tg d ρ = some ρ1) (h2 : b ρ1 S = .nx ρ2 S2) : forL tg b (d :: l) ρ S = forL tg b l ρ2 S2 := by
  have e : forL tg b (d :: l) ρ S = (match tg d ρ with
    | none => .bad
    | some ρ1 => (match b ρ1 S with
      | .nx ρ2 S2 => forL tg b l ρ2 S2
      | .ct ρ2 S2 => forL tg b l ρ2 S2
      | .bk ρ2 S2 => .nx ρ2 S2
      | .rt d S2 => .rt d S2
      | .exc k ρ2 S2 => .exc k ρ2 S2
      | .bad => .bad)) := rfl
  rw [e, h1]
  simp only [h2]
theorem fl_rt (h1 : tg d ρ = some ρ1) (h2 : b ρ1 S = .rt x S2) : forL tg b (d :: l) ρ S = .rt x S2 := by
  unfold forL
  simp only [h1, h2]
end
def szOf (w : Str) : Nat := if w = "cell" then 1 else if w ∈ words4 then 2 else 0
def kv81 : List (Key × D) := [(.inr "cell", .int 1), (.inr "add", .int 2), (.inr "sub", .int 2), (.inr "mul", .int 2), (.inr "less", .int 2)]
theorem kv81_merge : mergeD [] kv81 = kv81 := by
  have := mergeD_new kv81 [] (by simpa [kv81] using (by decide : (kv81.map (·.1)).Nodup))
  simpa using this
theorem valc {k k' : Key} {v : D} {l : List (Key × D)} : valD ((k, v) :: l) k' = if k = k' then some v else valD l k' := rfl
theorem val81 (w : Str) : (valD kv81 (.inr w)).getD (.int 0) = .int (szOf w : Nat) := by
  have inr : ∀ a : Str, ((Sum.inr a : Key) = Sum.inr w) ↔ w = a := fun a => ⟨fun h => (Sum.inr.inj h).symm, fun h => by rw [h]⟩
  unfold kv81 szOf
  simp only [valc, inr]
  by_cases h0 : w = "cell"
  · subst h0; rfl
  rw [if_neg h0, if_neg h0]
  by_cases h1 : w = "add"
  · subst h1; rfl
  by_cases h2 : w = "sub"
  · subst h2; rfl
  by_cases h3 : w = "mul"
  · subst h3; rfl
  by_cases h4 : w = "less"
  · subst h4; rfl
  have hw : w ∉ words4 := fun h => by
    simp only [words4, List.mem_cons, List.not_mem_nil, or_false] at h
    rcases h with h | h | h | h
    · exact h1 h
    · exact h2 h
    · exact h3 h
    · exact h4 h
  rw [if_neg h1, if_neg h2, if_neg h3, if_neg h4, if_neg hw]
  rfl
theorem ld_last {T : Sto} {kvs : List (Key × D)} : ldAt (T ++ [AObj.dict kvs]) (.obj T.length) = some kvs := by
  have e : (T ++ [AObj.dict kvs])[T.length]? = some (.dict kvs) := by rw [List.getElem?_append_right (Nat.le_refl _), Nat.sub_self]; rfl
  show (match (T ++ [AObj.dict kvs])[T.length]? with | some (.dict kvs) => some kvs | some (.fdict kvs) => some kvs | _ => none) = _
  rw [e]
end Bt
namespace Bt
open PySem PySem.Spec PyProof.Rows L2 TL
def LwR (S : Sto) (ws : List Str) (at' : Nat) (o : Option (D × List Str)) (q : ER) : Prop := match o with
  | some (d, r) => ∃ p : Nat, q = .ok (.tup [d, .int (p : Nat)]) S ∧ ws.drop p = r ∧ at' < p ∧ p ≤ ws.length
  | none => q = .ok .non S
def LwQ (S : Sto) (ws : List Str) (at' : Nat) (o : Option (D × List Str)) (x : SR) : Prop := LwR S ws at' o x.toE
section
variable {S : Sto} {ws : List Str} {k : Nat} {w : Str}
theorem drop_at {r : List Str} (h : ws.drop k = w :: r) : ws[k]? = some w ∧ ws.drop (k + 1) = r ∧ k < ws.length := by
  have h1 : ws[k]? = some w := by
    rw [← List.head?_drop, h]; rfl
  refine ⟨h1, ?_, (List.getElem?_eq_some_iff.mp h1).1⟩
  rw [← List.drop_drop, h]; rfl
theorem ix_word {ρ : Env} {i j : Nat} (hv : eVar i ρ S = .ok (.lst (ws.map D.str)) S) (hk : eVar j ρ S = .ok (.int (k : Nat)) S) (h : ws[k]? = some w) : eOp opIx (eVar i) (eVar j) ρ S = .ok (.str w) S :=
  x_op (x := .lst (ws.map D.str)) (y := .int (k : Nat)) hv hk (by rw [o_ixL, atI_nat', List.getElem?_map, h]; rfl)
end
theorem wd_gd {w : Str} (h : PyData.strOk w = true) : (D.str w).good = true := by unfold D.good D.wf D.dep; rw [h]; rfl
theorem sum_atX (S : Sto) (ws : List Str) (hw : WsG ws) (hl : ws.length ≤ 100000) : ∀ (f k : Nat), k ≤ ws.length → ws.length - k < f → LwR S ws k (lwS f (ws.drop k)) (recN F_l_sum_at f [.lst (ws.map D.str), .int (k : Nat)] S)
  | 0, _, _, h => by omega
  | f + 1, k, hk, hf => by
    show LwR S ws k (lwS (f + 1) (ws.drop k)) (F_l_sum_at (recN F_l_sum_at f) [.lst (ws.map D.str), .int (k : Nat)] S)
    unfold F_l_sum_at
    rw [fnB2]
    simp only [Nat.reduceSub, List.reduceReplicate, List.cons_append, List.nil_append]
    show LwQ S ws k _ _
    have clen : eOp opGe (eVar 1) (eCallB (f1 bLen) (eCons (eVar 0) eNil)) [some (.lst (ws.map D.str)), some (.int (k : Nat)), none, none, none, none, none, none] S = .ok (.bl (decide (ws.length ≤ k))) S :=
      x_op (x := .int (k : Nat)) (y := .int ((ws.map D.str).length : Nat)) rfl (x_lenL rfl) (by rw [o_geI]; congr 2; rw [decide_eq_decide, List.length_map]; omega)
    cases e : ws.drop k with
    | nil =>
      have : ws.length ≤ k := List.drop_eq_nil_iff.mp e
      exact q_ifBT (Q := LwQ S ws k _) (bb := true) (S1 := S) (x_or (x := true) (y := true) (clen.trans (by rw [decide_eq_true this])) fun z => by cases z) rfl (q_seqRet (Q := LwQ S ws k _) (d := .non) (S1 := S) rfl rfl)
    | cons w r =>
      obtain ⟨h1, h2, h3⟩ := drop_at e
      have hwd := hw.wd w (List.mem_of_getElem? h1)
      have hwr : WsG r := by rw [← h2]; exact ⟨fun x hx => hw.wd x (List.mem_of_mem_drop hx)⟩
      have hix : ∀ {o2 o3 o4 o5 o6 o7 : Option D} {S' : Sto}, eOp opIx (eVar 0) (eVar 1) [some (.lst (ws.map D.str)), some (.int (k : Nat)), o2, o3, o4, o5, o6, o7] S' = .ok (.str w) S' := fun {_ _ _ _ _ _ S'} => ix_word (S := S') rfl rfl h1
      have c0 : eOr (eOp opGe (eVar 1) (eCallB (f1 bLen) (eCons (eVar 0) eNil))) (eOp opEq (eOp opIx (eVar 0) (eVar 1)) (eC (.str ""))) [some (.lst (ws.map D.str)), some (.int (k : Nat)), none, none, none, none, none, none] S = .ok (.bl (false || decide (w = Str.ofString ""))) S :=
        x_or (clen.trans (by rw [decide_eq_false (by omega)])) fun _ => x_op (x := .str w) (y := .str (Str.ofString "")) hix rfl (eq_w1 (wd_gd hwd.1))
      rw [Bool.false_or] at c0
      rw [lwS_eq]
      by_cases hw0 : w = ""
      · rw [if_pos hw0]
        exact q_ifBT (Q := LwQ S ws k _) (S1 := S) c0 (decide_eq_true hw0) (q_seqRet (Q := LwQ S ws k _) (d := .non) (S1 := S) rfl rfl)
      rw [if_neg hw0]
      refine q_ifB (Q := LwQ S ws k _) (S1 := S) c0 (decide_eq_false hw0) ?_
      have cd := c_dig (ρ := [some (.lst (ws.map D.str)), some (.int (k : Nat)), none, none, none, none, none, none]) (S := S) (v := 7) (e := eOp opIx (eVar 0) (eVar 1)) hix hwd.1 hwd.2 (by simp)
      have hk1 : ∀ {o2 o3 o4 o5 o6 o7 : Option D}, eOp opAdd (eVar 1) (eC (.int 1)) [some (.lst (ws.map D.str)), some (.int (k : Nat)), o2, o3, o4, o5, o6, o7] S = .ok (.int ((k + 1 : Nat) : Nat)) S := fun {_ _ _ _ _ _} => x_op (x := .int (k : Nat)) (y := .int 1) rfl rfl (by rw [o_addI]; rfl)
      by_cases hd : isDig w = true
      · rw [if_pos hd]
        refine q_ifBT (Q := LwQ S ws k _) (S1 := S) cd hd (q_seqRet (Q := LwQ S ws k _) (d := .tup [.tup [.str "num", .int (intV w)], .int ((k + 1 : Nat) : Nat)]) (S1 := S) (x_tup2 (x_tup2 (x := .str "num") rfl (x_B1 (x := .str w) hix (int_dig hd (fun z => hw0 (ext_tl (by rw [z]; rfl))) hwd.2))) hk1) ?_)
        exact ⟨k + 1, rfl, h2, by omega, by omega⟩
      rw [if_neg hd]
      refine q_ifB (Q := LwQ S ws k _) (S1 := S) cd (Bool.eq_false_iff.mpr hd) ?_
      -- how many sums follow
      refine q_set (Q := LwQ S ws k _) (d := .int (szOf w : Nat)) (S1 := S) ?_ ?_
      · refine x_tr (S' := S ++ [AObj.dict kv81]) ?_ List.take_left rfl
        have g := x_ldget (fd := eLDDisp kv81) (fk := eOp opIx (eVar 0) (eVar 1)) (fx := eC (.int 0)) (ρ := [some (.lst (ws.map D.str)), some (.int (k : Nat)), none, none, none, none, none, none]) (S := S) (d := .obj S.length) (S1 := S ++ [AObj.dict kv81]) (show ER.ok (.obj S.length) (S ++ [AObj.dict (mergeD [] kv81)]) = _ by rw [kv81_merge]) (kv0 := kv81) ld_last hix rfl (kvs := kv81) ld_last (k := .str w) (key := .inr w) rfl
        rw [val81] at g
        exact g
      refine q_set (Q := LwQ S ws k _) (d := .tup [.str w]) (S1 := S) (x_tup1 hix) ?_
      refine q_set (Q := LwQ S ws k _) (d := .int ((k + 1 : Nat) : Nat)) (S1 := S) hk1 ?_
      simp only [List.set_cons_zero, List.set_cons_succ]
      have r1 := sum_atX S ws hw hl f (k + 1) (by omega) (by omega)
      rw [h2] at r1
      show LwR S ws k _ (SR.toE _)
      have loop : ∀ {q : ER}, (SR.seq (forL (dN 5) (B81 (recN F_l_sum_at f)) (natsD (List.range (szOf w))) [some (.lst (ws.map D.str)), some (.int (k : Nat)), some (.int (szOf w : Nat)), some (.tup [.str w]), some (.int ((k + 1 : Nat) : Nat)), none, none, none] S) (sRet (eTup (eCons (eIf (eOp opGt (eVar 2) (eC (.int 0))) (eVar 3) (eTup (eCons (eC (.str "name")) (eCons (eOp opIx (eVar 0) (eVar 1)) eNil)))) (eCons (eVar 4) eNil))))).toE = q →
          (sSeq (sFor (iRange1 (eVar 2)) (dN 5) (B81 (recN F_l_sum_at f))) (sRet (eTup (eCons (eIf (eOp opGt (eVar 2) (eC (.int 0))) (eVar 3) (eTup (eCons (eC (.str "name")) (eCons (eOp opIx (eVar 0) (eVar 1)) eNil)))) (eCons (eVar 4) eNil)))) [some (.lst (ws.map D.str)), some (.int (k : Nat)), some (.int (szOf w : Nat)), some (.tup [.str w]), some (.int ((k + 1 : Nat) : Nat)), none, none, none] S).toE = q := fun {q} h =>
        f_forT (rg1 (n := szOf w) rfl (by unfold szOf; split; omega; split <;> omega)) h
      have fin : ∀ {l : List D} {p : Nat} {o5 o6 : Option D}, 0 < szOf w → (sRet (eTup (eCons (eIf (eOp opGt (eVar 2) (eC (.int 0))) (eVar 3) (eTup (eCons (eC (.str "name")) (eCons (eOp opIx (eVar 0) (eVar 1)) eNil)))) (eCons (eVar 4) eNil))) [some (.lst (ws.map D.str)), some (.int (k : Nat)), some (.int (szOf w : Nat)), some (.tup l), some (.int (p : Nat)), o5, o6, none] S).toE = .ok (.tup [.tup l, .int (p : Nat)]) S := fun {l p o5 o6} hz =>
        f_ret (d := .tup [.tup l, .int (p : Nat)]) (S1 := S) (x_tup2 (x_iteT (S1 := S) (x_op (x := .int (szOf w : Nat)) (y := .int 0) rfl rfl (by rw [o_gtI, decide_eq_true (by omega)])) rfl) rfl) rfl
      by_cases hc : w = "cell"
      · rw [if_pos hc]
        have hz : szOf w = 1 := by unfold szOf; rw [if_pos hc]
        have en : natsD (List.range (szOf w)) = [D.int ((0 : Nat) : Int)] := by rw [hz]; rfl
        rw [en] at loop
        cases q : lwS f r with
        | none =>
          rw [q] at r1
          have r1 : recN F_l_sum_at f [.lst (ws.map D.str), .int ((k + 1 : Nat) : Nat)] S = .ok .non S := r1
          refine loop ?_
          rw [fl_rt (ρ1 := [some (.lst (ws.map D.str)), some (.int (k : Nat)), some (.int (szOf w : Nat)), some (.tup [.str w]), some (.int ((k + 1 : Nat) : Nat)), some (D.int ((0 : Nat) : Int)), none, none]) rfl (it81_none r1)]
          rfl
        | some y =>
          obtain ⟨d, r2⟩ := y
          rw [q] at r1
          obtain ⟨p, r1, h4, h5, h6⟩ := r1
          refine ⟨p, loop ?_, h4, by omega, h6⟩
          rw [fl_nx (ρ1 := [some (.lst (ws.map D.str)), some (.int (k : Nat)), some (.int (szOf w : Nat)), some (.tup [.str w]), some (.int ((k + 1 : Nat) : Nat)), some (D.int ((0 : Nat) : Int)), none, none]) rfl (it81_some r1 (by simp))]
          subst hc
          exact fin (l := [.str "cell", d]) (by omega)
      rw [if_neg hc]
      by_cases h4 : w ∈ words4
      · rw [if_pos h4]
        have hz : szOf w = 2 := by unfold szOf; rw [if_neg hc, if_pos h4]
        have en : natsD (List.range (szOf w)) = [D.int ((0 : Nat) : Int), D.int ((1 : Nat) : Int)] := by rw [hz]; rfl
        rw [en] at loop
        cases q : lwS f r with
        | none =>
          rw [q] at r1
          have r1 : recN F_l_sum_at f [.lst (ws.map D.str), .int ((k + 1 : Nat) : Nat)] S = .ok .non S := r1
          refine loop ?_
          rw [fl_rt (ρ1 := [some (.lst (ws.map D.str)), some (.int (k : Nat)), some (.int (szOf w : Nat)), some (.tup [.str w]), some (.int ((k + 1 : Nat) : Nat)), some (D.int ((0 : Nat) : Int)), none, none]) rfl (it81_none r1)]
          rfl
        | some y =>
          obtain ⟨d, r2⟩ := y
          rw [q] at r1
          obtain ⟨p, r1, h5, h6, h7⟩ := r1
          have s2 := sum_atX S ws hw hl f p h7 (by omega)
          rw [h5] at s2
          show LwR S ws k (match lwS f r2 with | some (e, r2) => some (D.tup [.str w, d, e], r2) | none => none) _
          have st1 := fl_nx (tg := dN 5) (b := B81 (recN F_l_sum_at f)) (l := [D.int ((1 : Nat) : Int)]) (d := D.int ((0 : Nat) : Int)) (ρ := [some (.lst (ws.map D.str)), some (.int (k : Nat)), some (.int (szOf w : Nat)), some (.tup [.str w]), some (.int ((k + 1 : Nat) : Nat)), none, none, none]) (S := S) (ρ1 := [some (.lst (ws.map D.str)), some (.int (k : Nat)), some (.int (szOf w : Nat)), some (.tup [.str w]), some (.int ((k + 1 : Nat) : Nat)), some (D.int ((0 : Nat) : Int)), none, none]) rfl (it81_some r1 (by simp))
          cases q2 : lwS f r2 with
          | none =>
            rw [q2] at s2
            have s2 : recN F_l_sum_at f [.lst (ws.map D.str), .int ((p : Nat) : Int)] S = .ok .non S := s2
            refine loop ?_
            rw [st1, fl_rt (ρ1 := [some (.lst (ws.map D.str)), some (.int (k : Nat)), some (.int (szOf w : Nat)), some (.tup ([.str w] ++ [d])), some (.int (p : Nat)), some (D.int ((1 : Nat) : Int)), some (.tup [d, .int (p : Nat)]), none]) rfl (it81_none s2)]
            rfl
          | some y2 =>
            obtain ⟨d2, r3⟩ := y2
            rw [q2] at s2
            obtain ⟨p2, s2, h8, h9, h10⟩ := s2
            refine ⟨p2, loop ?_, h8, by omega, h10⟩
            rw [st1, fl_nx (ρ1 := [some (.lst (ws.map D.str)), some (.int (k : Nat)), some (.int (szOf w : Nat)), some (.tup ([.str w] ++ [d])), some (.int (p : Nat)), some (D.int ((1 : Nat) : Int)), some (.tup [d, .int (p : Nat)]), none]) rfl (it81_some s2 (by simp))]
            exact fin (l := [.str w, d, d2]) (by omega)
      rw [if_neg h4]
      have hz : szOf w = 0 := by unfold szOf; rw [if_neg hc, if_neg h4]
      have en : natsD (List.range (szOf w)) = [] := by rw [hz]; rfl
      rw [en] at loop
      refine ⟨k + 1, loop ?_, h2, by omega, by omega⟩
      exact f_ret (d := .tup [.tup [.str "name", .str w], .int ((k + 1 : Nat) : Nat)]) (S1 := S) (x_tup2 (x_iteF (S1 := S) (x_op (x := .int (szOf w : Nat)) (y := .int 0) rfl rfl (by rw [o_gtI, decide_eq_false (by omega)])) (x_tup2 (x := .str "name") rfl hix)) rfl) rfl
end Bt
namespace Bt
open PySem PySem.Spec PyProof.Rows L2 TL
/-! ### the law's own reading of a row -/
def sgT : Bool → Str
  | true => "s"
  | false => "w"
def wordD (w : Str) : D := if w ≠ "" ∧ isDig w = true then .int (intV w) else .str w
def lwP : Bool → List Str → Option (D × List Str)
  | true, ws => lwS 60 ws
  | false, [] => none
  | false, w :: r => if 9 < w.length then none else some (wordD w, r)
theorem wordD_nc {n : Nat} {w : Str} (h : PyData.strOk w = true ∧ w.length ≤ 640) : Nc n (wordD w) := by
  unfold wordD
  split
  · exact nc_int
  · exact nc_w h
theorem wordD_pure {w : Str} : (wordD w).pure = true := by
  unfold wordD
  split <;> rfl
theorem lwP_prop : ∀ {g : Bool} {ws : List Str} {d : D} {r : List Str}, lwP g ws = some (d, r) → WsG ws → ws.length ≤ 50 → Nc 50 d ∧ d.pure = true ∧ WsG r ∧ r.length ≤ 50
  | true, ws, d, r, h, hw, hl => by
    obtain ⟨h1, h2, h3, h4⟩ := lwS_prop 60 ws d r h hw
    exact ⟨h1.mono hl, h2, h3, by omega⟩
  | false, [], d, r, h, hw, hl => by cases h
  | false, w :: ws, d, r, h, hw, hl => by
    have h : (if 9 < w.length then none else some (wordD w, ws)) = some (d, r) := h
    split at h
    · cases h
    · cases h
      exact ⟨wordD_nc hw.hd, wordD_pure, hw.tail, by have : (w :: ws).length = ws.length + 1 := rfl; omega⟩
def lwPs : List Bool → List Str → Option (List D × List Str)
  | [], ws => some ([], ws)
  | g :: gs, ws => (match lwP g ws with
    | some (d, r) => (match lwPs gs r with
      | some (ds, r2) => some (d :: ds, r2)
      | none => none)
    | none => none)
theorem lwPs_prop : ∀ {gs : List Bool} {ws : List Str} {ds : List D} {r : List Str}, lwPs gs ws = some (ds, r) → WsG ws → ws.length ≤ 50 → (∀ d ∈ ds, Nc 50 d) ∧ D.pures ds = true ∧ ds.length = gs.length
  | [], ws, ds, r, h, hw, hl => by cases h; exact ⟨fun d hd => (by cases hd), rfl, rfl⟩
  | g :: gs, ws, ds, r, h, hw, hl => by
    unfold lwPs at h
    split at h
    · rename_i d r1 e
      obtain ⟨h1, h2, h3, h4⟩ := lwP_prop e hw hl
      split at h
      · rename_i ds2 r2 e2
        obtain ⟨h5, h6, h7⟩ := lwPs_prop e2 h3 h4
        cases h
        exact ⟨fun x hx => (List.mem_cons.mp hx).elim (fun z => z ▸ h1) (h5 x), by show (d.pure && D.pures ds2) = true; rw [h2, h6]; rfl, by rw [List.length_cons, List.length_cons, h7]⟩
      · cases h
    · cases h
noncomputable def B82 : Sx := (sIf (eOp opEq (eVar 6) (eC (.str "s")))
    (sSeq (sSet 7 (eCall G_l_sum_at (eCons (eVar 1) (eCons (eVar 5) eNil))))
    (sSeq (sIf (eIsN false (eVar 7))
    (sRet (eC .non))
    sSkip)
    (sSeq (sSet 4 (eOp opAdd (eVar 4) (eTup (eCons (eOp opIx (eVar 7) (eC (.int 0))) eNil))))
    (sSet 5 (eOp opIx (eVar 7) (eC (.int 1)))))))
    (sSeq (sIf (eOr (eOp opGe (eVar 5) (eCallB (f1 bLen) (eCons (eVar 1) eNil))) (eOp opGt (eCallB (f1 bLen) (eCons (eOp opIx (eVar 1) (eVar 5)) eNil)) (eC (.int 9))))
    (sRet (eC .non))
    sSkip)
    (sSeq (sSet 8 (eOp opIx (eVar 1) (eVar 5)))
    (sSeq (sSet 9 (eAnd (eOp opNe (eVar 8) (eC (.str ""))) (eOp opEq (eComp [10] (iStrE (eVar 8)) (dN 10) (eOp opNotIn (eVar 10) (eC (.str "0123456789"))) (eVar 10)) (eLst eNil))))
    (sSeq (sSet 4 (eOp opAdd (eVar 4) (eTup (eCons (eIf (eVar 9) (eCallB (f1 bIntS) (eCons (eVar 8) eNil)) (eVar 8)) eNil))))
    (sSet 5 (eOp opAdd (eVar 5) (eC (.int 1)))))))))
section
variable {S : Sto} {ws : List Str} {o0 o2 o3 o7 o8 o9 o10 : Option D} {fd : List D} {k : Nat}
def E82 (o0 : Option D) (ws : List Str) (o2 o3 : Option D) (fd : List D) (k : Nat) (o6 o7 o8 o9 o10 : Option D) : Env := [o0, some (.lst (ws.map D.str)), o2, o3, some (.tup fd), some (.int (k : Nat)), o6, o7, o8, o9, o10]
theorem it82_s (hw : WsG ws) (hl : ws.length ≤ 50) (hk : k ≤ ws.length) (hf : fd.length ≤ 100) : match lwP true (ws.drop k) with
    | some (d, r) => ∃ p x, B82 (E82 o0 ws o2 o3 fd k (some (.str (sgT true))) o7 o8 o9 o10) S = .nx (E82 o0 ws o2 o3 (fd ++ [d]) p (some (.str (sgT true))) x o8 o9 o10) S ∧ ws.drop p = r ∧ p ≤ ws.length
    | none => B82 (E82 o0 ws o2 o3 fd k (some (.str (sgT true))) o7 o8 o9 o10) S = .rt .non S := by
  have r := sum_atX S ws hw (by omega) 60 k hk (by omega)
  have c : eOp opEq (eVar 6) (eC (.str "s")) (E82 o0 ws o2 o3 fd k (some (.str (sgT true))) o7 o8 o9 o10) S = .ok (.bl true) S := x_op (x := .str "s") (y := .str "s") rfl rfl (eq_w rfl)
  show match lwS 60 (ws.drop k) with
    | some (d, r) => ∃ p x, B82 (E82 o0 ws o2 o3 fd k (some (.str (sgT true))) o7 o8 o9 o10) S = .nx (E82 o0 ws o2 o3 (fd ++ [d]) p (some (.str (sgT true))) x o8 o9 o10) S ∧ ws.drop p = r ∧ p ≤ ws.length
    | none => B82 (E82 o0 ws o2 o3 fd k (some (.str (sgT true))) o7 o8 o9 o10) S = .rt .non S
  cases e : lwS 60 (ws.drop k) with
  | none =>
    rw [e] at r
    have r : G_l_sum_at [.lst (ws.map D.str), .int (k : Nat)] S = .ok .non S := r
    unfold B82
    refine e_ifT1 (S1 := S) c rfl ?_
    exact e_set (d := .non) (S1 := S) (x_c2 (x := .lst (ws.map D.str)) (y := .int (k : Nat)) rfl rfl r) (e_ifT (bb := true) (S1 := S) (x_isN0 rfl) rfl (e_sret (d := .non) (S1 := S) rfl rfl))
  | some y =>
    obtain ⟨d, r'⟩ := y
    rw [e] at r
    obtain ⟨p, r, h1, h2, h3⟩ := r
    have r : G_l_sum_at [.lst (ws.map D.str), .int (k : Nat)] S = .ok (.tup [d, .int (p : Nat)]) S := r
    refine ⟨p, some (.tup [d, .int (p : Nat)]), ?_, h1, h3⟩
    unfold B82
    refine e_ifT1 (S1 := S) c rfl ?_
    refine e_set (d := .tup [d, .int (p : Nat)]) (S1 := S) (x_c2 (x := .lst (ws.map D.str)) (y := .int (k : Nat)) rfl rfl r) ?_
    refine e_if (bb := false) (S1 := S) (x_isN rfl (by simp)) rfl ?_
    refine e_set (d := .tup (fd ++ [d])) (S1 := S) (x_op (x := .tup fd) (y := .tup [d]) rfl (x_tup1 (x_ixk (k := 0) rfl rfl)) ?_) ?_
    · rw [o_addT, if_pos (by show fd.length + 1 ≤ 1000000; omega)]
    · exact e_set1 (d := .int (p : Nat)) (S1 := S) (x_ixk (k := 1) rfl rfl) rfl
theorem ne_em {w : Str} (h : PyData.strOk w = true) : opNe S (.str w) (.str "") = some (.bl (!decide (w = ""))) := opNe_str h (strOk_of "")
theorem it82_w (hw : WsG ws) (hl : ws.length ≤ 50) (hk : k ≤ ws.length) (hf : fd.length ≤ 100) : match lwP false (ws.drop k) with
    | some (d, r) => ∃ p x y, B82 (E82 o0 ws o2 o3 fd k (some (.str (sgT false))) o7 o8 o9 o10) S = .nx (E82 o0 ws o2 o3 (fd ++ [d]) p (some (.str (sgT false))) o7 x y o10) S ∧ ws.drop p = r ∧ p ≤ ws.length
    | none => B82 (E82 o0 ws o2 o3 fd k (some (.str (sgT false))) o7 o8 o9 o10) S = .rt .non S := by
  have c : eOp opEq (eVar 6) (eC (.str "s")) (E82 o0 ws o2 o3 fd k (some (.str (sgT false))) o7 o8 o9 o10) S = .ok (.bl false) S := x_op (x := .str "w") (y := .str "s") rfl rfl (eq_w' (by decide))
  have clen : eOp opGe (eVar 5) (eCallB (f1 bLen) (eCons (eVar 1) eNil)) (E82 o0 ws o2 o3 fd k (some (.str (sgT false))) o7 o8 o9 o10) S = .ok (.bl (decide (ws.length ≤ k))) S :=
    x_op (x := .int (k : Nat)) (y := .int ((ws.map D.str).length : Nat)) rfl (x_lenL rfl) (by rw [o_geI]; congr 2; rw [decide_eq_decide, List.length_map]; omega)
  cases e : ws.drop k with
  | nil =>
    have : ws.length ≤ k := List.drop_eq_nil_iff.mp e
    show B82 (E82 o0 ws o2 o3 fd k (some (.str (sgT false))) o7 o8 o9 o10) S = .rt .non S
    unfold B82
    refine e_if1 (S1 := S) c rfl ?_
    exact e_ifT (bb := true) (S1 := S) (x_or (x := true) (y := true) (clen.trans (by rw [decide_eq_true this])) fun z => by cases z) rfl (e_sret (d := .non) (S1 := S) rfl rfl)
  | cons w r =>
    obtain ⟨h1, h2, h3⟩ := drop_at e
    obtain ⟨hso, hlen⟩ := hw.wd w (List.mem_of_getElem? h1)
    have hix : ∀ {o6 o7 o8 o9 : Option D} {fd : List D}, eOp opIx (eVar 1) (eVar 5) (E82 o0 ws o2 o3 fd k o6 o7 o8 o9 o10) S = .ok (.str w) S := fun {_ _ _ _ _} => ix_word rfl rfl h1
    have c9 : eOp opGt (eCallB (f1 bLen) (eCons (eOp opIx (eVar 1) (eVar 5)) eNil)) (eC (.int 9)) (E82 o0 ws o2 o3 fd k (some (.str (sgT false))) o7 o8 o9 o10) S = .ok (.bl (decide (9 < w.length))) S :=
      x_op (x := .int (w.length : Nat)) (y := .int 9) (x_B1 (x := .str w) hix (by
        show (if w.length ≤ lim then some (D.int w.length) else none) = _
        rw [if_pos (by show _ ≤ 1000000; omega)])) rfl (by rw [o_gtI]; congr 2; rw [decide_eq_decide]; omega)
    have cc := x_or (clen.trans (by rw [decide_eq_false (show ¬ ws.length ≤ k by omega)])) fun _ => c9
    rw [Bool.false_or] at cc
    show match (if 9 < w.length then none else some (wordD w, r)) with
    | some (d, r) => ∃ p x y, B82 (E82 o0 ws o2 o3 fd k (some (.str (sgT false))) o7 o8 o9 o10) S = .nx (E82 o0 ws o2 o3 (fd ++ [d]) p (some (.str (sgT false))) o7 x y o10) S ∧ ws.drop p = r ∧ p ≤ ws.length
    | none => B82 (E82 o0 ws o2 o3 fd k (some (.str (sgT false))) o7 o8 o9 o10) S = .rt .non S
    by_cases h9 : 9 < w.length
    · rw [if_pos h9]
      show B82 (E82 o0 ws o2 o3 fd k (some (.str (sgT false))) o7 o8 o9 o10) S = .rt .non S
      unfold B82
      refine e_if1 (S1 := S) c rfl ?_
      exact e_ifT (S1 := S) cc (decide_eq_true h9) (e_sret (d := .non) (S1 := S) rfl rfl)
    · rw [if_neg h9]
      refine ⟨k + 1, some (.str w), some (.bl (!decide (w = "") && isDig w)), ?_, h2, by omega⟩
      unfold B82
      refine e_if1 (S1 := S) c rfl ?_
      refine e_if (S1 := S) cc (decide_eq_false h9) ?_
      refine e_set (d := .str w) (S1 := S) hix ?_
      refine e_set (d := .bl (!decide (w = "") && isDig w)) (S1 := S) (x_and (x_op (x := .str w) (y := .str "") rfl rfl (ne_em hso)) fun _ => c_dig rfl hso hlen (by simp [E82])) ?_
      refine e_set (d := .tup (fd ++ [wordD w])) (S1 := S) (x_op (x := .tup fd) (y := .tup [wordD w]) rfl (x_tup1 ?_) ?_) ?_
      · unfold wordD
        by_cases hq : w ≠ "" ∧ isDig w = true
        · rw [if_pos hq]
          refine x_iteT (S1 := S) (show _ = ER.ok (.bl true) S from ?_) (x_B1 (x := .str w) rfl (int_dig hq.2 (fun z => hq.1 (ext_tl (by rw [z]; rfl))) hlen))
          show ER.ok (.bl (!decide (w = "") && isDig w)) S = _
          rw [decide_eq_false hq.1, hq.2]; rfl
        · rw [if_neg hq]
          refine x_iteF (S1 := S) (show _ = ER.ok (.bl false) S from ?_) rfl
          show ER.ok (.bl (!decide (w = "") && isDig w)) S = _
          by_cases h0 : w = ""
          · rw [decide_eq_true h0]; rfl
          · rw [decide_eq_false h0]
            have : isDig w = false := by cases z : isDig w with | false => rfl | true => exact absurd ⟨h0, z⟩ hq
            rw [this]; rfl
      · rw [o_addT, if_pos (by show fd.length + 1 ≤ 1000000; omega)]
      · exact e_set1 (d := .int ((k + 1 : Nat) : Nat)) (S1 := S) (x_op (x := .int (k : Nat)) (y := .int 1) rfl rfl (by rw [o_addI]; rfl)) rfl
theorem loop82 (hw : WsG ws) (hl : ws.length ≤ 50) : ∀ (gs : List Bool) (k : Nat) (fd : List D) (o6 o7 o8 o9 : Option D), k ≤ ws.length → fd.length + gs.length ≤ 100 → match lwPs gs (ws.drop k) with
    | some (ds, r) => ∃ p o6' o7' o8' o9', forL (dN 6) B82 (gs.map fun g => D.str (sgT g)) (E82 o0 ws o2 o3 fd k o6 o7 o8 o9 o10) S = .nx (E82 o0 ws o2 o3 (fd ++ ds) p o6' o7' o8' o9' o10) S ∧ ws.drop p = r ∧ p ≤ ws.length
    | none => forL (dN 6) B82 (gs.map fun g => D.str (sgT g)) (E82 o0 ws o2 o3 fd k o6 o7 o8 o9 o10) S = .rt .non S
  | [], k, fd, o6, o7, o8, o9, hk, hf => ⟨k, o6, o7, o8, o9, by rw [List.append_nil]; rfl, rfl, hk⟩
  | g :: gs, k, fd, o6, o7, o8, o9, hk, hf => by
    have hf : fd.length + (gs.length + 1) ≤ 100 := hf
    have ep : lwPs (g :: gs) (ws.drop k) = (match lwP g (ws.drop k) with
      | some (d, r) => (match lwPs gs r with
        | some (ds, r2) => some (d :: ds, r2)
        | none => none)
      | none => none) := rfl
    have one : match lwP g (ws.drop k) with
      | some (d, r) => ∃ p x y z, B82 (E82 o0 ws o2 o3 fd k (some (.str (sgT g))) o7 o8 o9 o10) S = .nx (E82 o0 ws o2 o3 (fd ++ [d]) p (some (.str (sgT g))) x y z o10) S ∧ ws.drop p = r ∧ p ≤ ws.length
      | none => B82 (E82 o0 ws o2 o3 fd k (some (.str (sgT g))) o7 o8 o9 o10) S = .rt .non S := by
      cases g with
      | true =>
        have h := it82_s (S := S) (o0 := o0) (o2 := o2) (o3 := o3) (o7 := o7) (o8 := o8) (o9 := o9) (o10 := o10) (fd := fd) hw hl hk (by omega)
        cases q : lwP true (ws.drop k) with
        | none => rw [q] at h; exact h
        | some y =>
          obtain ⟨d, r⟩ := y
          rw [q] at h
          obtain ⟨p, x, h⟩ := h
          exact ⟨p, x, _, _, h⟩
      | false =>
        have h := it82_w (S := S) (o0 := o0) (o2 := o2) (o3 := o3) (o7 := o7) (o8 := o8) (o9 := o9) (o10 := o10) (fd := fd) hw hl hk (by omega)
        cases q : lwP false (ws.drop k) with
        | none => rw [q] at h; exact h
        | some y =>
          obtain ⟨d, r⟩ := y
          rw [q] at h
          obtain ⟨p, x, y, h⟩ := h
          exact ⟨p, _, x, y, h⟩
    rw [ep]
    cases q : lwP g (ws.drop k) with
    | none =>
      rw [q] at one
      exact fl_rt (ρ1 := E82 o0 ws o2 o3 fd k (some (.str (sgT g))) o7 o8 o9 o10) rfl one
    | some y =>
      obtain ⟨d, r⟩ := y
      rw [q] at one
      obtain ⟨p, x, y, z, h1, h2, h3⟩ := one
      have ih := loop82 hw hl gs p (fd ++ [d]) (some (.str (sgT g))) x y z h3 (by rw [List.length_append]; show fd.length + 1 + gs.length ≤ 100; omega)
      have st := fl_nx (tg := dN 6) (b := B82) (l := gs.map fun g => D.str (sgT g)) (d := D.str (sgT g)) (ρ := E82 o0 ws o2 o3 fd k o6 o7 o8 o9 o10) (S := S) (ρ1 := E82 o0 ws o2 o3 fd k (some (.str (sgT g))) o7 o8 o9 o10) rfl h1
      rw [h2] at ih
      show match (match lwPs gs r with
        | some (ds, r2) => some (d :: ds, r2)
        | none => none) with
        | some (ds, r) => ∃ p o6' o7' o8' o9', forL (dN 6) B82 ((g :: gs).map fun g => D.str (sgT g)) (E82 o0 ws o2 o3 fd k o6 o7 o8 o9 o10) S = .nx (E82 o0 ws o2 o3 (fd ++ ds) p o6' o7' o8' o9' o10) S ∧ ws.drop p = r ∧ p ≤ ws.length
        | none => forL (dN 6) B82 ((g :: gs).map fun g => D.str (sgT g)) (E82 o0 ws o2 o3 fd k o6 o7 o8 o9 o10) S = .rt .non S
      cases q2 : lwPs gs r with
      | none =>
        rw [q2] at ih
        exact st.trans ih
      | some y2 =>
        obtain ⟨ds, r2⟩ := y2
        rw [q2] at ih
        obtain ⟨p2, a, b, c, e, h4, h5⟩ := ih
        refine ⟨p2, a, b, c, e, st.trans (h4.trans ?_), h5⟩
        rw [List.append_assoc]; rfl
end
end Bt
namespace Bt
open PySem PySem.Spec PyProof.Rows L2 TL
def kv82 : List (Key × D) := [(.inr "stop", .str ""), (.inr "back", .str ""), (.inr "say", .str "s"), (.inr "ask", .str "w"), (.inr "jump", .str "w"), (.inr "call", .str "w"), (.inr "set", .str "ws"), (.inr "put", .str "ss")]
theorem kv82_merge : mergeD [] kv82 = kv82 := by
  have := mergeD_new kv82 [] (by simpa [kv82] using (by decide : (kv82.map (·.1)).Nodup))
  simpa using this
def lwShp2 (w : Str) : Option (List Bool) := if w = "stop" then some [] else if w = "back" then some [] else if w = "say" then some [true] else if w = "ask" then some [false] else if w = "jump" then some [false] else if w = "call" then some [false] else if w = "set" then some [false, true] else if w = "put" then some [true, true] else none
def lwShape (w : Str) : Option (List Bool) := if w = "unless" then some [true, false] else lwShp2 w
def ShOk (x : D) (o : Option (List Bool)) : Prop := match o with
  | some gs => ∃ sh : Str, x = .str sh ∧ (signs sh).map D.str = gs.map (fun g => D.str (sgT g)) ∧ gs.length ≤ 2
  | none => x = .non
theorem val82 (w : Str) : ShOk ((valD kv82 (.inr w)).getD .non) (lwShp2 w) := by
  have inr : ∀ a : Str, ((Sum.inr a : Key) = Sum.inr w) ↔ w = a := fun a => ⟨fun h => (Sum.inr.inj h).symm, fun h => by rw [h]⟩
  unfold kv82 lwShp2
  simp only [valc, inr]
  by_cases h1 : w = "stop"
  · rw [if_pos h1, if_pos h1]; exact ⟨"", rfl, rfl, by decide⟩
  rw [if_neg h1, if_neg h1]
  by_cases h2 : w = "back"
  · rw [if_pos h2, if_pos h2]; exact ⟨"", rfl, rfl, by decide⟩
  rw [if_neg h2, if_neg h2]
  by_cases h3 : w = "say"
  · rw [if_pos h3, if_pos h3]; exact ⟨"s", rfl, rfl, by decide⟩
  rw [if_neg h3, if_neg h3]
  by_cases h4 : w = "ask"
  · rw [if_pos h4, if_pos h4]; exact ⟨"w", rfl, rfl, by decide⟩
  rw [if_neg h4, if_neg h4]
  by_cases h5 : w = "jump"
  · rw [if_pos h5, if_pos h5]; exact ⟨"w", rfl, rfl, by decide⟩
  rw [if_neg h5, if_neg h5]
  by_cases h6 : w = "call"
  · rw [if_pos h6, if_pos h6]; exact ⟨"w", rfl, rfl, by decide⟩
  rw [if_neg h6, if_neg h6]
  by_cases h7 : w = "set"
  · rw [if_pos h7, if_pos h7]; exact ⟨"ws", rfl, rfl, by decide⟩
  rw [if_neg h7, if_neg h7]
  by_cases h8 : w = "put"
  · rw [if_pos h8, if_pos h8]; exact ⟨"ss", rfl, rfl, by decide⟩
  rw [if_neg h8, if_neg h8]
  rfl
theorem x_ldget1 {ρ : Env} {S S1 S2 : Sto} {fd fk : Ex} {kvs : List (Key × D)} {k d : D} {key : Key} (hd : fd ρ S = .ok d S1) {kv0 : List (Key × D)} (h0 : ldAt S1 d = some kv0) (hk : fk ρ S1 = .ok k S2) (h : ldAt S2 d = some kvs) (hy : keyD k = some key) : eLDGet1 fd fk ρ S = .ok ((valD kvs key).getD .non) S2 := by
  unfold eLDGet1
  rw [hd]; simp only [ER.bind_ok]
  rw [h0]; simp only
  rw [hk]; simp only [ER.bind_ok]
  rw [h]; simp only
  rw [hy]
def lwRow : List Str → Option D
  | [] => none
  | w :: ws => (match lwShape w with
    | some gs => (match lwPs gs ws with
      | some (ds, []) => some (.tup (.str w :: ds))
      | _ => none)
    | none => none)
theorem shape_len {w : Str} {gs : List Bool} (h : lwShape w = some gs) : gs.length ≤ 2 := by
  unfold lwShape at h
  by_cases h1 : w = "unless"
  · rw [if_pos h1] at h; cases h; decide
  · rw [if_neg h1] at h
    have := val82 w
    rw [h] at this
    obtain ⟨_, _, _, h⟩ := this
    exact h
theorem lwRow_prop {ws : List Str} {d : D} (h : lwRow ws = some d) (hw : WsG ws) (hl : ws.length ≤ 50) : Nc 51 d ∧ d.pure = true := by
  cases ws with
  | nil => cases h
  | cons w ws =>
    have h : (match lwShape w with
      | some gs => (match lwPs gs ws with
        | some (ds, []) => some (D.tup (.str w :: ds))
        | _ => none)
      | none => none) = some d := h
    have hl' : (w :: ws).length = ws.length + 1 := rfl
    split at h
    · rename_i gs eg
      split at h
      · rename_i ds e
        obtain ⟨h1, h2, h4⟩ := lwPs_prop e hw.tail (by omega)
        have hg := shape_len eg
        cases h
        refine ⟨⟨by rw [List.length_cons, h4]; omega, fun x hx => ?_⟩, by show (true && D.pures ds) = true; rw [h2]; rfl⟩
        exact (List.mem_cons.mp hx).elim (fun z => z ▸ nc_w hw.hd) (h1 x)
      · cases h
    · cases h
theorem l_row_law (S : Sto) {t : Str} (hl : t.length ≤ 1000000) (hw : WsG (Txt.split t blank)) (hn : (Txt.split t blank).length ≤ 50) : G_l_row_of [.str t] S = .ok ((lwRow (Txt.split t blank)).getD .non) S := by
  obtain ⟨w, ws, es⟩ := split_cons t blank
  generalize hW : Txt.split t blank = W at *
  subst es
  have hd := hw.hd
  have e1 : eSplit (eVar 0) (eC (.str " ")) [some (.str t), none, none, none, none, none, none, none, none, none, none] S = .ok (.lst ((w :: ws).map D.str)) S := by
    show (if (blank.length == 0) = false ∧ t.length ≤ lim then ER.ok (.lst ((Txt.split t blank).map D.str)) S else .bad) = _
    rw [if_pos ⟨by decide, hl⟩, hW]
  -- up to the shape
  have ix0 : ∀ {o2 o3 o4 o5 : Option D} {S' : Sto}, eOp opIx (eVar 1) (eC (.int 0)) [some (.str t), some (.lst ((w :: ws).map D.str)), o2, o3, o4, o5, none, none, none, none, none] S' = .ok (.str w) S' := fun {_ _ _ _ S'} =>
    x_op (x := .lst ((w :: ws).map D.str)) (y := .int ((0 : Nat) : Int)) rfl rfl (by rw [o_ixL, atI_nat']; rfl)
  have hsh : ∃ x, eIf (eOp opEq (eOp opIx (eVar 1) (eC (.int 0))) (eC (.str "unless"))) (eC (.str "sw")) (eLDGet1 (eVar 2) (eOp opIx (eVar 1) (eC (.int 0)))) [some (.str t), some (.lst ((w :: ws).map D.str)), some (.obj S.length), none, none, none, none, none, none, none, none] (S ++ [AObj.dict kv82]) = .ok x (S ++ [AObj.dict kv82]) ∧ ShOk x (lwShape w) := by
    have c : eOp opEq (eOp opIx (eVar 1) (eC (.int 0))) (eC (.str "unless")) [some (.str t), some (.lst ((w :: ws).map D.str)), some (.obj S.length), none, none, none, none, none, none, none, none] (S ++ [AObj.dict kv82]) = .ok (.bl (decide (w = Str.ofString "unless"))) (S ++ [AObj.dict kv82]) := x_op (x := .str w) (y := .str (Str.ofString "unless")) ix0 rfl (eq_w1 (wd_gd hd.1))
    unfold lwShape
    by_cases h : w = "unless"
    · rw [if_pos h]
      exact ⟨.str "sw", x_iteT (S1 := S ++ [AObj.dict kv82]) (c.trans (by rw [decide_eq_true h])) rfl, "sw", rfl, rfl, by decide⟩
    · rw [if_neg h]
      refine ⟨_, x_iteF (S1 := S ++ [AObj.dict kv82]) (c.trans (by rw [decide_eq_false h])) (x_ldget1 (d := .obj S.length) (S1 := S ++ [AObj.dict kv82]) rfl (kv0 := kv82) ld_last ix0 (kvs := kv82) ld_last (k := .str w) (key := .inr w) rfl), val82 w⟩
  obtain ⟨x, hx, hs⟩ := hsh
  have pre : ∀ {q : ER}, (sSeq (sIf (eIsN false (eVar 3)) (sRet (eC .non)) sSkip)
      (sSeq (sSet 4 (eTup (eCons (eOp opIx (eVar 1) (eC (.int 0))) eNil)))
      (sSeq (sSet 5 (eC (.int 1)))
      (sSeq (sFor (iStrE (eVar 3)) (dN 6) B82)
      (sRet (eIf (eOp opEq (eVar 5) (eCallB (f1 bLen) (eCons (eVar 1) eNil))) (eVar 4) (eC .non)))))) [some (.str t), some (.lst ((w :: ws).map D.str)), some (.obj S.length), some x, none, none, none, none, none, none, none] (S ++ [AObj.dict kv82])).toE = q → F_l_row_of [.str t] S = q := fun {q} h => by
    unfold F_l_row_of
    rw [fnB1]
    simp only [Nat.reduceSub, List.reduceReplicate, List.cons_append, List.nil_append]
    refine f_set (d := .lst ((w :: ws).map D.str)) (S1 := S) e1 ?_
    refine f_set (d := .obj S.length) (S1 := S ++ [AObj.dict kv82]) (show ER.ok (.obj S.length) (S ++ [AObj.dict (mergeD [] kv82)]) = _ by rw [kv82_merge]) ?_
    exact f_set (d := x) (S1 := S ++ [AObj.dict kv82]) hx h
  have ep : lwRow (w :: ws) = (match lwShape w with
      | some gs => (match lwPs gs ws with
        | some (ds, []) => some (D.tup (.str w :: ds))
        | _ => none)
      | none => none) := rfl
  have hp : ((lwRow (w :: ws)).getD .non).pure = true := by
    cases q : lwRow (w :: ws) with
    | none => rfl
    | some d => exact (lwRow_prop q hw hn).2
  refine trunc_ok (S' := S ++ [AObj.dict kv82]) ?_ List.take_left hp
  rw [ep]
  cases eg : lwShape w with
  | none =>
    rw [eg] at hs
    have hs : x = .non := hs
    subst hs
    exact pre (f_ifT (bb := true) (S1 := S ++ [AObj.dict kv82]) (x_isN0 rfl) rfl (f_sret (d := .non) (S1 := S ++ [AObj.dict kv82]) rfl rfl))
  | some gs =>
    rw [eg] at hs
    obtain ⟨sh, rfl, hsg, hg2⟩ := hs
    have lp := loop82 (S := S ++ [AObj.dict kv82]) (ws := w :: ws) (o0 := some (.str t)) (o2 := some (.obj S.length)) (o3 := some (.str sh)) (o10 := none) hw hn gs 1 [.str w] none none none none (by simp) (by show 1 + gs.length ≤ 100; omega)
    have hdr : (w :: ws).drop 1 = ws := rfl
    rw [hdr] at lp
    have mid : ∀ {q : ER}, (SR.seq (forL (dN 6) B82 (gs.map fun g => D.str (sgT g)) (E82 (some (.str t)) (w :: ws) (some (.obj S.length)) (some (.str sh)) [.str w] 1 none none none none none) (S ++ [AObj.dict kv82])) (sRet (eIf (eOp opEq (eVar 5) (eCallB (f1 bLen) (eCons (eVar 1) eNil))) (eVar 4) (eC .non)))).toE = q → F_l_row_of [.str t] S = q := fun {q} h => by
      refine pre ?_
      refine f_if (bb := false) (S1 := S ++ [AObj.dict kv82]) (x_isN rfl (by simp)) rfl ?_
      refine f_set (d := .tup [.str w]) (S1 := S ++ [AObj.dict kv82]) (x_tup1 ix0) ?_
      refine f_set (d := .int 1) (S1 := S ++ [AObj.dict kv82]) rfl ?_
      refine f_forT (l := gs.map fun g => D.str (sgT g)) (S1 := S ++ [AObj.dict kv82]) ?_ h
      unfold iStrE
      show ER.ok (.tup ((signs sh).map D.str)) _ = _
      rw [hsg]
    show F_l_row_of [.str t] S = .ok ((match lwPs gs ws with
        | some (ds, []) => some (D.tup (.str w :: ds))
        | _ => none).getD .non) (S ++ [AObj.dict kv82])
    cases q : lwPs gs ws with
    | none =>
      rw [q] at lp
      refine mid ?_
      rw [lp]; rfl
    | some y =>
      obtain ⟨ds, r⟩ := y
      rw [q] at lp
      obtain ⟨p, a, b, c, e, h1, h2, h3⟩ := lp
      refine mid ?_
      rw [h1]
      have cl : eOp opEq (eVar 5) (eCallB (f1 bLen) (eCons (eVar 1) eNil)) (E82 (some (.str t)) (w :: ws) (some (.obj S.length)) (some (.str sh)) ([.str w] ++ ds) p a b c e none) (S ++ [AObj.dict kv82]) = .ok (.bl (decide (r = []))) (S ++ [AObj.dict kv82]) :=
        x_op (x := .int (p : Nat)) (y := .int (((w :: ws).map D.str).length : Nat)) rfl (x_lenL rfl) (by
          rw [o_eqI]; congr 2
          rw [decide_eq_decide, List.length_map, ← h2, List.drop_eq_nil_iff]
          omega)
      cases r with
      | nil => exact f_ret (d := .tup (.str w :: ds)) (S1 := S ++ [AObj.dict kv82]) (x_iteT (S1 := S ++ [AObj.dict kv82]) cl rfl) rfl
      | cons v r => exact f_ret (d := .non) (S1 := S ++ [AObj.dict kv82]) (x_iteF (S1 := S ++ [AObj.dict kv82]) cl rfl) rfl
/-! ### rows' writings are read back -/
theorem lwRow_1 {w : Str} {gs : List Bool} {ws : List Str} {ds : List D} (h1 : lwShape w = some gs) (h2 : lwPs gs ws = some (ds, [])) : lwRow (w :: ws) = some (.tup (.str w :: ds)) := by
  show (match lwShape w with
        | some gs => (match lwPs gs ws with
          | some (ds, []) => some (D.tup (.str w :: ds))
          | _ => none)
        | none => none) = _
  rw [h1]
  show (match lwPs gs ws with
          | some (ds, []) => some (D.tup (.str w :: ds))
          | _ => none) = _
  rw [h2]
theorem lwPs_0 : lwPs [] [] = some ([], []) := rfl
theorem lwPs_1 {g : Bool} {gs : List Bool} {ws r r2 : List Str} {d : D} {ds : List D} (h : lwP g ws = some (d, r)) (h2 : lwPs gs r = some (ds, r2)) : lwPs (g :: gs) ws = some (d :: ds, r2) := by
  unfold lwPs
  rw [h]
  show (match lwPs gs r with | some (ds, r2) => some (d :: ds, r2) | none => none) = _
  rw [h2]
theorem lwP_s {a : Sm} {ws : List Str} (h : FewS a) : lwP true (swM a ++ ws) = some (a.d, ws) := lwS_fwd 60 a ws h.1 (by have := h.dep; omega)
theorem lwP_s0 {a : Sm} (h : FewS a) : lwP true (swM a) = some (a.d, []) := by
  have := lwP_s (ws := []) h
  rwa [List.append_nil] at this
theorem lwP_n {i : Fin 6} {ws : List Str} : lwP false (nmS i :: ws) = some (.str (nmS i), ws) := by
  show (if 9 < (nmS i).length then none else some (wordD (nmS i), ws)) = _
  rw [if_neg ((by decide : ∀ i : Fin 6, ¬ 9 < (nmS i).length) i)]
  unfold wordD
  rw [if_neg ((by decide : ∀ i : Fin 6, ¬ (nmS i ≠ "" ∧ isDig (nmS i) = true)) i)]
theorem lwP_r {k n : Nat} (hn : n ≤ 1000) (h : k ≤ n) : lwP false [nS (k : Int)] = some (.int (k : Nat), []) := by
  have hne : nS (k : Int) ≠ ("" : Str) := fun z => by
    have := prN_ne (prN_nS (k := (k : Int)) (by omega) (by omega))
    rw [z] at this
    exact this rfl
  have hl : (nS (k : Int)).length ≤ 9 := by have := (wd_nS (k := (k : Int)) (by omega) (by omega)); have h5 : (numL k).length ≤ 5 := numL_len (by decide) (by omega); rw [len_tl, tl_nS (by omega), Int.toNat_natCast]; omega
  show (if 9 < (nS (k : Int)).length then none else some (wordD (nS (k : Int)), ([] : List Str))) = _
  rw [if_neg (by omega)]
  unfold wordD
  rw [if_pos ⟨hne, isDig_nS k⟩, intV_nS (by omega)]
theorem lwRow_fwd {n : Nat} (hn : n ≤ 1000) : ∀ r : Row, r.okF n → lwRow (rwM r) = some r.d
  | .set i a, h => lwRow_1 (w := "set") rfl (lwPs_1 lwP_n (lwPs_1 (lwP_s0 h) lwPs_0))
  | .put a b, h => lwRow_1 (w := "put") rfl (lwPs_1 (lwP_s h.1) (lwPs_1 (lwP_s0 h.2) lwPs_0))
  | .ask i, h => lwRow_1 (w := "ask") rfl (lwPs_1 lwP_n lwPs_0)
  | .say a, h => lwRow_1 (w := "say") rfl (lwPs_1 (lwP_s0 h) lwPs_0)
  | .jump k, h => lwRow_1 (w := "jump") rfl (lwPs_1 (lwP_r hn h) lwPs_0)
  | .unless a k, h => lwRow_1 (w := "unless") rfl (lwPs_1 (lwP_s h.1) (lwPs_1 (lwP_r hn h.2) lwPs_0))
  | .call k, h => lwRow_1 (w := "call") rfl (lwPs_1 (lwP_r hn h) lwPs_0)
  | .back, h => lwRow_1 (w := "back") rfl lwPs_0
  | .stop, h => lwRow_1 (w := "stop") rfl lwPs_0
end Bt
namespace Bt
open PySem PySem.Spec PyProof.Rows L2 TL
/-! ### what is due -/
theorem due0 (S : Sto) {t : Str} (hso : PyData.strOk t = true) (hl : t.length ≤ 1000000) (hw : WsG (Txt.split t blank)) (hn : (Txt.split t blank).length ≤ 50) :
    (∃ a, FewS a ∧ stM a = t ∧ F_l_due [.int 0, .str t] S = .ok a.d S) ∨ ((∀ a, FewS a → stM a ≠ t) ∧ F_l_due [.int 0, .str t] S = .ok .non S) := by
  have sx := sum_atX S _ hw (by omega) 60 0 (Nat.zero_le _) (by omega)
  rw [List.drop_zero] at sx
  have es : eSplit (eVar 1) (eC (.str " ")) [some (.int 0), some (.str t), none, none, none] S = .ok (.lst ((Txt.split t blank).map D.str)) S := by
    show (if (blank.length == 0) = false ∧ t.length ≤ lim then ER.ok (.lst ((Txt.split t blank).map D.str)) S else .bad) = _
    rw [if_pos ⟨by decide, hl⟩]
  have c0 : eOp opEq (eVar 0) (eC (.int 0)) [some (D.int 0), some (.str t), none, none, none] S = .ok (.bl true) S := x_op (x := .int 0) (y := .int 0) rfl rfl (by rw [o_eqI]; rfl)
  have pre : ∀ {x : D} {q : ER}, G_l_sum_at [.lst ((Txt.split t blank).map D.str), .int ((0 : Nat) : Int)] S = .ok x S →
      (∀ g : Sx, (sSeq (sIf (eOr (eIsN false (eVar 2)) (eOr (eNot (eCall G_is_sum (eCons (eOp opIx (eVar 2) (eC (.int 0))) eNil))) (eOp opNe (eCall G_written_sum (eCons (eOp opIx (eVar 2) (eC (.int 0))) eNil)) (eVar 1)))) (sRet (eC .non)) sSkip) (sSeq (sRet (eOp opIx (eVar 2) (eC (.int 0)))) g) [some (.int 0), some (.str t), some x, none, none] S).toE = q) → F_l_due [.int 0, .str t] S = q := fun {x q} hx h => by
    unfold F_l_due
    rw [fnB2]
    simp only [Nat.reduceSub, List.reduceReplicate, List.cons_append, List.nil_append]
    refine f_ifT (S1 := S) c0 rfl (f_assoc (f_set (d := x) (S1 := S) (x_c2 (x := .lst ((Txt.split t blank).map D.str)) (y := .int ((0 : Nat) : Int)) es rfl hx) (f_assoc (h _))))
  by_cases hex : ∃ a, FewS a ∧ stM a = t
  · obtain ⟨a, ha, rfl⟩ := hex
    left
    refine ⟨a, ha, rfl, ?_⟩
    rw [split_st ha] at sx pre
    have pf := lwS_fwd 60 a [] ha.1 (by have := ha.dep; omega)
    rw [List.append_nil] at pf
    rw [pf] at sx
    obtain ⟨p, sx, h1, h2, h3⟩ := sx
    refine pre sx fun g => ?_
    have i0 : eOp opIx (eVar 2) (eC (.int 0)) [some (.int 0), some (.str (stM a)), some (.tup [a.d, .int (p : Nat)]), none, none] S = .ok a.d S := x_ixk (k := 0) rfl rfl
    refine f_if (bb := false) (S1 := S) (x_or (x := false) (y := false) (x_isN rfl (by simp)) fun _ => x_or (x := false) (y := false) (x_not (b := true) (x_c1 (x := a.d) i0 ((is_sum_ok (nc_sm a) _).trans (by rw [sum_few ha])))) fun _ => x_op (x := .str (stM a)) (y := .str (stM a)) (x_c1 (x := a.d) i0 (written_sum_txtF S ha)) rfl (by rw [opNe_str (so_st ha.1) (so_st ha.1)]; simp)) rfl ?_
    exact f_sret (S1 := S) i0 rfl
  · right
    refine ⟨fun a ha e => hex ⟨a, ha, e⟩, ?_⟩
    cases e : lwS 60 (Txt.split t blank) with
    | none =>
      rw [e] at sx
      refine pre (x := .non) sx fun g => ?_
      exact f_ifT (bb := true) (S1 := S) (x_or (x := true) (y := true) (x_isN0 rfl) fun z => by cases z) rfl (f_sret (d := .non) (S1 := S) rfl rfl)
    | some y =>
      obtain ⟨d, r⟩ := y
      rw [e] at sx
      obtain ⟨p, sx, h1, h2, h3⟩ := sx
      obtain ⟨n1, n2, n3, n4⟩ := lwS_prop 60 _ d r e hw
      refine pre sx fun g => ?_
      have i0 : eOp opIx (eVar 2) (eC (.int 0)) [some (.int 0), some (.str t), some (.tup [d, .int (p : Nat)]), none, none] S = .ok d S := x_ixk (k := 0) rfl rfl
      have c2 : eNot (eCall G_is_sum (eCons (eOp opIx (eVar 2) (eC (.int 0))) eNil)) [some (.int 0), some (.str t), some (.tup [d, .int (p : Nat)]), none, none] S = .ok (.bl (!sumD d)) S := x_not (x_c1 (x := d) i0 (is_sum_ok n1 S))
      refine f_ifT (bb := true) (S1 := S) (x_or (x := false) (y := true) (x_isN rfl (by simp)) fun _ => ?_) rfl (f_sret (d := .non) (S1 := S) rfl rfl)
      cases q : sumD d with
      | false => exact x_or (x := true) (y := true) (c2.trans (by rw [q]; rfl)) fun z => by cases z
      | true =>
        obtain ⟨a, rfl, ha⟩ := sumD_inv q
        refine x_or (x := false) (y := true) (c2.trans (by rw [q]; rfl)) fun _ => ?_
        exact x_op (x := .str (stM a)) (y := .str t) (x_c1 (x := a.d) i0 (written_sum_txtF S ha)) rfl (by rw [opNe_str (so_st ha.1) hso, decide_eq_false fun z => hex ⟨a, ha, z⟩]; rfl)
structure LnD (ls : List Str) : Prop where
  l : ∀ x ∈ ls, x.length ≤ 1000000 ∧ WsG (Txt.split x blank) ∧ (Txt.split x blank).length ≤ 50
theorem LnD.g {ls : List Str} (h : LnD ls) : LnG ls := ⟨fun x hx => ⟨(h.l x hx).1, (h.l x hx).2.1⟩⟩
def lrD (l : Str) : D := (lwRow (Txt.split l blank)).getD .non
theorem lrD_nc {l : Str} (h : l.length ≤ 1000000 ∧ WsG (Txt.split l blank) ∧ (Txt.split l blank).length ≤ 50) : Nc 51 (lrD l) := by
  unfold lrD
  cases e : lwRow (Txt.split l blank) with
  | none => trivial
  | some d => exact (lwRow_prop e h.2.1 h.2.2).1
theorem due1 (S : Sto) {t : Str} (hso : PyData.strOk t = true) (hl : t.length ≤ 1000000) (hg : LnD (linesOf t)) (hn : (linesOf t).length ≤ 1000) :
    (∃ p, PrgF p ∧ ptM p = t ∧ F_l_due [.int 1, .str t] S = .ok (prgD p) S) ∨ ((∀ p, PrgF p → ptM p ≠ t) ∧ F_l_due [.int 1, .str t] S = .ok .non S) := by
  have nd : Nc 52 (.tup ((linesOf t).map lrD)) := ⟨by rw [List.length_map]; exact hn, fun d hd => by
    obtain ⟨l, hl, rfl⟩ := List.mem_map.mp hd
    exact lrD_nc (hg.l l hl)⟩
  have ecomp : eComp [4] (iLst (eSl (eSplit (eVar 1) (eC (.str "\n"))) eNo (eInt (eUn opNeg (eC (.int 1)))))) (dN 4) eYes (eCall G_l_row_of (eCons (eVar 4) eNil)) [some (.int 1), some (.str t), none, none, none] S = .ok (.lst ((linesOf t).map lrD)) S := by
    refine comp_all (f := D.str) (xs := linesOf t) lrD ?_ (fun l hl => ⟨[some (.int 1), some (.str t), none, none, some (.str l)], rfl, x_c1 (x := .str l) rfl ?_⟩) (by show _ ≤ 1000000; omega)
    · have e1 : eSplit (eVar 1) (eC (.str "\n")) [some (.int 1), some (.str t), none, none, none] S = .ok (.lst ((Txt.split t feed).map D.str)) S := by
        show (if (feed.length == 0) = false ∧ t.length ≤ lim then ER.ok (.lst ((Txt.split t feed).map D.str)) S else .bad) = _
        rw [if_pos ⟨by decide, hl⟩]
      unfold iLst
      rw [s_sl, e1]
      show (lift1 (some (D.lst (cutD ((Txt.split t feed).map D.str) none (some (-1))))) S).bind _ = _
      rw [cut_last, ← List.map_dropLast]; rfl
    · have h := hg.l l hl
      exact l_row_law S h.1 h.2.1 h.2.2
  have pre : ∀ {q : ER}, (sSeq (sIf (eOr (eOp opIn (eC .non) (eVar 3)) (eOr (eNot (eCall G_is_program (eCons (eVar 3) eNil))) (eOp opNe (eCall G_written (eCons (eVar 3) eNil)) (eVar 1)))) (sRet (eC .non)) sSkip) (sRet (eVar 3)) [some (.int 1), some (.str t), none, some (.tup ((linesOf t).map lrD)), none] S).toE = q → F_l_due [.int 1, .str t] S = q := fun {q} h => by
    unfold F_l_due
    rw [fnB2]
    simp only [Nat.reduceSub, List.reduceReplicate, List.cons_append, List.nil_append]
    refine f_if (bb := false) (S1 := S) (x_op (x := .int 1) (y := .int 0) rfl rfl (by rw [o_eqI]; rfl)) rfl ?_
    exact f_set (d := .tup ((linesOf t).map lrD)) (S1 := S) (x_B1 (x := .lst ((linesOf t).map lrD)) ecomp rfl) h
  have c1 : eOp opIn (eC .non) (eVar 3) [some (.int 1), some (.str t), none, some (.tup ((linesOf t).map lrD)), none] S = .ok (.bl (memD .non ((linesOf t).map lrD))) S :=
    x_op (x := .non) (y := .tup ((linesOf t).map lrD)) rfl rfl (by
      show (if D.non.good && (D.tup ((linesOf t).map lrD)).good then some (D.bl (memD .non ((linesOf t).map lrD))) else none) = _
      rw [nd.gd.good (by decide)]; rfl)
  have c2 : eNot (eCall G_is_program (eCons (eVar 3) eNil)) [some (.int 1), some (.str t), none, some (.tup ((linesOf t).map lrD)), none] S = .ok (.bl (!prgT (.tup ((linesOf t).map lrD)))) S := x_not (x_c1 (x := .tup ((linesOf t).map lrD)) rfl (is_prg_ok nd S))
  by_cases hex : ∃ p, PrgF p ∧ ptM p = t
  · obtain ⟨p, hp, rfl⟩ := hex
    left
    refine ⟨p, hp, rfl, pre ?_⟩
    have hL : (linesOf (ptM p)).map lrD = p.map Row.d := by
      rw [lines_pt hp, List.map_map]
      refine List.map_congr_left fun r hr => ?_
      show (lwRow (Txt.split (rtM r) blank)).getD .non = r.d
      rw [split_rt hp.l1 (hp.rows r hr), lwRow_fwd hp.l1 r (hp.rows r hr)]; rfl
    rw [hL] at c1 c2 ⊢
    have hm : memD .non (p.map Row.d) = false := by
      unfold memD
      rw [List.any_eq_false]
      intro d hd
      obtain ⟨r, hr, rfl⟩ := List.mem_map.mp hd
      have : r.d.eqv .non = false := by cases r <;> rfl
      rw [this]; decide
    rw [hm] at c1
    have hpt : prgT (.tup (p.map Row.d)) = true := prg_few hp
    rw [hpt] at c2
    refine f_if (bb := false) (S1 := S) (x_or (x := false) (y := false) c1 fun _ => x_or (x := false) (y := false) c2 fun _ => x_op (x := .str (ptM p)) (y := .str (ptM p)) (x_c1 (x := prgD p) rfl (written_txtF S hp)) rfl (by rw [opNe_str (so_ptF hp) (so_ptF hp)]; simp)) rfl ?_
    exact f_ret (S1 := S) rfl rfl
  · right
    refine ⟨fun p hp e => hex ⟨p, hp, e⟩, pre ?_⟩
    refine f_ifT (bb := true) (S1 := S) ?_ rfl (f_sret (d := .non) (S1 := S) rfl rfl)
    cases hm : memD .non ((linesOf t).map lrD) with
    | true => exact x_or (x := true) (y := true) (c1.trans (by rw [hm])) fun z => by cases z
    | false =>
      refine x_or (x := false) (y := true) (c1.trans (by rw [hm])) fun _ => ?_
      cases h2 : prgT (.tup ((linesOf t).map lrD)) with
      | false => exact x_or (x := true) (y := true) (c2.trans (by rw [h2]; rfl)) fun z => by cases z
      | true =>
        obtain ⟨p, e, hp⟩ := prgT_inv h2
        refine x_or (x := false) (y := true) (c2.trans (by rw [h2]; rfl)) fun _ => ?_
        exact x_op (x := .str (ptM p)) (y := .str t) (x_c1 (x := .tup ((linesOf t).map lrD)) rfl (e ▸ written_txtF S hp)) rfl (by rw [opNe_str (so_ptF hp) hso, decide_eq_false fun z => hex ⟨p, hp, z⟩]; rfl)
/-! ### what is told -/
section
variable {ρ : Env} {S S1 : Sto} {d : D} {fe : Ex} {g : Sx}
theorem f_tryN (h : fe ρ S = .ok d S1) : (sSeq (sTryN (sRet fe)) g ρ S).toE = .ok d S1 := by
  have e : sTryN (sRet fe) ρ S = .rt d S1 := by
    unfold sTryN
    have : sRet fe ρ S = .rt d S1 := by unfold sRet; rw [h]; rfl
    rw [this]
  show (SR.seq (sTryN (sRet fe) ρ S) g).toE = _
  rw [e]; rfl
theorem f_tryX (h : fe ρ S = .exc .text S1) : (sSeq (sTryN (sRet fe)) g ρ S).toE = .ok .non S1 := by
  have e : sTryN (sRet fe) ρ S = .rt .non S1 := by
    unfold sTryN
    rw [e_retX h]
  show (SR.seq (sTryN (sRet fe) ρ S) g).toE = _
  rw [e]; rfl
end
theorem told0 {S : Sto} {t : Str} {r : ER} (h : G_read_sum [.str t] S = r) : eIf (eOp opEq (eVar 0) (eC (.int 0))) (eCall G_read_sum (eCons (eVar 1) eNil)) (eCall G_readX (eCons (eVar 1) eNil)) [some (.int 0), some (.str t), none, none] S = r :=
  x_iteT (S1 := S) (x_op (x := .int 0) (y := .int 0) rfl rfl (by rw [o_eqI]; rfl)) h
theorem told1 {S : Sto} {t : Str} {r : ER} (h : F_readX [.str t] S = r) : eIf (eOp opEq (eVar 0) (eC (.int 0))) (eCall G_read_sum (eCons (eVar 1) eNil)) (eCall G_readX (eCons (eVar 1) eNil)) [some (.int 1), some (.str t), none, none] S = r :=
  x_iteF (S1 := S) (x_op (x := .int 1) (y := .int 0) rfl rfl (by rw [o_eqI]; rfl)) h
theorem stM_inj {a b : Sm} (ha : FewS a) (hb : FewS b) (h : stM a = stM b) : a.d = b.d := by
  have e : swM a = swM b := by rw [← split_st ha, ← split_st hb, h]
  have h1 := prS_fwd 15 a [] ha.1 ha.dep
  have h2 := prS_fwd 15 b [] hb.1 hb.dep
  rw [e, h2] at h1
  exact (congrArg Prod.fst (Option.some.inj h1)).symm
theorem ptM_inj {p q : Prg} (hp : PrgF p) (hq : PrgF q) (h : ptM p = ptM q) : prgD p = prgD q := by
  have e : p.map rtM = q.map rtM := by rw [← lines_pt hp, ← lines_pt hq, h]
  have h1 := prRows_map hp.l1 hp.rows
  have h2 := prRows_map hq.l1 hq.rows
  rw [e, h2] at h1
  exact congrArg D.tup (Option.some.inj h1).symm
theorem pair0 (S : Sto) {t : Str} (hso : PyData.strOk t = true) (hl : t.length ≤ 1000000) (hw : WsG (Txt.split t blank)) (hn : (Txt.split t blank).length ≤ 50) :
    ∃ v : D, G_l_told [.int 0, .str t] S = .ok v S ∧ G_l_due [.int 0, .str t] S = .ok v S ∧ v.good = true := by
  have mk : ∀ {v : D} {r : ER}, G_read_sum [.str t] S = r → ((r = .ok v S) ∨ (v = .non ∧ r = .exc .text S)) → G_l_told [.int 0, .str t] S = .ok v S := fun {v r} h hr => by
    unfold G_l_told F_l_told
    rw [fnB2]
    simp only [Nat.reduceSub, List.reduceReplicate, List.cons_append, List.nil_append]
    rcases hr with e | ⟨rfl, e⟩
    · exact f_tryN ((told0 h).trans e)
    · exact f_tryX ((told0 h).trans e)
  rcases read_sum_any S hso hl hw with ⟨a, ha, e1, h1⟩ | ⟨no, h1⟩
  · rcases due0 S hso hl hw hn with ⟨b, hb, e2, h2⟩ | ⟨no, _⟩
    · refine ⟨a.d, mk h1 (.inl rfl), ?_, (Sm.gd a).good (by have := ha.dep; omega)⟩
      rw [stM_inj ha hb (e1.trans e2.symm)]
      exact h2
    · exact absurd e1 (no a ha)
  · rcases due0 S hso hl hw hn with ⟨b, hb, e2, h2⟩ | ⟨_, h2⟩
    · exact absurd e2 (no b hb)
    · exact ⟨.non, mk h1 (.inr ⟨rfl, rfl⟩), h2, rfl⟩
theorem prgF_good {p : Prg} {t : Str} (hp : PrgF p) (e : ptM p = t) (hg : LnD (linesOf t)) : (prgD p).good = true := by
  subst e
  have hr : prRows (linesOf (ptM p)) = some (p.map Row.d) := by rw [lines_pt hp]; exact prRows_map hp.l1 hp.rows
  have hN := prRows_prop hr hg.g
  have nd : Nc 17 (prgD p) := ⟨by rw [List.length_map]; exact hp.l1, fun d hd => hN.1 d hd⟩
  exact nd.gd.good (by decide)
theorem pair1 (S : Sto) {t : Str} (hso : PyData.strOk t = true) (hl : t.length ≤ 1000000) (hg : LnD (linesOf t)) (hn : (linesOf t).length ≤ 1000) :
    ∃ v : D, G_l_told [.int 1, .str t] S = .ok v S ∧ G_l_due [.int 1, .str t] S = .ok v S ∧ v.good = true := by
  have mk : ∀ {v : D} {r : ER}, F_readX [.str t] S = r → ((r = .ok v S) ∨ (v = .non ∧ r = .exc .text S)) → G_l_told [.int 1, .str t] S = .ok v S := fun {v r} h hr => by
    unfold G_l_told F_l_told
    rw [fnB2]
    simp only [Nat.reduceSub, List.reduceReplicate, List.cons_append, List.nil_append]
    rcases hr with e | ⟨rfl, e⟩
    · exact f_tryN ((told1 h).trans e)
    · exact f_tryX ((told1 h).trans e)
  rcases readX_any S hso hl hg.g hn with ⟨p, hp, e1, h1⟩ | ⟨no, h1⟩
  · rcases due1 S hso hl hg hn with ⟨q, hq, e2, h2⟩ | ⟨no, _⟩
    · refine ⟨prgD p, mk h1 (.inl rfl), ?_, prgF_good hp e1 hg⟩
      rw [ptM_inj hp hq (e1.trans e2.symm)]
      exact h2
    · exact absurd e1 (no p hp)
  · rcases due1 S hso hl hg hn with ⟨q, hq, e2, h2⟩ | ⟨_, h2⟩
    · exact absurd e2 (no q hq)
    · exact ⟨.non, mk h1 (.inr ⟨rfl, rfl⟩), h2, rfl⟩
end Bt
namespace Bt
open PySem PySem.Spec PyProof.Rows L2 TL
/-! ### texts of fair size -/
def Run (K B : Nat) (l : List Nat) : Prop := ∀ a m b, l = a ++ (m ++ b) → 10 ∉ m → m.length ≤ K ∧ m.count 32 ≤ B
structure Ms (K B N M T : Nat) (l : List Nat) : Prop where
  run : Run K B l
  nl : l.count 10 ≤ N
  tot : l.length ≤ M
  sp : l.count 32 ≤ T
  ok : ∀ c ∈ l, c < 1114112
theorem Run.nil {K B : Nat} : Run K B [] := fun a m b e _ => by
  have e := e.symm
  obtain ⟨_, e⟩ := List.append_eq_nil_iff.mp e
  obtain ⟨rfl, _⟩ := List.append_eq_nil_iff.mp e
  exact ⟨Nat.zero_le _, Nat.zero_le _⟩
theorem Run.app {K B K' B' : Nat} {x y : List Nat} (h : Run K B x) (h' : Run K' B' y) : Run (K + K') (B + B') (x ++ y) := fun a m b e hm => by
  rcases List.append_eq_append_iff.mp e with ⟨c, e1, e2⟩ | ⟨c, e1, e2⟩
  · obtain ⟨h1, h2⟩ := h' c m b e2 hm
    exact ⟨by omega, by omega⟩
  · rcases List.append_eq_append_iff.mp e2 with ⟨d, e3, e4⟩ | ⟨d, e3, e4⟩
    · obtain ⟨h1, h2⟩ := h a m d (by rw [e1, e3]) hm
      exact ⟨by omega, by omega⟩
    · subst e3
      obtain ⟨h1, h2⟩ := h a c [] (by rw [List.append_nil]; exact e1) (fun z => hm (List.mem_append_left _ z))
      obtain ⟨h3, h4⟩ := h' [] d b (by rw [List.nil_append]; exact e4) (fun z => hm (List.mem_append_right _ z))
      exact ⟨by rw [List.length_append]; omega, by rw [List.count_append]; omega⟩
theorem Run.nl {K B : Nat} {x y : List Nat} (h : Run K B x) (h' : Run K B y) : Run K B (x ++ ([10] ++ y)) := fun a m b e hm => by
  rcases List.append_eq_append_iff.mp e with ⟨c, e1, e2⟩ | ⟨c, e1, e2⟩
  · cases c with
    | nil =>
      cases m with
      | nil => exact ⟨Nat.zero_le _, Nat.zero_le _⟩
      | cons z m =>
        have e2 : 10 :: y = z :: (m ++ b) := e2
        injection e2 with e3 _
        exact absurd (by rw [e3]; exact List.mem_cons_self) hm
    | cons z c =>
      have e2 : 10 :: y = z :: (c ++ (m ++ b)) := e2
      injection e2 with _ e3
      exact h' c m b e3 hm
  · rcases List.append_eq_append_iff.mp e2 with ⟨d, e3, e4⟩ | ⟨d, e3, e4⟩
    · exact h a m d (by rw [e1, e3]) hm
    · cases d with
      | nil =>
        rw [List.append_nil] at e3
        exact h a m [] (by rw [List.append_nil, e3]; exact e1) hm
      | cons z d =>
        have e4 : 10 :: y = z :: (d ++ b) := e4
        injection e4 with e5 _
        exact absurd (by rw [e3, e5]; exact List.mem_append_right _ List.mem_cons_self) hm
theorem Run.free {x : List Nat} : Run x.length (x.count 32) x := fun a m b e _ => by
  have h1 : x.length = a.length + (m.length + b.length) := by rw [e, List.length_append, List.length_append]
  have h2 : x.count 32 = a.count 32 + (m.count 32 + b.count 32) := by rw [e, List.count_append, List.count_append]
  exact ⟨by omega, by omega⟩
section
variable {K B N M T K' B' N' M' T' : Nat} {x y l : List Nat}
theorem Run.mono (h : Run K B l) (h1 : K ≤ K') (h2 : B ≤ B') : Run K' B' l := fun a m b e hm => ⟨Nat.le_trans (h a m b e hm).1 h1, Nat.le_trans (h a m b e hm).2 h2⟩
theorem Ms.mono (h : Ms K B N M T l) (h1 : K ≤ K') (h2 : B ≤ B') (h3 : N ≤ N') (h4 : M ≤ M') (h5 : T ≤ T') : Ms K' B' N' M' T' l := ⟨h.run.mono h1 h2, Nat.le_trans h.nl h3, Nat.le_trans h.tot h4, Nat.le_trans h.sp h5, h.ok⟩
theorem Ms.nil : Ms K B N M T [] := ⟨Run.nil, Nat.zero_le _, Nat.zero_le _, Nat.zero_le _, fun c hc => by cases hc⟩
theorem Ms.app (h : Ms K B N M T x) (h' : Ms K' B' N' M' T' y) : Ms (K + K') (B + B') (N + N') (M + M') (T + T') (x ++ y) :=
  ⟨h.run.app h'.run, by rw [List.count_append]; have := h.nl; have := h'.nl; omega, by rw [List.length_append]; have := h.tot; have := h'.tot; omega, by rw [List.count_append]; have := h.sp; have := h'.sp; omega, fun c hc => (List.mem_append.mp hc).elim (h.ok c) (h'.ok c)⟩
theorem Ms.inf {a m b : List Nat} (h : Ms K B N M T (a ++ (m ++ b))) : Ms K B N M T m := by
  refine ⟨fun a' m' b' e hm => h.run (a ++ a') m' (b' ++ b) (by rw [e]; simp only [List.append_assoc]) hm, ?_, ?_, ?_, fun c hc => h.ok c (List.mem_append_right _ (List.mem_append_left _ hc))⟩
  · have := h.nl; rw [List.count_append, List.count_append] at this; omega
  · have := h.tot; rw [List.length_append, List.length_append] at this; omega
  · have := h.sp; rw [List.count_append, List.count_append] at this; omega
theorem Ms.one {c : Nat} (hc : c < 1114112) : Ms 1 1 1 1 1 [c] :=
  ⟨Run.free.mono (Nat.le_refl 1) (List.count_le_length (l := [c])), List.count_le_length (l := [c]), Nat.le_refl 1, List.count_le_length (l := [c]), fun d hd => by rw [List.mem_singleton.mp hd]; exact hc⟩
theorem Ms.jn {c : Nat} (hc : c < 1114112) {xs ys : List (List Nat)} (hx : Ms K B N M T (joinL [c] xs)) (hy : Ms K' B' N' M' T' (joinL [c] ys)) : Ms (K + (1 + K')) (B + (1 + B')) (N + (1 + N')) (M + (1 + M')) (T + (1 + T')) (joinL [c] (xs ++ ys)) := by
  by_cases h1 : xs = []
  · subst h1
    rw [List.nil_append]
    exact hy.mono (by omega) (by omega) (by omega) (by omega) (by omega)
  by_cases h2 : ys = []
  · subst h2
    rw [List.append_nil]
    exact hx.mono (by omega) (by omega) (by omega) (by omega) (by omega)
  rw [joinL_app h1 h2]
  exact hx.app ((Ms.one hc).app hy)
theorem Ms.tk {c : Nat} {ws : List (List Nat)} (h : Ms K B N M T (joinL [c] ws)) (i : Nat) : Ms K B N M T (joinL [c] (ws.take i)) := by
  by_cases h1 : ws.take i = []
  · rw [h1]; exact Ms.nil
  by_cases h2 : ws.drop i = []
  · have : ws.take i = ws := by
      have := List.take_append_drop i ws
      rw [h2, List.append_nil] at this
      exact this
    rw [this]; exact h
  have e := joinL_app (S := [c]) h1 h2
  rw [List.take_append_drop] at e
  rw [e] at h
  exact Ms.inf (a := []) (b := [c] ++ joinL [c] (ws.drop i)) h
theorem Ms.dp {c : Nat} {ws : List (List Nat)} (h : Ms K B N M T (joinL [c] ws)) (i : Nat) : Ms K B N M T (joinL [c] (ws.drop i)) := by
  by_cases h1 : ws.take i = []
  · have : ws.drop i = ws := by
      have := List.take_append_drop i ws
      rw [h1, List.nil_append] at this
      exact this
    rw [this]; exact h
  by_cases h2 : ws.drop i = []
  · rw [h2]; exact Ms.nil
  have e := joinL_app (S := [c]) h1 h2
  rw [List.take_append_drop] at e
  rw [e] at h
  exact Ms.inf (a := joinL [c] (ws.take i) ++ [c]) (b := []) (by simpa [List.append_assoc] using h)
end
/-! ### what is asked of a text -/
theorem mem_inf {S : List Nat} : ∀ {ps : List (List Nat)} {p : List Nat}, p ∈ ps → ∃ a b, joinL S ps = a ++ (p ++ b)
  | [], _, h => by cases h
  | [q], p, h => by
    rw [List.mem_singleton.mp h]
    exact ⟨[], [], by simp [joinL]⟩
  | q :: r :: ps, p, h => by
    have e : joinL S (q :: r :: ps) = q ++ (S ++ joinL S (r :: ps)) := rfl
    rcases List.mem_cons.mp h with rfl | h
    · exact ⟨[], S ++ joinL S (r :: ps), e⟩
    · obtain ⟨a, b, e2⟩ := mem_inf (S := S) h
      exact ⟨q ++ (S ++ a), b, by rw [e, e2]; simp [List.append_assoc]⟩
theorem count_joinL {c : Nat} : ∀ {ps : List (List Nat)}, ps ≠ [] → (∀ p ∈ ps, c ∉ p) → (joinL [c] ps).count c + 1 = ps.length
  | [], h, _ => absurd rfl h
  | [p], _, h => by
    show p.count c + 1 = 1
    rw [List.count_eq_zero_of_not_mem (h p (by simp))]
  | p :: q :: r, _, h => by
    have ih := count_joinL (c := c) (ps := q :: r) (by simp) fun x hx => h x (List.mem_cons_of_mem _ hx)
    show (p ++ ([c] ++ joinL [c] (q :: r))).count c + 1 = (q :: r).length + 1
    rw [List.count_append, List.count_append, List.count_eq_zero_of_not_mem (h p (by simp)), List.count_singleton_self]
    omega
theorem tl_split (t : Str) {y : Str} : tl t = joinL (tl y) ((Txt.split t y).map tl) := by
  have e := PySem.StrLaws.join_split t y
  rw [← tl_join, e]
theorem split_free' {t : Str} : ∀ p ∈ Txt.split t blank, 32 ∉ tl p := PySem.StrLaws.split_free t 32
theorem split_freeN {t : Str} : ∀ p ∈ Txt.split t feed, 10 ∉ tl p := PySem.StrLaws.split_free t 10
theorem split_cnt (t : Str) : (tl t).count 32 + 1 = (Txt.split t blank).length := by
  obtain ⟨w, ws, e⟩ := split_cons t blank
  have := count_joinL (c := 32) (ps := (Txt.split t blank).map tl) (by rw [e]; simp) fun p hp => by
    obtain ⟨q, hq, rfl⟩ := List.mem_map.mp hp
    exact split_free' q hq
  rw [List.length_map] at this
  rw [← this, tl_split t (y := blank)]; rfl
theorem split_cntN (t : Str) : (tl t).count 10 + 1 = (Txt.split t feed).length := by
  obtain ⟨w, ws, e⟩ := split_cons t feed
  have := count_joinL (c := 10) (ps := (Txt.split t feed).map tl) (by rw [e]; simp) fun p hp => by
    obtain ⟨q, hq, rfl⟩ := List.mem_map.mp hp
    exact split_freeN q hq
  rw [List.length_map] at this
  rw [← this, tl_split t (y := feed)]; rfl
theorem split_ok {t : Str} (h : ∀ c ∈ tl t, c < 1114112) {y w : Str} (hw : w ∈ Txt.split t y) : PyData.strOk w = true := by
  obtain ⟨a, b, e⟩ := mem_inf (S := tl y) (List.mem_map_of_mem (f := tl) hw)
  rw [← tl_split] at e
  rw [so_iff]
  intro c hc
  exact h c (by rw [e]; exact List.mem_append_right _ (List.mem_append_left _ hc))
theorem wsg_of {t : Str} (h : ∀ c ∈ tl t, c < 1114112) (hl : t.length ≤ 640) : WsG (Txt.split t blank) := ⟨fun w hw => ⟨split_ok h hw, Nat.le_trans (PyProof.Rows.part_short hw) hl⟩⟩
theorem lnd_of {K B N M T : Nat} {t : Str} (h : Ms K B N M T (tl t)) (hK : K ≤ 640) (hB : B ≤ 49) : LnD (linesOf t) := ⟨fun x hx => by
  have hx : x ∈ Txt.split t feed := List.dropLast_subset _ hx
  obtain ⟨a, b, e⟩ := mem_inf (S := tl feed) (List.mem_map_of_mem (f := tl) hx)
  rw [← tl_split] at e
  obtain ⟨h1, h2⟩ := h.run a (tl x) b e (split_freeN x hx)
  have hl : x.length ≤ 640 := by rw [len_tl]; omega
  refine ⟨by omega, wsg_of (fun c hc => h.ok c (by rw [e]; exact List.mem_append_right _ (List.mem_append_left _ hc))) hl, ?_⟩
  rw [← split_cnt]; omega⟩
theorem lns_of {K B N M T : Nat} {t : Str} (h : Ms K B N M T (tl t)) (hN : N ≤ 900) : (linesOf t).length ≤ 1000 := by
  have := h.nl
  have := split_cntN t
  unfold linesOf
  rw [List.length_dropLast]
  omega
/-- a text of fair size, for sums and for programs -/
def Fair (i : Nat) (t : Str) : Prop := Ms 640 49 900 (if i = 0 then 640 else 100000) (if i = 0 then 49 else 100000) (tl t)
theorem pair_at (S : Sto) {i : Nat} (hi : i < 2) {t : Str} (h : Fair i t) : ∃ v : D, G_l_told [.int (i : Nat), .str t] S = .ok v S ∧ G_l_due [.int (i : Nat), .str t] S = .ok v S ∧ v.good = true := by
  have hso : PyData.strOk t = true := so_iff.mpr h.ok
  match i, hi with
  | 0, _ =>
    have hl : t.length ≤ 640 := by rw [len_tl]; exact h.tot
    have hc : (tl t).count 32 ≤ 49 := h.sp
    exact pair0 S hso (by omega) (wsg_of h.ok hl) (by rw [← split_cnt]; omega)
  | 1, _ =>
    have hl : t.length ≤ 100000 := by rw [len_tl]; exact h.tot
    exact pair1 S hso (by omega) (lnd_of h (Nat.le_refl _) (Nat.le_refl _)) (lns_of h (Nat.le_refl _))
  | n + 2, h => exact absurd h (by omega)
end Bt
namespace Bt
open PySem PySem.Spec PyProof.Rows L2 TL
/-! ### the texts of the law -/
def Base (i : Nat) (t : Str) : Prop := ∃ K B N M T : Nat, 2 * K + 12 ≤ 640 ∧ 2 * B + 12 ≤ 49 ∧ 2 * N + 12 ≤ 900 ∧ 2 * M + 12 ≤ (if i = 0 then 640 else 100000) ∧ 2 * T + 12 ≤ (if i = 0 then 49 else 100000) ∧ Ms K B N M T (tl t)
def odd12 : List Str := ["add", "a", "7", "07", "cell", "10007", "x", "", "stop", "set", "-1", "99999"]
def textsOf (t : Str) (k : Nat) (w : Str) (m : Nat) : List Str :=
  [Txt.join blank ((Txt.split t blank).take k ++ (Txt.split t blank).drop (k + 1)), Txt.join blank ((Txt.split t blank).take (k + 1) ++ (Txt.split t blank).drop k), Txt.join blank (((Txt.split t blank).take k ++ [w]) ++ (Txt.split t blank).drop (k + 1)),
    t, cutS t none (some (-1)), t ++ feed,
    Txt.join feed ((Txt.split t feed).take m ++ (Txt.split t feed).drop (m + 1)), Txt.join feed ((Txt.split t feed).take (m + 1) ++ (Txt.split t feed).drop m), "", "stop\n"]
theorem Ms.short {k : Nat} {l : List Nat} (h : l.length ≤ k) (ok : ∀ c ∈ l, c < 1114112) : Ms k k k k k l :=
  have hc : ∀ c, l.count c ≤ k := fun c => Nat.le_trans List.count_le_length h
  ⟨Run.free.mono h (hc 32), hc 10, h, hc 32, ok⟩
theorem ms_lit {s : String} (h : (Str.ofString s).length ≤ 10 := by decide) : Ms 10 10 10 10 10 (tl (Str.ofString s)) :=
  Ms.short (by rw [← len_tl]; exact h) (so_iff.mp (strOk_of s))
theorem ms_odd {w : Str} (h : w ∈ odd12) : Ms 10 10 10 10 10 (tl w) := by
  simp only [odd12, List.mem_cons, List.not_mem_nil, or_false] at h
  rcases h with rfl | rfl | rfl | rfl | rfl | rfl | rfl | rfl | rfl | rfl | rfl | rfl <;> exact ms_lit
section
variable {K B N M T : Nat} {t : Str}
theorem ms_words (h : Ms K B N M T (tl t)) : Ms K B N M T (joinL [32] ((Txt.split t blank).map tl)) := by
  have e := tl_split t (y := blank)
  rw [e] at h; exact h
theorem ms_lines (h : Ms K B N M T (tl t)) : Ms K B N M T (joinL [10] ((Txt.split t feed).map tl)) := by
  have e := tl_split t (y := feed)
  rw [e] at h; exact h
theorem sp_w2 (h : Ms K B N M T (tl t)) (i j : Nat) : Ms (K + (1 + K)) (B + (1 + B)) (N + (1 + N)) (M + (1 + M)) (T + (1 + T)) (tl (Txt.join blank ((Txt.split t blank).take i ++ (Txt.split t blank).drop j))) := by
  rw [join_eq, tl_join, List.map_append, List.map_take, List.map_drop]
  exact Ms.jn (by decide) ((ms_words h).tk i) ((ms_words h).dp j)
theorem sp_l2 (h : Ms K B N M T (tl t)) (i j : Nat) : Ms (K + (1 + K)) (B + (1 + B)) (N + (1 + N)) (M + (1 + M)) (T + (1 + T)) (tl (Txt.join feed ((Txt.split t feed).take i ++ (Txt.split t feed).drop j))) := by
  rw [join_eq, tl_join, List.map_append, List.map_take, List.map_drop]
  exact Ms.jn (by decide) ((ms_lines h).tk i) ((ms_lines h).dp j)
theorem sp_w3 (h : Ms K B N M T (tl t)) (i j : Nat) {w : Str} (hw : Ms 10 10 10 10 10 (tl w)) : Ms (K + (1 + 10) + (1 + K)) (B + (1 + 10) + (1 + B)) (N + (1 + 10) + (1 + N)) (M + (1 + 10) + (1 + M)) (T + (1 + 10) + (1 + T)) (tl (Txt.join blank (((Txt.split t blank).take i ++ [w]) ++ (Txt.split t blank).drop j))) := by
  rw [join_eq, tl_join, List.map_append, List.map_append, List.map_take, List.map_drop]
  exact Ms.jn (by decide) (Ms.jn (by decide) ((ms_words h).tk i) hw) ((ms_words h).dp j)
theorem tl_cut {hi : Option Int} : ∃ b, tl t = tl (cutS t none hi) ++ b := by
  refine ⟨(tl t).drop (HT.sIx t.length t.length hi), ?_⟩
  show tl t = (((tl t).drop 0).take (HT.sIx t.length t.length hi - 0)) ++ _
  rw [List.drop_zero, Nat.sub_zero, List.take_append_drop]
end
theorem texts_fair {i : Nat} {t : Str} (h : Base i t) {k m : Nat} {w : Str} (hw : w ∈ odd12) : ∀ x ∈ textsOf t k w m, Fair i x := by
  obtain ⟨K, B, N, M, T, h1, h2, h3, h4, h5, h⟩ := h
  have two : ∀ {x : Str}, Ms (K + (1 + K)) (B + (1 + B)) (N + (1 + N)) (M + (1 + M)) (T + (1 + T)) (tl x) → Fair i x := fun z => z.mono (by omega) (by omega) (by omega) (by omega) (by omega)
  have ten : ∀ {x : Str}, Ms 10 10 10 10 10 (tl x) → Fair i x := fun z => z.mono (by omega) (by omega) (by omega) (by omega) (by omega)
  have one : ∀ {x : Str}, Ms K B N M T (tl x) → Fair i x := fun z => z.mono (by omega) (by omega) (by omega) (by omega) (by omega)
  intro x hx
  simp only [textsOf, List.mem_cons, List.not_mem_nil, or_false] at hx
  rcases hx with rfl | rfl | rfl | rfl | rfl | rfl | rfl | rfl | rfl | rfl
  · exact two (sp_w2 h _ _)
  · exact two (sp_w2 h _ _)
  · exact (sp_w3 h k (k + 1) (ms_odd hw)).mono (by omega) (by omega) (by omega) (by omega) (by omega)
  · exact one h
  · obtain ⟨b, e⟩ := tl_cut (t := t) (hi := some (-1))
    rw [e] at h
    exact one (Ms.inf (a := []) h)
  · have := h.app (Ms.one (c := 10) (by decide))
    refine Ms.mono (l := tl (t ++ feed)) (by rw [tl_append]; exact this) (by omega) (by omega) (by omega) (by omega) (by omega)
  · exact two (sp_l2 h _ _)
  · exact two (sp_l2 h _ _)
  · exact ten ms_lit
  · exact ten ms_lit
/-! ### the texts that are spoilt -/
theorem free_joinL {c : Nat} : ∀ {ps : List (List Nat)}, (∀ p ∈ ps, c ∉ p) → c ≠ 32 → c ∉ joinL [32] ps := fun {ps} h hc hm => by
  rcases mem_joinL hm with hm | ⟨p, hp, hm⟩
  · exact hc (List.mem_singleton.mp hm)
  · exact h p hp hm
theorem cnt_le {ws : List Str} (h : WsOk ws) : (tl (Txt.join blank ws)).count 32 ≤ ws.length := by
  rw [join_eq, tl_join]
  cases ws with
  | nil => exact Nat.zero_le _
  | cons w ws =>
    have := count_joinL (c := 32) (ps := (w :: ws).map tl) (by simp) fun p hp => by
      obtain ⟨q, hq, rfl⟩ := List.mem_map.mp hp
      exact (h.wd q hq).sp
    rw [List.length_map] at this
    show (joinL [32] ((w :: ws).map tl)).count 32 ≤ _
    omega
theorem base0 {a : Sm} (ha : a.ok) (hd : a.dep ≤ 2) : Base 0 (stM a) := by
  have hl : (swM a).length ≤ 7 := by
    have h1 := sw_len a
    have h2 : 2 ^ (a.dep + 1) ≤ 2 ^ 3 := Nat.pow_le_pow_right (by decide) (by omega)
    have : (2 : Nat) ^ 3 = 8 := by decide
    omega
  have h1 := len_join blank blank_len (swM a) 10 fun w hw => (sw_wd ha w hw).len
  have h2 : (swM a).length * 11 ≤ 7 * 11 := Nat.mul_le_mul_right _ hl
  have h3 : (stM a).length ≤ 77 := by unfold stM; omega
  have h4 : (tl (stM a)).count 32 ≤ 7 := Nat.le_trans (cnt_le (ok_sw ha)) hl
  have h5 : 10 ∉ tl (stM a) := by
    unfold stM
    rw [join_eq, tl_join]
    refine free_joinL (fun p hp => ?_) (by decide)
    obtain ⟨w, hw, rfl⟩ := List.mem_map.mp hp
    exact (sw_wd ha w hw).nl
  refine ⟨77, 7, 0, 77, 7, by decide, by decide, by decide, by decide, by decide, Run.free.mono (by rw [← len_tl]; exact h3) h4, ?_, by rw [← len_tl]; exact h3, h4, so_iff.mp (so_st ha)⟩
  rw [List.count_eq_zero_of_not_mem h5]; exact Nat.le_refl 0
/-- rows whose sums are two deep at most -/
def Row.two : Row → Prop
  | .set _ a => a.dep ≤ 2
  | .put a b => a.dep ≤ 2 ∧ b.dep ≤ 2
  | .say a => a.dep ≤ 2
  | .unless a _ => a.dep ≤ 2
  | _ => True
theorem sw_7 {a : Sm} (hd : a.dep ≤ 2) : (swM a).length ≤ 7 := by
  have h1 := sw_len a
  have h2 : 2 ^ (a.dep + 1) ≤ 2 ^ 3 := Nat.pow_le_pow_right (by decide) (by omega)
  have : (2 : Nat) ^ 3 = 8 := by decide
  omega
theorem rw_15 : ∀ {r : Row}, r.two → (rwM r).length ≤ 15
  | .set i a, h => by have := sw_7 (a := a) h; simp only [rwM, List.length_cons]; omega
  | .put a b, h => by have := sw_7 h.1; have := sw_7 h.2; simp only [rwM, List.length_cons, List.length_append]; omega
  | .ask i, _ => by simp [rwM]
  | .say a, h => by have := sw_7 (a := a) h; simp only [rwM, List.length_cons]; omega
  | .jump k, _ => by simp [rwM]
  | .unless a k, h => by have := sw_7 (a := a) h; simp only [rwM, List.length_cons, List.length_append, List.length_nil]; omega
  | .call k, _ => by simp [rwM]
  | .back, _ => by simp [rwM]
  | .stop, _ => by simp [rwM]
theorem rowM_two (ns : List Int) (at' : Int) (size : Nat) : (rowM ns at' size).two := by
  have h3 := (sumM_ok ns 2 (at' + 3)).2
  have h9 := (sumM_ok ns 1 (at' + 9)).2
  unfold rowM
  simp only
  split
  · exact h3
  split
  · exact ⟨Nat.le_trans h9 (by decide), h3⟩
  split
  · exact trivial
  split
  · exact h3
  split
  · exact trivial
  split
  · exact h3
  split
  · exact (by decide : (0 : Nat) ≤ 2)
  split
  · exact trivial
  split
  · exact trivial
  split
  · exact trivial
  · exact trivial
theorem prgM_two (ns : List Int) (at' : Int) : ∀ r ∈ prgM ns at', r.two := by
  unfold prgM
  split
  · intro r hr
    simp only [List.mem_cons, List.not_mem_nil, or_false] at hr
    rcases hr with rfl | rfl | rfl | rfl | rfl | rfl | rfl | rfl | rfl
    · exact trivial
    · exact trivial
    · exact (by decide : (0 : Nat) ≤ 2)
    · exact trivial
    · exact ⟨(by decide : (0 : Nat) ≤ 2), (by decide : (0 : Nat) ≤ 2)⟩
    · exact trivial
    · exact trivial
    · split
      · exact (by decide : (1 : Nat) ≤ 2)
      · exact (by decide : (1 : Nat) ≤ 2)
    · exact trivial
  · intro r hr
    obtain ⟨k, _, rfl⟩ := List.mem_map.mp hr
    exact rowM_two _ _ _
theorem run_lines {K B : Nat} : ∀ {ls : List (List Nat)}, (∀ l ∈ ls, Run K B l) → Run K B (joinL [10] ls)
  | [], _ => Run.nil
  | [l], h => h l (by simp)
  | l :: m :: r, h => Run.nl (h l (by simp)) (run_lines (ls := m :: r) fun x hx => h x (List.mem_cons_of_mem _ hx))
theorem tot_lines {K : Nat} : ∀ {ls : List (List Nat)}, (∀ l ∈ ls, l.length ≤ K) → (joinL [10] ls).length ≤ ls.length * (K + 1)
  | [], _ => Nat.zero_le _
  | [l], h => by have := h l (by simp); show l.length ≤ 1 * (K + 1); omega
  | l :: m :: r, h => by
    have h1 := h l (by simp)
    have ih := tot_lines (K := K) (ls := m :: r) fun x hx => h x (List.mem_cons_of_mem _ hx)
    have e : (l :: m :: r).length * (K + 1) = (m :: r).length * (K + 1) + (K + 1) := by rw [List.length_cons, Nat.succ_mul]
    rw [e]
    show (l ++ ([10] ++ joinL [10] (m :: r))).length ≤ _
    rw [List.length_append, List.length_append]
    show l.length + (1 + (joinL [10] (m :: r)).length) ≤ _
    omega
theorem base1 {p : Prg} (hp : PrgOk p) (h9 : p.length ≤ 9) (h2 : ∀ r ∈ p, r.two) : Base 1 (ptM p) := by
  have row : ∀ r ∈ p, Run 165 15 (tl (rtM r)) ∧ (tl (rtM r)).length ≤ 165 := fun r hr => by
    have hw := ok_rw hp.len (hp.rows r hr)
    have h15 := rw_15 (h2 r hr)
    have h1 := len_join blank blank_len (rwM r) 10 fun w hw' => (hw.wd w hw').len
    have h3 : (rwM r).length * 11 ≤ 15 * 11 := Nat.mul_le_mul_right _ h15
    have h4 : (tl (rtM r)).length ≤ 165 := by rw [← len_tl]; unfold rtM; omega
    exact ⟨Run.free.mono h4 (Nat.le_trans (cnt_le hw) h15), h4⟩
  have e : tl (ptM p) = joinL [10] ((p.map rtM ++ [("" : Str)]).map tl) := by
    rw [pt_lines, join_eq, tl_join]; rfl
  have all : ∀ l ∈ (p.map rtM ++ [("" : Str)]).map tl, Run 165 15 l ∧ l.length ≤ 165 := fun l hl => by
    obtain ⟨x, hx, rfl⟩ := List.mem_map.mp hl
    rcases List.mem_append.mp hx with hx | hx
    · obtain ⟨r, hr, rfl⟩ := List.mem_map.mp hx
      exact row r hr
    · rw [List.mem_singleton.mp hx]
      exact ⟨Run.nil, Nat.zero_le _⟩
  have hlen : ((p.map rtM ++ [("" : Str)]).map tl).length = p.length + 1 := by simp
  have htot : (tl (ptM p)).length ≤ 1660 := by
    have := tot_lines (K := 165) fun l hl => (all l hl).2
    rw [hlen] at this
    rw [e]
    have : (p.length + 1) * 166 ≤ 10 * 166 := Nat.mul_le_mul_right _ (by omega)
    omega
  have hnl : (tl (ptM p)).count 10 ≤ 9 := by
    have := split_cntN (ptM p)
    rw [split_lines hp, List.length_append, List.length_map] at this
    simp only [List.length_cons, List.length_nil] at this
    omega
  refine ⟨165, 15, 9, 1660, 1660, by decide, by decide, by decide, by decide, by decide, ?_, hnl, htot, Nat.le_trans List.count_le_length htot, so_iff.mp (so_pt hp)⟩
  rw [e]
  exact run_lines fun l hl => (all l hl).1
end Bt
namespace Bt
open PySem PySem.Spec PyProof.Rows L2 TL
section
variable {ρ : Env} {S S1 : Sto} {fe flo fhi : Ex} {l : List Str} {k : Nat} {t : Str}
theorem x_slT (he : fe ρ S = .ok (.lst (l.map D.str)) S) (hh : fhi ρ S = .ok (.int (k : Nat)) S) : eSl fe eNo (eInt fhi) ρ S = .ok (.lst ((l.take k).map D.str)) S := by
  simp only [s_sl, s_no, s_int, he, hh, ER.bind_ok, partD_non, partD_int]
  show lift1 (some (D.lst (cutD (l.map D.str) none (some (k : Int))))) S = _
  rw [cut_pre (by omega), Int.toNat_natCast, List.map_take]; rfl
theorem x_slD (he : fe ρ S = .ok (.lst (l.map D.str)) S) (hh : flo ρ S = .ok (.int (k : Nat)) S) : eSl fe (eInt flo) eNo ρ S = .ok (.lst ((l.drop k).map D.str)) S := by
  simp only [s_sl, s_no, s_int, he, hh, ER.bind_ok, partD_non, partD_int]
  show lift1 (some (D.lst (cutD (l.map D.str) (some (k : Int)) none))) S = _
  rw [cut_suf (by omega), Int.toNat_natCast, List.map_drop]; rfl
theorem x_split {y : Str} (he : fe ρ S = .ok (.str t) S) (hf : fhi ρ S = .ok (.str y) S) (hy : (y.length == 0) = false) (hl : t.length ≤ 1000000) : eSplit fe fhi ρ S = .ok (.lst ((Txt.split t y).map D.str)) S := by
  unfold eSplit
  rw [he]
  simp only [ER.bind_ok]
  rw [hf]
  show (if (y.length == 0) = false ∧ t.length ≤ lim then ER.ok (.lst ((Txt.split t y).map D.str)) S else .bad) = _
  rw [if_pos ⟨hy, hl⟩]
end
section
variable {ρ : Env} {S : Sto} {fa fb fc fd : Ex} {x y z u : D}
theorem x_lst3 (ha : fa ρ S = .ok x S) (hb : fb ρ S = .ok y S) (hc : fc ρ S = .ok z S) : eLst (eCons fa (eCons fb (eCons fc eNil))) ρ S = .ok (.lst [x, y, z]) S := by
  simp only [s_lst, s_cons, s_nil, ha, hb, hc, ER.bind_ok]; rfl
theorem x_lst4 (ha : fa ρ S = .ok x S) (hb : fb ρ S = .ok y S) (hc : fc ρ S = .ok z S) (hd : fd ρ S = .ok u S) : eLst (eCons fa (eCons fb (eCons fc (eCons fd eNil)))) ρ S = .ok (.lst [x, y, z, u]) S := by
  simp only [s_lst, s_cons, s_nil, ha, hb, hc, hd, ER.bind_ok]; rfl
end
theorem sum_joinS {y : Str} (hy : y.length = 1) : ∀ l : List Str, (l.map (·.length)).sum + l.length * y.length ≤ (Txt.join y l).length + 1
  | [] => by simp
  | [w] => by
    rw [jn_one]
    show w.length + 0 + 1 * y.length ≤ _
    omega
  | w :: v :: r => by
    have ih := sum_joinS hy (v :: r)
    have e : Txt.join y (w :: v :: r) = w ++ y ++ Txt.join y (v :: r) := by rw [join_eq, join_eq]; rfl
    have el : (w ++ y ++ Txt.join y (v :: r)).length = w.length + y.length + (Txt.join y (v :: r)).length := by
      rw [len_tl, tl_append, tl_append, List.length_append, List.length_append, ← len_tl, ← len_tl, ← len_tl]
    rw [e, el]
    show w.length + ((v :: r).map (·.length)).sum + ((v :: r).length + 1) * y.length ≤ _
    rw [Nat.succ_mul]
    omega
theorem fair_len {i : Nat} {t : Str} (h : Fair i t) : t.length ≤ 100000 := by
  have := h.tot
  rw [len_tl]
  split at this <;> omega
theorem base_len {i : Nat} {t : Str} (h : Base i t) : t.length ≤ 100000 := by
  obtain ⟨K, B, N, M, T, h1, h2, h3, h4, h5, h⟩ := h
  have := h.tot
  rw [len_tl]
  split at h4 <;> omega
theorem room_of {y : Str} (hy : y.length = 1) {i : Nat} {l : List Str} (h : Fair i (Txt.join y l)) : (l.map (·.length)).sum + l.length * y.length ≤ 16777216 := by
  have := sum_joinS hy l
  have := fair_len h
  omega
noncomputable def B811 : Sx := (sSeq (sSet 2 (eIf (eOp opEq (eVar 1) (eC (.int 0))) (eCall G_written_sum (eCons (eCall G_l_sum (eCons (eVar 0) (eCons (eC (.int 1)) (eCons (eC (.int 2)) eNil)))) eNil)) (eCall G_written (eCons (eCall G_l_program (eCons (eVar 0) (eCons (eC (.int 20)) eNil))) eNil))))
    (sSeq (sSet 3 (eSplit (eVar 2) (eC (.str " "))))
    (sSeq (sSet 4 (eCall G_l_drawn (eCons (eVar 0) (eCons (eOp opAdd (eC (.int 500)) (eVar 1)) (eCons (eCallB (f1 bLen) (eCons (eVar 3) eNil)) eNil)))))
    (sSeq (sSet 5 (eLst (eCons (eC (.str "add")) (eCons (eC (.str "a")) (eCons (eC (.str "7")) (eCons (eC (.str "07")) (eCons (eC (.str "cell")) (eCons (eC (.str "10007")) (eCons (eC (.str "x")) (eCons (eC (.str "")) (eCons (eC (.str "stop")) (eCons (eC (.str "set")) (eCons (eC (.str "-1")) (eCons (eC (.str "99999")) eNil))))))))))))))
    (sSeq (sSet 6 (eOp opIx (eVar 5) (eCall G_l_drawn (eCons (eVar 0) (eCons (eOp opAdd (eC (.int 502)) (eVar 1)) (eCons (eC (.int 12)) eNil))))))
    (sSeq (sSet 7 (eLst (eCons (eOp opAdd (eSl (eVar 3) eNo (eInt (eVar 4))) (eSl (eVar 3) (eInt (eOp opAdd (eVar 4) (eC (.int 1)))) eNo)) (eCons (eOp opAdd (eSl (eVar 3) eNo (eInt (eOp opAdd (eVar 4) (eC (.int 1))))) (eSl (eVar 3) (eInt (eVar 4)) eNo)) (eCons (eOp opAdd (eOp opAdd (eSl (eVar 3) eNo (eInt (eVar 4))) (eLst (eCons (eVar 6) eNil))) (eSl (eVar 3) (eInt (eOp opAdd (eVar 4) (eC (.int 1)))) eNo)) eNil)))))
    (sSeq (sSet 8 (eOp opAdd (eComp [12] (iLst (eVar 7)) (dN 12) eYes (eJoin (eC (.str " ")) (eVar 12))) (eLst (eCons (eVar 2) (eCons (eSl (eVar 2) eNo (eInt (eUn opNeg (eC (.int 1))))) (eCons (eOp opAdd (eVar 2) (eC (.str "\n"))) eNil))))))
    (sSeq (sSet 9 (eSplit (eVar 2) (eC (.str "\n"))))
    (sSeq (sSet 10 (eCall G_l_drawn (eCons (eVar 0) (eCons (eOp opAdd (eC (.int 504)) (eVar 1)) (eCons (eCallB (f1 bLen) (eCons (eVar 9) eNil)) eNil)))))
    (sSeq (sSet 8 (eOp opAdd (eVar 8) (eLst (eCons (eJoin (eC (.str "\n")) (eOp opAdd (eSl (eVar 9) eNo (eInt (eVar 10))) (eSl (eVar 9) (eInt (eOp opAdd (eVar 10) (eC (.int 1)))) eNo))) (eCons (eJoin (eC (.str "\n")) (eOp opAdd (eSl (eVar 9) eNo (eInt (eOp opAdd (eVar 10) (eC (.int 1))))) (eSl (eVar 9) (eInt (eVar 10)) eNo))) (eCons (eC (.str "")) (eCons (eC (.str "stop\n")) eNil)))))))
    (sFor (iLst (eVar 8)) (dN 11)
    (sIf (eOp opNe (eCall G_l_told (eCons (eVar 1) (eCons (eVar 11) eNil))) (eCall G_l_due (eCons (eVar 1) (eCons (eVar 11) eNil))))
    (sRet (eC (.bl false)))
    sSkip))))))))))))
def P81 (ns : List Int) : Env → Sto → Prop := fun ρ S => S = [] ∧ ∃ o1 o2 o3 o4 o5 o6 o7 o8 o9 o10 o11 o12, ρ = [some (scrD ns), o1, o2, o3, o4, o5, o6, o7, o8, o9, o10, o11, o12]
theorem text_at {ns : List Int} (hn : ns.length ≤ 63) {x : Nat} (hx : x < 2) (o2 o3 o4 o5 o6 o7 o8 o9 o10 o11 o12 : Option D) : ∃ t : Str, Base x t ∧
    eIf (eOp opEq (eVar 1) (eC (.int 0))) (eCall G_written_sum (eCons (eCall G_l_sum (eCons (eVar 0) (eCons (eC (.int 1)) (eCons (eC (.int 2)) eNil)))) eNil)) (eCall G_written (eCons (eCall G_l_program (eCons (eVar 0) (eCons (eC (.int 20)) eNil))) eNil)) [some (scrD ns), some (.int (x : Nat)), o2, o3, o4, o5, o6, o7, o8, o9, o10, o11, o12] [] = .ok (.str t) [] := by
  match x, hx with
  | 0, _ =>
    have l1 := sum_law hn (S := []) (n := 2) (at' := 1) (by decide)
    obtain ⟨ha, hd⟩ := sumM_ok ns 2 1
    exact ⟨_, base0 ha hd, x_iteT (S1 := []) (x_op (x := .int ((0 : Nat) : Int)) (y := .int 0) rfl rfl (by rw [o_eqI]; rfl)) (x_c1 (x := (sumM ns 2 1).d) (x_c3 (x := scrD ns) (y := .int 1) (z := .int ((2 : Nat) : Int)) rfl rfl rfl l1) (written_sum_txt [] ha (by omega)))⟩
  | 1, _ =>
    have l2 := prg_law hn (S := []) (at' := 20)
    obtain ⟨hp, h9⟩ := prgM_ok ns 20
    exact ⟨_, base1 hp h9 (prgM_two ns 20), x_iteF (S1 := []) (x_op (x := .int ((1 : Nat) : Int)) (y := .int 0) rfl rfl (by rw [o_eqI]; rfl)) (x_c1 (x := prgD (prgM ns 20)) (x_c2 (x := scrD ns) (y := .int 20) rfl rfl l2) (written_txt [] hp (by omega)))⟩
  | n + 2, h => exact absurd h (by omega)
theorem drawn_at {ns : List Int} (hn : ns.length ≤ 63) (k : Int) {m : Nat} (hm : 0 < m) : ∃ j : Nat, j < m ∧ G_l_drawn [scrD ns, .int k, .int (m : Nat)] [] = .ok (.int (j : Nat)) [] := by
  have h := drawn_rng (ns := ns) (k := k) (many := (m : Nat)) (by omega)
  obtain ⟨j, e⟩ := Int.eq_ofNat_of_zero_le h.1
  refine ⟨j, by omega, ?_⟩
  rw [drawn_law hn (by omega), e]
theorem body81 {ns : List Int} (hn : ns.length ≤ 63) {x : Nat} (hx : x < 2) (o2 o3 o4 o5 o6 o7 o8 o9 o10 o11 o12 : Option D) : NxP (P81 ns) (B811 [some (scrD ns), some (.int (x : Nat)), o2, o3, o4, o5, o6, o7, o8, o9, o10, o11, o12] []) := by
  obtain ⟨t, hb, ht⟩ := text_at hn hx o2 o3 o4 o5 o6 o7 o8 o9 o10 o11 o12
  have hl := base_len hb
  have hW := PyProof.Rows.split_le t blank
  have hL := PyProof.Rows.split_le t feed
  have hW1 := PyProof.Rows.split_pos t blank
  have hL1 := PyProof.Rows.split_pos t feed
  obtain ⟨k, hk, dk⟩ := drawn_at hn (500 + (x : Nat)) (m := (Txt.split t blank).length) (by omega)
  obtain ⟨q, hq, dq⟩ := drawn_at hn (502 + (x : Nat)) (m := 12) (by omega)
  obtain ⟨m, hm, dm⟩ := drawn_at hn (504 + (x : Nat)) (m := (Txt.split t feed).length) (by omega)
  obtain ⟨w, ew⟩ : ∃ w, odd12[q]? = some w := ⟨_, List.getElem?_eq_getElem (show q < odd12.length from hq)⟩
  have hw : w ∈ odd12 := List.mem_of_getElem? ew
  have fair := texts_fair hb (k := k) (m := m) hw
  have f1 : Fair x (Txt.join blank ((Txt.split t blank).take k ++ (Txt.split t blank).drop (k + 1))) := fair _ (by simp [textsOf])
  have f2 : Fair x (Txt.join blank ((Txt.split t blank).take (k + 1) ++ (Txt.split t blank).drop k)) := fair _ (by simp [textsOf])
  have f3 : Fair x (Txt.join blank (((Txt.split t blank).take k ++ [w]) ++ (Txt.split t blank).drop (k + 1))) := fair _ (by simp [textsOf])
  have f4 : Fair x (Txt.join feed ((Txt.split t feed).take m ++ (Txt.split t feed).drop (m + 1))) := fair _ (by simp [textsOf])
  have f5 : Fair x (Txt.join feed ((Txt.split t feed).take (m + 1) ++ (Txt.split t feed).drop m)) := fair _ (by simp [textsOf])
  have en : textsOf t k w m = ([Txt.join blank ((Txt.split t blank).take k ++ (Txt.split t blank).drop (k + 1)), Txt.join blank ((Txt.split t blank).take (k + 1) ++ (Txt.split t blank).drop k), Txt.join blank (((Txt.split t blank).take k ++ [w]) ++ (Txt.split t blank).drop (k + 1))] ++ [t, cutS t none (some (-1)), t ++ feed]) ++
    [Txt.join feed ((Txt.split t feed).take m ++ (Txt.split t feed).drop (m + 1)), Txt.join feed ((Txt.split t feed).take (m + 1) ++ (Txt.split t feed).drop m), "", "stop\n"] := rfl
  generalize hts : textsOf t k w m = ts at fair en
  generalize hWs : Txt.split t blank = ws at *
  generalize hLs : Txt.split t feed = ls at *
  unfold B811
  refine n_set (d := .str t) (S1 := []) ht ?_
  refine n_set (d := .lst (ws.map D.str)) (S1 := []) ?_ ?_
  · rw [← hWs]; exact x_split (t := t) (y := blank) rfl rfl (by decide) (by omega)
  refine n_set (d := .int (k : Nat)) (S1 := []) ?_ ?_
  · refine x_c3 (x := scrD ns) (y := .int (500 + (x : Nat))) (z := .int (ws.length : Nat)) rfl (x_op (x := .int 500) (y := .int (x : Nat)) rfl rfl rfl) ?_ dk
    have := x_lenL (fa := eVar 3) (ρ := [some (scrD ns), some (.int (x : Nat)), some (.str t), some (.lst (ws.map D.str)), o4, o5, o6, o7, o8, o9, o10, o11, o12]) (S := []) (S1 := []) (l := ws.map D.str) rfl
    rw [List.length_map] at this
    exact this
  refine n_set (d := .lst (odd12.map D.str)) (S1 := []) rfl ?_
  refine n_set (d := .str w) (S1 := []) ?_ ?_
  · refine x_op (x := .lst (odd12.map D.str)) (y := .int (q : Nat)) rfl (x_c3 (x := scrD ns) (y := .int (502 + (x : Nat))) (z := .int ((12 : Nat) : Int)) rfl (x_op (x := .int 502) (y := .int (x : Nat)) rfl rfl rfl) rfl dq) ?_
    rw [o_ixL, atI_nat', List.getElem?_map, ew]; rfl
  simp only [List.set_cons_zero, List.set_cons_succ]
  have tk := fun (j : Nat) => List.length_take_le j ws
  have dp := fun (j : Nat) => (List.length_drop (i := j) (l := ws))
  have tkl := fun (j : Nat) => List.length_take_le j ls
  have dpl := fun (j : Nat) => (List.length_drop (i := j) (l := ls))
  -- the three lists of words
  have k1 : eOp opAdd (eVar 4) (eC (.int 1)) [some (scrD ns), some (.int (x : Nat)), some (.str t), some (.lst (ws.map D.str)), some (.int (k : Nat)), some (.lst (odd12.map D.str)), some (.str w), o7, o8, o9, o10, o11, o12] [] = .ok (.int ((k + 1 : Nat) : Nat)) [] := x_op (x := .int (k : Nat)) (y := .int 1) rfl rfl (by rw [o_addI]; rfl)
  refine n_set (d := .lst [.lst ((ws.take k ++ ws.drop (k + 1)).map D.str), .lst ((ws.take (k + 1) ++ ws.drop k).map D.str), .lst (((ws.take k ++ [w]) ++ ws.drop (k + 1)).map D.str)]) (S1 := []) ?_ ?_
  · have a1 := x_op (F := opAdd) (x_slT (fe := eVar 3) (fhi := eVar 4) (ρ := [some (scrD ns), some (.int (x : Nat)), some (.str t), some (.lst (ws.map D.str)), some (.int (k : Nat)), some (.lst (odd12.map D.str)), some (.str w), o7, o8, o9, o10, o11, o12]) (S := []) (l := ws) (k := k) rfl rfl) (x_slD (fe := eVar 3) (S := []) (l := ws) (k := k + 1) rfl k1) (add_strs (by have := tk k; have := dp (k + 1); omega))
    have a2 := x_op (F := opAdd) (x_slT (fe := eVar 3) (S := []) (l := ws) (k := k + 1) rfl k1) (x_slD (fe := eVar 3) (flo := eVar 4) (ρ := [some (scrD ns), some (.int (x : Nat)), some (.str t), some (.lst (ws.map D.str)), some (.int (k : Nat)), some (.lst (odd12.map D.str)), some (.str w), o7, o8, o9, o10, o11, o12]) (S := []) (l := ws) (k := k) rfl rfl) (add_strs (by have := tk (k + 1); have := dp k; omega))
    have a3 := x_op (F := opAdd) (x_op (F := opAdd) (x_slT (fe := eVar 3) (fhi := eVar 4) (ρ := [some (scrD ns), some (.int (x : Nat)), some (.str t), some (.lst (ws.map D.str)), some (.int (k : Nat)), some (.lst (odd12.map D.str)), some (.str w), o7, o8, o9, o10, o11, o12]) (S := []) (l := ws) (k := k) rfl rfl) (x_lst1 (fa := eVar 6) (x := .str w) rfl) (add_strs (S := []) (l := ws.take k) (m := [w]) (by have := tk k; show _ + 1 ≤ _; omega))) (x_slD (fe := eVar 3) (S := []) (l := ws) (k := k + 1) rfl k1) (add_strs (by have := tk k; have := dp (k + 1); rw [List.length_append]; show _ + 1 + _ ≤ _; omega))
    exact x_lst3 a1 a2 a3
  simp only [List.set_cons_zero, List.set_cons_succ]
  -- six texts
  refine n_set (d := .lst (([Txt.join blank (ws.take k ++ ws.drop (k + 1)), Txt.join blank (ws.take (k + 1) ++ ws.drop k), Txt.join blank ((ws.take k ++ [w]) ++ ws.drop (k + 1))] ++ [t, cutS t none (some (-1)), t ++ feed]).map D.str)) (S1 := []) ?_ ?_
  · refine x_op (x := .lst ([Txt.join blank (ws.take k ++ ws.drop (k + 1)), Txt.join blank (ws.take (k + 1) ++ ws.drop k), Txt.join blank ((ws.take k ++ [w]) ++ ws.drop (k + 1))].map D.str)) (y := .lst ([t, cutS t none (some (-1)), t ++ feed].map D.str)) (S1 := []) (S2 := []) ?_ ?_ (add_strs (by show 3 + 3 ≤ 1000000; decide))
    · exact comp_all (f := fun l : List Str => D.lst (l.map D.str)) (xs := [ws.take k ++ ws.drop (k + 1), ws.take (k + 1) ++ ws.drop k, (ws.take k ++ [w]) ++ ws.drop (k + 1)]) (fun l => .str (Txt.join blank l)) (il rfl) (fun l hl => ⟨_, rfl, by
        refine x_join (y := blank) (ws := l) (S1 := []) rfl rfl ?_
        simp only [List.mem_cons, List.not_mem_nil, or_false] at hl
        rcases hl with rfl | rfl | rfl
        · exact room_of (by decide) f1
        · exact room_of (by decide) f2
        · exact room_of (by decide) f3⟩) (by show 3 ≤ 1000000; decide)
    · have b1 : eSl (eVar 2) eNo (eInt (eUn opNeg (eC (.int 1)))) [some (scrD ns), some (.int (x : Nat)), some (.str t), some (.lst (ws.map D.str)), some (.int (k : Nat)), some (.lst (odd12.map D.str)), some (.str w), some (.lst [.lst ((ws.take k ++ ws.drop (k + 1)).map D.str), .lst ((ws.take (k + 1) ++ ws.drop k).map D.str), .lst (((ws.take k ++ [w]) ++ ws.drop (k + 1)).map D.str)]), o8, o9, o10, o11, o12] [] = .ok (.str (cutS t none (some (-1)))) [] := by
        show lift1 (if t.length ≤ lim then some (D.str (cutS t none (some (-1)))) else none) [] = _
        rw [if_pos (by show t.length ≤ 1000000; omega)]; rfl
      have b2 : eOp opAdd (eVar 2) (eC (.str "\n")) [some (scrD ns), some (.int (x : Nat)), some (.str t), some (.lst (ws.map D.str)), some (.int (k : Nat)), some (.lst (odd12.map D.str)), some (.str w), some (.lst [.lst ((ws.take k ++ ws.drop (k + 1)).map D.str), .lst ((ws.take (k + 1) ++ ws.drop k).map D.str), .lst (((ws.take k ++ [w]) ++ ws.drop (k + 1)).map D.str)]), o8, o9, o10, o11, o12] [] = .ok (.str (t ++ feed)) [] :=
        x_op (x := .str t) (y := .str feed) rfl rfl (by rw [o_addS]; exact if_pos (by show t.length + 1 ≤ 1000000; omega))
      exact x_lst3 rfl b1 b2
  simp only [List.set_cons_zero, List.set_cons_succ]
  generalize D.lst [.lst ((ws.take k ++ ws.drop (k + 1)).map D.str), .lst ((ws.take (k + 1) ++ ws.drop k).map D.str), .lst (((ws.take k ++ [w]) ++ ws.drop (k + 1)).map D.str)] = d7
  generalize [Txt.join blank (ws.take k ++ ws.drop (k + 1)), Txt.join blank (ws.take (k + 1) ++ ws.drop k), Txt.join blank ((ws.take k ++ [w]) ++ ws.drop (k + 1))] ++ [t, cutS t none (some (-1)), t ++ feed] = six at en ⊢
  have h6 : six.length ≤ 1000 := by
    have h10 : ts.length = 10 := by rw [← hts]; rfl
    rw [en, List.length_append] at h10
    omega
  refine n_set (d := .lst (ls.map D.str)) (S1 := []) ?_ ?_
  · rw [← hLs]; exact x_split (t := t) (y := feed) rfl rfl (by decide) (by omega)
  refine n_set (d := .int (m : Nat)) (S1 := []) ?_ ?_
  · refine x_c3 (x := scrD ns) (y := .int (504 + (x : Nat))) (z := .int (ls.length : Nat)) rfl (x_op (x := .int 504) (y := .int (x : Nat)) rfl rfl rfl) ?_ dm
    have := x_lenL (fa := eVar 9) (ρ := [some (scrD ns), some (.int (x : Nat)), some (.str t), some (.lst (ws.map D.str)), some (.int (k : Nat)), some (.lst (odd12.map D.str)), some (.str w), some d7, some (.lst (six.map D.str)), some (.lst (ls.map D.str)), o10, o11, o12]) (S := []) (S1 := []) (l := ls.map D.str) rfl
    rw [List.length_map] at this
    exact this
  simp only [List.set_cons_zero, List.set_cons_succ]
  have m1 : eOp opAdd (eVar 10) (eC (.int 1)) [some (scrD ns), some (.int (x : Nat)), some (.str t), some (.lst (ws.map D.str)), some (.int (k : Nat)), some (.lst (odd12.map D.str)), some (.str w), some d7, some (.lst (six.map D.str)), some (.lst (ls.map D.str)), some (.int (m : Nat)), o11, o12] [] = .ok (.int ((m + 1 : Nat) : Nat)) [] := x_op (x := .int (m : Nat)) (y := .int 1) rfl rfl (by rw [o_addI]; rfl)
  refine n_set (d := .lst (ts.map D.str)) (S1 := []) ?_ ?_
  · rw [en]
    refine x_op (x := .lst (six.map D.str)) (y := .lst ([Txt.join feed (ls.take m ++ ls.drop (m + 1)), Txt.join feed (ls.take (m + 1) ++ ls.drop m), "", "stop\n"].map D.str)) (S1 := []) (S2 := []) rfl ?_ (add_strs (by show six.length + 4 ≤ _; omega))
    have j1 := x_join (fo := eC (.str "\n")) (y := feed) (ws := ls.take m ++ ls.drop (m + 1)) (S1 := []) rfl (x_op (F := opAdd) (x_slT (fe := eVar 9) (fhi := eVar 10) (ρ := [some (scrD ns), some (.int (x : Nat)), some (.str t), some (.lst (ws.map D.str)), some (.int (k : Nat)), some (.lst (odd12.map D.str)), some (.str w), some d7, some (.lst (six.map D.str)), some (.lst (ls.map D.str)), some (.int (m : Nat)), o11, o12]) (S := []) (l := ls) (k := m) rfl rfl) (x_slD (fe := eVar 9) (S := []) (l := ls) (k := m + 1) rfl m1) (add_strs (by have := tkl m; have := dpl (m + 1); omega))) (room_of (by decide) f4)
    have j2 := x_join (fo := eC (.str "\n")) (y := feed) (ws := ls.take (m + 1) ++ ls.drop m) (S1 := []) rfl (x_op (F := opAdd) (x_slT (fe := eVar 9) (S := []) (l := ls) (k := m + 1) rfl m1) (x_slD (fe := eVar 9) (flo := eVar 10) (ρ := [some (scrD ns), some (.int (x : Nat)), some (.str t), some (.lst (ws.map D.str)), some (.int (k : Nat)), some (.lst (odd12.map D.str)), some (.str w), some d7, some (.lst (six.map D.str)), some (.lst (ls.map D.str)), some (.int (m : Nat)), o11, o12]) (S := []) (l := ls) (k := m) rfl rfl) (add_strs (by have := tkl (m + 1); have := dpl m; omega))) (room_of (by decide) f5)
    exact x_lst4 j1 j2 rfl rfl
  simp only [List.set_cons_zero, List.set_cons_succ]
  refine n_for1 (f := D.str) (xs := ts) (S1 := []) (fun _ ρ S => S = [] ∧ ∃ o11, ρ = [some (scrD ns), some (.int (x : Nat)), some (.str t), some (.lst (ws.map D.str)), some (.int (k : Nat)), some (.lst (odd12.map D.str)), some (.str w), some d7, some (.lst (ts.map D.str)), some (.lst (ls.map D.str)), some (.int (m : Nat)), o11, o12]) (il rfl) ⟨rfl, o11, rfl⟩ ?_ ?_
  · rintro j y hy ρ S ⟨rfl, o11', rfl⟩
    obtain ⟨v, p1, p2, hv⟩ := pair_at [] hx (fair y (List.mem_of_getElem? hy))
    refine ⟨[some (scrD ns), some (.int (x : Nat)), some (.str t), some (.lst (ws.map D.str)), some (.int (k : Nat)), some (.lst (odd12.map D.str)), some (.str w), some d7, some (.lst (ts.map D.str)), some (.lst (ls.map D.str)), some (.int (m : Nat)), some (.str y), o12], rfl, ?_⟩
    exact n_if1 (bb := false) (S1 := []) (x_op (x := v) (y := v) (x_c2 (x := .int (x : Nat)) (y := .str y) rfl rfl p1) (x_c2 (x := .int (x : Nat)) (y := .str y) rfl rfl p2) (by rw [b_goodN hv hv, eqv_refl hv]; rfl)) rfl (nx_p ⟨rfl, _, rfl⟩)
  · rintro ρ S ⟨rfl, o11', rfl⟩
    exact ⟨rfl, _, _, _, _, _, _, _, _, _, _, _, _, rfl⟩
theorem law_true : ∀ ns : List Int, ns.length ≤ 63 → ∃ S, F_law [.scr (ns.map D.int)] [] = .ok (.bl true) S := by
  intro ns hn
  refine ⟨[], ?_⟩
  show F_law [scrD ns] [] = _
  unfold F_law
  rw [fnB1]
  simp only [Nat.reduceSub, List.reduceReplicate, List.cons_append, List.nil_append]
  show (sSeq (sFor (iRange1 (eC (.int 2))) (dN 1) B811) (sRet (eC (.bl true))) [some (scrD ns), none, none, none, none, none, none, none, none, none, none, none, none] []).toE = _
  refine f_for (f := fun j : Nat => D.int (j : Nat)) (xs := List.range 2) (S1 := []) (fun _ => P81 ns) (rg1 (n := 2) rfl (by decide)) ⟨rfl, none, none, none, none, none, none, none, none, none, none, none, none, rfl⟩ ?_ ?_
  · rintro j x hx ρ S ⟨rfl, o1, o2, o3, o4, o5, o6, o7, o8, o9, o10, o11, o12, rfl⟩
    have hx2 : x < 2 := List.mem_range.mp (List.mem_of_getElem? hx)
    exact ⟨[some (scrD ns), some (.int (x : Nat)), o2, o3, o4, o5, o6, o7, o8, o9, o10, o11, o12], rfl, body81 hn hx2 o2 o3 o4 o5 o6 o7 o8 o9 o10 o11 o12⟩
  · rintro ρ S ⟨rfl, o1, o2, o3, o4, o5, o6, o7, o8, o9, o10, o11, o12, rfl⟩
    exact f_ret (d := .bl true) (S1 := []) rfl rfl
end Bt
namespace Bt
open PySem PySem.Spec PyProof.Rows L2
def top (i : Nat) : Stmt := PySem.Challenge.pw_backtape_k81_whole_read.main.body.getD i (.Pass ⟨0, 0, 0, 0⟩)
structure Top (w : PySem.World) (K : PySem.W.Frag) (mg : Str → Option Value) : Prop where
  t_PAIRS : GlobT K w mg "PAIRS" kv_PAIRS
  t_SHAPES : GlobT K w mg "SHAPES" kv_SHAPES
  f_ValueError : mg "ValueError" = none
  f_all : mg "all" = none
  f_bool : mg "bool" = none
  f_int : mg "int" = none
  f_isinstance : mg "isinstance" = none
  f_len : mg "len" = none
  f_range : mg "range" = none
  f_str : mg "str" = none
  f_tuple : mg "tuple" = none
  g_FIGURES : GlobC K mg "FIGURES" c_FIGURES
  g_MOST_PARTS : GlobC K mg "MOST_PARTS" c_MOST_PARTS
  g_MOST_ROWS : GlobC K mg "MOST_ROWS" c_MOST_ROWS
  g_NAMES : GlobC K mg "NAMES" c_NAMES
  g_SIZE : GlobC K mg "SIZE" c_SIZE
  g_WORDS : GlobC K mg "WORDS" c_WORDS
  k_Words : Cls K (He.ga K "Words")
  na_Words_left : NoAttr K (He.ga K "Words") "left"
  e_text : ExcAt K mg .text
  rl : TelOk K mg
abbrev s_l_cell : Stmt := top 31
abbrev N_l_cell : List Str := ["_law_script", "_law_k"]
theorem sc_l_cell : FnScope N_l_cell ["_law_script", "_law_k"] (defScope s_l_cell) := ⟨rfl, rfl, rfl, by decide +kernel, rfl, by decide +kernel, by decide +kernel⟩
theorem cal_l_cell {P : Program} {w : PySem.World} {K : PySem.W.Frag} {mg : Str → Option Value} {base : Heap} (T : Top w K mg) (D : DefAt K mg "_law_cell" s_l_cell) : Cal P w K mg base "_law_cell" 2 G_l_cell :=
  cal_mk D sc_l_cell (fun _ _ _ _ _ _ us hl => match us, hl with | [_, _], _ => rfl) fun cdv A outer s H E hr =>
    (jss_cons (js_if (jt_cmp (op_eqD (hu64 hr)) l_eq (je_var 0) (je_lst ja_nil))
    (jss_one (js_ret (je_op or_mul l_mul je_int (je_var 1))))
    jss_nil)
    (jss_one (js_ret (je_op or_add l_add (je_ix ix_seq l_ix (je_var 0) (je_op op_mod l_mod (je_var 1) (je_callB call_len l_len T.f_len (ja_cons (je_var 0) ja_nil)))) (je_op or_mul l_mul je_int (je_op op_fdiv l_div (je_var 1) (je_callB call_len l_len T.f_len (ja_cons (je_var 0) ja_nil))))))))
abbrev s_l_drawn : Stmt := top 32
abbrev N_l_drawn : List Str := ["_law_script", "_law_k", "_law_many", "_law_cell_here"]
theorem sc_l_drawn : FnScope N_l_drawn ["_law_script", "_law_k", "_law_many"] (defScope s_l_drawn) := ⟨rfl, rfl, rfl, by decide +kernel, rfl, by decide +kernel, by decide +kernel⟩
theorem cal_l_drawn {P : Program} {w : PySem.World} {K : PySem.W.Frag} {mg : Str → Option Value} {base : Heap} (T : Top w K mg) (D : DefAt K mg "_law_drawn" s_l_drawn) (c_l_cell : Cal P w K mg base "_law_cell" 2 G_l_cell) : Cal P w K mg base "_law_drawn" 3 G_l_drawn :=
  cal_mk D sc_l_drawn (fun _ _ _ _ _ _ us hl => match us, hl with | [_, _, _], _ => rfl) fun cdv A outer s H E hr =>
    (jss_cons (js_set (i := 3) sc_l_drawn.nd (je_op op_mod l_mod (je_op or_add l_add (je_op or_mul l_mul (je_op op_mod l_mod (je_call c_l_cell (hr.mono (by omega)) (takes_of rfl rfl rfl rfl) (ja_cons (je_var 0) (ja_cons (je_var 1) ja_nil))) je_int) je_int) (je_op or_mul l_mul je_int (je_op or_add l_add (je_var 1) je_int))) je_int))
    (jss_cons (js_set (i := 3) sc_l_drawn.nd (je_op op_mod l_mod (je_op or_add l_add (je_op or_mul l_mul (je_var 3) (je_var 3)) (je_op op_fdiv l_div (je_var 3) je_int)) je_int))
    (jss_one (js_ret (je_op op_mod l_mod (je_op op_fdiv l_div (je_op op_mod l_mod (je_op or_add l_add (je_op or_mul l_mul (je_var 3) (je_var 3)) (je_op op_fdiv l_div (je_var 3) je_int)) je_int) je_int) (je_var 2))))))
abbrev s_l_sum_at : Stmt := top 38
abbrev N_l_sum_at : List Str := ["_law_words", "_law_at", "_law_size", "_law_found", "_law_place", "_law_k", "_law_inner", "_law_sign"]
theorem sc_l_sum_at : FnScope N_l_sum_at ["_law_words", "_law_at"] (defScope s_l_sum_at) := ⟨rfl, rfl, rfl, by decide +kernel, rfl, by decide +kernel, by decide +kernel⟩
theorem cal_l_sum_at {P : Program} {w : PySem.World} {K : PySem.W.Frag} {mg : Str → Option Value} {base : Heap} (T : Top w K mg) (D : DefAt K mg "_law_sum_at" s_l_sum_at) : ∀ n, Cal P w K mg base "_law_sum_at" (2 + n) (recN F_l_sum_at n)
  | 0 => cal_bad (k := 1) D sc_l_sum_at (fun _ _ _ _ _ _ us hl => match us, hl with | [_, _], _ => rfl)
  | n + 1 => by
    have c_l_sum_at := cal_l_sum_at (P := P) (w := w) (base := base) T D n
    have q : Cal P w K mg base "_law_sum_at" (2 + n + 1) (F_l_sum_at (recN F_l_sum_at n)) := cal_mk D sc_l_sum_at (fun _ _ _ _ _ _ us hl => match us, hl with | [_, _], _ => rfl) fun cdv A outer s H E hr =>
    (jss_cons (js_if (JW.jt (jw_or (jt_cmp op_ge l_cmp (je_var 1) (je_callB call_len l_len T.f_len (ja_cons (je_var 0) ja_nil))) (jw_or1 (jt_cmp (op_eqD (hu64 hr)) l_eq (je_ix ix_seq l_ix (je_var 0) (je_var 1)) je_str))))
    (jss_one (js_ret je_non))
    jss_nil)
    (jss_cons (js_if (jt_cmp (op_eqD (hu64 hr)) l_eq (je_comp [("_law_sign", 7)] rfl sc_l_sum_at.nd (ji_str (je_ix ix_seq l_ix (je_var 0) (je_var 1))) (blkOk_by (N := N_l_sum_at) (sc := defScope s_l_sum_at) (by decide +kernel)) (fun _ _ _ _ _ => (jg_name sc_l_sum_at.nd)) (by decide) (fun _ _ _ _ _ => (jts_one (jt_cmp (or_notIn (hu65 (by omega) hr)) l_notIn (je_var 7) je_str))) (fun _ _ _ _ _ => (je_var 7))) (je_lst ja_nil))
    (jss_one (js_ret (je_tup (ja_cons (je_tup (ja_cons je_str (ja_cons (je_callTy call_int_str l_intS T.f_int (ja_cons (je_ix ix_seq l_ix (je_var 0) (je_var 1)) ja_nil)) ja_nil))) (ja_cons (je_op or_add l_add (je_var 1) je_int) ja_nil)))))
    jss_nil)
    (jss_cons (js_set (i := 2) sc_l_sum_at.nd (je_tr (je_ldget (hu_of hr) (je_lddisp (jcs_si (jcs_si (jcs_si (jcs_si (jcs_si jcs_nil)))))) (je_ix ix_seq l_ix (je_var 0) (je_var 1)) je_int)))
    (jss_cons (js_set (i := 3) sc_l_sum_at.nd (je_tup (ja_cons (je_ix ix_seq l_ix (je_var 0) (je_var 1)) ja_nil)))
    (jss_cons (js_set (i := 4) sc_l_sum_at.nd (je_op or_add l_add (je_var 1) je_int))
    (jss_cons (js_for (passes_of rfl) rfl (ji_range1 T.f_range (je_var 2)) (jg_name sc_l_sum_at.nd)
    (jss_cons (js_set (i := 6) sc_l_sum_at.nd (je_call c_l_sum_at (hr.mono (by omega)) (takes_of rfl rfl rfl rfl) (ja_cons (je_var 0) (ja_cons (je_var 4) ja_nil))))
    (jss_cons (js_if (jt_isN (je_var 6))
    (jss_one (js_ret je_non))
    jss_nil)
    (jss_cons (js_set (i := 3) sc_l_sum_at.nd (je_op or_add l_add (je_var 3) (je_tup (ja_cons (je_ix ix_seq l_ix (je_var 6) je_int) ja_nil))))
    (jss_one (js_set (i := 4) sc_l_sum_at.nd (je_ix ix_seq l_ix (je_var 6) je_int)))))))
    (jss_one (js_ret (je_tup (ja_cons (je_if (jt_cmp op_gt l_cmp (je_var 2) je_int) (je_var 3) (je_tup (ja_cons je_str (ja_cons (je_ix ix_seq l_ix (je_var 0) (je_var 1)) ja_nil)))) (ja_cons (je_var 4) ja_nil)))))))))))
    exact q
abbrev s_l_row_of : Stmt := top 39
abbrev N_l_row_of : List Str := ["_law_line", "_law_words", "_law_shapes", "_law_shape", "_law_found", "_law_place", "_law_sign", "_law_inner", "_law_word", "_law_is_number", "_law_one"]
theorem sc_l_row_of : FnScope N_l_row_of ["_law_line"] (defScope s_l_row_of) := ⟨rfl, rfl, rfl, by decide +kernel, rfl, by decide +kernel, by decide +kernel⟩
theorem cal_l_row_of {P : Program} {w : PySem.World} {K : PySem.W.Frag} {mg : Str → Option Value} {base : Heap} (T : Top w K mg) (D : DefAt K mg "_law_row_of" s_l_row_of) (c_l_sum_at : Cal P w K mg base "_law_sum_at" 62 G_l_sum_at) : Cal P w K mg base "_law_row_of" 63 G_l_row_of :=
  Cal.trunc (F := F_l_row_of) (cal_mk D sc_l_row_of (fun _ _ _ _ _ _ us hl => match us, hl with | [_], _ => rfl) fun cdv A outer s H E hr =>
    (jss_cons (js_set (i := 1) sc_l_row_of.nd (je_split (je_var 0) je_str))
    (jss_cons (js_set (i := 2) sc_l_row_of.nd (je_lddisp (jcs_ss (jcs_ss (jcs_ss (jcs_ss (jcs_ss (jcs_ss (jcs_ss (jcs_ss jcs_nil))))))))))
    (jss_cons (js_set (i := 3) sc_l_row_of.nd (je_if (jt_cmp (op_eqD (hu64 hr)) l_eq (je_ix ix_seq l_ix (je_var 1) je_int) je_str) je_str (je_ldget1 (hu_of hr) (je_var 2) (je_ix ix_seq l_ix (je_var 1) je_int))))
    (jss_cons (js_if (jt_isN (je_var 3))
    (jss_one (js_ret je_non))
    jss_nil)
    (jss_cons (js_set (i := 4) sc_l_row_of.nd (je_tup (ja_cons (je_ix ix_seq l_ix (je_var 1) je_int) ja_nil)))
    (jss_cons (js_set (i := 5) sc_l_row_of.nd je_int)
    (jss_cons (js_for (passes_of rfl) rfl (ji_str (je_var 3)) (jg_name sc_l_row_of.nd)
    (jss_one (js_if (jt_cmp (op_eqD (hu64 hr)) l_eq (je_var 6) je_str)
    (jss_cons (js_set (i := 7) sc_l_row_of.nd (je_call c_l_sum_at (hr.mono (by omega)) (takes_of rfl rfl rfl rfl) (ja_cons (je_var 1) (ja_cons (je_var 5) ja_nil))))
    (jss_cons (js_if (jt_isN (je_var 7))
    (jss_one (js_ret je_non))
    jss_nil)
    (jss_cons (js_set (i := 4) sc_l_row_of.nd (je_op or_add l_add (je_var 4) (je_tup (ja_cons (je_ix ix_seq l_ix (je_var 7) je_int) ja_nil))))
    (jss_one (js_set (i := 5) sc_l_row_of.nd (je_ix ix_seq l_ix (je_var 7) je_int))))))
    (jss_cons (js_if (JW.jt (jw_or (jt_cmp op_ge l_cmp (je_var 5) (je_callB call_len l_len T.f_len (ja_cons (je_var 1) ja_nil))) (jw_or1 (jt_cmp op_gt l_cmp (je_callB call_len l_len T.f_len (ja_cons (je_ix ix_seq l_ix (je_var 1) (je_var 5)) ja_nil)) je_int))))
    (jss_one (js_ret je_non))
    jss_nil)
    (jss_cons (js_set (i := 8) sc_l_row_of.nd (je_ix ix_seq l_ix (je_var 1) (je_var 5)))
    (jss_cons (js_set (i := 9) sc_l_row_of.nd (je_and (je_cmp (op_neD (hu64 hr)) l_ne (je_var 8) je_str) (je_one (je_cmp (op_eqD (hu64 hr)) l_eq (je_comp [("_law_one", 10)] rfl sc_l_row_of.nd (ji_str (je_var 8)) (blkOk_by (N := N_l_row_of) (sc := defScope s_l_row_of) (by decide +kernel)) (fun _ _ _ _ _ => (jg_name sc_l_row_of.nd)) (by decide) (fun _ _ _ _ _ => (jts_one (jt_cmp (or_notIn (hu65 (by omega) hr)) l_notIn (je_var 10) je_str))) (fun _ _ _ _ _ => (je_var 10))) (je_lst ja_nil)))))
    (jss_cons (js_set (i := 4) sc_l_row_of.nd (je_op or_add l_add (je_var 4) (je_tup (ja_cons (je_if (jt_val (je_var 9)) (je_callTy call_int_str l_intS T.f_int (ja_cons (je_var 8) ja_nil)) (je_var 8)) ja_nil))))
    (jss_one (js_set (i := 5) sc_l_row_of.nd (je_op or_add l_add (je_var 5) je_int))))))))))
    (jss_one (js_ret (je_if (jt_cmp (op_eqD (hu64 hr)) l_eq (je_var 5) (je_callB call_len l_len T.f_len (ja_cons (je_var 1) ja_nil))) (je_var 4) je_non)))))))))))
abbrev s_is_name : Stmt := top 12
abbrev N_is_name : List Str := ["thing"]
theorem sc_is_name : FnScope N_is_name ["thing"] (defScope s_is_name) := ⟨rfl, rfl, rfl, by decide +kernel, rfl, by decide +kernel, by decide +kernel⟩
theorem cal_is_name {P : Program} {w : PySem.World} {K : PySem.W.Frag} {mg : Str → Option Value} {base : Heap} (T : Top w K mg) (D : DefAt K mg "is_name" s_is_name) : Cal P w K mg base "is_name" 2 G_is_name :=
  cal_mk D sc_is_name (fun _ _ _ _ _ _ us hl => match us, hl with | [_], _ => rfl) fun cdv A outer s H E hr =>
    (jss_one (js_ret (je_and (je_isT .str (je_var 0) T.f_isinstance T.f_str) (je_and (je_cmp (op_eqD (hu64 hr)) l_eq (je_callB call_len l_len T.f_len (ja_cons (je_var 0) ja_nil)) je_int) (je_one (je_cmp (or_in (hu65 (by omega) hr)) l_in (je_var 0) (je_glob T.g_NAMES)))))))
abbrev s_is_place : Stmt := top 15
abbrev N_is_place : List Str := ["thing", "size"]
theorem sc_is_place : FnScope N_is_place ["thing", "size"] (defScope s_is_place) := ⟨rfl, rfl, rfl, by decide +kernel, rfl, by decide +kernel, by decide +kernel⟩
theorem cal_is_place {P : Program} {w : PySem.World} {K : PySem.W.Frag} {mg : Str → Option Value} {base : Heap} (T : Top w K mg) (D : DefAt K mg "is_place" s_is_place) : Cal P w K mg base "is_place" 2 G_is_place :=
  cal_mk D sc_is_place (fun _ _ _ _ _ _ us hl => match us, hl with | [_, _], _ => rfl) fun cdv A outer s H E hr =>
    (jss_one (js_ret (je_and (je_isT .int (je_var 0) T.f_isinstance T.f_int) (je_and (je_not (je_isT .bool (je_var 0) T.f_isinstance T.f_bool)) (je_one (je_chain op_le op_le l_cmp l_cmp je_int (je_var 0) (je_var 1)))))))
abbrev s_is_worth : Stmt := top 11
abbrev N_is_worth : List Str := ["thing"]
theorem sc_is_worth : FnScope N_is_worth ["thing"] (defScope s_is_worth) := ⟨rfl, rfl, rfl, by decide +kernel, rfl, by decide +kernel, by decide +kernel⟩
theorem cal_is_worth {P : Program} {w : PySem.World} {K : PySem.W.Frag} {mg : Str → Option Value} {base : Heap} (T : Top w K mg) (D : DefAt K mg "is_worth" s_is_worth) : Cal P w K mg base "is_worth" 2 G_is_worth :=
  cal_mk D sc_is_worth (fun _ _ _ _ _ _ us hl => match us, hl with | [_], _ => rfl) fun cdv A outer s H E hr =>
    (jss_one (js_ret (je_and (je_isT .int (je_var 0) T.f_isinstance T.f_int) (je_and (je_not (je_isT .bool (je_var 0) T.f_isinstance T.f_bool)) (je_one (je_chain op_le op_lt l_cmp l_cmp je_int (je_var 0) (je_glob T.g_SIZE)))))))
abbrev s_left_of : Stmt := top 13
abbrev N_left_of : List Str := ["thing", "left"]
theorem sc_left_of : FnScope N_left_of ["thing", "left"] (defScope s_left_of) := ⟨rfl, rfl, rfl, by decide +kernel, rfl, by decide +kernel, by decide +kernel⟩
theorem cal_left_of {P : Program} {w : PySem.World} {K : PySem.W.Frag} {mg : Str → Option Value} {base : Heap} (T : Top w K mg) (D : DefAt K mg "left_of" s_left_of) (c_is_name : Cal P w K mg base "is_name" 2 G_is_name) (c_is_worth : Cal P w K mg base "is_worth" 2 G_is_worth) : ∀ n, Cal P w K mg base "left_of" (3 + n) (recN F_left_of n)
  | 0 => cal_bad (k := 2) D sc_left_of (fun _ _ _ _ _ _ us hl => match us, hl with | [_, _], _ => rfl)
  | n + 1 => by
    have c_left_of := cal_left_of (P := P) (w := w) (base := base) T D c_is_name c_is_worth n
    have q : Cal P w K mg base "left_of" (3 + n + 1) (F_left_of (recN F_left_of n)) := cal_mk D sc_left_of (fun _ _ _ _ _ _ us hl => match us, hl with | [_, _], _ => rfl) fun cdv A outer s H E hr =>
    (jss_cons (js_if (JW.jt (jw_or (jt_cmp op_le l_cmp (je_var 1) je_int) (jw_or (jt_not (jt_val (je_isT .tuple (je_var 0) T.f_isinstance T.f_tuple))) (jw_or (jt_cmp op_lt l_cmp (je_callB call_len l_len T.f_len (ja_cons (je_var 0) ja_nil)) je_int) (jw_or1 (jt_not (jt_val (je_isT .str (je_ix ix_seq l_ix (je_var 0) je_int) T.f_isinstance T.f_str))))))))
    (jss_one (js_ret (je_un un_neg l_neg je_int)))
    jss_nil)
    (jss_cons (js_if (jt_cmp (op_eqD (hu64 hr)) l_eq (je_ix ix_seq l_ix (je_var 0) je_int) je_str)
    (jss_one (js_ret (je_if (JW.jt (jw_and (jt_cmp (op_eqD (hu64 hr)) l_eq (je_callB call_len l_len T.f_len (ja_cons (je_var 0) ja_nil)) je_int) (jw_and1 (jt_val (je_call c_is_worth (hr.mono (by omega)) (takes_of rfl rfl rfl rfl) (ja_cons (je_ix ix_seq l_ix (je_var 0) je_int) ja_nil)))))) (je_op op_sub l_sub (je_var 1) je_int) (je_un un_neg l_neg je_int))))
    jss_nil)
    (jss_cons (js_if (jt_cmp (op_eqD (hu64 hr)) l_eq (je_ix ix_seq l_ix (je_var 0) je_int) je_str)
    (jss_one (js_ret (je_if (JW.jt (jw_and (jt_cmp (op_eqD (hu64 hr)) l_eq (je_callB call_len l_len T.f_len (ja_cons (je_var 0) ja_nil)) je_int) (jw_and1 (jt_val (je_call c_is_name (hr.mono (by omega)) (takes_of rfl rfl rfl rfl) (ja_cons (je_ix ix_seq l_ix (je_var 0) je_int) ja_nil)))))) (je_op op_sub l_sub (je_var 1) je_int) (je_un un_neg l_neg je_int))))
    jss_nil)
    (jss_cons (js_if (JW.jt (jw_and (jt_cmp (op_eqD (hu64 hr)) l_eq (je_ix ix_seq l_ix (je_var 0) je_int) je_str) (jw_and1 (jt_cmp (op_eqD (hu64 hr)) l_eq (je_callB call_len l_len T.f_len (ja_cons (je_var 0) ja_nil)) je_int))))
    (jss_one (js_ret (je_call c_left_of (hr.mono (by omega)) (takes_of rfl rfl rfl rfl) (ja_cons (je_ix ix_seq l_ix (je_var 0) je_int) (ja_cons (je_op op_sub l_sub (je_var 1) je_int) ja_nil)))))
    jss_nil)
    (jss_cons (js_if (JW.jt (jw_or (jt_cmp (or_notIn (hu65 (by omega) hr)) l_notIn (je_ix ix_seq l_ix (je_var 0) je_int) (je_glob T.g_WORDS)) (jw_or1 (jt_cmp (op_neD (hu64 hr)) l_ne (je_callB call_len l_len T.f_len (ja_cons (je_var 0) ja_nil)) je_int))))
    (jss_one (js_ret (je_un un_neg l_neg je_int)))
    jss_nil)
    (jss_one (js_ret (je_call c_left_of (hr.mono (by omega)) (takes_of rfl rfl rfl rfl) (ja_cons (je_ix ix_seq l_ix (je_var 0) je_int) (ja_cons (je_call c_left_of (hr.mono (by omega)) (takes_of rfl rfl rfl rfl) (ja_cons (je_ix ix_seq l_ix (je_var 0) je_int) (ja_cons (je_op op_sub l_sub (je_var 1) je_int) ja_nil))) ja_nil))))))))))
    exact q
abbrev s_is_sum : Stmt := top 14
abbrev N_is_sum : List Str := ["thing"]
theorem sc_is_sum : FnScope N_is_sum ["thing"] (defScope s_is_sum) := ⟨rfl, rfl, rfl, by decide +kernel, rfl, by decide +kernel, by decide +kernel⟩
theorem cal_is_sum {P : Program} {w : PySem.World} {K : PySem.W.Frag} {mg : Str → Option Value} {base : Heap} (T : Top w K mg) (D : DefAt K mg "is_sum" s_is_sum) (c_left_of : Cal P w K mg base "left_of" 23 G_left_of) : Cal P w K mg base "is_sum" 24 G_is_sum :=
  cal_mk D sc_is_sum (fun _ _ _ _ _ _ us hl => match us, hl with | [_], _ => rfl) fun cdv A outer s H E hr =>
    (jss_one (js_ret (je_cmp op_ge l_cmp (je_call c_left_of (hr.mono (by omega)) (takes_of rfl rfl rfl rfl) (ja_cons (je_var 0) (ja_cons (je_glob T.g_MOST_PARTS) ja_nil))) je_int)))
abbrev s_is_row : Stmt := top 16
abbrev N_is_row : List Str := ["thing", "size", "word"]
theorem sc_is_row : FnScope N_is_row ["thing", "size"] (defScope s_is_row) := ⟨rfl, rfl, rfl, by decide +kernel, rfl, by decide +kernel, by decide +kernel⟩
theorem cal_is_row {P : Program} {w : PySem.World} {K : PySem.W.Frag} {mg : Str → Option Value} {base : Heap} (T : Top w K mg) (D : DefAt K mg "is_row" s_is_row) (c_is_name : Cal P w K mg base "is_name" 2 G_is_name) (c_is_place : Cal P w K mg base "is_place" 2 G_is_place) (c_is_sum : Cal P w K mg base "is_sum" 24 G_is_sum) : Cal P w K mg base "is_row" 25 G_is_row :=
  cal_mk D sc_is_row (fun _ _ _ _ _ _ us hl => match us, hl with | [_, _], _ => rfl) fun cdv A outer s H E hr =>
    (jss_cons (js_if (JW.jt (jw_or (jt_not (jt_val (je_isT .tuple (je_var 0) T.f_isinstance T.f_tuple))) (jw_or (jt_cmp (op_eqD (hu64 hr)) l_eq (je_callB call_len l_len T.f_len (ja_cons (je_var 0) ja_nil)) je_int) (jw_or1 (jt_not (jt_val (je_isT .str (je_ix ix_seq l_ix (je_var 0) je_int) T.f_isinstance T.f_str)))))))
    (jss_one (js_ret je_bl))
    jss_nil)
    (jss_cons (js_set (i := 2) sc_is_row.nd (je_ix ix_seq l_ix (je_var 0) je_int))
    (jss_cons (js_if (jt_cmp (or_in (hu65 (by omega) hr)) l_in (je_var 2) (je_tup (ja_cons je_str (ja_cons je_str ja_nil))))
    (jss_one (js_ret (je_cmp (op_eqD (hu64 hr)) l_eq (je_callB call_len l_len T.f_len (ja_cons (je_var 0) ja_nil)) je_int)))
    jss_nil)
    (jss_cons (js_if (jt_cmp (or_in (hu65 (by omega) hr)) l_in (je_var 2) (je_tup (ja_cons je_str (ja_cons je_str (ja_cons je_str (ja_cons je_str ja_nil))))))
    (jss_cons (js_if (jt_cmp (op_neD (hu64 hr)) l_ne (je_callB call_len l_len T.f_len (ja_cons (je_var 0) ja_nil)) je_int)
    (jss_one (js_ret je_bl))
    jss_nil)
    (jss_cons (js_if (jt_cmp (op_eqD (hu64 hr)) l_eq (je_var 2) je_str)
    (jss_one (js_ret (je_call c_is_sum (hr.mono (by omega)) (takes_of rfl rfl rfl rfl) (ja_cons (je_ix ix_seq l_ix (je_var 0) je_int) ja_nil))))
    jss_nil)
    (jss_one (js_ret (je_if (jt_cmp (op_eqD (hu64 hr)) l_eq (je_var 2) je_str) (je_call c_is_name (hr.mono (by omega)) (takes_of rfl rfl rfl rfl) (ja_cons (je_ix ix_seq l_ix (je_var 0) je_int) ja_nil)) (je_call c_is_place (hr.mono (by omega)) (takes_of rfl rfl rfl rfl) (ja_cons (je_ix ix_seq l_ix (je_var 0) je_int) (ja_cons (je_var 1) ja_nil))))))))
    jss_nil)
    (jss_cons (js_if (jt_cmp (op_neD (hu64 hr)) l_ne (je_callB call_len l_len T.f_len (ja_cons (je_var 0) ja_nil)) je_int)
    (jss_one (js_ret je_bl))
    jss_nil)
    (jss_cons (js_if (jt_cmp (op_eqD (hu64 hr)) l_eq (je_var 2) je_str)
    (jss_one (js_ret (je_and (je_call c_is_name (hr.mono (by omega)) (takes_of rfl rfl rfl rfl) (ja_cons (je_ix ix_seq l_ix (je_var 0) je_int) ja_nil)) (je_one (je_call c_is_sum (hr.mono (by omega)) (takes_of rfl rfl rfl rfl) (ja_cons (je_ix ix_seq l_ix (je_var 0) je_int) ja_nil))))))
    jss_nil)
    (jss_cons (js_if (jt_cmp (op_eqD (hu64 hr)) l_eq (je_var 2) je_str)
    (jss_one (js_ret (je_and (je_call c_is_sum (hr.mono (by omega)) (takes_of rfl rfl rfl rfl) (ja_cons (je_ix ix_seq l_ix (je_var 0) je_int) ja_nil)) (je_one (je_call c_is_sum (hr.mono (by omega)) (takes_of rfl rfl rfl rfl) (ja_cons (je_ix ix_seq l_ix (je_var 0) je_int) ja_nil))))))
    jss_nil)
    (jss_one (js_ret (je_and (je_cmp (op_eqD (hu64 hr)) l_eq (je_var 2) je_str) (je_and (je_call c_is_sum (hr.mono (by omega)) (takes_of rfl rfl rfl rfl) (ja_cons (je_ix ix_seq l_ix (je_var 0) je_int) ja_nil)) (je_one (je_call c_is_place (hr.mono (by omega)) (takes_of rfl rfl rfl rfl) (ja_cons (je_ix ix_seq l_ix (je_var 0) je_int) (ja_cons (je_var 1) ja_nil)))))))))))))))
abbrev s_is_program : Stmt := top 17
abbrev N_is_program : List Str := ["thing", "row"]
theorem sc_is_program : FnScope N_is_program ["thing"] (defScope s_is_program) := ⟨rfl, rfl, rfl, by decide +kernel, rfl, by decide +kernel, by decide +kernel⟩
theorem cal_is_program {P : Program} {w : PySem.World} {K : PySem.W.Frag} {mg : Str → Option Value} {base : Heap} (T : Top w K mg) (D : DefAt K mg "is_program" s_is_program) (c_is_row : Cal P w K mg base "is_row" 25 G_is_row) : Cal P w K mg base "is_program" 26 G_is_program :=
  cal_mk D sc_is_program (fun _ _ _ _ _ _ us hl => match us, hl with | [_], _ => rfl) fun cdv A outer s H E hr =>
    (jss_cons (js_if (JW.jt (jw_or (jt_not (jt_val (je_isT .tuple (je_var 0) T.f_isinstance T.f_tuple))) (jw_or1 (jt_cmp op_gt l_cmp (je_callB call_len l_len T.f_len (ja_cons (je_var 0) ja_nil)) (je_glob T.g_MOST_ROWS)))))
    (jss_one (js_ret je_bl))
    jss_nil)
    (jss_one (js_ret (je_callB (cr_all rfl) l_all T.f_all (ja_cons (je_comp [("row", 1)] rfl sc_is_program.nd (ji_tup (je_var 0)) (blkOk_by (N := N_is_program) (sc := defScope s_is_program) (by decide +kernel)) (fun _ _ _ _ _ => (jg_name sc_is_program.nd)) (by decide) (fun _ _ _ _ _ => jts_nil) (fun _ _ _ _ _ => (je_call c_is_row (hr.mono (by omega)) takes0 (ja_cons (je_var 1) (ja_cons (je_callB call_len l_len T.f_len (ja_cons (je_var 0) ja_nil)) ja_nil))))) ja_nil)))))
abbrev s_sum_words : Stmt := top 22
abbrev N_sum_words : List Str := ["asked_sum", "found", "part"]
theorem sc_sum_words : FnScope N_sum_words ["asked_sum"] (defScope s_sum_words) := ⟨rfl, rfl, rfl, by decide +kernel, rfl, by decide +kernel, by decide +kernel⟩
theorem cal_sum_words {P : Program} {w : PySem.World} {K : PySem.W.Frag} {mg : Str → Option Value} {base : Heap} (T : Top w K mg) (D : DefAt K mg "sum_words" s_sum_words) : ∀ n, Cal P w K mg base "sum_words" (2 + n) (recN F_sum_words n)
  | 0 => cal_bad (k := 1) D sc_sum_words (fun _ _ _ _ _ _ us hl => match us, hl with | [_], _ => rfl)
  | n + 1 => by
    have c_sum_words := cal_sum_words (P := P) (w := w) (base := base) T D n
    have q : Cal P w K mg base "sum_words" (2 + n + 1) (F_sum_words (recN F_sum_words n)) := cal_mk D sc_sum_words (fun _ _ _ _ _ _ us hl => match us, hl with | [_], _ => rfl) fun cdv A outer s H E hr =>
    (jss_cons (js_if (jt_cmp (or_in (hu65 (by omega) hr)) l_in (je_ix ix_seq l_ix (je_var 0) je_int) (je_tup (ja_cons je_str (ja_cons je_str ja_nil))))
    (jss_one (js_ret (je_lst (ja_cons (je_callTy call_str_any l_strT T.f_str (ja_cons (je_ix ix_seq l_ix (je_var 0) je_int) ja_nil)) ja_nil))))
    jss_nil)
    (jss_cons (js_set (i := 1) sc_sum_words.nd (je_lst (ja_cons (je_ix ix_seq l_ix (je_var 0) je_int) ja_nil)))
    (jss_cons (js_for (passes_of rfl) rfl (ji_tup (je_sl (je_var 0) (jo_some je_int) jo_none)) (jg_name sc_sum_words.nd)
    (jss_one (js_set (i := 1) sc_sum_words.nd (je_op or_add l_add (je_var 1) (je_call c_sum_words (hr.mono (by omega)) (takes_of rfl rfl rfl rfl) (ja_cons (je_var 2) ja_nil))))))
    (jss_one (js_ret (je_var 1))))))
    exact q
abbrev s_row_words : Stmt := top 24
abbrev N_row_words : List Str := ["row", "found", "part"]
theorem sc_row_words : FnScope N_row_words ["row"] (defScope s_row_words) := ⟨rfl, rfl, rfl, by decide +kernel, rfl, by decide +kernel, by decide +kernel⟩
theorem cal_row_words {P : Program} {w : PySem.World} {K : PySem.W.Frag} {mg : Str → Option Value} {base : Heap} (T : Top w K mg) (D : DefAt K mg "row_words" s_row_words) (c_sum_words : Cal P w K mg base "sum_words" 22 G_sum_words) : Cal P w K mg base "row_words" 23 G_row_words :=
  cal_mk D sc_row_words (fun _ _ _ _ _ _ us hl => match us, hl with | [_], _ => rfl) fun cdv A outer s H E hr =>
    (jss_cons (js_set (i := 1) sc_row_words.nd (je_lst (ja_cons (je_ix ix_seq l_ix (je_var 0) je_int) ja_nil)))
    (jss_cons (js_for (passes_of rfl) rfl (ji_tup (je_sl (je_var 0) (jo_some je_int) jo_none)) (jg_name sc_row_words.nd)
    (jss_one (js_set (i := 1) sc_row_words.nd (je_op or_add l_add (je_var 1) (je_if (jt_val (je_isT .tuple (je_var 2) T.f_isinstance T.f_tuple)) (je_call c_sum_words (hr.mono (by omega)) (takes_of rfl rfl rfl rfl) (ja_cons (je_var 2) ja_nil)) (je_lst (ja_cons (je_callTy call_str_any l_strT T.f_str (ja_cons (je_var 2) ja_nil)) ja_nil)))))))
    (jss_one (js_ret (je_var 1)))))
abbrev s_written : Stmt := top 25
abbrev N_written : List Str := ["program", "row"]
theorem sc_written : FnScope N_written ["program"] (defScope s_written) := ⟨rfl, rfl, rfl, by decide +kernel, rfl, by decide +kernel, by decide +kernel⟩
theorem cal_written {P : Program} {w : PySem.World} {K : PySem.W.Frag} {mg : Str → Option Value} {base : Heap} (T : Top w K mg) (D : DefAt K mg "written" s_written) (c_row_words : Cal P w K mg base "row_words" 23 G_row_words) : Cal P w K mg base "written" 24 G_written :=
  cal_mk D sc_written (fun _ _ _ _ _ _ us hl => match us, hl with | [_], _ => rfl) fun cdv A outer s H E hr =>
    (jss_one (js_ret (je_join je_str (je_comp [("row", 1)] rfl sc_written.nd (ji_tup (je_var 0)) (blkOk_by (N := N_written) (sc := defScope s_written) (by decide +kernel)) (fun _ _ _ _ _ => (jg_name sc_written.nd)) (by decide) (fun _ _ _ _ _ => jts_nil) (fun _ _ _ _ _ => (je_op or_add l_add (je_join je_str (je_call c_row_words (hr.mono (by omega)) takes0 (ja_cons (je_var 1) ja_nil))) je_str))))))
abbrev s_written_sum : Stmt := top 23
abbrev N_written_sum : List Str := ["asked_sum"]
theorem sc_written_sum : FnScope N_written_sum ["asked_sum"] (defScope s_written_sum) := ⟨rfl, rfl, rfl, by decide +kernel, rfl, by decide +kernel, by decide +kernel⟩
theorem cal_written_sum {P : Program} {w : PySem.World} {K : PySem.W.Frag} {mg : Str → Option Value} {base : Heap} (T : Top w K mg) (D : DefAt K mg "written_sum" s_written_sum) (c_sum_words : Cal P w K mg base "sum_words" 22 G_sum_words) : Cal P w K mg base "written_sum" 23 G_written_sum :=
  cal_mk D sc_written_sum (fun _ _ _ _ _ _ us hl => match us, hl with | [_], _ => rfl) fun cdv A outer s H E hr =>
    (jss_one (js_ret (je_join je_str (je_call c_sum_words (hr.mono (by omega)) (takes_of rfl rfl rfl rfl) (ja_cons (je_var 0) ja_nil)))))
abbrev s_l_due : Stmt := top 40
abbrev N_l_due : List Str := ["_law_way", "_law_text", "_law_inner", "_law_rows", "_law_line"]
theorem sc_l_due : FnScope N_l_due ["_law_way", "_law_text"] (defScope s_l_due) := ⟨rfl, rfl, rfl, by decide +kernel, rfl, by decide +kernel, by decide +kernel⟩
theorem cal_l_due {P : Program} {w : PySem.World} {K : PySem.W.Frag} {mg : Str → Option Value} {base : Heap} (T : Top w K mg) (D : DefAt K mg "_law_due" s_l_due) (c_l_row_of : Cal P w K mg base "_law_row_of" 63 G_l_row_of) (c_l_sum_at : Cal P w K mg base "_law_sum_at" 62 G_l_sum_at) (c_is_program : Cal P w K mg base "is_program" 26 G_is_program) (c_is_sum : Cal P w K mg base "is_sum" 24 G_is_sum) (c_written : Cal P w K mg base "written" 24 G_written) (c_written_sum : Cal P w K mg base "written_sum" 23 G_written_sum) : Cal P w K mg base "_law_due" 64 G_l_due :=
  cal_mk D sc_l_due (fun _ _ _ _ _ _ us hl => match us, hl with | [_, _], _ => rfl) fun cdv A outer s H E hr =>
    (jss_cons (js_if (jt_cmp (op_eqD (hu64 hr)) l_eq (je_var 0) je_int)
    (jss_cons (js_set (i := 2) sc_l_due.nd (je_call c_l_sum_at (hr.mono (by omega)) (takes_of rfl rfl rfl rfl) (ja_cons (je_split (je_var 1) je_str) (ja_cons je_int ja_nil))))
    (jss_cons (js_if (JW.jt (jw_or (jt_isN (je_var 2)) (jw_or (jt_not (jt_val (je_call c_is_sum (hr.mono (by omega)) (takes_of rfl rfl rfl rfl) (ja_cons (je_ix ix_seq l_ix (je_var 2) je_int) ja_nil)))) (jw_or1 (jt_cmp (op_neD (hu64 hr)) l_ne (je_call c_written_sum (hr.mono (by omega)) (takes_of rfl rfl rfl rfl) (ja_cons (je_ix ix_seq l_ix (je_var 2) je_int) ja_nil)) (je_var 1))))))
    (jss_one (js_ret je_non))
    jss_nil)
    (jss_one (js_ret (je_ix ix_seq l_ix (je_var 2) je_int)))))
    jss_nil)
    (jss_cons (js_set (i := 3) sc_l_due.nd (je_callTy call_tuple_of l_tupOf T.f_tuple (ja_cons (je_comp [("_law_line", 4)] rfl sc_l_due.nd (ji_lst (je_sl (je_split (je_var 1) je_str) jo_none (jo_some (je_un un_neg l_neg je_int)))) (blkOk_by (N := N_l_due) (sc := defScope s_l_due) (by decide +kernel)) (fun _ _ _ _ _ => (jg_name sc_l_due.nd)) (by decide) (fun _ _ _ _ _ => jts_nil) (fun _ _ _ _ _ => (je_call c_l_row_of (hr.mono (by omega)) takes0 (ja_cons (je_var 4) ja_nil)))) ja_nil)))
    (jss_cons (js_if (JW.jt (jw_or (jt_cmp (or_in (hu65 (by omega) hr)) l_in je_non (je_var 3)) (jw_or (jt_not (jt_val (je_call c_is_program (hr.mono (by omega)) (takes_of rfl rfl rfl rfl) (ja_cons (je_var 3) ja_nil)))) (jw_or1 (jt_cmp (op_neD (hu64 hr)) l_ne (je_call c_written (hr.mono (by omega)) (takes_of rfl rfl rfl rfl) (ja_cons (je_var 3) ja_nil)) (je_var 1))))))
    (jss_one (js_ret je_non))
    jss_nil)
    (jss_one (js_ret (je_var 3))))))
abbrev s_l_sum : Stmt := top 33
abbrev N_l_sum : List Str := ["_law_script", "_law_at", "_law_deep", "_law_way", "_law_one"]
theorem sc_l_sum : FnScope N_l_sum ["_law_script", "_law_at", "_law_deep"] (defScope s_l_sum) := ⟨rfl, rfl, rfl, by decide +kernel, rfl, by decide +kernel, by decide +kernel⟩
theorem cal_l_sum {P : Program} {w : PySem.World} {K : PySem.W.Frag} {mg : Str → Option Value} {base : Heap} (T : Top w K mg) (D : DefAt K mg "_law_sum" s_l_sum) (c_l_drawn : Cal P w K mg base "_law_drawn" 3 G_l_drawn) : ∀ n, Cal P w K mg base "_law_sum" (4 + n) (recN F_l_sum n)
  | 0 => cal_bad (k := 3) D sc_l_sum (fun _ _ _ _ _ _ us hl => match us, hl with | [_, _, _], _ => rfl)
  | n + 1 => by
    have c_l_sum := cal_l_sum (P := P) (w := w) (base := base) T D c_l_drawn n
    have q : Cal P w K mg base "_law_sum" (4 + n + 1) (F_l_sum (recN F_l_sum n)) := cal_mk D sc_l_sum (fun _ _ _ _ _ _ us hl => match us, hl with | [_, _, _], _ => rfl) fun cdv A outer s H E hr =>
    (jss_cons (js_set (i := 3) sc_l_sum.nd (je_call c_l_drawn (hr.mono (by omega)) (takes_of rfl rfl rfl rfl) (ja_cons (je_var 0) (ja_cons (je_var 1) (ja_cons je_int ja_nil)))))
    (jss_cons (js_if (JW.jt (jw_or (jt_cmp (op_eqD (hu64 hr)) l_eq (je_var 2) je_int) (jw_or1 (jt_cmp op_lt l_cmp (je_var 3) je_int))))
    (jss_cons (js_if (jt_cmp (op_eqD (hu64 hr)) l_eq (je_call c_l_drawn (hr.mono (by omega)) (takes_of rfl rfl rfl rfl) (ja_cons (je_var 0) (ja_cons (je_op or_add l_add (je_var 1) je_int) (ja_cons je_int ja_nil)))) je_int)
    (jss_one (js_ret (je_tup (ja_cons je_str (ja_cons (je_ix ix_seq l_ix (je_lst (ja_cons je_int (ja_cons je_int (ja_cons je_int (ja_cons je_int (ja_cons je_int (ja_cons je_int ja_nil))))))) (je_call c_l_drawn (hr.mono (by omega)) (takes_of rfl rfl rfl rfl) (ja_cons (je_var 0) (ja_cons (je_op or_add l_add (je_var 1) je_int) (ja_cons je_int ja_nil))))) ja_nil)))))
    jss_nil)
    (jss_one (js_ret (je_tup (ja_cons je_str (ja_cons (je_ix ix_seq l_ix je_str (je_call c_l_drawn (hr.mono (by omega)) (takes_of rfl rfl rfl rfl) (ja_cons (je_var 0) (ja_cons (je_op or_add l_add (je_var 1) je_int) (ja_cons je_int ja_nil))))) ja_nil))))))
    jss_nil)
    (jss_cons (js_set (i := 4) sc_l_sum.nd (je_call c_l_sum (hr.mono (by omega)) (takes_of rfl rfl rfl rfl) (ja_cons (je_var 0) (ja_cons (je_op or_add l_add (je_op or_mul l_mul (je_var 1) je_int) je_int) (ja_cons (je_op op_sub l_sub (je_var 2) je_int) ja_nil)))))
    (jss_cons (js_if (jt_cmp op_lt l_cmp (je_var 3) je_int)
    (jss_one (js_ret (je_tup (ja_cons je_str (ja_cons (je_var 4) ja_nil)))))
    jss_nil)
    (jss_one (js_ret (je_tup (ja_cons (je_ix ix_seq l_ix (je_lst (ja_cons je_str (ja_cons je_str (ja_cons je_str (ja_cons je_str ja_nil))))) (je_op op_sub l_sub (je_var 3) je_int)) (ja_cons (je_var 4) (ja_cons (je_call c_l_sum (hr.mono (by omega)) (takes_of rfl rfl rfl rfl) (ja_cons (je_var 0) (ja_cons (je_op or_add l_add (je_op or_mul l_mul (je_var 1) je_int) je_int) (ja_cons (je_op op_sub l_sub (je_var 2) je_int) ja_nil)))) ja_nil))))))))))
    exact q
abbrev s_l_row : Stmt := top 34
abbrev N_l_row : List Str := ["_law_script", "_law_at", "_law_size", "_law_way", "_law_place", "_law_name", "_law_one"]
theorem sc_l_row : FnScope N_l_row ["_law_script", "_law_at", "_law_size"] (defScope s_l_row) := ⟨rfl, rfl, rfl, by decide +kernel, rfl, by decide +kernel, by decide +kernel⟩
theorem cal_l_row {P : Program} {w : PySem.World} {K : PySem.W.Frag} {mg : Str → Option Value} {base : Heap} (T : Top w K mg) (D : DefAt K mg "_law_row" s_l_row) (c_l_drawn : Cal P w K mg base "_law_drawn" 3 G_l_drawn) (c_l_sum : Cal P w K mg base "_law_sum" 9 G_l_sum) : Cal P w K mg base "_law_row" 10 G_l_row :=
  cal_mk D sc_l_row (fun _ _ _ _ _ _ us hl => match us, hl with | [_, _, _], _ => rfl) fun cdv A outer s H E hr =>
    (jss_cons (js_set (i := 3) sc_l_row.nd (je_call c_l_drawn (hr.mono (by omega)) (takes_of rfl rfl rfl rfl) (ja_cons (je_var 0) (ja_cons (je_var 1) (ja_cons je_int ja_nil)))))
    (jss_cons (js_set (i := 4) sc_l_row.nd (je_call c_l_drawn (hr.mono (by omega)) (takes_of rfl rfl rfl rfl) (ja_cons (je_var 0) (ja_cons (je_op or_add l_add (je_var 1) je_int) (ja_cons (je_op or_add l_add (je_var 2) je_int) ja_nil)))))
    (jss_cons (js_set (i := 5) sc_l_row.nd (je_ix ix_seq l_ix je_str (je_call c_l_drawn (hr.mono (by omega)) (takes_of rfl rfl rfl rfl) (ja_cons (je_var 0) (ja_cons (je_op or_add l_add (je_var 1) je_int) (ja_cons je_int ja_nil))))))
    (jss_cons (js_set (i := 6) sc_l_row.nd (je_call c_l_sum (hr.mono (by omega)) (takes_of rfl rfl rfl rfl) (ja_cons (je_var 0) (ja_cons (je_op or_add l_add (je_var 1) je_int) (ja_cons je_int ja_nil)))))
    (jss_cons (js_if (jt_cmp op_lt l_cmp (je_var 3) je_int)
    (jss_one (js_ret (je_tup (ja_cons je_str (ja_cons (je_var 5) (ja_cons (je_var 6) ja_nil))))))
    jss_nil)
    (jss_cons (js_if (jt_cmp op_lt l_cmp (je_var 3) je_int)
    (jss_one (js_ret (je_tup (ja_cons je_str (ja_cons (je_call c_l_sum (hr.mono (by omega)) (takes_of rfl rfl rfl rfl) (ja_cons (je_var 0) (ja_cons (je_op or_add l_add (je_var 1) je_int) (ja_cons je_int ja_nil)))) (ja_cons (je_var 6) ja_nil))))))
    jss_nil)
    (jss_cons (js_if (jt_cmp op_lt l_cmp (je_var 3) je_int)
    (jss_one (js_ret (je_ix ix_seq l_ix (je_lst (ja_cons (je_tup (ja_cons je_str (ja_cons (je_var 5) ja_nil))) (ja_cons (je_tup (ja_cons je_str (ja_cons (je_var 6) ja_nil))) ja_nil))) (je_op op_sub l_sub (je_var 3) je_int))))
    jss_nil)
    (jss_cons (js_if (jt_cmp op_lt l_cmp (je_var 3) je_int)
    (jss_one (js_ret (je_ix ix_seq l_ix (je_lst (ja_cons (je_tup (ja_cons je_str (ja_cons (je_var 4) ja_nil))) (ja_cons (je_tup (ja_cons je_str (ja_cons (je_var 6) (ja_cons (je_var 4) ja_nil)))) (ja_cons (je_tup (ja_cons je_str (ja_cons (je_tup (ja_cons je_str (ja_cons (je_var 5) ja_nil))) (ja_cons (je_var 4) ja_nil)))) ja_nil)))) (je_op op_sub l_sub (je_var 3) je_int))))
    jss_nil)
    (jss_one (js_ret (je_ix ix_seq l_ix (je_lst (ja_cons (je_tup (ja_cons je_str (ja_cons (je_var 4) ja_nil))) (ja_cons (je_tup (ja_cons je_str (ja_cons (je_var 4) ja_nil))) (ja_cons (je_tup (ja_cons je_str ja_nil)) (ja_cons (je_ix ix_seq l_ix (je_lst (ja_cons (je_tup (ja_cons je_str ja_nil)) (ja_cons (je_tup (ja_cons je_str ja_nil)) ja_nil))) (je_op op_mod l_mod (je_var 4) je_int)) ja_nil))))) (je_op op_sub l_sub (je_var 3) je_int))))))))))))
abbrev s_l_program : Stmt := top 35
abbrev N_l_program : List Str := ["_law_script", "_law_at", "_law_size", "_law_put", "_law_sign", "_law_rows", "_law_k"]
theorem sc_l_program : FnScope N_l_program ["_law_script", "_law_at"] (defScope s_l_program) := ⟨rfl, rfl, rfl, by decide +kernel, rfl, by decide +kernel, by decide +kernel⟩
theorem cal_l_program {P : Program} {w : PySem.World} {K : PySem.W.Frag} {mg : Str → Option Value} {base : Heap} (T : Top w K mg) (D : DefAt K mg "_law_program" s_l_program) (c_l_drawn : Cal P w K mg base "_law_drawn" 3 G_l_drawn) (c_l_row : Cal P w K mg base "_law_row" 10 G_l_row) : Cal P w K mg base "_law_program" 11 G_l_program :=
  cal_mk D sc_l_program (fun _ _ _ _ _ _ us hl => match us, hl with | [_, _], _ => rfl) fun cdv A outer s H E hr =>
    (jss_cons (js_set (i := 2) sc_l_program.nd (je_op or_add l_add je_int (je_call c_l_drawn (hr.mono (by omega)) (takes_of rfl rfl rfl rfl) (ja_cons (je_var 0) (ja_cons (je_var 1) (ja_cons je_int ja_nil))))))
    (jss_cons (js_if (jt_cmp (op_eqD (hu64 hr)) l_eq (je_call c_l_drawn (hr.mono (by omega)) (takes_of rfl rfl rfl rfl) (ja_cons (je_var 0) (ja_cons (je_op or_add l_add (je_var 1) je_int) (ja_cons je_int ja_nil)))) je_int)
    (jss_cons (js_set (i := 3) sc_l_program.nd (je_tup (ja_cons je_str (ja_cons (je_tup (ja_cons je_str (ja_cons je_str ja_nil))) (ja_cons (je_tup (ja_cons je_str (ja_cons (je_call c_l_drawn (hr.mono (by omega)) (takes_of rfl rfl rfl rfl) (ja_cons (je_var 0) (ja_cons (je_op or_add l_add (je_var 1) je_int) (ja_cons je_int ja_nil)))) ja_nil))) ja_nil)))))
    (jss_cons (js_set (i := 4) sc_l_program.nd (je_ix ix_seq l_ix (je_lst (ja_cons je_str (ja_cons je_str ja_nil))) (je_call c_l_drawn (hr.mono (by omega)) (takes_of rfl rfl rfl rfl) (ja_cons (je_var 0) (ja_cons (je_op or_add l_add (je_var 1) je_int) (ja_cons je_int ja_nil))))))
    (jss_cons (js_set (i := 5) sc_l_program.nd (je_tup (ja_cons (je_tup (ja_cons je_str (ja_cons je_str ja_nil))) (ja_cons (je_tup (ja_cons je_str (ja_cons je_int ja_nil))) (ja_cons (je_tup (ja_cons je_str (ja_cons (je_tup (ja_cons je_str (ja_cons je_str ja_nil))) ja_nil))) (ja_cons (je_tup (ja_cons je_str (ja_cons je_int ja_nil))) (ja_cons (je_var 3) ja_nil)))))))
    (jss_one (js_ret (je_op or_add l_add (je_var 5) (je_tup (ja_cons (je_tup (ja_cons je_str (ja_cons je_int ja_nil))) (ja_cons (je_tup (ja_cons je_str ja_nil)) (ja_cons (je_tup (ja_cons je_str (ja_cons je_str (ja_cons (je_tup (ja_cons (je_var 4) (ja_cons (je_tup (ja_cons je_str (ja_cons je_str ja_nil))) (ja_cons (je_tup (ja_cons je_str (ja_cons je_str ja_nil))) ja_nil)))) ja_nil)))) (ja_cons (je_tup (ja_cons je_str ja_nil)) ja_nil)))))))))))
    jss_nil)
    (jss_one (js_ret (je_callTy call_tuple_of l_tupOf T.f_tuple (ja_cons (je_comp [("_law_k", 6)] rfl sc_l_program.nd (ji_range1 T.f_range (je_var 2)) (blkOk_by (N := N_l_program) (sc := defScope s_l_program) (by decide +kernel)) (fun _ _ _ _ _ => (jg_name sc_l_program.nd)) (by decide) (fun _ _ _ _ _ => jts_nil) (fun _ _ _ _ _ => (je_call c_l_row (hr.mono (by omega)) takes0 (ja_cons (je_var 0) (ja_cons (je_op or_add l_add (je_op or_add l_add (je_var 1) je_int) (je_op or_mul l_mul je_int (je_var 6))) (ja_cons (je_var 2) ja_nil)))))) ja_nil))))))
abbrev s_Words___init__ : Stmt := clsBody (top 26) 0
abbrev N_Words___init__ : List Str := ["self", "text"]
theorem sc_Words___init__ : FnScope N_Words___init__ ["self", "text"] (defScope s_Words___init__) := ⟨rfl, rfl, rfl, by decide +kernel, rfl, by decide +kernel, by decide +kernel⟩
theorem cal_Words___init__ {P : Program} {w : PySem.World} {K : PySem.W.Frag} {mg : Str → Option Value} {base : Heap} (T : Top w K mg) (D : IniAt K mg "Words" "Words.__init__" s_Words___init__) : KCal P w K mg base "Words" 2 G_Words___init__ :=
  kcal_mk D sc_Words___init__ (fun _ _ _ _ _ _ us hl => match us, hl with | [_, _], _ => rfl) fun cdv A outer s H E hr =>
    (jss_one (js_fld (je_var 0) (je_revNew (je_split (je_var 1) je_str)) T.k_Words T.na_Words_left))
abbrev s_Words_word : Stmt := clsBody (top 26) 1
abbrev N_Words_word : List Str := ["self"]
theorem sc_Words_word : FnScope N_Words_word ["self"] (defScope s_Words_word) := ⟨rfl, rfl, rfl, by decide +kernel, rfl, by decide +kernel, by decide +kernel⟩
theorem cal_Words_word {P : Program} {w : PySem.World} {K : PySem.W.Frag} {mg : Str → Option Value} {base : Heap} (T : Top w K mg) (D : MetAt K "Words" "word" "Words.word" s_Words_word) : MCal P w K mg base "Words" "word" 2 G_Words_word :=
  mcal_mk D sc_Words_word (fun _ _ _ _ _ _ us hl => match us, hl with | [_], _ => rfl) fun cdv A outer s H E hr =>
    (jss_cons (js_if (jt_cmp (op_eqD (hu64 hr)) l_eqS (je_fld (je_var 0) T.k_Words T.na_Words_left) (je_lst ja_nil))
    (jss_one (js_raise (k := .text) rfl (takes_of rfl rfl rfl rfl) T.e_text rfl rfl))
    jss_nil)
    (jss_one (js_ret (je_pop (je_fld (je_var 0) T.k_Words T.na_Words_left)))))
abbrev s_Words_number : Stmt := clsBody (top 26) 2
abbrev N_Words_number : List Str := ["self", "word", "sign"]
theorem sc_Words_number : FnScope N_Words_number ["self"] (defScope s_Words_number) := ⟨rfl, rfl, rfl, by decide +kernel, rfl, by decide +kernel, by decide +kernel⟩
theorem cal_Words_number {P : Program} {w : PySem.World} {K : PySem.W.Frag} {mg : Str → Option Value} {base : Heap} (T : Top w K mg) (D : MetAt K "Words" "number" "Words.number" s_Words_number) (c_Words_word : MCal P w K mg base "Words" "word" 2 G_Words_word) : MCal P w K mg base "Words" "number" 3 G_Words_number :=
  mcal_mk D sc_Words_number (fun _ _ _ _ _ _ us hl => match us, hl with | [_], _ => rfl) fun cdv A outer s H E hr =>
    (jss_cons (js_set (i := 1) sc_Words_number.nd (je_mcall0 c_Words_word (hr.mono (by omega)) (takes_of rfl rfl rfl rfl) (je_var 0)))
    (jss_cons (js_if (JW.jt (jw_or (jt_not (jt_chain op_le op_le l_cmp l_cmp je_int (je_callB call_len l_len T.f_len (ja_cons (je_var 1) ja_nil)) je_int)) (jw_or1 (jt_not (jt_val (je_callB (cr_all rfl) l_all T.f_all (ja_cons (je_comp [("sign", 2)] rfl sc_Words_number.nd (ji_str (je_var 1)) (blkOk_by (N := N_Words_number) (sc := defScope s_Words_number) (by decide +kernel)) (fun _ _ _ _ _ => (jg_name sc_Words_number.nd)) (by decide) (fun _ _ _ _ _ => jts_nil) (fun _ _ _ _ _ => (je_cmp (or_in (hu65 (by omega) hr)) l_in (je_var 2) (je_glob T.g_FIGURES)))) ja_nil)))))))
    (jss_one (js_raise (k := .text) rfl (takes_of rfl rfl rfl rfl) T.e_text rfl rfl))
    jss_nil)
    (jss_one (js_ret (je_callTy call_int_str l_intS T.f_int (ja_cons (je_var 1) ja_nil))))))
abbrev s_Words_sum_in : Stmt := clsBody (top 26) 3
abbrev N_Words_sum_in : List Str := ["self", "deep", "word", "one"]
theorem sc_Words_sum_in : FnScope N_Words_sum_in ["self", "deep"] (defScope s_Words_sum_in) := ⟨rfl, rfl, rfl, by decide +kernel, rfl, by decide +kernel, by decide +kernel⟩
theorem cal_Words_sum_in {P : Program} {w : PySem.World} {K : PySem.W.Frag} {mg : Str → Option Value} {base : Heap} (T : Top w K mg) (D : MetAt K "Words" "sum_in" "Words.sum_in" s_Words_sum_in) (c_Words_number : MCal P w K mg base "Words" "number" 3 G_Words_number) (c_Words_word : MCal P w K mg base "Words" "word" 2 G_Words_word) : ∀ n, MCal P w K mg base "Words" "sum_in" (4 + n) (recN F_Words_sum_in n)
  | 0 => mcal_bad (k := 3) D sc_Words_sum_in (fun _ _ _ _ _ _ us hl => match us, hl with | [_, _], _ => rfl)
  | n + 1 => by
    have c_Words_sum_in := cal_Words_sum_in (P := P) (w := w) (base := base) T D c_Words_number c_Words_word n
    have q : MCal P w K mg base "Words" "sum_in" (4 + n + 1) (F_Words_sum_in (recN F_Words_sum_in n)) := mcal_mk D sc_Words_sum_in (fun _ _ _ _ _ _ us hl => match us, hl with | [_, _], _ => rfl) fun cdv A outer s H E hr =>
    (jss_cons (js_if (JW.jt (jw_or (jt_cmp (op_eqD (hu64 hr)) l_eqS (je_fld (je_var 0) T.k_Words T.na_Words_left) (je_lst ja_nil)) (jw_or1 (jt_cmp (op_eqD (hu64 hr)) l_eq (je_var 1) je_int))))
    (jss_one (js_raise (k := .text) rfl (takes_of rfl rfl rfl rfl) T.e_text rfl rfl))
    jss_nil)
    (jss_cons (js_if (JW.jt (jw_and (jt_cmp (op_neD (hu64 hr)) l_ne (je_sl (je_ix ix_seq l_ix (je_fld (je_var 0) T.k_Words T.na_Words_left) (je_un un_neg l_neg je_int)) jo_none (jo_some je_int)) je_str) (jw_and1 (jt_cmp (or_in (hu65 (by omega) hr)) l_in (je_sl (je_ix ix_seq l_ix (je_fld (je_var 0) T.k_Words T.na_Words_left) (je_un un_neg l_neg je_int)) jo_none (jo_some je_int)) (je_glob T.g_FIGURES)))))
    (jss_one (js_ret (je_tup (ja_cons je_str (ja_cons (je_mcall0 c_Words_number (hr.mono (by omega)) (takes_of rfl rfl rfl rfl) (je_var 0)) ja_nil)))))
    jss_nil)
    (jss_cons (js_set (i := 2) sc_Words_sum_in.nd (je_mcall0 c_Words_word (hr.mono (by omega)) (takes_of rfl rfl rfl rfl) (je_var 0)))
    (jss_cons (js_if (jt_cmp (op_eqD (hu64 hr)) l_eq (je_var 2) je_str)
    (jss_one (js_ret (je_tup (ja_cons je_str (ja_cons (je_mcall c_Words_sum_in (hr.mono (by omega)) (takes_of rfl rfl rfl rfl) (je_var 0) (ja_cons (je_op op_sub l_sub (je_var 1) je_int) ja_nil)) ja_nil)))))
    jss_nil)
    (jss_cons (js_if (jt_cmp (or_notIn (hu65 (by omega) hr)) l_notIn (je_var 2) (je_glob T.g_WORDS))
    (jss_one (js_ret (je_tup (ja_cons je_str (ja_cons (je_var 2) ja_nil)))))
    jss_nil)
    (jss_cons (js_set (i := 3) sc_Words_sum_in.nd (je_mcall c_Words_sum_in (hr.mono (by omega)) (takes_of rfl rfl rfl rfl) (je_var 0) (ja_cons (je_op op_sub l_sub (je_var 1) je_int) ja_nil)))
    (jss_one (js_ret (je_tup (ja_cons (je_var 2) (ja_cons (je_var 3) (ja_cons (je_mcall c_Words_sum_in (hr.mono (by omega)) (takes_of rfl rfl rfl rfl) (je_var 0) (ja_cons (je_op op_sub l_sub (je_var 1) je_int) ja_nil)) ja_nil))))))))))))
    exact q
abbrev s_Words_part : Stmt := clsBody (top 26) 4
abbrev N_Words_part : List Str := ["self", "sign"]
theorem sc_Words_part : FnScope N_Words_part ["self", "sign"] (defScope s_Words_part) := ⟨rfl, rfl, rfl, by decide +kernel, rfl, by decide +kernel, by decide +kernel⟩
theorem cal_Words_part {P : Program} {w : PySem.World} {K : PySem.W.Frag} {mg : Str → Option Value} {base : Heap} (T : Top w K mg) (D : MetAt K "Words" "part" "Words.part" s_Words_part) (c_Words_number : MCal P w K mg base "Words" "number" 3 G_Words_number) (c_Words_sum_in : MCal P w K mg base "Words" "sum_in" 21 G_Words_sum_in) (c_Words_word : MCal P w K mg base "Words" "word" 2 G_Words_word) : MCal P w K mg base "Words" "part" 22 G_Words_part :=
  mcal_mk D sc_Words_part (fun _ _ _ _ _ _ us hl => match us, hl with | [_, _], _ => rfl) fun cdv A outer s H E hr =>
    (jss_cons (js_if (jt_cmp (op_eqD (hu64 hr)) l_eq (je_var 1) je_str)
    (jss_one (js_ret (je_mcall c_Words_sum_in (hr.mono (by omega)) (takes_of rfl rfl rfl rfl) (je_var 0) (ja_cons (je_glob T.g_MOST_PARTS) ja_nil))))
    jss_nil)
    (jss_one (js_ret (je_if (jt_cmp (op_eqD (hu64 hr)) l_eq (je_var 1) je_str) (je_mcall0 c_Words_word (hr.mono (by omega)) (takes_of rfl rfl rfl rfl) (je_var 0)) (je_mcall0 c_Words_number (hr.mono (by omega)) (takes_of rfl rfl rfl rfl) (je_var 0))))))
abbrev s_read_rowX : Stmt := top 28
abbrev N_read_rowX : List Str := ["line", "words", "word", "found", "sign"]
theorem sc_read_rowX : FnScope N_read_rowX ["line"] (defScope s_read_rowX) := ⟨rfl, rfl, rfl, by decide +kernel, rfl, by decide +kernel, by decide +kernel⟩
theorem cal_read_rowX {P : Program} {w : PySem.World} {K : PySem.W.Frag} {mg : Str → Option Value} {base : Heap} (T : Top w K mg) (D : DefAt K mg "read_row" s_read_rowX) (c_Words___init__ : KCal P w K mg base "Words" 2 G_Words___init__) (c_Words_part : MCal P w K mg base "Words" "part" 22 G_Words_part) (c_Words_word : MCal P w K mg base "Words" "word" 2 G_Words_word) : Cal P w K mg base "read_row" 23 G_read_rowX :=
  Cal.trunc (F := F_read_rowX) (cal_mk D sc_read_rowX (fun _ _ _ _ _ _ us hl => match us, hl with | [_], _ => rfl) fun cdv A outer s H E hr =>
    (jss_cons (js_set (i := 1) sc_read_rowX.nd (je_make c_Words___init__ (hr.mono (by omega)) (ja_cons (je_var 0) ja_nil)))
    (jss_cons (js_set (i := 2) sc_read_rowX.nd (je_mcall0 c_Words_word (hr.mono (by omega)) (takes_of rfl rfl rfl rfl) (je_var 1)))
    (jss_cons (js_if (JW.jt (jw_and (jt_tnotin T.t_SHAPES (je_var 2)) (jw_and1 (jt_tnotin T.t_PAIRS (je_var 2)))))
    (jss_one (js_raise (k := .text) rfl (takes_of rfl rfl rfl rfl) T.e_text rfl rfl))
    jss_nil)
    (jss_cons (js_set (i := 3) sc_read_rowX.nd (je_op or_add l_add (je_tup (ja_cons (je_var 2) ja_nil)) (je_callTy call_tuple_of l_tupOf T.f_tuple (ja_cons (je_compX [("sign", 4)] rfl rfl (takes_of rfl rfl rfl rfl) rfl sc_read_rowX.nd (ji_str (je_tget T.t_SHAPES (je_var 2) (je_tget1 T.t_PAIRS (je_var 2)))) (blkOk_by (N := N_read_rowX) (sc := defScope s_read_rowX) (by decide +kernel)) (fun _ _ _ _ _ => (jg_name sc_read_rowX.nd)) (by decide) (fun _ _ _ _ _ => jts_nil) (fun _ _ _ _ _ _ _ tk => (je_mcall c_Words_part (hr.mono (by omega)) tk (je_var 1) (ja_cons (je_var 4) ja_nil)))) ja_nil))))
    (jss_cons (js_if (jt_cmp (op_neD (hu64 hr)) l_neS (je_fld (je_var 1) T.k_Words T.na_Words_left) (je_lst ja_nil))
    (jss_one (js_raise (k := .text) rfl (takes_of rfl rfl rfl rfl) T.e_text rfl rfl))
    jss_nil)
    (jss_one (js_ret (je_var 3)))))))))
abbrev s_readX : Stmt := top 29
abbrev N_readX : List Str := ["text", "program", "line"]
theorem sc_readX : FnScope N_readX ["text"] (defScope s_readX) := ⟨rfl, rfl, rfl, by decide +kernel, rfl, by decide +kernel, by decide +kernel⟩
theorem cal_readX {P : Program} {w : PySem.World} {K : PySem.W.Frag} {mg : Str → Option Value} {base : Heap} (T : Top w K mg) (D : DefAt K mg "read" s_readX) (c_is_program : Cal P w K mg base "is_program" 26 G_is_program) (c_read_rowX : Cal P w K mg base "read_row" 23 G_read_rowX) (c_written : Cal P w K mg base "written" 24 G_written) : Cal P w K mg base "read" 27 G_readX :=
  cal_mk D sc_readX (fun _ _ _ _ _ _ us hl => match us, hl with | [_], _ => rfl) fun cdv A outer s H E hr =>
    (jss_cons (js_set (i := 1) sc_readX.nd (je_callTy call_tuple_of l_tupOf T.f_tuple (ja_cons (je_compX [("line", 2)] rfl rfl (takes_of rfl rfl rfl rfl) rfl sc_readX.nd (ji_lst (je_sl (je_split (je_var 0) je_str) jo_none (jo_some (je_un un_neg l_neg je_int)))) (blkOk_by (N := N_readX) (sc := defScope s_readX) (by decide +kernel)) (fun _ _ _ _ _ => (jg_name sc_readX.nd)) (by decide) (fun _ _ _ _ _ => jts_nil) (fun _ _ _ _ _ _ _ tk => (je_call c_read_rowX (hr.mono (by omega)) tk (ja_cons (je_var 2) ja_nil)))) ja_nil)))
    (jss_cons (js_if (JW.jt (jw_or (jt_not (jt_val (je_call c_is_program (hr.mono (by omega)) (takes_of rfl rfl rfl rfl) (ja_cons (je_var 1) ja_nil)))) (jw_or1 (jt_cmp (op_neD (hu64 hr)) l_ne (je_call c_written (hr.mono (by omega)) (takes_of rfl rfl rfl rfl) (ja_cons (je_var 1) ja_nil)) (je_var 0)))))
    (jss_one (js_raise (k := .text) rfl (takes_of rfl rfl rfl rfl) T.e_text rfl rfl))
    jss_nil)
    (jss_one (js_ret (je_var 1)))))
abbrev s_read_sum : Stmt := top 27
abbrev N_read_sum : List Str := ["text", "words", "found"]
theorem sc_read_sum : FnScope N_read_sum ["text"] (defScope s_read_sum) := ⟨rfl, rfl, rfl, by decide +kernel, rfl, by decide +kernel, by decide +kernel⟩
theorem cal_read_sum {P : Program} {w : PySem.World} {K : PySem.W.Frag} {mg : Str → Option Value} {base : Heap} (T : Top w K mg) (D : DefAt K mg "read_sum" s_read_sum) (c_Words___init__ : KCal P w K mg base "Words" 2 G_Words___init__) (c_Words_sum_in : MCal P w K mg base "Words" "sum_in" 21 G_Words_sum_in) (c_is_sum : Cal P w K mg base "is_sum" 24 G_is_sum) (c_written_sum : Cal P w K mg base "written_sum" 23 G_written_sum) : Cal P w K mg base "read_sum" 25 G_read_sum :=
  Cal.trunc (F := F_read_sum) (cal_mk D sc_read_sum (fun _ _ _ _ _ _ us hl => match us, hl with | [_], _ => rfl) fun cdv A outer s H E hr =>
    (jss_cons (js_set (i := 1) sc_read_sum.nd (je_make c_Words___init__ (hr.mono (by omega)) (ja_cons (je_var 0) ja_nil)))
    (jss_cons (js_set (i := 2) sc_read_sum.nd (je_mcall c_Words_sum_in (hr.mono (by omega)) (takes_of rfl rfl rfl rfl) (je_var 1) (ja_cons (je_glob T.g_MOST_PARTS) ja_nil)))
    (jss_cons (js_if (JW.jt (jw_or (jt_cmp (op_neD (hu64 hr)) l_neS (je_fld (je_var 1) T.k_Words T.na_Words_left) (je_lst ja_nil)) (jw_or (jt_not (jt_val (je_call c_is_sum (hr.mono (by omega)) (takes_of rfl rfl rfl rfl) (ja_cons (je_var 2) ja_nil)))) (jw_or1 (jt_cmp (op_neD (hu64 hr)) l_ne (je_call c_written_sum (hr.mono (by omega)) (takes_of rfl rfl rfl rfl) (ja_cons (je_var 2) ja_nil)) (je_var 0))))))
    (jss_one (js_raise (k := .text) rfl (takes_of rfl rfl rfl rfl) T.e_text rfl rfl))
    jss_nil)
    (jss_one (js_ret (je_var 2)))))))
abbrev s_l_told : Stmt := top 37
abbrev N_l_told : List Str := ["_law_way", "_law_text", "e", "_law_flags"]
theorem sc_l_told : FnScope N_l_told ["_law_way", "_law_text"] (defScope s_l_told) := ⟨rfl, rfl, rfl, by decide +kernel, rfl, by decide +kernel, by decide +kernel⟩
theorem cal_l_told {P : Program} {w : PySem.World} {K : PySem.W.Frag} {mg : Str → Option Value} {base : Heap} (T : Top w K mg) (D : DefAt K mg "_law_told" s_l_told) (c_readX : Cal P w K mg base "read" 27 G_readX) (c_read_sum : Cal P w K mg base "read_sum" 25 G_read_sum) : Cal P w K mg base "_law_told" 28 G_l_told :=
  cal_mk D sc_l_told (fun _ _ _ _ _ _ us hl => match us, hl with | [_, _], _ => rfl) fun cdv A outer s H E hr =>
    (jss_cons (js_tryN (i := 2) (m := mTold 2 3) T.rl rfl rfl sc_l_told.nd rfl rfl rfl takes0 (fun W pn xe tk =>
    (jss_one (js_ret (je_if (jt_cmp (op_eqD (hu64 hr)) l_eq (je_var 0) je_int) (je_call c_read_sum (hr.mono (by omega)) tk (ja_cons (je_var 1) ja_nil)) (je_call c_readX (hr.mono (by omega)) tk (ja_cons (je_var 1) ja_nil)))))) (fun a oe pn hE => (jss_cons (js_set (i := 3) sc_l_told.nd (je_lst (ja_cons (je_tel (i := 2) T.rl hE .text (by decide) T.f_isinstance) (ja_cons (je_tel (i := 2) T.rl hE .moment (by decide) T.f_isinstance) (ja_cons (je_tel (i := 2) T.rl hE .thing (by decide) T.f_isinstance) ja_nil)))))
    (jss_one (js_if (JW.jt (jw_and (jt_val (je_telV (i := 2) T.rl hE T.f_isinstance T.f_ValueError)) (jw_and1 (jt_cmp (op_eqD (have h := hu64 hr; h)) l_eq (je_var 3) (je_lst (ja_cons je_bl (ja_cons je_bl (ja_cons je_bl ja_nil))))))))
    (jss_one (js_ret je_non))
    jss_nil)))) (fun a n ρ S hl h1 h2 => mTold_ok (by decide) a n ρ S (by rw [hl]; exact (by decide : 3 < N_l_told.length)) h1 h2))
    (jss_one (js_ret je_bl)))
abbrev s_law : Stmt := top 41
abbrev N_law : List Str := ["_law_script", "_law_way", "_law_text", "_law_words", "_law_at", "_law_odd", "_law_word", "_law_some", "_law_texts", "_law_lines", "_law_to", "_law_other", "_law_row_here"]
theorem sc_law : FnScope N_law ["_law_script"] (defScope s_law) := ⟨rfl, rfl, rfl, by decide +kernel, rfl, by decide +kernel, by decide +kernel⟩
theorem ok_law {P : Program} {w : PySem.World} {K : PySem.W.Frag} {mg : Str → Option Value} {base : Heap} {fd : FuncData} (T : Top w K mg) (F : FunD K "law" "law" (defArgs s_law) (defBody s_law) (defScope s_law) [] [] (He.ga K "law") fd) (c_l_drawn : Cal P w K mg base "_law_drawn" 3 G_l_drawn) (c_l_due : Cal P w K mg base "_law_due" 64 G_l_due) (c_l_program : Cal P w K mg base "_law_program" 11 G_l_program) (c_l_sum : Cal P w K mg base "_law_sum" 9 G_l_sum) (c_l_told : Cal P w K mg base "_law_told" 28 G_l_told) (c_written : Cal P w K mg base "written" 24 G_written) (c_written_sum : Cal P w K mg base "written_sum" 23 G_written_sum) : FnOk P w K mg base (L2.CX P w) 65 (He.ga K "law") fd ["_law_script"] (spOf K F_law) :=
  fn_ok F sc_law fun cdv A outer s H E hr =>
    (jss_cons (js_for (passes_of rfl) rfl (ji_range1 T.f_range je_int) (jg_name sc_law.nd)
    (jss_cons (js_set (i := 2) sc_law.nd (je_if (jt_cmp (op_eqD (hu64 hr)) l_eq (je_var 1) je_int) (je_call c_written_sum (hr.mono (by omega)) (takes_of rfl rfl rfl rfl) (ja_cons (je_call c_l_sum (hr.mono (by omega)) (takes_of rfl rfl rfl rfl) (ja_cons (je_var 0) (ja_cons je_int (ja_cons je_int ja_nil)))) ja_nil)) (je_call c_written (hr.mono (by omega)) (takes_of rfl rfl rfl rfl) (ja_cons (je_call c_l_program (hr.mono (by omega)) (takes_of rfl rfl rfl rfl) (ja_cons (je_var 0) (ja_cons je_int ja_nil))) ja_nil))))
    (jss_cons (js_set (i := 3) sc_law.nd (je_split (je_var 2) je_str))
    (jss_cons (js_set (i := 4) sc_law.nd (je_call c_l_drawn (hr.mono (by omega)) (takes_of rfl rfl rfl rfl) (ja_cons (je_var 0) (ja_cons (je_op or_add l_add je_int (je_var 1)) (ja_cons (je_callB call_len l_len T.f_len (ja_cons (je_var 3) ja_nil)) ja_nil)))))
    (jss_cons (js_set (i := 5) sc_law.nd (je_lst (ja_cons je_str (ja_cons je_str (ja_cons je_str (ja_cons je_str (ja_cons je_str (ja_cons je_str (ja_cons je_str (ja_cons je_str (ja_cons je_str (ja_cons je_str (ja_cons je_str (ja_cons je_str ja_nil))))))))))))))
    (jss_cons (js_set (i := 6) sc_law.nd (je_ix ix_seq l_ix (je_var 5) (je_call c_l_drawn (hr.mono (by omega)) (takes_of rfl rfl rfl rfl) (ja_cons (je_var 0) (ja_cons (je_op or_add l_add je_int (je_var 1)) (ja_cons je_int ja_nil))))))
    (jss_cons (js_set (i := 7) sc_law.nd (je_lst (ja_cons (je_op or_add l_add (je_sl (je_var 3) jo_none (jo_some (je_var 4))) (je_sl (je_var 3) (jo_some (je_op or_add l_add (je_var 4) je_int)) jo_none)) (ja_cons (je_op or_add l_add (je_sl (je_var 3) jo_none (jo_some (je_op or_add l_add (je_var 4) je_int))) (je_sl (je_var 3) (jo_some (je_var 4)) jo_none)) (ja_cons (je_op or_add l_add (je_op or_add l_add (je_sl (je_var 3) jo_none (jo_some (je_var 4))) (je_lst (ja_cons (je_var 6) ja_nil))) (je_sl (je_var 3) (jo_some (je_op or_add l_add (je_var 4) je_int)) jo_none)) ja_nil)))))
    (jss_cons (js_set (i := 8) sc_law.nd (je_op or_add l_add (je_comp [("_law_row_here", 12)] rfl sc_law.nd (ji_lst (je_var 7)) (blkOk_by (N := N_law) (sc := defScope s_law) (by decide +kernel)) (fun _ _ _ _ _ => (jg_name sc_law.nd)) (by decide) (fun _ _ _ _ _ => jts_nil) (fun _ _ _ _ _ => (je_join je_str (je_var 12)))) (je_lst (ja_cons (je_var 2) (ja_cons (je_sl (je_var 2) jo_none (jo_some (je_un un_neg l_neg je_int))) (ja_cons (je_op or_add l_add (je_var 2) je_str) ja_nil))))))
    (jss_cons (js_set (i := 9) sc_law.nd (je_split (je_var 2) je_str))
    (jss_cons (js_set (i := 10) sc_law.nd (je_call c_l_drawn (hr.mono (by omega)) (takes_of rfl rfl rfl rfl) (ja_cons (je_var 0) (ja_cons (je_op or_add l_add je_int (je_var 1)) (ja_cons (je_callB call_len l_len T.f_len (ja_cons (je_var 9) ja_nil)) ja_nil)))))
    (jss_cons (js_set (i := 8) sc_law.nd (je_op or_add l_add (je_var 8) (je_lst (ja_cons (je_join je_str (je_op or_add l_add (je_sl (je_var 9) jo_none (jo_some (je_var 10))) (je_sl (je_var 9) (jo_some (je_op or_add l_add (je_var 10) je_int)) jo_none))) (ja_cons (je_join je_str (je_op or_add l_add (je_sl (je_var 9) jo_none (jo_some (je_op or_add l_add (je_var 10) je_int))) (je_sl (je_var 9) (jo_some (je_var 10)) jo_none))) (ja_cons je_str (ja_cons je_str ja_nil)))))))
    (jss_one (js_for (passes_of rfl) rfl (ji_lst (je_var 8)) (jg_name sc_law.nd)
    (jss_one (js_if (jt_cmp (op_neD (hu64 hr)) l_ne (je_call c_l_told (hr.mono (by omega)) (takes_of rfl rfl rfl rfl) (ja_cons (je_var 1) (ja_cons (je_var 11) ja_nil))) (je_call c_l_due (hr.mono (by omega)) (takes_of rfl rfl rfl rfl) (ja_cons (je_var 1) (ja_cons (je_var 11) ja_nil))))
    (jss_one (js_ret je_bl))
    jss_nil)))))))))))))))
    (jss_one (js_ret je_bl)))
end Bt
namespace Bt
open PySem PySem.Spec PyProof.Rows L2
/-! ### what the head sees, with tables -/
abbrev AlBT : Type := AlB × List (Option (List (Option (Str × Int))))
def tabsK (K : PySem.W.Frag) (ts : List (Str × List Str)) : List (Option (List (Option (Str × Int)))) := ts.map fun t => He.dicW K (He.ga K t.1)
def obsBT (n : Nat) (fa : List He.Fa) (fn : List He.DefD) (ex : PySem.W.Frag → Bool) (ts : List (Str × List Str)) (g : Addr → Option Obj) : AlBT := (obsB n fa fn ex g, tabsK (He.frG g (He.asD g n)) ts)
def hookBT (n : Nat) (fa : List He.Fa) (fn : List He.DefD) (ex : PySem.W.Frag → Bool) (ts : List (Str × List Str)) : PySem.W.Hook where
  α := AlBT
  obs := fun s => obsBT n fa fn ex ts s.heap.get?
  val := fun w => ((true, He.valD fn), ts.map fun t : Str × List Str => some (He.keysIn w.params t.2))
  says := fun w h => ∃ K : PySem.W.Frag, K.In h ∧ He.SaysD fa fn K ∧ ex K = true ∧ tabsK K ts = ts.map fun t => some (He.keysIn w.params t.2)
  of := fun _ _ e => ⟨_, He.frG_in, congrArg (fun z : AlBT => z.1.2) e, congrArg (fun z : AlBT => z.1.1) e, congrArg (fun z : AlBT => z.2) e⟩
  keeps := fun _ _ _ h k => by
    obtain ⟨K, hK, c⟩ := h
    exact ⟨K, hK.keeps k, c⟩
theorem obsBT_eq {n : Nat} {fa : List He.Fa} {fn : List He.DefD} {ex : PySem.W.Frag → Bool} {ts : List (Str × List Str)} {g : Addr → Option Obj} {s : Shared} (h : ∀ a, g a = s.heap.get? a) : obsBT n fa fn ex ts g = (hookBT n fa fn ex ts).obs s := by
  have e : g = s.heap.get? := funext h
  subst e; rfl
theorem tab_at {K : PySem.W.Frag} {P : Params} {ts : List (Str × List Str)} (h : tabsK K ts = ts.map fun t => some (He.keysIn P t.2)) (i : Nat) {t : Str × List Str} (ht : ts[i]? = some t := by rfl) : He.dicW K (He.ga K t.1) = some (He.keysIn P t.2) := by
  unfold tabsK at h
  have e2 : (ts.map fun t => He.dicW K (He.ga K t.1))[i]? = (ts.map fun t => some (He.keysIn P t.2))[i]? := by rw [h]
  rw [List.getElem?_map, List.getElem?_map, ht] at e2
  exact Option.some.inj e2
theorem dicW_es {K : PySem.W.Frag} {a : Addr} {r : List (Option (Str × Int))} (h : He.dicW K a = some r) : ∃ es n sl, K.lookup a = some ⟨.type "dict", none, .dict es n, sl⟩ ∧ es.toList.map He.keyOf = r := by
  unfold He.dicW at h
  split at h
  · rename_i c es n sl q
    cases z : decide (c = "dict") && (sl.isEmpty && !(a == sysModules)) with
    | false => rw [z] at h; cases h
    | true =>
      rw [z] at h
      have z1 : c = "dict" := of_decide_eq_true (Bool.and_eq_true_iff.mp z).1
      subst z1
      exact ⟨es, n, sl, q, Option.some.inj h⟩
  · cases h
inductive DvP (K : PySem.W.Frag) : List (Str × D) → List (Str × He.Dv) → Prop
  | nil : DvP K [] []
  | str {k s : Str} {l : List (Str × D)} {m : List (Str × He.Dv)} : DvP K l m → DvP K ((k, .str s) :: l) ((k, .str s) :: m)
theorem DvP.get {K : PySem.W.Frag} {z : Str} {d : D} : ∀ {l : List (Str × D)} {m : List (Str × He.Dv)}, DvP K l m → tabD l z = some d → ∃ dv, (z, dv) ∈ m ∧ ∀ g : G, RepG K g d (dv.v K)
  | _, _, .nil, h => by cases h
  | _, _, .str (k := k) (s := s) (l := l) r, h => by
    have h' : (if k = z then some (D.str s) else tabD l z) = some d := h
    by_cases q : k = z
    · rw [if_pos q] at h'; cases h'
      exact ⟨_, by rw [q]; exact List.mem_cons_self, fun g => .str s⟩
    · rw [if_neg q] at h'
      obtain ⟨dv, h1, h2⟩ := r.get h'
      exact ⟨dv, List.mem_cons_of_mem _ h1, h2⟩
theorem tabD_none {z : Str} : ∀ {l : List (Str × D)}, tabD l z = none → z ∉ l.map (·.1)
  | [], _ => by simp
  | (k, v) :: l, h => by
    have h' : (if k = z then some v else tabD l z) = none := h
    by_cases q : k = z
    · rw [if_pos q] at h'; cases h'
    · rw [if_neg q] at h'
      intro hm
      rcases List.mem_cons.mp hm with e | e
      · exact q e.symm
      · exact tabD_none h' e
theorem glob_tab {K : PySem.W.Frag} {w : PySem.World} {mg : Str → Option Value} {x : Str} {kvs : List (Str × D)} {m : List (Str × He.Dv)} (h : mg x = some (.ref (He.ga K x))) (hd : He.dicW K (He.ga K x) = some (He.keysIn w.params (kvs.map (·.1)))) (hv : He.valsB K (He.ga K x) m = true) (r : DvP K kvs m) : GlobT K w mg x kvs := by
  obtain ⟨es, n, D⟩ := He.dicW_ok hd
  refine ⟨_, es, n, h, D, fun z => ?_⟩
  cases q : tabD kvs z with
  | some d =>
    obtain ⟨dv, h1, h2⟩ := r.get q
    obtain ⟨u, h3, h4⟩ := He.valsB_ok hv h1
    exact ⟨u, _, h3, h4, h2⟩
  | none =>
    show PySem.W.nsIn K (He.ga K x) z = some none
    obtain ⟨es', n', sl, e1, e2⟩ := dicW_es hd
    have hz := tabD_none q
    have key : ∀ e ∈ es'.toList, ∃ k t, e.key = .str k t ∧ k ≠ z := fun e he => by
      have h5 : He.keyOf e ∈ He.keysIn w.params (kvs.map (·.1)) := by rw [← e2]; exact List.mem_map_of_mem he
      obtain ⟨k, hk, h6⟩ := List.mem_map.mp h5
      unfold He.keyOf at h6
      split at h6
      · rename_i y t hy
        have h7 : k = y := congrArg Prod.fst (Option.some.inj h6)
        exact ⟨y, t, hy, fun e => hz (by rw [← e, ← h7]; exact hk)⟩
      · cases h6
    unfold PySem.W.nsIn
    rw [e1]
    have f1 : es'.toList.find? (fun e => e.key.isStr z) = none := by
      rw [List.find?_eq_none]
      intro e he
      obtain ⟨k, t, h1, h2⟩ := key e he
      rw [h1]
      simpa [Value.isStr] using h2
    have f2 : es'.toList.any (fun e => e.refKey) = false := by
      rw [List.any_eq_false]
      intro e he
      obtain ⟨k, t, h1, h2⟩ := key e he
      simp [DictEntry.refKey, h1]
    simp only [f1, f2]; rfl
end Bt
namespace Bt
open PySem PySem.Spec PyProof.Rows L2
def d_l_cell : He.DefD := ⟨("_law_cell", none), "_law_cell", "_law_cell", defArgs s_l_cell, defBody s_l_cell, defScope s_l_cell, [], []⟩
def d_l_drawn : He.DefD := ⟨("_law_drawn", none), "_law_drawn", "_law_drawn", defArgs s_l_drawn, defBody s_l_drawn, defScope s_l_drawn, [], []⟩
def d_l_sum_at : He.DefD := ⟨("_law_sum_at", none), "_law_sum_at", "_law_sum_at", defArgs s_l_sum_at, defBody s_l_sum_at, defScope s_l_sum_at, [], []⟩
def d_l_row_of : He.DefD := ⟨("_law_row_of", none), "_law_row_of", "_law_row_of", defArgs s_l_row_of, defBody s_l_row_of, defScope s_l_row_of, [], []⟩
def d_is_name : He.DefD := ⟨("is_name", none), "is_name", "is_name", defArgs s_is_name, defBody s_is_name, defScope s_is_name, [], []⟩
def d_is_place : He.DefD := ⟨("is_place", none), "is_place", "is_place", defArgs s_is_place, defBody s_is_place, defScope s_is_place, [], []⟩
def d_is_worth : He.DefD := ⟨("is_worth", none), "is_worth", "is_worth", defArgs s_is_worth, defBody s_is_worth, defScope s_is_worth, [], []⟩
def d_left_of : He.DefD := ⟨("left_of", none), "left_of", "left_of", defArgs s_left_of, defBody s_left_of, defScope s_left_of, [], []⟩
def d_is_sum : He.DefD := ⟨("is_sum", none), "is_sum", "is_sum", defArgs s_is_sum, defBody s_is_sum, defScope s_is_sum, [], []⟩
def d_is_row : He.DefD := ⟨("is_row", none), "is_row", "is_row", defArgs s_is_row, defBody s_is_row, defScope s_is_row, [], []⟩
def d_is_program : He.DefD := ⟨("is_program", none), "is_program", "is_program", defArgs s_is_program, defBody s_is_program, defScope s_is_program, [], []⟩
def d_sum_words : He.DefD := ⟨("sum_words", none), "sum_words", "sum_words", defArgs s_sum_words, defBody s_sum_words, defScope s_sum_words, [], []⟩
def d_row_words : He.DefD := ⟨("row_words", none), "row_words", "row_words", defArgs s_row_words, defBody s_row_words, defScope s_row_words, [], []⟩
def d_written : He.DefD := ⟨("written", none), "written", "written", defArgs s_written, defBody s_written, defScope s_written, [], []⟩
def d_written_sum : He.DefD := ⟨("written_sum", none), "written_sum", "written_sum", defArgs s_written_sum, defBody s_written_sum, defScope s_written_sum, [], []⟩
def d_l_due : He.DefD := ⟨("_law_due", none), "_law_due", "_law_due", defArgs s_l_due, defBody s_l_due, defScope s_l_due, [], []⟩
def d_l_sum : He.DefD := ⟨("_law_sum", none), "_law_sum", "_law_sum", defArgs s_l_sum, defBody s_l_sum, defScope s_l_sum, [], []⟩
def d_l_row : He.DefD := ⟨("_law_row", none), "_law_row", "_law_row", defArgs s_l_row, defBody s_l_row, defScope s_l_row, [], []⟩
def d_l_program : He.DefD := ⟨("_law_program", none), "_law_program", "_law_program", defArgs s_l_program, defBody s_l_program, defScope s_l_program, [], []⟩
def d_Words___init__ : He.DefD := ⟨("Words", some "__init__"), "__init__", "Words.__init__", defArgs s_Words___init__, defBody s_Words___init__, defScope s_Words___init__, [], []⟩
def d_Words_word : He.DefD := ⟨("Words", some "word"), "word", "Words.word", defArgs s_Words_word, defBody s_Words_word, defScope s_Words_word, [], []⟩
def d_Words_number : He.DefD := ⟨("Words", some "number"), "number", "Words.number", defArgs s_Words_number, defBody s_Words_number, defScope s_Words_number, [], []⟩
def d_Words_sum_in : He.DefD := ⟨("Words", some "sum_in"), "sum_in", "Words.sum_in", defArgs s_Words_sum_in, defBody s_Words_sum_in, defScope s_Words_sum_in, [], []⟩
def d_Words_part : He.DefD := ⟨("Words", some "part"), "part", "Words.part", defArgs s_Words_part, defBody s_Words_part, defScope s_Words_part, [], []⟩
def d_read_rowX : He.DefD := ⟨("read_row", none), "read_row", "read_row", defArgs s_read_rowX, defBody s_read_rowX, defScope s_read_rowX, [], []⟩
def d_readX : He.DefD := ⟨("read", none), "read", "read", defArgs s_readX, defBody s_readX, defScope s_readX, [], []⟩
def d_read_sum : He.DefD := ⟨("read_sum", none), "read_sum", "read_sum", defArgs s_read_sum, defBody s_read_sum, defScope s_read_sum, [], []⟩
def d_l_told : He.DefD := ⟨("_law_told", none), "_law_told", "_law_told", defArgs s_l_told, defBody s_l_told, defScope s_l_told, [], []⟩
def d_law : He.DefD := ⟨("law", none), "law", "law", defArgs s_law, defBody s_law, defScope s_law, [], []⟩
def hfn : List He.DefD := [d_l_cell, d_l_drawn, d_l_sum_at, d_l_row_of, d_is_name, d_is_place, d_is_worth, d_left_of, d_is_sum, d_is_row, d_is_program, d_sum_words, d_row_words, d_written, d_written_sum, d_l_due, d_l_sum, d_l_row, d_l_program, d_Words___init__, d_Words_word, d_Words_number, d_Words_sum_in, d_Words_part, d_read_rowX, d_readX, d_read_sum, d_l_told, d_law]
def hfa : List He.Fa := [.glo "_law_cell", .glo "_law_drawn", .glo "_law_sum_at", .glo "_law_row_of", .glo "is_name", .glo "is_place", .glo "is_worth", .glo "left_of", .glo "is_sum", .glo "is_row", .glo "is_program", .glo "sum_words", .glo "row_words", .glo "written", .glo "written_sum", .glo "_law_due", .glo "_law_sum", .glo "_law_row", .glo "_law_program", .glo "read_row", .glo "read", .glo "read_sum", .glo "_law_told", .glo "law", .cls "Words", .glo "Words", .noat "Words" "left", .mkr "Words", .meth "Words" "word", .meth "Words" "number", .meth "Words" "sum_in", .meth "Words" "part", .glo "NoText", .exc "NoText", .glo "NoMoment", .glo "NoThing", .glo "TapeError", .free "ValueError", .free "all", .free "bool", .free "int", .free "isinstance", .free "len", .free "range", .free "str", .free "tuple", .str "FIGURES" "0123456789", .int "MOST_PARTS" 15, .int "MOST_ROWS" 20, .str "NAMES" "abcdef", .int "SIZE" 10007, .glo "WORDS", .glo "PAIRS", .glo "SHAPES"]
def hnames : List PySem.Str := (["TapeError", "NoMoment", "NoThing", "NoText", "NAMES", "SIZE", "MOST_ROWS", "MOST_PARTS", "WORDS", "is_worth", "is_name", "left_of", "is_sum", "is_place", "is_row", "is_program", "FIGURES", "SHAPES", "PAIRS", "sum_words", "written_sum", "row_words", "written", "Words", "read_sum", "read_row", "read", "_law_cell", "_law_drawn", "_law_sum"] : List PySem.Str) ++ (["_law_row", "_law_program", "_law_asked", "_law_told", "_law_sum_at", "_law_row_of", "_law_due"] : List PySem.Str)
def hex (K : PySem.W.Frag) : Bool := He.tupB K "WORDS" [.str "add", .str "sub", .str "mul", .str "less"] && telB K && He.valsB K (He.ga K "PAIRS") [("put", .str "ss"), ("unless", .str "sr")] && He.valsB K (He.ga K "SHAPES") [("stop", .str ""), ("back", .str ""), ("say", .str "s"), ("ask", .str "n"), ("jump", .str "r"), ("call", .str "r"), ("set", .str "ns")]
def htabs : List (Str × List Str) := [("PAIRS", kv_PAIRS.map (·.1)), ("SHAPES", kv_SHAPES.map (·.1))]
abbrev hR : PySem.W.OpenRow := PySem.W.OpenLaw.row PySem.Challenge.rw_backtape_k81_whole_read
abbrev hhk : PySem.W.Hook := Bt.hookBT 6 hfa hfn hex htabs
def hob (s : PySem.W.SharedT) : AlBT := obsBT 6 hfa hfn hex htabs (HandSHeadRun.getT s)
theorem hob_eq (s : PySem.W.SharedT) : hob s = hhk.obs s.abs := obsBT_eq (HandSHeadRun.getT_eq s)
theorem hrun_false (w : PySem.World) : HandSHeadRun.RunEq hR (PySem.W.view hR.prog [41]) hhk hob 20000 hnames (w.withFollow "special-get-raises" false) := by
  intro os
  kernel_rfl
theorem hrun_true (w : PySem.World) : HandSHeadRun.RunEq hR (PySem.W.view hR.prog [41]) hhk hob 20000 hnames (w.withFollow "special-get-raises" true) := by
  intro os
  kernel_rfl
theorem hrun (w : PySem.World) : HandSHeadRun.RunEq hR (PySem.W.view hR.prog [41]) hhk hob 20000 hnames w := PySem.W.byRow2 "special-get-raises" (P := fun w => HandSHeadRun.RunEq hR (PySem.W.view hR.prog [41]) hhk hob 20000 hnames w) hrun_false hrun_true w
theorem hfacts {P : Program} {w : PySem.World} {K : PySem.W.Frag} {h : Heap} {mg : Str → Option Value} {f : Addr} (X : K.In h) (G : h.Ns mainGlobals mg) (hfa0 : mg ("law" : Str) = some (.ref f)) (c : He.SaysD hfa hfn K) (cx : hex K = true) (ct : tabsK K htabs = htabs.map fun t : Str × List Str => some (He.keysIn w.params t.2)) :
    ∃ fd : FuncData, (∀ (s : Shared) (v : Value), BindsTo s fd ⟨[v], []⟩ [("_law_script", v)]) ∧ ∀ base : Heap, K.In base → base.Ns mainGlobals mg → FnOk P w K mg base (L2.CX P w) 65 f fd ["_law_script"] (spOf K F_law) := by
  have T : Top w K mg := ⟨(glob_tab (He.glo_ok X G (c.fact 52 (f := .glo "PAIRS") rfl)) (tab_at ct 0) (Bool.and_eq_true_iff.mp (Bool.and_eq_true_iff.mp cx).1).2 (.str (.str .nil))), (glob_tab (He.glo_ok X G (c.fact 53 (f := .glo "SHAPES") rfl)) (tab_at ct 1) (Bool.and_eq_true_iff.mp cx).2 (.str (.str (.str (.str (.str (.str (.str .nil)))))))), He.free_ok X G (c.fact 37 (f := .free "ValueError") rfl), He.free_ok X G (c.fact 38 (f := .free "all") rfl), He.free_ok X G (c.fact 39 (f := .free "bool") rfl), He.free_ok X G (c.fact 40 (f := .free "int") rfl), He.free_ok X G (c.fact 41 (f := .free "isinstance") rfl), He.free_ok X G (c.fact 42 (f := .free "len") rfl), He.free_ok X G (c.fact 43 (f := .free "range") rfl), He.free_ok X G (c.fact 44 (f := .free "str") rfl), He.free_ok X G (c.fact 45 (f := .free "tuple") rfl), (glob_str (He.str_ok X G (c.fact 46 (f := .str "FIGURES" "0123456789") rfl))), (glob_int (He.int_ok X G (c.fact 47 (f := .int "MOST_PARTS" 15) rfl))), (glob_int (He.int_ok X G (c.fact 48 (f := .int "MOST_ROWS" 20) rfl))), (glob_str (He.str_ok X G (c.fact 49 (f := .str "NAMES" "abcdef") rfl))), (glob_int (He.int_ok X G (c.fact 50 (f := .int "SIZE" 10007) rfl))), (glob_tup (He.glo_ok X G (c.fact 51 (f := .glo "WORDS") rfl)) (Bool.and_eq_true_iff.mp (Bool.and_eq_true_iff.mp (Bool.and_eq_true_iff.mp cx).1).1).1 (.str (.str (.str (.str .nil))))), (He.cls_ok (c.fact 24 (f := .cls "Words") rfl)), (He.noat_ok (c.fact 26 (f := .noat "Words" "left") rfl)), ⟨He.glo_ok X G (c.fact 32 (f := .glo "NoText") rfl), He.exc_ok (c.fact 33 (f := .exc "NoText") rfl)⟩, ⟨(Bool.and_eq_true_iff.mp (Bool.and_eq_true_iff.mp (Bool.and_eq_true_iff.mp cx).1).1).2, fun e he => (match e, he with | .moment, _ => He.glo_ok X G (c.fact 34 (f := .glo "NoMoment") rfl) | .run, he => absurd rfl he | .thing, _ => He.glo_ok X G (c.fact 35 (f := .glo "NoThing") rfl) | .text, _ => He.glo_ok X G (c.fact 32 (f := .glo "NoText") rfl)), He.glo_ok X G (c.fact 36 (f := .glo "TapeError") rfl)⟩⟩
  have D_l_cell : DefAt K mg "_law_cell" s_l_cell := ⟨c.def_ 0 (d := d_l_cell) rfl, He.glo_ok X G (c.fact 0 (f := .glo "_law_cell") rfl)⟩
  have D_l_drawn : DefAt K mg "_law_drawn" s_l_drawn := ⟨c.def_ 1 (d := d_l_drawn) rfl, He.glo_ok X G (c.fact 1 (f := .glo "_law_drawn") rfl)⟩
  have D_l_sum_at : DefAt K mg "_law_sum_at" s_l_sum_at := ⟨c.def_ 2 (d := d_l_sum_at) rfl, He.glo_ok X G (c.fact 2 (f := .glo "_law_sum_at") rfl)⟩
  have D_l_row_of : DefAt K mg "_law_row_of" s_l_row_of := ⟨c.def_ 3 (d := d_l_row_of) rfl, He.glo_ok X G (c.fact 3 (f := .glo "_law_row_of") rfl)⟩
  have D_is_name : DefAt K mg "is_name" s_is_name := ⟨c.def_ 4 (d := d_is_name) rfl, He.glo_ok X G (c.fact 4 (f := .glo "is_name") rfl)⟩
  have D_is_place : DefAt K mg "is_place" s_is_place := ⟨c.def_ 5 (d := d_is_place) rfl, He.glo_ok X G (c.fact 5 (f := .glo "is_place") rfl)⟩
  have D_is_worth : DefAt K mg "is_worth" s_is_worth := ⟨c.def_ 6 (d := d_is_worth) rfl, He.glo_ok X G (c.fact 6 (f := .glo "is_worth") rfl)⟩
  have D_left_of : DefAt K mg "left_of" s_left_of := ⟨c.def_ 7 (d := d_left_of) rfl, He.glo_ok X G (c.fact 7 (f := .glo "left_of") rfl)⟩
  have D_is_sum : DefAt K mg "is_sum" s_is_sum := ⟨c.def_ 8 (d := d_is_sum) rfl, He.glo_ok X G (c.fact 8 (f := .glo "is_sum") rfl)⟩
  have D_is_row : DefAt K mg "is_row" s_is_row := ⟨c.def_ 9 (d := d_is_row) rfl, He.glo_ok X G (c.fact 9 (f := .glo "is_row") rfl)⟩
  have D_is_program : DefAt K mg "is_program" s_is_program := ⟨c.def_ 10 (d := d_is_program) rfl, He.glo_ok X G (c.fact 10 (f := .glo "is_program") rfl)⟩
  have D_sum_words : DefAt K mg "sum_words" s_sum_words := ⟨c.def_ 11 (d := d_sum_words) rfl, He.glo_ok X G (c.fact 11 (f := .glo "sum_words") rfl)⟩
  have D_row_words : DefAt K mg "row_words" s_row_words := ⟨c.def_ 12 (d := d_row_words) rfl, He.glo_ok X G (c.fact 12 (f := .glo "row_words") rfl)⟩
  have D_written : DefAt K mg "written" s_written := ⟨c.def_ 13 (d := d_written) rfl, He.glo_ok X G (c.fact 13 (f := .glo "written") rfl)⟩
  have D_written_sum : DefAt K mg "written_sum" s_written_sum := ⟨c.def_ 14 (d := d_written_sum) rfl, He.glo_ok X G (c.fact 14 (f := .glo "written_sum") rfl)⟩
  have D_l_due : DefAt K mg "_law_due" s_l_due := ⟨c.def_ 15 (d := d_l_due) rfl, He.glo_ok X G (c.fact 15 (f := .glo "_law_due") rfl)⟩
  have D_l_sum : DefAt K mg "_law_sum" s_l_sum := ⟨c.def_ 16 (d := d_l_sum) rfl, He.glo_ok X G (c.fact 16 (f := .glo "_law_sum") rfl)⟩
  have D_l_row : DefAt K mg "_law_row" s_l_row := ⟨c.def_ 17 (d := d_l_row) rfl, He.glo_ok X G (c.fact 17 (f := .glo "_law_row") rfl)⟩
  have D_l_program : DefAt K mg "_law_program" s_l_program := ⟨c.def_ 18 (d := d_l_program) rfl, He.glo_ok X G (c.fact 18 (f := .glo "_law_program") rfl)⟩
  have D_Words___init__ : IniAt K mg "Words" "Words.__init__" s_Words___init__ := ⟨c.def_ 19 (d := d_Words___init__) rfl, He.mkr_ok (c.fact 27 (f := .mkr "Words") rfl), He.glo_ok X G (c.fact 25 (f := .glo "Words") rfl)⟩
  have D_Words_word : MetAt K "Words" "word" "Words.word" s_Words_word := ⟨c.def_ 20 (d := d_Words_word) rfl, He.meth_ok (c.fact 28 (f := .meth "Words" "word") rfl), He.cls_ok (c.fact 24 (f := .cls "Words") rfl)⟩
  have D_Words_number : MetAt K "Words" "number" "Words.number" s_Words_number := ⟨c.def_ 21 (d := d_Words_number) rfl, He.meth_ok (c.fact 29 (f := .meth "Words" "number") rfl), He.cls_ok (c.fact 24 (f := .cls "Words") rfl)⟩
  have D_Words_sum_in : MetAt K "Words" "sum_in" "Words.sum_in" s_Words_sum_in := ⟨c.def_ 22 (d := d_Words_sum_in) rfl, He.meth_ok (c.fact 30 (f := .meth "Words" "sum_in") rfl), He.cls_ok (c.fact 24 (f := .cls "Words") rfl)⟩
  have D_Words_part : MetAt K "Words" "part" "Words.part" s_Words_part := ⟨c.def_ 23 (d := d_Words_part) rfl, He.meth_ok (c.fact 31 (f := .meth "Words" "part") rfl), He.cls_ok (c.fact 24 (f := .cls "Words") rfl)⟩
  have D_read_rowX : DefAt K mg "read_row" s_read_rowX := ⟨c.def_ 24 (d := d_read_rowX) rfl, He.glo_ok X G (c.fact 19 (f := .glo "read_row") rfl)⟩
  have D_readX : DefAt K mg "read" s_readX := ⟨c.def_ 25 (d := d_readX) rfl, He.glo_ok X G (c.fact 20 (f := .glo "read") rfl)⟩
  have D_read_sum : DefAt K mg "read_sum" s_read_sum := ⟨c.def_ 26 (d := d_read_sum) rfl, He.glo_ok X G (c.fact 21 (f := .glo "read_sum") rfl)⟩
  have D_l_told : DefAt K mg "_law_told" s_l_told := ⟨c.def_ 27 (d := d_l_told) rfl, He.glo_ok X G (c.fact 22 (f := .glo "_law_told") rfl)⟩
  obtain ⟨fd, F⟩ := c.def_ 28 (d := d_law) rfl
  have e := hfa0.symm.trans (He.glo_ok X G (c.fact 23 (f := .glo "law") rfl))
  cases e
  have b := FunD.bindsA (ps := ["_law_script"]) F fun _ _ _ _ _ _ us hl => match us, hl with | [_], _ => rfl
  refine ⟨fd, fun s v => b s [v] rfl, fun base _ _ => ?_⟩
  have c_l_cell : Cal P w K mg base "_law_cell" 2 G_l_cell := cal_l_cell T D_l_cell
  have c_l_drawn : Cal P w K mg base "_law_drawn" 3 G_l_drawn := cal_l_drawn T D_l_drawn c_l_cell
  have c_l_sum_at : Cal P w K mg base "_law_sum_at" 62 G_l_sum_at := cal_l_sum_at T D_l_sum_at 60
  have c_l_row_of : Cal P w K mg base "_law_row_of" 63 G_l_row_of := cal_l_row_of T D_l_row_of c_l_sum_at
  have c_is_name : Cal P w K mg base "is_name" 2 G_is_name := cal_is_name T D_is_name
  have c_is_place : Cal P w K mg base "is_place" 2 G_is_place := cal_is_place T D_is_place
  have c_is_worth : Cal P w K mg base "is_worth" 2 G_is_worth := cal_is_worth T D_is_worth
  have c_left_of : Cal P w K mg base "left_of" 23 G_left_of := cal_left_of T D_left_of c_is_name c_is_worth 20
  have c_is_sum : Cal P w K mg base "is_sum" 24 G_is_sum := cal_is_sum T D_is_sum c_left_of
  have c_is_row : Cal P w K mg base "is_row" 25 G_is_row := cal_is_row T D_is_row c_is_name c_is_place c_is_sum
  have c_is_program : Cal P w K mg base "is_program" 26 G_is_program := cal_is_program T D_is_program c_is_row
  have c_sum_words : Cal P w K mg base "sum_words" 22 G_sum_words := cal_sum_words T D_sum_words 20
  have c_row_words : Cal P w K mg base "row_words" 23 G_row_words := cal_row_words T D_row_words c_sum_words
  have c_written : Cal P w K mg base "written" 24 G_written := cal_written T D_written c_row_words
  have c_written_sum : Cal P w K mg base "written_sum" 23 G_written_sum := cal_written_sum T D_written_sum c_sum_words
  have c_l_due : Cal P w K mg base "_law_due" 64 G_l_due := cal_l_due T D_l_due c_l_row_of c_l_sum_at c_is_program c_is_sum c_written c_written_sum
  have c_l_sum : Cal P w K mg base "_law_sum" 9 G_l_sum := cal_l_sum T D_l_sum c_l_drawn 5
  have c_l_row : Cal P w K mg base "_law_row" 10 G_l_row := cal_l_row T D_l_row c_l_drawn c_l_sum
  have c_l_program : Cal P w K mg base "_law_program" 11 G_l_program := cal_l_program T D_l_program c_l_drawn c_l_row
  have c_Words___init__ : KCal P w K mg base "Words" 2 G_Words___init__ := cal_Words___init__ T D_Words___init__
  have c_Words_word : MCal P w K mg base "Words" "word" 2 G_Words_word := cal_Words_word T D_Words_word
  have c_Words_number : MCal P w K mg base "Words" "number" 3 G_Words_number := cal_Words_number T D_Words_number c_Words_word
  have c_Words_sum_in : MCal P w K mg base "Words" "sum_in" 21 G_Words_sum_in := cal_Words_sum_in T D_Words_sum_in c_Words_number c_Words_word 17
  have c_Words_part : MCal P w K mg base "Words" "part" 22 G_Words_part := cal_Words_part T D_Words_part c_Words_number c_Words_sum_in c_Words_word
  have c_read_rowX : Cal P w K mg base "read_row" 23 G_read_rowX := cal_read_rowX T D_read_rowX c_Words___init__ c_Words_part c_Words_word
  have c_readX : Cal P w K mg base "read" 27 G_readX := cal_readX T D_readX c_is_program c_read_rowX c_written
  have c_read_sum : Cal P w K mg base "read_sum" 25 G_read_sum := cal_read_sum T D_read_sum c_Words___init__ c_Words_sum_in c_is_sum c_written_sum
  have c_l_told : Cal P w K mg base "_law_told" 28 G_l_told := cal_l_told T D_l_told c_readX c_read_sum
  exact ok_law T F c_l_drawn c_l_due c_l_program c_l_sum c_l_told c_written c_written_sum
end Bt
open PySem PySem.W PySem.Calls PyProof.Rows
theorem PySem.Challenge.cw_backtape_k81_whole_read_holds : PySem.Challenge.rw_backtape_k81_whole_read.Holds := by
  w_on; o_law
  refine HandSHeadRun.head_any (r := OpenLaw.row PySem.Challenge.rw_backtape_k81_whole_read) (q := view (OpenLaw.row PySem.Challenge.rw_backtape_k81_whole_read).prog [41]) (H := Bt.hhk) (ob := Bt.hob) (M := 20000) (loose := Bt.hnames) (d := HandSHeadRun.topDef (OpenLaw.row PySem.Challenge.rw_backtape_k81_whole_read).prog 41) (kwd := []) Bt.hob_eq
    (by kernel_rfl) (fun s => by kernel_rfl) Bt.hrun (by kernel_rfl) (by kernel_rfl) (by kernel_rfl) (by rfl) (by first | assumption | decide +kernel) (by decide +kernel) ⟨rfl, rfl, rfl, rfl, rfl, by decide +kernel⟩ ?hw ?hc
  case hw => w_witness2
  case hc =>
    refine Bt.walk_law (l := PySem.Challenge.rw_backtape_k81_whole_read) (n := 63) (k := 65) (x := "_law_script") rfl (by decide) (by kernel_rfl) ⟨rfl, by decide, by decide⟩ ?F
    intro w mg fa h Y G hmg0
    obtain ⟨K, KX, c, cx, ct⟩ := Y
    have hmg : mg ("law" : PySem.Str) = some (.ref fa) := by
      have e : (HandSHeadRun.topDef (OpenLaw.row PySem.Challenge.rw_backtape_k81_whole_read).prog 41).name = ("law" : PySem.Str) := by kernel_rfl
      rw [← e]
      exact hmg0
    obtain ⟨fd, hb, hF⟩ := Bt.hfacts (P := (PySem.Challenge.rw_backtape_k81_whole_read).prog) (w := w) KX G hmg c cx ct
    exact ⟨K, fd, Bt.spOf K Bt.F_law, KX, hb, Bt.sp_law Bt.law_true, hF⟩
