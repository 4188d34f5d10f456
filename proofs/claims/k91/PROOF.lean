import PyProof.Rows.All
import Wide.All
import OpenK.AllK
import Wide.FinOn
import HandS.ForMost
import HandS.ForExc
import HandS.Deep
import HandS.Defaults
import HandS.TryMany
import HandS.IsInst
import HandS.ExcIs
import HandS.ExcValue
import HandS.HotCalls
import HandS.SortInts
import HandS.SetFor
import HandS.Strs
import HandS.SetKeys
import HandS.Conv
import HandS.Codes
import HandS.Flow
import HandS.Style
import HandS.Zip
import HandS.Replace
import HandS.RevRange
import HandS.TupAny
import HandS.TupMul
import HandS.ListItems
import HandS.StrMore
import HandS.CallSlots
import HandS.Head0
import HandS.Head1
import HandS.Head2
import HandS.HeadEnd
import HandS.HeadHook1
import HandS.HeadHook2
import HandS.HeadHook3
import HandS.Small
import HandS.More
import PyProof.ExcBaseAll.ValueError
import KE.GoesMore
import KE.GoesZip
import KE.KRevSl
import HandS.Text
import HandS.RaiseMore
import HandS.Set
import PySem.Challenge.RW_backtape_k91_whole_desks
set_option Elab.async false
set_option linter.all false
set_option maxRecDepth 100000
set_option maxHeartbeats 4000000
namespace Bt
open PySem L2
inductive D where
  | non | bl (b : Bool) | int (i : Int) | str (s : Str) | tup (l : List D) | lst (l : List D) | scr (l : List D) | obj (n : Nat)
inductive Sm where
  | num (n : Int) | name (i : Fin 6) | cell (a : Sm) | add (a b : Sm) | sub (a b : Sm) | mul (a b : Sm) | less (a b : Sm)
inductive Row where
  | set (i : Fin 6) (a : Sm) | put (a b : Sm) | ask (i : Fin 6) | say (a : Sm) | jump (p : Nat) | unless (a : Sm) (p : Nat) | call (p : Nat) | back | stop
structure Sta where
  row : Nat
  nm : List Int
  cl : List Int
  calls : List Nat
  asked : Nat
  said : List Int
  deriving DecidableEq
end Bt
namespace Bt
open PySem L2
mutual
inductive Rep (K : PySem.W.Frag) (F : Hp) (α : List Addr) : D → V → Prop
  | non : Rep K F α .non .non
  | bl (b : Bool) : Rep K F α (.bl b) (.bl b)
  | int (i : Int) : Rep K F α (.int i) (.int i)
  | str (s : Str) : Rep K F α (.str s) (.str s)
  | tup {a : Addr} {xs : List V} {l : List D} : SqT K F a xs → Reps K F α l xs → Rep K F α (.tup l) (.ref a)
  | lst {a : Addr} {xs : List V} {l : List D} : F a = some (.lst xs) → Reps K F α l xs → Rep K F α (.lst l) (.ref a)
  | scr {a : Addr} {xs : List V} {l : List D} : SqL K F a xs → Reps K F α l xs → Rep K F α (.scr l) (.ref a)
  | obj {n : Nat} {a : Addr} : α[n]? = some a → Rep K F α (.obj n) (.ref a)
inductive Reps (K : PySem.W.Frag) (F : Hp) (α : List Addr) : List D → List V → Prop
  | nil : Reps K F α [] []
  | cons {d : D} {v : V} {ds : List D} {vs : List V} : Rep K F α d v → Reps K F α ds vs → Reps K F α (d :: ds) (v :: vs)
end
theorem rdMono {F F' : Hp} (h : ∀ a o, F a = some o → F' a = some o) {a : Addr} {u : HO} (r : Rd F a u) : Rd F' a u := by
  rcases r with r | ⟨o, r⟩
  · exact .inl (h _ _ r)
  · exact .inr ⟨o, h _ _ r⟩
theorem sqtMono {K : PySem.W.Frag} {F F' : Hp} (h : ∀ a o, F a = some o → F' a = some o) {a : Addr} {xs : List V} (r : SqT K F a xs) : SqT K F' a xs := by
  rcases r with r | r
  · exact .inl (rdMono h r)
  · exact .inr r
theorem sqlMono {K : PySem.W.Frag} {F F' : Hp} (h : ∀ a o, F a = some o → F' a = some o) {a : Addr} {xs : List V} (r : SqL K F a xs) : SqL K F' a xs := by
  rcases r with r | r
  · exact .inl (rdMono h r)
  · exact .inr r
section
variable {K : PySem.W.Frag} {F F' : Hp} {α α' : List Addr}
mutual
theorem Rep.mono (h : ∀ a o, F a = some o → F' a = some o) (k : ∀ (n : Nat) (a : Addr), α[n]? = some a → α'[n]? = some a) : ∀ {d : D} {v : V}, Rep K F α d v → Rep K F' α' d v
  | _, _, .non => .non
  | _, _, .bl b => .bl b
  | _, _, .int i => .int i
  | _, _, .str s => .str s
  | _, _, .tup s r => .tup (sqtMono h s) (Reps.mono h k r)
  | _, _, .lst s r => .lst (h _ _ s) (Reps.mono h k r)
  | _, _, .scr s r => .scr (sqlMono h s) (Reps.mono h k r)
  | _, _, .obj e => .obj (k _ _ e)
theorem Reps.mono (h : ∀ a o, F a = some o → F' a = some o) (k : ∀ (n : Nat) (a : Addr), α[n]? = some a → α'[n]? = some a) : ∀ {ds : List D} {vs : List V}, Reps K F α ds vs → Reps K F' α' ds vs
  | _, _, .nil => .nil
  | _, _, .cons r t => .cons (Rep.mono h k r) (Reps.mono h k t)
end
theorem Reps.length : ∀ {ds : List D} {vs : List V}, Reps K F α ds vs → ds.length = vs.length
  | _, _, .nil => rfl
  | _, _, .cons _ t => congrArg (· + 1) (Reps.length t)
theorem Reps.append : ∀ {ds es : List D} {vs us : List V}, Reps K F α ds vs → Reps K F α es us → Reps K F α (ds ++ es) (vs ++ us)
  | _, _, _, _, .nil, s => s
  | _, _, _, _, .cons r t, s => .cons r (Reps.append t s)
theorem Reps.take : ∀ {ds : List D} {vs : List V} (n : Nat), Reps K F α ds vs → Reps K F α (ds.take n) (vs.take n)
  | _, _, 0, _ => .nil
  | _, _, _ + 1, .nil => .nil
  | _, _, n + 1, .cons r t => .cons r (Reps.take n t)
theorem Reps.drop : ∀ {ds : List D} {vs : List V} (n : Nat), Reps K F α ds vs → Reps K F α (ds.drop n) (vs.drop n)
  | _, _, 0, r => r
  | _, _, _ + 1, .nil => .nil
  | _, _, n + 1, .cons _ t => Reps.drop n t
theorem Reps.reverse {ds : List D} {vs : List V} (r : Reps K F α ds vs) : Reps K F α ds.reverse vs.reverse := by
  induction ds generalizing vs with
  | nil => cases r; exact .nil
  | cons d ds ih =>
    cases r with
    | cons a t => simpa using (ih t).append (.cons a .nil)
theorem Reps.set {d : D} {v : V} (r : Rep K F α d v) : ∀ {ds : List D} {vs : List V} (i : Nat), Reps K F α ds vs → Reps K F α (ds.set i d) (vs.set i v)
  | _, _, _, .nil => .nil
  | _, _, 0, .cons _ t => .cons r t
  | _, _, i + 1, .cons q t => .cons q (Reps.set r i t)
theorem Reps.dropLast {ds : List D} {vs : List V} (h : Reps K F α ds vs) : Reps K F α ds.dropLast vs.dropLast := by
  rw [List.dropLast_eq_take, List.dropLast_eq_take, h.length]
  exact h.take _
theorem Reps.rep {ds : List D} {vs : List V} (h : Reps K F α ds vs) : ∀ k : Nat, Reps K F α (List.replicate k ds).flatten (List.replicate k vs).flatten
  | 0 => .nil
  | k + 1 => by simp only [List.replicate_succ, List.flatten_cons]; exact h.append (Reps.rep h k)
end
inductive FV where
  | d (x : D) | l (xs : List D) | k (kvs : List (Key × D))
structure TapeI where
  prog : List Row
  asked : List Int
  every : Nat
  most : Nat
  here : Nat
  far : Option Nat
inductive Ab where
  | tape (t : TapeI)
  | err (a : Addr)
inductive AObj where
  | list (l : List D) | dict (kvs : List (Key × D)) | dead | inst (c : Str) (fs : List (Str × FV)) | abs (x : Ab) | lki (c : Str) (fs : List (Str × FV)) | fdict (kvs : List (Key × D)) | flist (l : List D)
abbrev Sto := List AObj
/-- what an abstract thing says of the instance -/
def AbInv : Ab → Str → List (Str × FV) → Prop := fun _ _ _ => False
structure G where
  F : Hp
  α : List Addr
  own : Addr → Option (Nat × Nat)
  pin : Addr → Option HO
abbrev KReps (K : PySem.W.Frag) (g : G) : List (Key × D) → List (Key × V) → Prop := Paired fun p q => p.1 = q.1 ∧ Rep K g.F g.α p.2 q.2
def FVAt (K : PySem.W.Frag) (g : G) (H : Hp) (n j : Nat) : FV → V → Prop
  | .d x, v => Rep K g.F g.α x v
  | .l xs, v => ∃ a vs, v = .ref a ∧ g.own a = some (n, j + 1) ∧ H a = some (.lst vs) ∧ Reps K g.F g.α xs vs
  | .k kvs, v => ∃ a ks, v = .ref a ∧ g.own a = some (n, j + 1) ∧ H a = some (.dK ks) ∧ KReps K g kvs ks
def FVsAt (K : PySem.W.Frag) (g : G) (H : Hp) (n : Nat) (fs : List (Str × FV)) (vs : List (Str × V)) : Prop :=
  fs.length = vs.length ∧ ∀ (j : Nat) (p : Str × FV) (q : Str × V), fs[j]? = some p → vs[j]? = some q → p.1 = q.1 ∧ FVAt K g H n j p.2 q.2
def InstAt (K : PySem.W.Frag) (g : G) (H : Hp) (n : Nat) (c : Str) (fs : List (Str × FV)) : Prop :=
  ∃ a dx vs, g.α[n]? = some a ∧ g.own a = some (n, 0) ∧ H a = some (.ins (He.ga K c) dx vs) ∧ FVsAt K g H n fs vs
/-- an instance and its dict while they are locked -/
def FVL (K : PySem.W.Frag) (g : G) : FV → V → Prop
  | .d x, v => Rep K g.F g.α x v
  | .l _, _ => False
  | .k kvs, v => ∃ a ks o, v = .ref a ∧ g.pin a = some (.frz o (.dK ks)) ∧ KReps K g kvs ks
def LkAt (K : PySem.W.Frag) (g : G) (n : Nat) (c : Str) (fs : List (Str × FV)) : Prop :=
  ∃ b dx vs, g.α[n]? = some b ∧ g.pin b = some (.ins (He.ga K c) dx vs) ∧ fs.length = vs.length ∧ ∀ (j : Nat) (p : Str × FV) (q : Str × V), fs[j]? = some p → vs[j]? = some q → p.1 = q.1 ∧ FVL K g p.2 q.2
/-- what locks hold -/
def LkO (o : HO) : Prop := (∃ C dx fs, o = .ins C dx fs) ∨ ∃ o' u, o = .frz o' u
def ObjAt (K : PySem.W.Frag) (g : G) (H : Hp) (n : Nat) : AObj → Prop
  | .list l => ∃ a xs, g.α[n]? = some a ∧ g.own a = some (n, 0) ∧ H a = some (.lst xs) ∧ Reps K g.F g.α l xs
  | .dict kvs => ∃ a ks, g.α[n]? = some a ∧ g.own a = some (n, 0) ∧ H a = some (.dK ks) ∧ KReps K g kvs ks
  | .dead => True
  | .inst c fs => InstAt K g H n c fs
  | .abs x => (∃ c fs, AbInv x c fs ∧ InstAt K g H n c fs) ∨ ∃ a, x = .err a ∧ g.α[n]? = some a
  | .lki c fs => LkAt K g n c fs
  | .fdict kvs => ∃ a ks od, g.α[n]? = some a ∧ g.pin a = some (.frz od (.dK ks)) ∧ KReps K g kvs ks
  | .flist l => ∃ a xs od, g.α[n]? = some a ∧ g.pin a = some (.frz od (.lst xs)) ∧ Reps K g.F g.α l xs
structure World (K : PySem.W.Frag) (g : G) (S : Sto) (H : Hp) : Prop where
  sub : ∀ a o, g.F a = some o → H a = some o
  len : g.α.length = S.length
  at_ : ∀ (n : Nat) (o : AObj), S[n]? = some o → ObjAt K g H n o
  free : ∀ b q, g.own b = some q → g.F b = none ∧ (H b).isSome = true
  pin : ∀ b o, g.pin b = some o → H b = some o ∧ g.F b = none ∧ g.own b = none
structure GExt (g g' : G) : Prop where
  f : ∀ a o, g.F a = some o → g'.F a = some o
  a : ∀ (n : Nat) (a : Addr), g.α[n]? = some a → g'.α[n]? = some a
  p : ∀ a o, g.pin a = some o → g'.pin a = some o
theorem GExt.refl (g : G) : GExt g g := ⟨fun _ _ h => h, fun _ _ h => h, fun _ _ h => h⟩
theorem GExt.trans {g g1 g2 : G} (x : GExt g g1) (y : GExt g1 g2) : GExt g g2 := ⟨fun a o h => y.f a o (x.f a o h), fun n a h => y.a n a (x.a n a h), fun a o h => y.p a o (x.p a o h)⟩
abbrev RepG (K : PySem.W.Frag) (g : G) (d : D) (v : V) : Prop := Rep K g.F g.α d v
abbrev RepsG (K : PySem.W.Frag) (g : G) (d : List D) (v : List V) : Prop := Reps K g.F g.α d v
structure GSub (g g' : G) : Prop where
  f : ∀ a o, g.F a = some o → g'.F a = some o
  a : ∀ (n : Nat) (a : Addr), g.α[n]? = some a → g'.α[n]? = some a
theorem GExt.sub {g g' : G} (e : GExt g g') : GSub g g' := ⟨e.f, e.a⟩
theorem GSub.rep {K : PySem.W.Frag} {g g' : G} (x : GSub g g') {d : D} {v : V} (r : RepG K g d v) : RepG K g' d v := r.mono x.f x.a
theorem GSub.reps {K : PySem.W.Frag} {g g' : G} (x : GSub g g') {d : List D} {v : List V} (r : RepsG K g d v) : RepsG K g' d v := r.mono x.f x.a
theorem GExt.rep {K : PySem.W.Frag} {g g' : G} (x : GExt g g') {d : D} {v : V} (r : RepG K g d v) : RepG K g' d v := r.mono x.f x.a
theorem GExt.reps {K : PySem.W.Frag} {g g' : G} (x : GExt g g') {d : List D} {v : List V} (r : RepsG K g d v) : RepsG K g' d v := r.mono x.f x.a
theorem KReps.mono {K : PySem.W.Frag} {g g' : G} (x : GSub g g') {a : List (Key × D)} {b : List (Key × V)} (r : KReps K g a b) : KReps K g' a b := Paired.mapP r fun _ _ z => ⟨z.1, x.rep z.2⟩
theorem InstAt.mono {K : PySem.W.Frag} {g g' : G} {H H' : Hp} {n : Nat} {c : Str} {fs : List (Str × FV)} (x : InstAt K g H n c fs) (e : GSub g g') (k : ∀ b j, g.own b = some (n, j) → g'.own b = some (n, j) ∧ H' b = H b) : InstAt K g' H' n c fs := by
  obtain ⟨a, dx, vs, h1, h2, h3, h4, h5⟩ := x
  refine ⟨a, dx, vs, e.a _ _ h1, (k a 0 h2).1, (k a 0 h2).2.trans h3, h4, fun j p q hp hq => ?_⟩
  obtain ⟨h6, h7⟩ := h5 j p q hp hq
  refine ⟨h6, ?_⟩
  obtain ⟨pn, pf⟩ := p
  cases pf with
  | d x => exact e.rep h7
  | l xs =>
    obtain ⟨a, vs, r1, r2, r3, r4⟩ := h7
    exact ⟨a, vs, r1, (k a _ r2).1, (k a _ r2).2.trans r3, e.reps r4⟩
  | k kvs =>
    obtain ⟨a, vs, r1, r2, r3, r4⟩ := h7
    exact ⟨a, vs, r1, (k a _ r2).1, (k a _ r2).2.trans r3, r4.mono e⟩
theorem LkAt.mono {K : PySem.W.Frag} {g g' : G} {n : Nat} {c : Str} {fs : List (Str × FV)} (x : LkAt K g n c fs) (e : GSub g g') (kp : ∀ b o, g.pin b = some o → LkO o → g'.pin b = some o) : LkAt K g' n c fs := by
  obtain ⟨b, dx, vs, h1, h2, h3, h4⟩ := x
  refine ⟨b, dx, vs, e.a _ _ h1, kp _ _ h2 (.inl ⟨_, _, _, rfl⟩), h3, fun j p q hp hq => ?_⟩
  obtain ⟨h5, h6⟩ := h4 j p q hp hq
  refine ⟨h5, ?_⟩
  obtain ⟨pn, pf⟩ := p
  cases pf with
  | d x => exact e.rep h6
  | l xs => exact h6
  | k kvs =>
    obtain ⟨a, ks, o, r1, r2, r3⟩ := h6
    exact ⟨a, ks, o, r1, kp _ _ r2 (.inr ⟨_, _, rfl⟩), r3.mono e⟩
theorem ObjAt.monoS {K : PySem.W.Frag} {g g' : G} {H H' : Hp} {n : Nat} {o : AObj} (x : ObjAt K g H n o) (e : GSub g g') (k : ∀ b j, g.own b = some (n, j) → g'.own b = some (n, j) ∧ H' b = H b) (kp : ∀ b o, g.pin b = some o → LkO o → g'.pin b = some o) : ObjAt K g' H' n o := by
  cases o with
  | list l =>
    obtain ⟨a, xs, h1, h2, h3, h4⟩ := x
    exact ⟨a, xs, e.a _ _ h1, (k a _ h2).1, (k a _ h2).2.trans h3, e.reps h4⟩
  | dict kvs =>
    obtain ⟨a, xs, h1, h2, h3, h4⟩ := x
    exact ⟨a, xs, e.a _ _ h1, (k a _ h2).1, (k a _ h2).2.trans h3, h4.mono e⟩
  | dead => trivial
  | inst c fs => exact InstAt.mono x e k
  | abs y =>
    rcases x with ⟨c, fs, h1, h2⟩ | ⟨a, h1, h2⟩
    · exact .inl ⟨c, fs, h1, InstAt.mono h2 e k⟩
    · exact .inr ⟨a, h1, e.a _ _ h2⟩
  | lki c fs => exact LkAt.mono x e kp
  | fdict kvs =>
    obtain ⟨a, ks, od, h1, h2, h3⟩ := x
    exact ⟨a, ks, od, e.a _ _ h1, kp _ _ h2 (.inr ⟨_, _, rfl⟩), h3.mono e⟩
  | flist l =>
    obtain ⟨a, xs, od, h1, h2, h3⟩ := x
    exact ⟨a, xs, od, e.a _ _ h1, kp _ _ h2 (.inr ⟨_, _, rfl⟩), e.reps h3⟩
theorem ObjAt.mono {K : PySem.W.Frag} {g g' : G} {H H' : Hp} {n : Nat} {o : AObj} (x : ObjAt K g H n o) (e : GExt g g') (k : ∀ b j, g.own b = some (n, j) → g'.own b = some (n, j) ∧ H' b = H b) : ObjAt K g' H' n o := x.monoS e.sub k fun b o h _ => e.p b o h
section
variable {K : PySem.W.Frag} {g : G} {S : Sto} {H : Hp}
/-- a new frozen thing -/
def G.add (g : G) (p : Addr) (o : HO) : G := { g with F := upd g.F p o }
theorem World.fresh (w : World K g S H) {p : Addr} (hp : H p = none) : g.F p = none := by
  cases e : g.F p with
  | none => rfl
  | some o => rw [w.sub p o e] at hp; cases hp
theorem World.notown (w : World K g S H) {p b : Addr} {q : Nat × Nat} (hp : H p = none) (h : g.own b = some q) : b ≠ p := by
  intro e; subst e
  have := (w.free b q h).2
  rw [hp] at this; cases this
theorem World.add (w : World K g S H) {p : Addr} {o : HO} (hp : H p = none) : World K (g.add p o) S (upd H p o) ∧ GExt g (g.add p o) := by
  have ex : GExt g (g.add p o) := ⟨fun a u h => by
    show upd g.F p o a = some u
    rw [upd_ne (ne_of_none h (w.fresh hp))]; exact h, fun _ _ h => h, fun _ _ h => h⟩
  refine ⟨⟨fun a u h => ?_, w.len, fun n u h => (w.at_ n u h).mono ex fun b j hb => ⟨hb, by rw [upd_ne (w.notown hp hb)]⟩, fun b q hb => ?_, fun b u hb => ?_⟩, ex⟩
  · have h' : upd g.F p o a = some u := h
    by_cases e : a = p
    · subst e; rw [upd_same] at h' ⊢; exact h'
    · rw [upd_ne e] at h' ⊢; exact w.sub a u h'
  · have ne := w.notown hp hb
    refine ⟨?_, by rw [upd_ne ne]; exact (w.free b q hb).2⟩
    show upd g.F p o b = none
    rw [upd_ne ne]; exact (w.free b q hb).1
  · obtain ⟨h1, h2, h3⟩ := w.pin b u hb
    have ne : b ≠ p := ne_of_none h1 hp
    refine ⟨by rw [upd_ne ne]; exact h1, ?_, h3⟩
    show upd g.F p o b = none
    rw [upd_ne ne]; exact h2
/-- a new thing that may change -/
def G.obj (g : G) (p : Addr) : G := { g with α := g.α ++ [p], own := fun b => if b = p then some (g.α.length, 0) else g.own b }
end
end Bt
namespace Bt
open PySem L2
abbrev Env := List (Option D)
inductive Exc where
  | moment | run | thing | text
  deriving DecidableEq
inductive ER where
  | ok (d : D) (S : Sto) | exc (k : Exc) (S : Sto) | bad
def ER.bind (r : ER) (f : D → Sto → ER) : ER := match r with
  | .ok d S => f d S
  | .exc k S => .exc k S
  | .bad => .bad
@[simp] theorem ER.bind_ok (d : D) (S : Sto) (f : D → Sto → ER) : (ER.ok d S).bind f = f d S := rfl
@[simp] theorem ER.bind_exc (k : Exc) (S : Sto) (f : D → Sto → ER) : (ER.exc k S).bind f = .exc k S := rfl
@[simp] theorem ER.bind_bad (f : D → Sto → ER) : ER.bad.bind f = .bad := rfl
abbrev Ex := Env → Sto → ER
inductive SR where
  | nx (ρ : Env) (S : Sto) | rt (d : D) (S : Sto) | bk (ρ : Env) (S : Sto) | ct (ρ : Env) (S : Sto) | exc (k : Exc) (ρ : Env) (S : Sto) | bad
abbrev Sx := Env → Sto → SR
def lift1 (o : Option D) (S : Sto) : ER := match o with
  | some d => .ok d S
  | none => .bad
@[simp] theorem lift1_some (d : D) (S : Sto) : lift1 (some d) S = .ok d S := rfl
@[simp] theorem lift1_none (S : Sto) : lift1 none S = .bad := rfl
def excN : Exc → Str
  | .moment => "NoMoment" | .run => "NoRun" | .thing => "NoThing" | .text => "NoText"
def excV (K : PySem.W.Frag) (k : Exc) : Value := .ref (He.ga K (excN k))
/-- slots -/
structure RelSt (K : PySem.W.Frag) (g : G) (σ : L2.St) (ρ : Env) : Prop where
  len : ρ.length = σ.length
  at_ : ∀ (i : Nat) (d : D), ρ[i]? = some (some d) → ∃ v, σ[i]? = some (some v) ∧ RepG K g d v
section
variable {K : PySem.W.Frag} {g g' : G} {σ : L2.St} {ρ : Env}
theorem RelSt.mono (r : RelSt K g σ ρ) (e : GExt g g') : RelSt K g' σ ρ := ⟨r.len, fun i d h => by
  obtain ⟨v, h1, h2⟩ := r.at_ i d h
  exact ⟨v, h1, e.rep h2⟩⟩
theorem RelSt.set (r : RelSt K g σ ρ) {i : Nat} {d : D} {v : V} (h : RepG K g d v) : RelSt K g (σ.set i (some v)) (ρ.set i (some d)) := by
  refine ⟨by simp [r.len], fun j e hj => ?_⟩
  by_cases q : j = i
  · subst q
    have hl : j < ρ.length := by
      have := (List.getElem?_eq_some_iff.mp hj).1
      simpa using this
    rw [List.getElem?_set_self hl] at hj
    cases hj
    exact ⟨v, List.getElem?_set_self (r.len ▸ hl), h⟩
  · rw [List.getElem?_set_ne (Ne.symm q)] at hj
    rw [List.getElem?_set_ne (Ne.symm q)]
    exact r.at_ j e hj
end
/-- what is wanted behind an expression -/
def Post (K : PySem.W.Frag) (W : WX) (σ : L2.St) (g : G) (Q : VK) : ER → Prop
  | .ok d S => ∀ v g' H', GExt g g' → World K g' S H' → RepG K g' d v → Q v H'
  | .exc k S => ∀ g' H', GExt g g' → World K g' S H' → W (excV K k) none σ H'
  | .bad => False
def PostT (K : PySem.W.Frag) (W : WX) (σ : L2.St) (g : G) (Q : Bool → Hp → Prop) : ER → Prop
  | .ok (.bl b) S => ∀ g' H', GExt g g' → World K g' S H' → Q b H'
  | .exc k S => ∀ g' H', GExt g g' → World K g' S H' → W (excV K k) none σ H'
  | _ => False
def PostA (K : PySem.W.Frag) (W : WX) (σ : L2.St) (g : G) (Q : List V → Hp → Prop) : ER → Prop
  | .ok (.tup ds) S => ∀ vs g' H', GExt g g' → World K g' S H' → RepsG K g' ds vs → Q vs H'
  | .exc k S => ∀ g' H', GExt g g' → World K g' S H' → W (excV K k) none σ H'
  | _ => False
def PostS (K : PySem.W.Frag) (W : WX) (g : G) (N : L2.Ends) : SR → Prop
  | .nx ρ S => ∀ σ' g' H', GExt g g' → World K g' S H' → RelSt K g' σ' ρ → N.nx σ' H'
  | .rt d S => ∀ v g' H', GExt g g' → World K g' S H' → RepG K g' d v → N.rt v H'
  | .bk ρ S => ∀ σ' g' H', GExt g g' → World K g' S H' → RelSt K g' σ' ρ → N.bk σ' H'
  | .ct ρ S => ∀ σ' g' H', GExt g g' → World K g' S H' → RelSt K g' σ' ρ → N.ct σ' H'
  | .exc k ρ S => ∀ σ' g' H', GExt g g' → World K g' S H' → RelSt K g' σ' ρ → W (excV K k) none σ' H'
  | .bad => False
section
variable {K : PySem.W.Frag} {W : WX} {σ : L2.St} {g g' : G} {Q Q' : VK} {r : ER}
theorem Post.ext (h : Post K W σ g Q r) (e : GExt g g') : Post K W σ g' Q r := by
  cases r with
  | ok d S => exact fun v g2 H x y z => h v g2 H (e.trans x) y z
  | exc k S => exact fun g2 H x y => h g2 H (e.trans x) y
  | bad => exact h
theorem PostT.ext {Q : Bool → Hp → Prop} (h : PostT K W σ g Q r) (e : GExt g g') : PostT K W σ g' Q r := by
  cases r with
  | ok d S =>
    cases d with
    | bl b => exact fun g2 H x y => h g2 H (e.trans x) y
    | _ => exact h
  | exc k S => exact fun g2 H x y => h g2 H (e.trans x) y
  | bad => exact h
theorem PostA.ext {Q : List V → Hp → Prop} (h : PostA K W σ g Q r) (e : GExt g g') : PostA K W σ g' Q r := by
  cases r with
  | ok d S =>
    cases d with
    | tup b => exact fun v g2 H x y z => h v g2 H (e.trans x) y z
    | _ => exact h
  | exc k S => exact fun g2 H x y => h g2 H (e.trans x) y
  | bad => exact h
theorem PostS.ext {N : L2.Ends} {r : SR} (h : PostS K W g N r) (e : GExt g g') : PostS K W g' N r := by
  cases r with
  | nx ρ S => exact fun v g2 H x y z => h v g2 H (e.trans x) y z
  | rt ρ S => exact fun v g2 H x y z => h v g2 H (e.trans x) y z
  | bk ρ S => exact fun v g2 H x y z => h v g2 H (e.trans x) y z
  | ct ρ S => exact fun v g2 H x y z => h v g2 H (e.trans x) y z
  | exc k ρ S => exact fun v g2 H x y z => h v g2 H (e.trans x) y z
  | bad => exact h
/-- a value is there -/
theorem Post.val {d : D} {S : Sto} {v : V} {H : Hp} (h : Post K W σ g Q (.ok d S)) (w : World K g S H) (r : RepG K g d v) : Q v H := h v g H (GExt.refl g) w r
end
def eVar (i : Nat) : Ex := fun ρ S => match ρ[i]? with
  | some (some d) => .ok d S
  | _ => .bad
def eC (d : D) : Ex := fun _ S => .ok d S
section
variable {X : Cx} {W : WX} {pos : Pos} {a b c : Expr} {fa fb fc : Ex}
def eOp (F : Sto → D → D → Option D) (fa fb : Ex) : Ex := fun ρ S => (fa ρ S).bind fun x S1 => (fb ρ S1).bind fun y S2 => lift1 (F S2 x y) S2
def eUn (F : Sto → D → Option D) (fa : Ex) : Ex := fun ρ S => (fa ρ S).bind fun x S1 => lift1 (F S1 x) S1
/-- and, or, not: of truths -/
def eAnd (fa fb : Ex) : Ex := fun ρ S => (fa ρ S).bind fun x S1 => match x with
  | .bl b => (match b with | true => fb ρ S1 | false => .ok (.bl false) S1)
  | _ => .bad
def eOr (fa fb : Ex) : Ex := fun ρ S => (fa ρ S).bind fun x S1 => match x with
  | .bl b => (match b with | true => .ok (.bl true) S1 | false => fb ρ S1)
  | _ => .bad
def eNot (fa : Ex) : Ex := fun ρ S => (fa ρ S).bind fun x S1 => match x with
  | .bl b => .ok (.bl !b) S1
  | _ => .bad
def eIf (fc fa fb : Ex) : Ex := fun ρ S => (fc ρ S).bind fun x S1 => match x with
  | .bl b => (match b with | true => fa ρ S1 | false => fb ρ S1)
  | _ => .bad
variable {rest : List Expr}
/-- a < b < c -/
def eChain (F F' : Sto → D → D → Option D) (fa fb fc : Ex) : Ex := fun ρ S => (fa ρ S).bind fun x S1 => (fb ρ S1).bind fun y S2 => (lift1 (F S2 x y) S2).bind fun z S3 => match z with
  | .bl b => (match b with | true => (fc ρ S3).bind fun u S4 => lift1 (F' S4 y u) S4 | false => .ok (.bl false) S3)
  | _ => .bad
def eNil : Ex := fun _ S => .ok (.tup []) S
def eCons (fa fr : Ex) : Ex := fun ρ S => (fa ρ S).bind fun x S1 => (fr ρ S1).bind fun t S2 => match t with
  | .tup l => .ok (.tup (x :: l)) S2
  | _ => .bad
/-- the greatest length -/
def lim : Nat := 1000000
def eTup (f : Ex) : Ex := fun ρ S => (f ρ S).bind fun t S1 => match t with
  | .tup l => (if l.length ≤ lim then .ok (.tup l) S1 else .bad)
  | _ => .bad
/-- a list that is never changed -/
def eLst (f : Ex) : Ex := fun ρ S => (f ρ S).bind fun t S1 => match t with
  | .tup l => (if l.length ≤ lim then .ok (.lst l) S1 else .bad)
  | _ => .bad
end
end Bt
namespace Bt
open PySem L2
def ER.toS (r : ER) (ρ : Env) (f : D → Sto → SR) : SR := match r with
  | .ok d S => f d S
  | .exc k S => .exc k ρ S
  | .bad => .bad
@[simp] theorem ER.toS_ok (d : D) (S : Sto) (ρ : Env) (f : D → Sto → SR) : (ER.ok d S).toS ρ f = f d S := rfl
@[simp] theorem ER.toS_exc (k : Exc) (S : Sto) (ρ : Env) (f : D → Sto → SR) : (ER.exc k S).toS ρ f = .exc k ρ S := rfl
@[simp] theorem ER.toS_bad (ρ : Env) (f : D → Sto → SR) : ER.bad.toS ρ f = .bad := rfl
def SR.seq (r : SR) (f : Sx) : SR := match r with
  | .nx ρ S => f ρ S
  | .rt d S => .rt d S
  | .bk ρ S => .bk ρ S
  | .ct ρ S => .ct ρ S
  | .exc k ρ S => .exc k ρ S
  | .bad => .bad
@[simp] theorem SR.seq_nx (ρ : Env) (S : Sto) (f : Sx) : (SR.nx ρ S).seq f = f ρ S := rfl
@[simp] theorem SR.seq_rt (d : D) (S : Sto) (f : Sx) : (SR.rt d S).seq f = .rt d S := rfl
@[simp] theorem SR.seq_bk (ρ : Env) (S : Sto) (f : Sx) : (SR.bk ρ S).seq f = .bk ρ S := rfl
@[simp] theorem SR.seq_ct (ρ : Env) (S : Sto) (f : Sx) : (SR.ct ρ S).seq f = .ct ρ S := rfl
@[simp] theorem SR.seq_exc (k : Exc) (ρ : Env) (S : Sto) (f : Sx) : (SR.exc k ρ S).seq f = .exc k ρ S := rfl
@[simp] theorem SR.seq_bad (f : Sx) : SR.bad.seq f = .bad := rfl
def sSeq (f g : Sx) : Sx := fun ρ S => (f ρ S).seq g
def sSet (i : Nat) (fe : Ex) : Sx := fun ρ S => (fe ρ S).toS ρ fun d S1 => .nx (ρ.set i (some d)) S1
def sExpr (fe : Ex) : Sx := fun ρ S => (fe ρ S).toS ρ fun _ S1 => .nx ρ S1
def sRet (fe : Ex) : Sx := fun ρ S => (fe ρ S).toS ρ fun d S1 => .rt d S1
def sIf (fc : Ex) (f g : Sx) : Sx := fun ρ S => (fc ρ S).toS ρ fun d S1 => match d with
  | .bl b => (match b with | true => f ρ S1 | false => g ρ S1)
  | _ => .bad
/-- the iterator yields these -/
def ItOk (K : PySem.W.Frag) (g : G) (J : It) (xs : List D) : Prop :=
  ∀ g' S' H' (i : Nat), GExt g g' → World K g' S' H' →
    (∀ d, xs[i]? = some d → J.go i H' ∧ ∀ x H'', J.yld i H' x H'' → ∃ g'', GExt g' g'' ∧ World K g'' S' H'' ∧ RepG K g'' d x) ∧ (xs[i]? = none → J.stop i H')
def PostI (K : PySem.W.Frag) (W : WX) (σ : L2.St) (g : G) (R : It → Hp → Prop) : ER → Prop
  | .ok (.tup xs) S => ∀ J g' H', GExt g g' → World K g' S H' → ItOk K g' J xs → R J H'
  | .exc k S => ∀ g' H', GExt g g' → World K g' S H' → W (excV K k) none σ H'
  | _ => False
section
variable {K : PySem.W.Frag} {W : WX} {σ : L2.St} {g g' : G} {r : ER} {R : It → Hp → Prop} {Q : VK}
theorem PostI.ext (h : PostI K W σ g R r) (e : GExt g g') : PostI K W σ g' R r := by
  cases r with
  | ok d S =>
    cases d with
    | tup b => exact fun v g2 H x y z => h v g2 H (e.trans x) y z
    | _ => exact h
  | exc k S => exact fun g2 H x y => h g2 H (e.trans x) y
  | bad => exact h
end
def iTupl (fe : Ex) : Ex := fun ρ S => (fe ρ S).bind fun d S1 => match d with
  | .tup l => .ok (.tup l) S1
  | _ => .bad
/-- alike but at these slots -/
def Off (ws : List Nat) (σ σ' : L2.St) : Prop := σ'.length = σ.length ∧ ∀ i, i ∉ ws → σ'[i]? = σ[i]?
theorem Off.trans {ws us : List Nat} {σ σ1 σ2 : L2.St} (a : Off ws σ σ1) (b : Off us σ1 σ2) : Off (ws ++ us) σ σ2 := ⟨b.1.trans a.1, fun i h => by
  simp only [List.mem_append, not_or] at h
  exact (b.2 i h.2).trans (a.2 i h.1)⟩
end Bt
namespace Bt
open PySem PySem.Spec PyProof.Rows L2
abbrev Fn := List D → Sto → ER
def PostF (K : PySem.W.Frag) (g : G) (Q : VK) (E : XK) : ER → Prop
  | .ok d S => ∀ v g' H', GExt g g' → World K g' S H' → RepG K g' d v → Q v H'
  | .exc k S => ∀ g' H', GExt g g' → World K g' S H' → E (excV K k) none H'
  | .bad => False
def spOf (K : PySem.W.Frag) (F : Fn) : Sp := fun vs H Q E => ∃ g S ds, World K g S H ∧ RepsG K g ds vs ∧ PostF K g Q E (F ds S)
def SR.toE (r : SR) : ER := match r with
  | .nx _ S => .ok .non S
  | .rt d S => .ok d S
  | .exc k _ S => .exc k S
  | _ => .bad
@[simp] theorem SR.toE_nx (ρ : Env) (S : Sto) : (SR.nx ρ S).toE = .ok .non S := rfl
@[simp] theorem SR.toE_rt (d : D) (S : Sto) : (SR.rt d S).toE = .ok d S := rfl
@[simp] theorem SR.toE_exc (k : Exc) (ρ : Env) (S : Sto) : (SR.exc k ρ S).toE = .exc k S := rfl
/-- a def of the text that does F, called at most so deep -/
structure Cal (P : Program) (w : PySem.World) (K : PySem.W.Frag) (mg : Str → Option Value) (base : Heap) (x : Str) (k : Nat) (F : Fn) : Prop where
  ex : ∃ f fd ps, mg x = some (.ref f) ∧ PySem.W.keepIn K (.ref f) = true ∧ Binds K fd ps [] ∧ FnOk P w K mg base (L2.CX P w) k f fd ps (spOf K F)
def eCall (F : Fn) (fa : Ex) : Ex := fun ρ S => (fa ρ S).bind fun t S1 => match t with
  | .tup l => F l S1
  | _ => .bad
end Bt
namespace Bt
open PySem PySem.Spec PyProof.Rows L2
def seqOf (S : Sto) : D → Option (List D)
  | .lst l => some l
  | .scr l => some l
  | .obj n => (match S[n]? with
    | some (.list l) => some l
    | _ => none)
  | _ => none
def opAdd : Sto → D → D → Option D := fun _ x y => match x, y with
  | .int i, .int j => some (.int (i + j))
  | .str a, .str b => if a.length + b.length ≤ lim then some (.str (a ++ b)) else none
  | .tup a, .tup b => if a.length + b.length ≤ lim then some (.tup (a ++ b)) else none
  | .lst a, .lst b => if a.length + b.length ≤ lim then some (.lst (a ++ b)) else none
  | _, _ => none
def opMul : Sto → D → D → Option D := fun _ x y => match x, y with
  | .int i, .int j => if i.natAbs < 18446744073709551616 ∨ j.natAbs < 18446744073709551616 then some (.int (i * j)) else none
  | .tup a, .int j => if a.length ≠ 0 ∧ 2 ≤ j ∧ j ≤ 1000 ∧ a.length ≤ 1000 then some (.tup (List.replicate j.toNat a).flatten) else none
  | .lst a, .int j => if -1000 ≤ j ∧ j ≤ 1000 ∧ a.length ≤ 1000 then some (.lst (List.replicate j.toNat a).flatten) else none
  | _, _ => none
mutual
def D.toP : D → PyData
  | .non => .none
  | .bl b => .bool b
  | .int i => .int i
  | .str s => .str s
  | .tup l => .tuple (D.toPs l)
  | .lst l => .list (D.toPs l)
  | .scr l => .list (D.toPs l)
  | .obj _ => .none
def D.toPs : List D → List PyData
  | [] => []
  | d :: ds => D.toP d :: D.toPs ds
end
mutual
/-- no object of the store within, all texts in order -/
def D.wf : D → Bool
  | .str s => PyData.strOk s
  | .tup l => D.wfs l
  | .lst l => D.wfs l
  | .scr l => D.wfs l
  | .obj _ => false
  | _ => true
def D.wfs : List D → Bool
  | [] => true
  | d :: ds => D.wf d && D.wfs ds
end
mutual
def D.dep : D → Nat
  | .tup l => D.deps l + 1
  | .lst l => D.deps l + 1
  | .scr l => D.deps l + 1
  | _ => 0
def D.deps : List D → Nat
  | [] => 0
  | d :: ds => max (D.dep d) (D.deps ds)
end
def D.good (d : D) : Bool := d.wf && decide (d.dep ≤ 60)
def D.eqv (x y : D) : Bool := PyData.eqv x.toP y.toP
def opEq : Sto → D → D → Option D := fun _ x y => if x.good && y.good then some (.bl (x.eqv y)) else none
def opNe : Sto → D → D → Option D := fun _ x y => if x.good && y.good then some (.bl !(x.eqv y)) else none
end Bt
namespace Bt
open PySem PySem.Spec PyProof.Rows L2
def opIx : Sto → D → D → Option D := fun S x y => match y with
  | .int i => (match x with
    | .tup l => atI l i
    | .str s => if s.length ≤ lim then (atI s.cps.toList i).map fun c => .str ⟨#[c]⟩ else none
    | _ => (match seqOf S x with
      | some l => atI l i
      | none => none))
  | _ => none
def eNo : Ex := fun _ S => .ok .non S
def eInt (f : Ex) : Ex := fun ρ S => (f ρ S).bind fun d S1 => match d with
  | .int i => .ok (.int i) S1
  | _ => .bad
def cutD (l : List D) (lo hi : Option Int) : List D := (l.drop (HT.sIx l.length 0 lo)).take (HT.sIx l.length l.length hi - HT.sIx l.length 0 lo)
def partD (d : D) (k : Option Int → ER) : ER := match d with
  | .non => k none
  | .int i => k (some i)
  | _ => .bad
@[simp] theorem partD_non (k : Option Int → ER) : partD .non k = k none := rfl
@[simp] theorem partD_int (i : Int) (k : Option Int → ER) : partD (.int i) k = k (some i) := rfl
def opSl (x : D) (lo hi : Option Int) : Option D := match x with
  | .tup l => some (.tup (cutD l lo hi))
  | .lst l => some (.lst (cutD l lo hi))
  | .scr l => some (.lst (cutD l lo hi))
  | .str s => if s.length ≤ lim then some (.str (cutS s lo hi)) else none
  | _ => none
def eSl (fx flo fhi : Ex) : Ex := fun ρ S => (fx ρ S).bind fun x S1 => (flo ρ S1).bind fun dl S2 => partD dl fun l => (fhi ρ S2).bind fun dh S3 => partD dh fun h => lift1 (opSl x l h) S3
def eIsN (neg : Bool) (fa : Ex) : Ex := fun ρ S => (fa ρ S).bind fun d S1 => match d with
  | .non => .ok (.bl !neg) S1
  | _ => .ok (.bl neg) S1
end Bt
namespace Bt
open PySem PySem.Spec PyProof.Rows L2
def eCallB (F : Sto → List D → Option D) (fa : Ex) : Ex := fun ρ S => (fa ρ S).bind fun t S1 => match t with
  | .tup l => lift1 (F S1 l) S1
  | _ => .bad
/-- one argument -/
def f1 (F : Sto → D → Option D) : Sto → List D → Option D := fun S l => match l with
  | [d] => F S d
  | _ => none
def bLen : Sto → D → Option D := fun S x => match x with
  | .tup l => some (.int l.length)
  | .str s => if s.length ≤ lim then some (.int s.length) else none
  | _ => (match seqOf S x with
    | some l => some (.int l.length)
    | none => none)
def bList : Sto → D → Option D := fun S x => match x with
  | .tup l => some (.lst l)
  | _ => (match seqOf S x with
    | some l => some (.lst l)
    | none => none)
def bTuple : Sto → D → Option D := fun S x => match x with
  | .tup l => some (.tup l)
  | _ => (match seqOf S x with
    | some l => some (.tup l)
    | none => none)
inductive Ty where
  | int | bool | str | tuple | list | none
  deriving DecidableEq
def tyOf (S : Sto) : D → Option Ty
  | .non => some .none
  | .bl _ => some .bool
  | .int _ => some .int
  | .str _ => some .str
  | .tup _ => some .tuple
  | .lst _ => some .list
  | _ => none
def isTy (t c : Ty) : Bool := decide (t = c) || (decide (t = .bool) && decide (c = .int))
def eIsT (c : Ty) (fa : Ex) : Ex := fun ρ S => (fa ρ S).bind fun d S1 => match tyOf S1 d with
  | some t => .ok (.bl (isTy t c)) S1
  | none => .bad
end Bt
namespace Bt
open PySem PySem.Spec PyProof.Rows L2
def isStrD : Sto → D → Bool := fun _ d => match d with | .str _ => true | _ => false
/-- o.m(e): chk the receiver's type, F what is done -/
def eMeth (chk : Sto → D → Bool) (F : Sto → D → D → ER) (fo fa : Ex) : Ex := fun ρ S => (fo ρ S).bind fun o S1 => match chk S1 o with
  | true => (fa ρ S1).bind fun a S2 => F S2 o a
  | false => .bad
end Bt
namespace Bt
open PySem PySem.Spec PyProof.Rows L2
def valD : List (Key × D) → Key → Option D
  | [], _ => none
  | p :: r, k => if p.1 = k then some p.2 else valD r k
def putD (kvs : List (Key × D)) (k : Key) (v : D) : List (Key × D) :=
  if (kvs.any fun kv => decide (kv.1 = k)) = true then kvs.map (fun kv => if kv.1 = k then (kv.1, v) else kv) else kvs ++ [(k, v)]
section
variable {K : PySem.W.Frag} {g : G}
theorem KReps.val {kvs : List (Key × D)} {ks : List (Key × V)} (r : KReps K g kvs ks) (k : Key) : (valD kvs k = none → valV ks k = none) ∧ ∀ d, valD kvs k = some d → ∃ v, valV ks k = some v ∧ RepG K g d v := by
  unfold KReps at r
  induction r with
  | nil => exact ⟨fun _ => rfl, fun d h => nomatch h⟩
  | @cons p q ps qs h t ih =>
    obtain ⟨t1, t2⟩ := ih
    unfold valD
    by_cases e : p.1 = k
    · rw [if_pos e]
      refine ⟨(fun z => nomatch z), fun d z => ?_⟩
      cases z
      exact ⟨q.2, valV_pos (h.1.symm.trans e), h.2⟩
    · rw [if_neg e]
      have e2 : ¬ q.1 = k := fun z => e (h.1.trans z)
      refine ⟨fun z => (valV_neg e2).trans (t1 z), fun d z => ?_⟩
      obtain ⟨v, h1, h2⟩ := t2 d z
      exact ⟨v, (valV_neg e2).trans h1, h2⟩
theorem KReps.any {kvs : List (Key × D)} {ks : List (Key × V)} (r : KReps K g kvs ks) (k : Key) : (kvs.any fun kv => decide (kv.1 = k)) = ks.any fun kv => decide (kv.1 = k) := by
  unfold KReps at r
  induction r with
  | nil => rfl
  | @cons p q ps qs h t ih => simp only [List.any_cons, ih, h.1]
theorem KReps.put {kvs : List (Key × D)} {ks : List (Key × V)} (r : KReps K g kvs ks) (k : Key) {d : D} {v : V} (rv : RepG K g d v) : KReps K g (putD kvs k d) (putK ks k v) := by
  unfold putD putK
  rw [r.any k]
  cases (ks.any fun kv => decide (kv.1 = k)) with
  | true =>
    simp only [if_pos]
    unfold KReps at r ⊢
    induction r with
    | nil => exact .nil
    | @cons p q ps qs h t ih =>
      refine .cons ?_ ih
      dsimp only
      by_cases e : p.1 = k
      · rw [if_pos e, if_pos (h.1.symm.trans e)]; exact ⟨h.1, rv⟩
      · rw [if_neg e, if_neg (fun z => e (h.1.trans z))]; exact h
  | false =>
    simp only [Bool.false_eq_true, if_false]
    unfold KReps at r ⊢
    induction r with
    | nil => exact .cons ⟨rfl, rv⟩ .nil
    | cons h t ih => exact .cons h ih
end
end Bt
namespace Bt
open PySem PySem.Spec PyProof.Rows L2
section
variable {P : Program} {w : PySem.World} {K : PySem.W.Frag} {mg : Str → Option Value} {base : Heap} {x : Str} {st : Stmt} {N ps : List Str} {k : Nat} {m : Sx}
theorem Cal.mono {F : Fn} {j k : Nat} (c : Cal P w K mg base x j F) (h : j ≤ k) : Cal P w K mg base x k F := by
  obtain ⟨f, fd, ps, h1, h2, h3, h4⟩ := c.ex
  exact ⟨f, fd, ps, h1, h2, h3, h4.mono h⟩
end
end Bt
namespace Bt
open PySem PySem.Spec PyProof.Rows L2
theorem ofString_inj {a b : String} : Str.ofString a = Str.ofString b ↔ a = b := by
  rw [Str.ofString_eq_toList, Str.ofString_eq_toList]
  constructor
  · intro h
    have h1 := congrArg (fun s : Str => s.cps.toList) h
    simp only at h1
    have inj : Function.Injective Char.toNat := fun x y e => Char.ext (UInt32.toNat_inj.mp e)
    exact String.toList_inj.mp ((List.map_inj_right fun x y e => inj e).mp h1)
  · intro h; rw [h]
section
variable {ρ : Env} {S : Sto}
@[simp] theorem s_var0 {d : D} {r : Env} : eVar 0 (some d :: r) S = .ok d S := rfl
@[simp] theorem s_varS {i : Nat} {o : Option D} {r : Env} : eVar (i + 1) (o :: r) S = eVar i r S := rfl
@[simp] theorem s_c {d : D} : eC d ρ S = .ok d S := rfl
@[simp] theorem s_op {F fa fb} : eOp F fa fb ρ S = (fa ρ S).bind fun x S1 => (fb ρ S1).bind fun y S2 => lift1 (F S2 x y) S2 := rfl
@[simp] theorem s_un {F fa} : eUn F fa ρ S = (fa ρ S).bind fun x S1 => lift1 (F S1 x) S1 := rfl
@[simp] theorem s_nil : eNil ρ S = .ok (.tup []) S := rfl
@[simp] theorem s_cons {fa fr} : eCons fa fr ρ S = (fa ρ S).bind fun x S1 => (fr ρ S1).bind fun t S2 => match t with | .tup l => .ok (.tup (x :: l)) S2 | _ => .bad := rfl
@[simp] theorem s_seq {f g} : sSeq f g ρ S = (f ρ S).seq g := rfl
@[simp] theorem s_set {i fe} : sSet i fe ρ S = (fe ρ S).toS ρ fun d S1 => .nx (ρ.set i (some d)) S1 := rfl
@[simp] theorem s_ret {fe} : sRet fe ρ S = (fe ρ S).toS ρ fun d S1 => .rt d S1 := rfl
@[simp] theorem s_expr {fe} : sExpr fe ρ S = (fe ρ S).toS ρ fun _ S1 => .nx ρ S1 := rfl
@[simp] theorem s_if {fc f g} : sIf fc f g ρ S = (fc ρ S).toS ρ fun d S1 => match d with | .bl b => (match b with | true => f ρ S1 | false => g ρ S1) | _ => .bad := rfl
@[simp] theorem s_and {fa fb} : eAnd fa fb ρ S = (fa ρ S).bind fun x S1 => match x with | .bl b => (match b with | true => fb ρ S1 | false => .ok (.bl false) S1) | _ => .bad := rfl
@[simp] theorem s_or {fa fb} : eOr fa fb ρ S = (fa ρ S).bind fun x S1 => match x with | .bl b => (match b with | true => .ok (.bl true) S1 | false => fb ρ S1) | _ => .bad := rfl
@[simp] theorem s_not {fa} : eNot fa ρ S = (fa ρ S).bind fun x S1 => match x with | .bl b => .ok (.bl !b) S1 | _ => .bad := rfl
@[simp] theorem s_ife {fc fa fb} : eIf fc fa fb ρ S = (fc ρ S).bind fun x S1 => match x with | .bl b => (match b with | true => fa ρ S1 | false => fb ρ S1) | _ => .bad := rfl
@[simp] theorem s_chain {F F' fa fb fc} : eChain F F' fa fb fc ρ S = (fa ρ S).bind fun x S1 => (fb ρ S1).bind fun y S2 => (lift1 (F S2 x y) S2).bind fun z S3 => match z with
  | .bl b => (match b with | true => (fc ρ S3).bind fun u S4 => lift1 (F' S4 y u) S4 | false => .ok (.bl false) S3)
  | _ => .bad := rfl
@[simp] theorem s_call {F fa} : eCall F fa ρ S = (fa ρ S).bind fun t S1 => match t with | .tup l => F l S1 | _ => .bad := rfl
@[simp] theorem s_callB {F fa} : eCallB F fa ρ S = (fa ρ S).bind fun t S1 => match t with | .tup l => lift1 (F S1 l) S1 | _ => .bad := rfl
@[simp] theorem s_tup {f} : eTup f ρ S = (f ρ S).bind fun t S1 => match t with | .tup l => (if l.length ≤ lim then .ok (.tup l) S1 else .bad) | _ => .bad := rfl
@[simp] theorem s_lst {f} : eLst f ρ S = (f ρ S).bind fun t S1 => match t with | .tup l => (if l.length ≤ lim then .ok (.lst l) S1 else .bad) | _ => .bad := rfl
@[simp] theorem s_sl {fx flo fhi} : eSl fx flo fhi ρ S = (fx ρ S).bind fun x S1 => (flo ρ S1).bind fun dl S2 => partD dl fun l => (fhi ρ S2).bind fun dh S3 => partD dh fun h => lift1 (opSl x l h) S3 := rfl
@[simp] theorem s_no : eNo ρ S = .ok .non S := rfl
@[simp] theorem s_int {f} : eInt f ρ S = (f ρ S).bind fun d S1 => match d with | .int i => .ok (.int i) S1 | _ => .bad := rfl
@[simp] theorem s_meth {chk F fo fa} : eMeth chk F fo fa ρ S = (fo ρ S).bind fun o S1 => match chk S1 o with | true => (fa ρ S1).bind fun a S2 => F S2 o a | false => .bad := rfl
@[simp] theorem s_isN {neg fa} : eIsN neg fa ρ S = (fa ρ S).bind fun d S1 => match d with | .non => .ok (.bl !neg) S1 | _ => .ok (.bl neg) S1 := rfl
@[simp] theorem s_isT {c fa} : eIsT c fa ρ S = (fa ρ S).bind fun d S1 => match tyOf S1 d with | some t => .ok (.bl (isTy t c)) S1 | none => .bad := rfl
end
@[simp] theorem o_addI {S i j} : opAdd S (.int i) (.int j) = some (.int (i + j)) := rfl
@[simp] theorem o_addT {S a b} : opAdd S (.tup a) (.tup b) = if a.length + b.length ≤ lim then some (.tup (a ++ b)) else none := rfl
@[simp] theorem o_addL {S a b} : opAdd S (.lst a) (.lst b) = if a.length + b.length ≤ lim then some (.lst (a ++ b)) else none := rfl
@[simp] theorem o_addS {S a b} : opAdd S (.str a) (.str b) = if a.length + b.length ≤ lim then some (.str (a ++ b)) else none := rfl
@[simp] theorem o_mul {S i j} : opMul S (.int i) (.int j) = if i.natAbs < 18446744073709551616 ∨ j.natAbs < 18446744073709551616 then some (.int (i * j)) else none := rfl
@[simp] theorem o_ixT {S l i} : opIx S (.tup l) (.int i) = atI l i := rfl
@[simp] theorem o_ixL {S l i} : opIx S (.lst l) (.int i) = atI l i := rfl
@[simp] theorem o_ixC {S l i} : opIx S (.scr l) (.int i) = atI l i := rfl
@[simp] theorem o_slT {l lo hi} : opSl (.tup l) lo hi = some (.tup (cutD l lo hi)) := rfl
@[simp] theorem o_slL {l lo hi} : opSl (.lst l) lo hi = some (.lst (cutD l lo hi)) := rfl
@[simp] theorem b_lenT {S l} : bLen S (.tup l) = some (.int l.length) := rfl
@[simp] theorem b_lenL {S l} : bLen S (.lst l) = some (.int l.length) := rfl
@[simp] theorem b_lenC {S l} : bLen S (.scr l) = some (.int l.length) := rfl
@[simp] theorem b_f1 {F S d} : f1 F S [d] = F S d := rfl
@[simp] theorem t_non {S} : tyOf S .non = some .none := rfl
@[simp] theorem t_int {S i} : tyOf S (.int i) = some .int := rfl
@[simp] theorem t_bl {S i} : tyOf S (.bl i) = some .bool := rfl
@[simp] theorem t_str {S i} : tyOf S (.str i) = some .str := rfl
@[simp] theorem t_tup {S i} : tyOf S (.tup i) = some .tuple := rfl
@[simp] theorem t_lst {S i} : tyOf S (.lst i) = some .list := rfl
/-- items by places -/
theorem atI_nat' {α : Type} {l : List α} {n : Nat} : atI l (n : Int) = l[n]? := by
  unfold atI ixN
  rw [if_pos (Int.natCast_nonneg n)]
  by_cases h : n < l.length
  · rw [if_pos (by omega)]; simp
  · rw [if_neg (by omega)]; simp; omega
@[simp] theorem atI_0 {α : Type} {a : α} {l : List α} : atI (a :: l) 0 = some a := by
  have := atI_nat' (l := a :: l) (n := 0); simpa using this
@[simp] theorem atI_lit {α : Type} {l : List α} {n : Nat} : atI l (OfNat.ofNat n : Int) = l[n]? := atI_nat' (n := n)
/-- texts -/
@[simp] theorem eqv_str {a b : Str} : D.eqv (.str a) (.str b) = decide (a = b) := by
  show (a == b) = decide (a = b)
  exact Bool.beq_eq_decide_eq _ _
@[simp] theorem eqv_int {a b : Int} : D.eqv (.int a) (.int b) = decide (a = b) := by
  show (a == b) = decide (a = b)
  exact Bool.beq_eq_decide_eq _ _
@[simp] theorem eqv_bl {a b : Bool} : D.eqv (.bl a) (.bl b) = (a == b) := rfl
theorem strOk_of (a : String) : PyData.strOk (Str.ofString a) = true := by
  rw [Str.ofString_eq_toList]
  unfold PyData.strOk
  rw [← Array.all_toList]
  apply List.all_eq_true.mpr
  intro n hn
  obtain ⟨c, _, rfl⟩ := List.mem_map.mp (by simpa using hn)
  have h := c.valid
  have : c.toNat = c.val.toNat := rfl
  simp only [UInt32.isValidChar, Nat.isValidChar] at h
  apply decide_eq_true
  rw [this]; omega
@[simp] theorem good_str {a : String} : (D.str (Str.ofString a)).good = true := by
  unfold D.good D.wf D.dep; rw [strOk_of]; rfl
@[simp] theorem good_int {i : Int} : (D.int i).good = true := rfl
@[simp] theorem good_bl {i : Bool} : (D.bl i).good = true := rfl
@[simp] theorem good_non : D.non.good = true := rfl
def nmN : Fin 6 → String
  | 0 => "a" | 1 => "b" | 2 => "c" | 3 => "d" | 4 => "e" | 5 => "f"
def nmS (i : Fin 6) : Str := Str.ofString (nmN i)
def Sm.d : Sm → D
  | .num n => .tup [.str "num", .int n]
  | .name i => .tup [.str "name", .str (nmS i)]
  | .cell a => .tup [.str "cell", a.d]
  | .add a b => .tup [.str "add", a.d, b.d]
  | .sub a b => .tup [.str "sub", a.d, b.d]
  | .mul a b => .tup [.str "mul", a.d, b.d]
  | .less a b => .tup [.str "less", a.d, b.d]
def Sm.dep : Sm → Nat
  | .num _ => 0
  | .name _ => 0
  | .cell a => a.dep + 1
  | .add a b => max a.dep b.dep + 1
  | .sub a b => max a.dep b.dep + 1
  | .mul a b => max a.dep b.dep + 1
  | .less a b => max a.dep b.dep + 1
/-- the numbers are worths -/
def Sm.ok : Sm → Prop
  | .num n => 0 ≤ n ∧ n < 10007
  | .name _ => True
  | .cell a => a.ok
  | .add a b => a.ok ∧ b.ok
  | .sub a b => a.ok ∧ b.ok
  | .mul a b => a.ok ∧ b.ok
  | .less a b => a.ok ∧ b.ok
def Sta.d (s : Sta) : D := .tup [.int s.row, .tup (s.nm.map .int), .tup (s.cl.map .int), .tup (s.calls.map fun n => .int (n : Nat)), .int s.asked, .tup (s.said.map .int)]
def Sm.ev (s : Sta) : Sm → Int
  | .num n => n
  | .name i => s.nm.getD i 0
  | .cell a => s.cl.getD (a.ev s % 4).toNat 0
  | .add a b => (a.ev s + b.ev s) % 10007
  | .sub a b => (a.ev s - b.ev s) % 10007
  | .mul a b => (a.ev s * b.ev s) % 10007
  | .less a b => if a.ev s < b.ev s then 1 else 0
def Wo (n : Int) : Prop := 0 ≤ n ∧ n < 10007
structure Sta.ok (s : Sta) : Prop where
  nl : s.nm.length = 6
  cl : s.cl.length = 4
  nw : ∀ n ∈ s.nm, Wo n
  cw : ∀ n ∈ s.cl, Wo n
theorem getD_wo {l : List Int} (h : ∀ n ∈ l, Wo n) (i : Nat) : Wo (l.getD i 0) := by
  rw [List.getD_eq_getElem?_getD]
  cases e : l[i]? with
  | none => exact ⟨by decide, by decide⟩
  | some n => exact h n (List.mem_of_getElem? e)
theorem Sm.ev_wo {s : Sta} (hs : s.ok) : ∀ {a : Sm}, a.ok → Wo (a.ev s)
  | .num n, h => h
  | .name i, _ => getD_wo hs.nw _
  | .cell a, _ => getD_wo hs.cw _
  | .add a b, _ => ⟨Int.emod_nonneg _ (by decide), Int.emod_lt_of_pos _ (by decide)⟩
  | .sub a b, _ => ⟨Int.emod_nonneg _ (by decide), Int.emod_lt_of_pos _ (by decide)⟩
  | .mul a b, _ => ⟨Int.emod_nonneg _ (by decide), Int.emod_lt_of_pos _ (by decide)⟩
  | .less a b, _ => by
    show Wo (if _ then 1 else 0)
    split
    · exact ⟨by decide, by decide⟩
    · exact ⟨by decide, by decide⟩
end Bt
namespace Bt
open PySem PySem.Spec PyProof.Rows L2
def eqvs : List D → List D → Bool
  | [], [] => true
  | x :: xs, y :: ys => D.eqv x y && eqvs xs ys
  | [], _ :: _ => false
  | _ :: _, [] => false
theorem eqvs_of : ∀ (l m : List D), PyData.eqvAll (D.toPs l) (D.toPs m) = eqvs l m
  | [], [] => by simp only [D.toPs, PyData.eqvAll, eqvs]
  | x :: xs, y :: ys => by simp only [D.toPs, PyData.eqvAll, eqvs]; rw [eqvs_of xs ys]; rfl
  | [], y :: ys => by simp only [D.toPs, PyData.eqvAll, eqvs]
  | x :: xs, [] => by simp only [D.toPs, PyData.eqvAll, eqvs]
@[simp] theorem eqvs_nil : eqvs [] [] = true := by simp only [eqvs]
@[simp] theorem eqvs_cons {x y xs ys} : eqvs (x :: xs) (y :: ys) = (D.eqv x y && eqvs xs ys) := by simp only [eqvs]
@[simp] theorem eqvs_nc {y ys} : eqvs [] (y :: ys) = false := by simp only [eqvs]
@[simp] theorem eqvs_cn {y ys} : eqvs (y :: ys) [] = false := by simp only [eqvs]
@[simp] theorem eqv_tup {l m} : D.eqv (.tup l) (.tup m) = eqvs l m := by
  unfold D.eqv; simp only [D.toP, PyData.eqv]; exact eqvs_of l m
@[simp] theorem eqv_lst {l m} : D.eqv (.lst l) (.lst m) = eqvs l m := by
  unfold D.eqv; simp only [D.toP, PyData.eqv]; exact eqvs_of l m
@[simp] theorem eqv_scl {l m} : D.eqv (.scr l) (.lst m) = eqvs l m := by
  unfold D.eqv; simp only [D.toP, PyData.eqv]; exact eqvs_of l m
@[simp] theorem eqv_non : D.eqv .non .non = true := by unfold D.eqv; simp only [D.toP, PyData.eqv]
@[simp] theorem eqv_ni {i} : D.eqv .non (.int i) = false := by unfold D.eqv; simp only [D.toP, PyData.eqv]
@[simp] theorem eqv_in {i} : D.eqv (.int i) .non = false := by unfold D.eqv; simp only [D.toP, PyData.eqv]
@[simp] theorem eqv_nt {i} : D.eqv .non (.tup i) = false := by unfold D.eqv; simp only [D.toP, PyData.eqv]
@[simp] theorem eqv_tn {i} : D.eqv (.tup i) .non = false := by unfold D.eqv; simp only [D.toP, PyData.eqv]
@[simp] theorem eqv_si {s i} : D.eqv (.str s) (.int i) = false := by unfold D.eqv; simp only [D.toP, PyData.eqv]
@[simp] theorem eqv_is {s i} : D.eqv (.int i) (.str s) = false := by unfold D.eqv; simp only [D.toP, PyData.eqv]
@[simp] theorem eqv_st {s i} : D.eqv (.str s) (.tup i) = false := by unfold D.eqv; simp only [D.toP, PyData.eqv]
@[simp] theorem eqv_ts {s i} : D.eqv (.tup i) (.str s) = false := by unfold D.eqv; simp only [D.toP, PyData.eqv]
@[simp] theorem eqv_it {s i} : D.eqv (.int s) (.tup i) = false := by unfold D.eqv; simp only [D.toP, PyData.eqv]
@[simp] theorem eqv_ti {s i} : D.eqv (.tup i) (.int s) = false := by unfold D.eqv; simp only [D.toP, PyData.eqv]
/-- good by parts -/
def D.gd (n : Nat) (d : D) : Prop := d.wf = true ∧ d.dep ≤ n
theorem D.gd.good {n : Nat} {d : D} (h : d.gd n) (hn : n ≤ 60 := by decide) : d.good = true := by
  unfold D.good; rw [h.1, decide_eq_true (Nat.le_trans h.2 hn)]; rfl
theorem D.gd.mono {n m : Nat} {d : D} (h : d.gd n) (hn : n ≤ m := by omega) : d.gd m := ⟨h.1, Nat.le_trans h.2 hn⟩
theorem gds {n : Nat} : ∀ {l : List D}, (∀ d ∈ l, d.gd n) → D.wfs l = true ∧ D.deps l ≤ n
  | [], _ => ⟨rfl, Nat.zero_le _⟩
  | d :: ds, h => by
    obtain ⟨a, b⟩ := h d (List.mem_cons_self)
    obtain ⟨p, q⟩ := gds fun x hx => h x (List.mem_cons_of_mem _ hx)
    exact ⟨by show (d.wf && D.wfs ds) = true; rw [a, p]; rfl, by show max d.dep (D.deps ds) ≤ n; omega⟩
theorem gd_tup {n : Nat} {l : List D} (h : ∀ d ∈ l, d.gd n) : (D.tup l).gd (n + 1) := ⟨(gds h).1, Nat.succ_le_succ (gds h).2⟩
theorem gd_lst {n : Nat} {l : List D} (h : ∀ d ∈ l, d.gd n) : (D.lst l).gd (n + 1) := ⟨(gds h).1, Nat.succ_le_succ (gds h).2⟩
theorem gd_int {i : Int} {n : Nat} : (D.int i).gd n := ⟨rfl, Nat.zero_le _⟩
theorem gd_bl {i : Bool} {n : Nat} : (D.bl i).gd n := ⟨rfl, Nat.zero_le _⟩
theorem gd_non {n : Nat} : D.non.gd n := ⟨rfl, Nat.zero_le _⟩
theorem gd_str {s : String} {n : Nat} : (D.str (Str.ofString s)).gd n := ⟨strOk_of s, Nat.zero_le _⟩
theorem gd_ints {l : List Int} {n : Nat} : (D.tup (l.map D.int)).gd (n + 1) := gd_tup fun d hd => by
  obtain ⟨i, _, rfl⟩ := List.mem_map.mp hd; exact gd_int
theorem gd_nats {l : List Nat} {n : Nat} : (D.tup (l.map fun (n : Nat) => D.int n)).gd (n + 1) := gd_tup fun d hd => by
  obtain ⟨i, _, rfl⟩ := List.mem_map.mp hd; exact gd_int
theorem Sta.gd (s : Sta) : s.d.gd 2 := by
  unfold Sta.d
  refine gd_tup fun d hd => ?_
  simp only [List.mem_cons, List.not_mem_nil, or_false] at hd
  rcases hd with rfl | rfl | rfl | rfl | rfl | rfl
  · exact gd_int
  · exact gd_ints
  · exact gd_ints
  · exact gd_nats
  · exact gd_int
  · exact gd_ints
theorem gd_nm {i : Fin 6} {n : Nat} : (D.str (nmS i)).gd n := gd_str
theorem Sm.gd : ∀ a : Sm, a.d.gd (a.dep + 1)
  | .num n => gd_tup (n := 0) fun d hd => by
    simp only [List.mem_cons, List.not_mem_nil, or_false] at hd
    rcases hd with rfl | rfl
    · exact gd_str
    · exact gd_int
  | .name n => gd_tup (n := 0) fun d hd => by
    simp only [List.mem_cons, List.not_mem_nil, or_false] at hd
    rcases hd with rfl | rfl
    · exact gd_str
    · exact gd_nm
  | .cell a => gd_tup fun d hd => by
    simp only [List.mem_cons, List.not_mem_nil, or_false] at hd
    rcases hd with rfl | rfl
    · exact gd_str
    · exact (Sm.gd a)
  | .add a b => gd_tup fun d hd => by
    simp only [List.mem_cons, List.not_mem_nil, or_false] at hd
    rcases hd with rfl | rfl | rfl
    · exact gd_str
    · exact (Sm.gd a).mono (Nat.succ_le_succ (Nat.le_max_left _ _))
    · exact (Sm.gd b).mono (Nat.succ_le_succ (Nat.le_max_right _ _))
  | .sub a b => gd_tup fun d hd => by
    simp only [List.mem_cons, List.not_mem_nil, or_false] at hd
    rcases hd with rfl | rfl | rfl
    · exact gd_str
    · exact (Sm.gd a).mono (Nat.succ_le_succ (Nat.le_max_left _ _))
    · exact (Sm.gd b).mono (Nat.succ_le_succ (Nat.le_max_right _ _))
  | .mul a b => gd_tup fun d hd => by
    simp only [List.mem_cons, List.not_mem_nil, or_false] at hd
    rcases hd with rfl | rfl | rfl
    · exact gd_str
    · exact (Sm.gd a).mono (Nat.succ_le_succ (Nat.le_max_left _ _))
    · exact (Sm.gd b).mono (Nat.succ_le_succ (Nat.le_max_right _ _))
  | .less a b => gd_tup fun d hd => by
    simp only [List.mem_cons, List.not_mem_nil, or_false] at hd
    rcases hd with rfl | rfl | rfl
    · exact gd_str
    · exact (Sm.gd a).mono (Nat.succ_le_succ (Nat.le_max_left _ _))
    · exact (Sm.gd b).mono (Nat.succ_le_succ (Nat.le_max_right _ _))
def Row.d : Row → D
  | .set i a => .tup [.str "set", .str (nmS i), a.d]
  | .put a b => .tup [.str "put", a.d, b.d]
  | .ask i => .tup [.str "ask", .str (nmS i)]
  | .say a => .tup [.str "say", a.d]
  | .jump p => .tup [.str "jump", .int p]
  | .unless a p => .tup [.str "unless", a.d, .int p]
  | .call p => .tup [.str "call", .int p]
  | .back => .tup [.str "back"]
  | .stop => .tup [.str "stop"]
/-- worths in order, depth, places there are -/
def Row.ok (n : Nat) : Row → Prop
  | .set _ a => a.ok ∧ a.dep < 9
  | .put a b => (a.ok ∧ a.dep < 9) ∧ (b.ok ∧ b.dep < 9)
  | .ask _ => True
  | .say a => a.ok ∧ a.dep < 9
  | .jump p => p ≤ n
  | .unless a p => (a.ok ∧ a.dep < 9) ∧ p ≤ n
  | .call p => p ≤ n
  | .back => True
  | .stop => True
abbrev Prg := List Row
def prgD (p : Prg) : D := .tup (p.map Row.d)
structure PrgOk (p : Prg) : Prop where
  rows : ∀ r ∈ p, r.ok p.length
  len : p.length ≤ 1000
theorem Row.gd {n : Nat} {r : Row} (h : r.ok n) : r.d.gd 11 := by
  cases r with
  | set i a =>
    refine gd_tup fun d hd => ?_
    simp only [List.mem_cons, List.not_mem_nil, or_false] at hd
    rcases hd with rfl | rfl | rfl
    · exact gd_str
    · exact gd_nm
    · exact (Sm.gd a).mono (by have := h.2; omega)
  | put a b =>
    refine gd_tup fun d hd => ?_
    simp only [List.mem_cons, List.not_mem_nil, or_false] at hd
    rcases hd with rfl | rfl | rfl
    · exact gd_str
    · exact (Sm.gd a).mono (by have := h.1.2; omega)
    · exact (Sm.gd b).mono (by have := h.2.2; omega)
  | ask i =>
    refine gd_tup fun d hd => ?_
    simp only [List.mem_cons, List.not_mem_nil, or_false] at hd
    rcases hd with rfl | rfl
    · exact gd_str
    · exact gd_nm
  | say a =>
    refine gd_tup fun d hd => ?_
    simp only [List.mem_cons, List.not_mem_nil, or_false] at hd
    rcases hd with rfl | rfl
    · exact gd_str
    · exact (Sm.gd a).mono (by have := h.2; omega)
  | jump p =>
    refine gd_tup fun d hd => ?_
    simp only [List.mem_cons, List.not_mem_nil, or_false] at hd
    rcases hd with rfl | rfl
    · exact gd_str
    · exact gd_int
  | «unless» a p =>
    refine gd_tup fun d hd => ?_
    simp only [List.mem_cons, List.not_mem_nil, or_false] at hd
    rcases hd with rfl | rfl | rfl
    · exact gd_str
    · exact (Sm.gd a).mono (by have := h.1.2; omega)
    · exact gd_int
  | call p =>
    refine gd_tup fun d hd => ?_
    simp only [List.mem_cons, List.not_mem_nil, or_false] at hd
    rcases hd with rfl | rfl
    · exact gd_str
    · exact gd_int
  | back =>
    refine gd_tup fun d hd => ?_
    simp only [List.mem_cons, List.not_mem_nil, or_false] at hd
    rcases hd with rfl
    exact gd_str
  | stop =>
    refine gd_tup fun d hd => ?_
    simp only [List.mem_cons, List.not_mem_nil, or_false] at hd
    rcases hd with rfl
    exact gd_str
inductive Th where
  | nm (i : Fin 6) | cl (j : Nat)
  deriving DecidableEq
def Th.d : Th → D
  | .nm i => .str (nmS i)
  | .cl j => .int j
def Th.ok : Th → Prop
  | .nm _ => True
  | .cl j => j < 4
def Sta.put (s : Sta) (t : Th) (n : Int) : Sta := match t with
  | .nm i => { s with nm := s.nm.set i n }
  | .cl j => { s with cl := s.cl.set j n }
def rowAt (p : Prg) (s : Sta) : Row := p.getD s.row .stop
def over (p : Prg) (s : Sta) : Bool := match rowAt p s with
  | .stop => true
  | .back => s.calls.isEmpty
  | .call _ => decide (s.calls.length = 6)
  | _ => false
def wrs (as : List Int) (s : Sta) : Row → Option (Th × Int)
  | .set i a => some (.nm i, a.ev s)
  | .put a b => some (.cl (a.ev s % 4).toNat, b.ev s)
  | .ask i => some (.nm i, as.getD s.asked 0)
  | _ => none
def goal (s : Sta) : Row → Nat
  | .jump p => p
  | .unless a p => if a.ev s = 0 then p else s.row + 1
  | .call p => p
  | .back => s.calls.getLastD 0
  | _ => s.row + 1
def calls' (s : Sta) : Row → List Nat
  | .call _ => s.calls ++ [s.row + 1]
  | .back => s.calls.dropLast
  | _ => s.calls
def said' (s : Sta) : Row → List Int
  | .say a => s.said ++ [a.ev s]
  | _ => s.said
def asked' (s : Sta) : Row → Nat
  | .ask _ => s.asked + 1
  | _ => s.asked
def stepR (as : List Int) (r : Row) (s : Sta) : Sta :=
  let t : Sta := { s with row := goal s r, calls := calls' s r, asked := asked' s r, said := said' s r }
  match wrs as s r with
  | some (x, n) => t.put x n
  | none => t
def stepM (p : Prg) (as : List Int) (s : Sta) : Sta := stepR as (rowAt p s) s
/-- a state of a run, so many steps on -/
structure StOk (p : Prg) (k : Nat) (s : Sta) : Prop where
  so : s.ok
  row : s.row ≤ p.length
  calls : ∀ n ∈ s.calls, n ≤ p.length
  deep : s.calls.length ≤ 6
  said : s.said.length ≤ k
  asked : s.asked ≤ k
  saidw : ∀ n ∈ s.said, Wo n
def sta0 : Sta := ⟨0, [0, 0, 0, 0, 0, 0], [0, 0, 0, 0], [], 0, []⟩
theorem sta0_ok (p : Prg) : StOk p 0 sta0 where
  so := ⟨rfl, rfl, by intro n h; simp [sta0] at h; subst h; exact ⟨by decide, by decide⟩, by intro n h; simp [sta0] at h; subst h; exact ⟨by decide, by decide⟩⟩
  row := Nat.zero_le _
  calls := by intro n h; simp [sta0] at h
  deep := by decide
  said := by decide
  asked := by decide
  saidw := by intro n h; simp [sta0] at h
theorem StOk.mono {p : Prg} {k k' : Nat} {s : Sta} (h : StOk p k s) (hk : k ≤ k') : StOk p k' s :=
  { h with said := Nat.le_trans h.said hk, asked := Nat.le_trans h.asked hk }
theorem rowAt_ok {p : Prg} (hp : PrgOk p) (s : Sta) : (rowAt p s).ok p.length := by
  unfold rowAt
  rw [List.getD_eq_getElem?_getD]
  cases e : p[s.row]? with
  | none => exact trivial
  | some r => exact hp.rows r (List.mem_of_getElem? e)
theorem row_lt {p : Prg} {s : Sta} (h : s.row ≤ p.length) (ho : over p s = false) : s.row < p.length := by
  rcases Nat.lt_or_ge s.row p.length with q | q
  · exact q
  · unfold over rowAt at ho
    rw [List.getD_eq_getElem?_getD, List.getElem?_eq_none q] at ho
    cases ho
structure Put2 (s t : Sta) : Prop where
  row : t.row = s.row
  calls : t.calls = s.calls
  asked : t.asked = s.asked
  said : t.said = s.said
theorem Sta.put2 (s : Sta) (t : Th) (n : Int) : Put2 s (s.put t n) := by
  cases t <;> exact ⟨rfl, rfl, rfl, rfl⟩
theorem Sta.put_ok {s : Sta} (h : s.ok) {t : Th} {n : Int} (hn : Wo n) : (s.put t n).ok := by
  have key : ∀ (l : List Int) (i : Nat), (∀ m ∈ l, Wo m) → ∀ m ∈ l.set i n, Wo m := by
    intro l i hl m hm
    rcases List.mem_or_eq_of_mem_set hm with q | q
    · exact hl m q
    · rw [q]; exact hn
  cases t with
  | nm i => exact ⟨by show (s.nm.set _ _).length = 6; rw [List.length_set]; exact h.nl, h.cl, key _ _ h.nw, h.cw⟩
  | cl i => exact ⟨h.nl, by show (s.cl.set _ _).length = 4; rw [List.length_set]; exact h.cl, h.nw, key _ _ h.cw⟩
theorem getLastD_mem' {l : List Nat} {n : Nat} (h : ∀ x ∈ l, x ≤ n) : l.getLastD 0 ≤ n := by
  rw [List.getLastD_eq_getLast?]
  cases e : l.getLast? with
  | none => exact Nat.zero_le _
  | some x => exact h x (List.mem_of_getLast? e)
theorem goal_le {p : Prg} (hp : PrgOk p) {k : Nat} {s : Sta} (h : StOk p k s) (hr : s.row < p.length) : goal s (rowAt p s) ≤ p.length := by
  have hk := rowAt_ok hp s
  generalize rowAt p s = r at hk ⊢
  cases r with
  | jump q => exact hk
  | «unless» a q =>
    show (if _ then _ else _) ≤ _
    split
    · exact hk.2
    · exact hr
  | call q => exact hk
  | back => exact getLastD_mem' h.calls
  | _ => exact hr
theorem stepR_eq (as : List Int) (r : Row) (s : Sta) : ∃ t : Sta, stepR as r s = (match wrs as s r with | some (x, n) => t.put x n | none => t) ∧ t = { s with row := goal s r, calls := calls' s r, asked := asked' s r, said := said' s r } := ⟨_, rfl, rfl⟩
theorem stepM_ok {p : Prg} (hp : PrgOk p) {as : List Int} (ha : ∀ n ∈ as, Wo n) {k : Nat} {s : Sta} (h : StOk p k s) (ho : over p s = false) : StOk p (k + 1) (stepM p as s) := by
  have hr := row_lt h.row ho
  have hk := rowAt_ok hp s
  have hg := goal_le hp h hr
  have hd : (rowAt p s) = (rowAt p s) := rfl
  have base : StOk p (k + 1) { s with row := goal s (rowAt p s), calls := calls' s (rowAt p s), asked := asked' s (rowAt p s), said := said' s (rowAt p s) } := by
    refine { so := ⟨h.so.nl, h.so.cl, h.so.nw, h.so.cw⟩, row := hg, calls := ?_, deep := ?_, said := ?_, asked := ?_, saidw := ?_ }
    · intro n hn
      show n ≤ p.length
      change n ∈ calls' s (rowAt p s) at hn
      cases e : rowAt p s with
      | call q =>
        rw [e] at hn
        rcases List.mem_append.mp hn with z | z
        · exact h.calls n z
        · rw [List.mem_singleton.mp z]; exact hr
      | back => rw [e] at hn; exact h.calls n (List.dropLast_subset _ hn)
      | _ => rw [e] at hn; exact h.calls n hn
    · show (calls' s (rowAt p s)).length ≤ 6
      cases e : rowAt p s with
      | call q =>
        unfold over at ho
        rw [e] at ho
        have h6 := of_decide_eq_false ho
        have := h.deep
        show (s.calls ++ [s.row + 1]).length ≤ 6
        rw [List.length_append]
        show s.calls.length + 1 ≤ 6
        omega
      | back => show s.calls.dropLast.length ≤ 6; rw [List.length_dropLast]; have := h.deep; omega
      | _ => exact h.deep
    · show (said' s (rowAt p s)).length ≤ k + 1
      have := h.said
      cases e : rowAt p s with
      | say a => show (s.said ++ [_]).length ≤ k + 1; rw [List.length_append]; exact Nat.succ_le_succ this
      | _ => exact Nat.le_succ_of_le this
    · show asked' s (rowAt p s) ≤ k + 1
      have := h.asked
      cases e : rowAt p s with
      | ask a => exact Nat.succ_le_succ this
      | _ => exact Nat.le_succ_of_le this
    · intro n hn
      change n ∈ said' s (rowAt p s) at hn
      cases e : rowAt p s with
      | say a =>
        rw [e] at hn hk
        rcases List.mem_append.mp hn with z | z
        · exact h.saidw n z
        · rw [List.mem_singleton.mp z]; exact Sm.ev_wo h.so hk.1
      | _ => rw [e] at hn; exact h.saidw n hn
  unfold stepM
  obtain ⟨t, e, et⟩ := stepR_eq as (rowAt p s) s
  rw [e]
  rw [← et] at base
  cases ew : wrs as s (rowAt p s) with
  | none => exact base
  | some xn =>
    obtain ⟨x, n⟩ := xn
    have hn : Wo n := by
      cases er : rowAt p s with
      | set i a => rw [er] at ew hk; cases ew; exact Sm.ev_wo h.so hk.1
      | put a b => rw [er] at ew hk; cases ew; exact Sm.ev_wo h.so hk.2.1
      | ask i => rw [er] at ew; cases ew; exact getD_wo ha _
      | _ => rw [er] at ew; cases ew
    have p2 := t.put2 x n
    have hok := Sta.put_ok (t := x) base.so hn
    exact { so := hok, row := by rw [p2.row]; exact base.row, calls := by rw [p2.calls]; exact base.calls, deep := by rw [p2.calls]; exact base.deep, said := by rw [p2.said]; exact base.said, asked := by rw [p2.asked]; exact base.asked, saidw := by rw [p2.said]; exact base.saidw }
end Bt
namespace Bt
open PySem PySem.Spec PyProof.Rows L2
section
variable {N : Nat} {f : Sx} {S : Sto} {a b c d : D}
theorem b_good {S : Sto} {x y : D} (hx : x.good = true) (hy : y.good = true) : opEq S x y = some (.bl (x.eqv y)) := by unfold opEq; rw [hx, hy]; rfl
theorem b_goodN {S : Sto} {x y : D} (hx : x.good = true) (hy : y.good = true) : opNe S x y = some (.bl !(x.eqv y)) := by unfold opNe; rw [hx, hy]; rfl
end
@[simp] theorem o_eqS {S : Sto} {a b : String} : opEq S (.str (Str.ofString a)) (.str (Str.ofString b)) = some (.bl (decide (a = b))) := by
  rw [b_good good_str good_str, eqv_str, decide_eq_decide.mpr ofString_inj]
@[simp] theorem o_eqI {S : Sto} {a b : Int} : opEq S (.int a) (.int b) = some (.bl (decide (a = b))) := by
  rw [b_good good_int good_int, eqv_int]
@[simp] theorem o_neI {S : Sto} {a b : Int} : opNe S (.int a) (.int b) = some (.bl (!decide (a = b))) := by
  rw [b_goodN good_int good_int, eqv_int]
@[simp] theorem l1_some {d : D} {S : Sto} : lift1 (some d) S = .ok d S := rfl
@[simp] theorem at_1 {α : Type} {l : List α} : atI l 1 = l[1]? := atI_nat' (n := 1)
@[simp] theorem at_2 {α : Type} {l : List α} : atI l 2 = l[2]? := atI_nat' (n := 2)
@[simp] theorem at_3 {α : Type} {l : List α} : atI l 3 = l[3]? := atI_nat' (n := 3)
@[simp] theorem at_4 {α : Type} {l : List α} : atI l 4 = l[4]? := atI_nat' (n := 4)
@[simp] theorem at_5 {α : Type} {l : List α} : atI l 5 = l[5]? := atI_nat' (n := 5)
@[simp] theorem sta_0 {s : Sta} {S : Sto} : opIx S s.d (.int 0) = some (.int s.row) := rfl
@[simp] theorem sta_1 {s : Sta} {S : Sto} : opIx S s.d (.int 1) = some (.tup (s.nm.map .int)) := rfl
@[simp] theorem sta_2 {s : Sta} {S : Sto} : opIx S s.d (.int 2) = some (.tup (s.cl.map .int)) := rfl
@[simp] theorem sta_3 {s : Sta} {S : Sto} : opIx S s.d (.int 3) = some (.tup (s.calls.map fun n => .int (n : Nat))) := rfl
@[simp] theorem sta_4 {s : Sta} {S : Sto} : opIx S s.d (.int 4) = some (.int s.asked) := rfl
@[simp] theorem sta_5 {s : Sta} {S : Sto} : opIx S s.d (.int 5) = some (.tup (s.said.map .int)) := rfl
@[simp] theorem isStr_s {S : Sto} {s : Str} : isStrD S (.str s) = true := rfl
@[simp] theorem ix_lt {S : Sto} {d : D} {i : Nat} : opIx S d (.int (i : Int)) = opIx S d (.int i) := rfl
end Bt
namespace Bt
open PySem PySem.Spec PyProof.Rows L2
@[simp] theorem cut_last {l : List D} : cutD l none (some (-1 : Int)) = l.dropLast := by
  unfold cutD
  have e : HT.sIx l.length l.length (some (-1)) = l.length - 1 := by
    show (if (-1 : Int) < 0 then (-1 + (l.length : Int)).toNat else min (-1 : Int).toNat l.length) = _
    rw [if_pos (by decide)]; omega
  rw [e, HT.sIx_none, Nat.sub_zero, List.drop_zero, List.dropLast_eq_take]
@[simp] theorem at_last {α : Type} {l : List α} : atI l (-1) = l.getLast? := by
  unfold atI ixN
  rw [if_neg (by decide)]
  cases l with
  | nil => rfl
  | cons a r =>
    rw [if_pos (by simp; omega)]
    show (a :: r)[((-1 : Int) + ((a :: r).length : Nat)).toNat]? = _
    rw [List.getLast?_eq_getElem?]
    congr 1
    simp; omega
@[simp] theorem o_mulT {S : Sto} {a : D} {j : Int} : opMul S (.tup [a]) (.int j) = if 2 ≤ j ∧ j ≤ 1000 then some (.tup (List.replicate j.toNat a)) else none := by
  have e : ∀ n : Nat, (List.replicate n [a]).flatten = List.replicate n a := by
    intro n
    induction n with
    | zero => rfl
    | succ n ih => rw [List.replicate_succ, List.flatten_cons, ih, List.replicate_succ]; rfl
  show (if [a].length ≠ 0 ∧ 2 ≤ j ∧ j ≤ 1000 ∧ [a].length ≤ 1000 then some (D.tup (List.replicate j.toNat [a]).flatten) else none) = _
  rw [e]
  by_cases q : 2 ≤ j ∧ j ≤ 1000
  · rw [if_pos q]; exact if_pos ⟨by simp, q.1, q.2, by simp⟩
  · rw [if_neg q]; exact if_neg fun z => q ⟨z.2.1, z.2.2.1⟩
@[simp] theorem len_names {S : Sto} : bLen S (.str "abcdef") = some (.int 6) := rfl
def asD (as : List Int) : D := .lst (as.map .int)
end Bt
namespace Bt
open PySem PySem.Spec PyProof.Rows L2
abbrev stsD (l : List Sta) : List D := l.map Sta.d
@[simp] theorem sts_last {l : List Sta} {s : Sta} : atI (stsD (l ++ [s])) (-1) = some s.d := by
  show atI ((l ++ [s]).map Sta.d) (-1) = _
  rw [at_last, List.map_append]
  simp
end Bt
namespace Bt
open PySem PySem.Spec PyProof.Rows L2
@[simp] theorem b_tupL {S : Sto} {l : List D} : bTuple S (.lst l) = some (.tup l) := rfl
@[simp] theorem b_tupT {S : Sto} {l : List D} : bTuple S (.tup l) = some (.tup l) := rfl
end Bt
namespace Bt
open PySem PySem.Spec PyProof.Rows L2
@[simp] theorem o_mulL {S : Sto} {a : D} {j : Int} : opMul S (.lst [a]) (.int j) = if -1000 ≤ j ∧ j ≤ 1000 then some (.lst (List.replicate j.toNat a)) else none := by
  have e : ∀ n : Nat, (List.replicate n [a]).flatten = List.replicate n a := by
    intro n
    induction n with
    | zero => rfl
    | succ n ih => rw [List.replicate_succ, List.flatten_cons, ih, List.replicate_succ]; rfl
  show (if -1000 ≤ j ∧ j ≤ 1000 ∧ [a].length ≤ 1000 then some (D.lst (List.replicate j.toNat [a]).flatten) else none) = _
  rw [e]
  by_cases q : -1000 ≤ j ∧ j ≤ 1000
  · rw [if_pos q]; exact if_pos ⟨q.1, q.2, by simp⟩
  · rw [if_neg q]; exact if_neg fun z => q ⟨z.1, z.2.1⟩
@[simp] theorem b_lstT {S : Sto} {l : List D} : bList S (.tup l) = some (.lst l) := rfl
section
variable {α : Type} {S : List α} {a b c : α}
@[simp] theorem get_2a : (S ++ [a, b])[S.length]? = some a := by
  rw [List.getElem?_append_right (Nat.le_refl _), Nat.sub_self]; rfl
@[simp] theorem get_2b : (S ++ [a, b])[S.length + 1]? = some b := by
  rw [List.getElem?_append_right (Nat.le_succ _), show S.length + 1 - S.length = 1 by omega]; rfl
@[simp] theorem set_2a : (S ++ [a, b]).set S.length c = S ++ [c, b] := by
  rw [List.set_append_right _ _ (Nat.le_refl _), Nat.sub_self]; rfl
@[simp] theorem set_2b : (S ++ [a, b]).set (S.length + 1) c = S ++ [a, c] := by
  rw [List.set_append_right _ _ (Nat.le_succ _), show S.length + 1 - S.length = 1 by omega]; rfl
end
end Bt
namespace Bt
open PySem PySem.Spec PyProof.Rows L2
theorem sta_good {s : Sta} : s.d.good = true := s.gd.good
@[simp] theorem ne_bl {S : Sto} {a b : Bool} : opNe S (.bl a) (.bl b) = some (.bl (!(a == b))) := by
  rw [b_goodN rfl rfl, eqv_bl]
@[simp] theorem sts_len {l : List Sta} : (stsD l).length = l.length := List.length_map _
end Bt
namespace Bt
open PySem PySem.Spec PyProof.Rows L2
theorem eqvs_ints : ∀ (l m : List Int), eqvs (l.map D.int) (m.map D.int) = decide (l = m)
  | [], [] => rfl
  | [], _ :: _ => by simp
  | _ :: _, [] => by simp
  | a :: l, b :: m => by
    simp only [List.map_cons, eqvs_cons, eqv_int, eqvs_ints l m]
    by_cases q : a = b <;> by_cases z : l = m <;> simp [q, z]
theorem eqvs_nats : ∀ (l m : List Nat), eqvs (l.map fun (n : Nat) => D.int n) (m.map fun (n : Nat) => D.int n) = decide (l = m)
  | [], [] => rfl
  | [], _ :: _ => by simp
  | _ :: _, [] => by simp
  | a :: l, b :: m => by
    simp only [List.map_cons, eqvs_cons, eqv_int, eqvs_nats l m]
    by_cases q : a = b <;> by_cases z : l = m <;> simp [Int.natCast_inj, q, z]
theorem eqv_sta {s t : Sta} : D.eqv s.d t.d = decide (s = t) := by
  unfold Sta.d
  simp only [eqv_tup, eqvs_cons, eqv_int, eqvs_ints, eqvs_nats, eqvs_nil]
  cases s with
  | mk a b c d e f =>
    cases t with
    | mk a' b' c' d' e' f' =>
      by_cases h1 : a = a' <;> by_cases h2 : b = b' <;> by_cases h3 : c = c' <;> by_cases h4 : d = d' <;> by_cases h5 : e = e' <;> by_cases h6 : f = f' <;> simp [Int.natCast_inj, h1, h2, h3, h4, h5, h6]
@[simp] theorem eq_sta {S : Sto} {s t : Sta} : opEq S s.d t.d = some (.bl (decide (s = t))) := by rw [b_good sta_good sta_good, eqv_sta]
@[simp] theorem ne_sta {S : Sto} {s t : Sta} : opNe S s.d t.d = some (.bl (!decide (s = t))) := by rw [b_goodN sta_good sta_good, eqv_sta]
end Bt
namespace Bt
open PySem PySem.Spec PyProof.Rows L2
/-- the first place of f, or the place behind all -/
def ixF (f : Str) : List (Str × FV) → Nat
  | [] => 0
  | (g, _) :: r => if g = f then 0 else ixF f r + 1
def setF (f : Str) (x : FV) : List (Str × FV) → List (Str × FV)
  | [] => [(f, x)]
  | (g, y) :: r => if g = f then (g, x) :: r else (g, y) :: setF f x r
def getF (f : Str) : List (Str × FV) → Option FV
  | [] => none
  | (g, y) :: r => if g = f then some y else getF f r
/-- the fields from a place on -/
def FsFrom (P : Nat → FV → V → Prop) (j : Nat) : List (Str × FV) → List (Str × V) → Prop
  | [], [] => True
  | p :: fs, q :: vs => (p.1 = q.1 ∧ P j p.2 q.2) ∧ FsFrom P (j + 1) fs vs
  | _, _ => False
section
variable {P P' : Nat → FV → V → Prop}
theorem FsFrom.of : ∀ {fs : List (Str × FV)} {vs : List (Str × V)} {j : Nat}, fs.length = vs.length → (∀ (i : Nat) p q, fs[i]? = some p → vs[i]? = some q → p.1 = q.1 ∧ P (j + i) p.2 q.2) → FsFrom P j fs vs
  | [], [], _, _, _ => trivial
  | [], _ :: _, _, h, _ => nomatch h
  | _ :: _, [], _, h, _ => nomatch h
  | p :: fs, q :: vs, j, hl, h => ⟨h 0 p q rfl rfl, FsFrom.of (by simpa using hl) fun i p q hp hq => by
      have := h (i + 1) p q (by simpa using hp) (by simpa using hq)
      rwa [show j + (i + 1) = j + 1 + i by omega] at this⟩
theorem FsFrom.to : ∀ {fs : List (Str × FV)} {vs : List (Str × V)} {j : Nat}, FsFrom P j fs vs → fs.length = vs.length ∧ (∀ (i : Nat) p q, fs[i]? = some p → vs[i]? = some q → p.1 = q.1 ∧ P (j + i) p.2 q.2)
  | [], [], _, _ => ⟨rfl, fun i p q h => by simp at h⟩
  | p :: fs, q :: vs, j, h => by
    obtain ⟨a, b⟩ := FsFrom.to h.2
    refine ⟨by simp [a], fun i p' q' hp hq => ?_⟩
    cases i with
    | zero => simp at hp hq; subst hp hq; exact h.1
    | succ i =>
      have := b i p' q' (by simpa using hp) (by simpa using hq)
      rwa [show j + 1 + i = j + (i + 1) by omega] at this
theorem FsFrom.none {f : Str} : ∀ {fs : List (Str × FV)} {vs : List (Str × V)} {j : Nat}, FsFrom P j fs vs → getF f fs = none → vs.lookup f = none
  | [], [], _, _, _ => rfl
  | (k, y) :: fs, (k', v) :: vs, j, h, e => by
    have hk : k = k' := h.1.1
    subst hk
    unfold getF at e
    by_cases q : k = f
    · rw [if_pos q] at e; cases e
    · rw [if_neg q] at e
      rw [List.lookup, beq_eq_false_iff_ne.mpr fun z => q z.symm]; exact FsFrom.none h.2 e
theorem FsFrom.put {f : Str} {x : FV} {v : V} : ∀ {fs : List (Str × FV)} {vs : List (Str × V)} {j : Nat}, FsFrom P j fs vs → P (j + ixF f fs) x v → FsFrom P j (setF f x fs) (putF f v vs)
  | [], [], _, _, e => ⟨⟨rfl, e⟩, trivial⟩
  | (k, y) :: fs, (k', u) :: vs, j, h, e => by
    have hk : k = k' := h.1.1
    subst hk
    unfold ixF at e
    unfold setF putF
    by_cases q : k = f
    · rw [if_pos q] at e
      rw [if_pos q, if_pos q]
      exact ⟨⟨rfl, e⟩, h.2⟩
    · rw [if_neg q] at e
      rw [if_neg q, if_neg q]
      exact ⟨h.1, FsFrom.put h.2 (by rwa [show j + (ixF f fs + 1) = j + 1 + ixF f fs by omega] at e)⟩
theorem FsFrom.map : ∀ {fs : List (Str × FV)} {vs : List (Str × V)} {j : Nat}, FsFrom P j fs vs → (∀ i x y, j ≤ i → P i x y → P' i x y) → FsFrom P' j fs vs
  | [], [], _, _, _ => trivial
  | (k, y) :: fs, (k', u) :: vs, j, h, e => ⟨⟨h.1.1, e j _ _ (Nat.le_refl _) h.1.2⟩, FsFrom.map h.2 fun i x y hi => e i x y (by omega)⟩
end
section
variable {K : PySem.W.Frag} {g : G} {H : Hp} {n : Nat} {fs : List (Str × FV)} {vs : List (Str × V)}
theorem fvs_from : FVsAt K g H n fs vs ↔ FsFrom (FVAt K g H n) 0 fs vs :=
  ⟨fun h => FsFrom.of h.1 fun i p q hp hq => by rw [Nat.zero_add]; exact h.2 i p q hp hq, fun h => by
    obtain ⟨a, b⟩ := FsFrom.to h
    exact ⟨a, fun i p q hp hq => by have := b i p q hp hq; rwa [Nat.zero_add] at this⟩⟩
end
/-- the fields of an instance of the class -/
def insAt (c : Str) (S : Sto) : D → Option (Nat × List (Str × FV))
  | .obj n => (match S[n]? with
    | some (.inst c' fs) => if c' = c then some (n, fs) else none
    | _ => none)
  | _ => none
/-- .., locked or not -/
def rdAt (c : Str) (S : Sto) : D → Option (List (Str × FV))
  | .obj n => (match S[n]? with
    | some (.inst c' fs) => if c' = c then some fs else none
    | some (.lki c' fs) => if c' = c then some fs else none
    | _ => none)
  | _ => none
section
variable {K : PySem.W.Frag} {g : G} {S : Sto} {H : Hp} {c : Str} {n : Nat} {fs : List (Str × FV)}
theorem World.ins (w : World K g S H) (h : S[n]? = some (.inst c fs)) {v : V} (r : RepG K g (.obj n) v) : ∃ a dx vs, v = .ref a ∧ g.α[n]? = some a ∧ g.own a = some (n, 0) ∧ H a = some (.ins (He.ga K c) dx vs) ∧ FsFrom (FVAt K g H n) 0 fs vs := by
  obtain ⟨a, dx, vs, h1, h2, h3, h4⟩ := w.at_ n _ h
  cases r with
  | obj e => rw [h1] at e; cases e; exact ⟨_, dx, vs, rfl, h1, h2, h3, fvs_from.mp h4⟩
end
end Bt
namespace Bt
open PySem PySem.Spec PyProof.Rows L2
/-- o.f -/
def eFld (c f : Str) (fo : Ex) : Ex := fun ρ S => (fo ρ S).bind fun d S1 => match rdAt c S1 d with
  | some fs => (match getF f fs with
    | some (.d x) => .ok x S1
    | _ => .bad)
  | none => .bad
/-- o.f = v -/
def sFldS (c f : Str) (fo fv : Ex) : Sx := fun ρ S => (fv ρ S).toS ρ fun x S1 => (fo ρ S1).toS ρ fun o S2 => match insAt c S2 o with
  | some (n, fs) => if fs.length < 1000 then .nx ρ (S2.set n (.inst c (setF f (.d x) fs))) else .bad
  | none => .bad
/-- o.m(..) -/
def eMCall (c m : Str) (F : Fn) (fo fa : Ex) : Ex := fun ρ S => (fo ρ S).bind fun o S1 => match rdAt c S1 o with
  | some fs => (match getF m fs with
    | none => (fa ρ S1).bind fun t S2 => (match t with
      | .tup l => F (o :: l) S2
      | _ => .bad)
    | some _ => .bad)
  | none => .bad
end Bt
namespace Bt
open PySem PySem.Spec PyProof.Rows L2
def slotD (ρ : Env) (i : Nat) : Option D := match ρ[i]? with
  | some (some d) => some d
  | _ => none
end Bt
namespace Bt
open PySem PySem.Spec PyProof.Rows L2
def noLk : AObj → Bool
  | .lki _ _ => false
  | _ => true
end Bt
namespace Bt
open PySem PySem.Spec PyProof.Rows L2
def clsBody (st : Stmt) (j : Nat) : Stmt := match st with
  | .ClassDef _ _ _ body .. => body.getD j (.Pass ⟨0, 0, 0, 0⟩)
  | _ => .Pass ⟨0, 0, 0, 0⟩
def sRaise (k : Exc) : Sx := fun ρ S => .exc k ρ S
end Bt
namespace Bt
open PySem PySem.Spec PyProof.Rows L2
def itM (p : Prg) (as : List Int) : Nat → Sta
  | 0 => sta0
  | n + 1 => stepM p as (itM p as n)
/-- the last moment up to m -/
def endM (p : Prg) (as : List Int) : Nat → Nat
  | 0 => 0
  | m + 1 => if endM p as m = m ∧ over p (itM p as m) = false then m + 1 else endM p as m
theorem endM_lt {p : Prg} {as : List Int} : ∀ m i, i < endM p as m → over p (itM p as i) = false
  | 0, i, h => by cases h
  | m + 1, i, h => by
    unfold endM at h
    by_cases q : endM p as m = m ∧ over p (itM p as m) = false
    · rw [if_pos q] at h
      rcases Nat.lt_or_eq_of_le (Nat.lt_succ_iff.mp h) with z | z
      · exact endM_lt m i (by rw [q.1]; exact z)
      · rw [z]; exact q.2
    · rw [if_neg q] at h; exact endM_lt m i h
theorem itM_ok {p : Prg} (hp : PrgOk p) {as : List Int} (ha : ∀ n ∈ as, Wo n) : ∀ i, (∀ j, j < i → over p (itM p as j) = false) → StOk p i (itM p as i)
  | 0, _ => sta0_ok p
  | i + 1, h => stepM_ok hp ha (itM_ok hp ha i fun j hj => h j (by omega)) (h i (Nat.lt_succ_self i))
/-- how far marks lie, by the first distance and the farthest moment -/
def evF (e : Nat) : Nat → Nat
  | 0 => e
  | f + 1 => if 8 ≤ (f + 1) / evF e f then 2 * evF e f else evF e f
structure Tp where
  p : Prg
  as : List Int
  e0 : Nat
  most : Int
  far : Nat
  last : Option Nat
  here : Int
def Tp.ev (t : Tp) : Nat := evF t.e0 t.far
def kvM (p : Prg) (as : List Int) (m : Nat) : Key × D := (.inl (m : Nat), (itM p as m).d)
def keptM (p : Prg) (as : List Int) (ev n : Nat) : List (Key × D) := (List.range n).map fun i => kvM p as (i * ev)
def lastD : Option Nat → D
  | none => .non
  | some l => .int (l : Nat)
def fsM (p as : D) (ev most : Int) (kept : List (Key × D)) (far : Int) (last : D) (here : Int) : List (Str × FV) :=
  [("program", .d p), ("asked", .d as), ("every", .d (.int ev)), ("most", .d (.int most)), ("kept", .k kept), ("far", .d (.int far)), ("last", .d last), ("here", .d (.int here))]
def Tp.fs (t : Tp) : List (Str × FV) := fsM (prgD t.p) (asD t.as) t.ev t.most (keptM t.p t.as t.ev (t.far / t.ev + 1)) t.far (lastD t.last) t.here
def Tp.o (t : Tp) : AObj := .inst "Tape" t.fs
structure TpOk (t : Tp) : Prop where
  p : PrgOk t.p
  as : ∀ n ∈ t.as, Wo n
  e0 : 1 ≤ t.e0
  far : ∀ j, j < t.far → over t.p (itM t.p t.as j) = false
  m0 : 0 ≤ t.most
  m1 : t.most < 10000
  f1 : (t.far : Int) ≤ t.most
  last : ∀ l, t.last = some l → l = endM t.p t.as t.most.toNat
  h0 : 0 ≤ t.here ∧ t.here ≤ endM t.p t.as t.most.toNat
end Bt
namespace Bt
open PySem PySem.Spec PyProof.Rows L2
section
variable {p as last : D} {ev most far here : Int} {kept : List (Key × D)}
@[simp] theorem g_prog : getF "program" (fsM p as ev most kept far last here) = some (.d p) := by simp [getF, fsM, ofString_inj]
@[simp] theorem g_ask : getF "asked" (fsM p as ev most kept far last here) = some (.d as) := by simp [getF, fsM, ofString_inj]
@[simp] theorem g_ev : getF "every" (fsM p as ev most kept far last here) = some (.d (.int ev)) := by simp [getF, fsM, ofString_inj]
@[simp] theorem g_most : getF "most" (fsM p as ev most kept far last here) = some (.d (.int most)) := by simp [getF, fsM, ofString_inj]
@[simp] theorem g_kept : getF "kept" (fsM p as ev most kept far last here) = some (.k kept) := by simp [getF, fsM, ofString_inj]
@[simp] theorem g_far : getF "far" (fsM p as ev most kept far last here) = some (.d (.int far)) := by simp [getF, fsM, ofString_inj]
@[simp] theorem g_last : getF "last" (fsM p as ev most kept far last here) = some (.d last) := by simp [getF, fsM, ofString_inj]
@[simp] theorem g_here : getF "here" (fsM p as ev most kept far last here) = some (.d (.int here)) := by simp [getF, fsM, ofString_inj]
@[simp] theorem g_mkeep : getF "keep" (fsM p as ev most kept far last here) = none := by simp [getF, fsM, ofString_inj]
@[simp] theorem g_mcame : getF "came" (fsM p as ev most kept far last here) = none := by simp [getF, fsM, ofString_inj]
@[simp] theorem g_mat : getF "at" (fsM p as ev most kept far last here) = none := by simp [getF, fsM, ofString_inj]
@[simp] theorem g_mend : getF "end" (fsM p as ev most kept far last here) = none := by simp [getF, fsM, ofString_inj]
@[simp] theorem g_mmarks : getF "marks" (fsM p as ev most kept far last here) = none := by simp [getF, fsM, ofString_inj]
@[simp] theorem g_mcost : getF "cost" (fsM p as ev most kept far last here) = none := by simp [getF, fsM, ofString_inj]
@[simp] theorem g_mmoment : getF "moment" (fsM p as ev most kept far last here) = none := by simp [getF, fsM, ofString_inj]
@[simp] theorem g_mstate : getF "state" (fsM p as ev most kept far last here) = none := by simp [getF, fsM, ofString_inj]
@[simp] theorem g_mto : getF "to" (fsM p as ev most kept far last here) = none := by simp [getF, fsM, ofString_inj]
@[simp] theorem g_mgo : getF "go" (fsM p as ev most kept far last here) = none := by simp [getF, fsM, ofString_inj]
@[simp] theorem g_mback : getF "back" (fsM p as ev most kept far last here) = none := by simp [getF, fsM, ofString_inj]
@[simp] theorem s_ev {x : Int} : setF "every" (.d (.int x)) (fsM p as ev most kept far last here) = fsM p as x most kept far last here := by simp [setF, fsM, ofString_inj]
@[simp] theorem s_kept {x : List (Key × D)} : setF "kept" (.k x) (fsM p as ev most kept far last here) = fsM p as ev most x far last here := by simp [setF, fsM, ofString_inj]
@[simp] theorem s_far {x : Int} : setF "far" (.d (.int x)) (fsM p as ev most kept far last here) = fsM p as ev most kept x last here := by simp [setF, fsM, ofString_inj]
@[simp] theorem s_last {x : D} : setF "last" (.d x) (fsM p as ev most kept far last here) = fsM p as ev most kept far x here := by simp [setF, fsM, ofString_inj]
@[simp] theorem s_here {x : Int} : setF "here" (.d (.int x)) (fsM p as ev most kept far last here) = fsM p as ev most kept far last x := by simp [setF, fsM, ofString_inj]
@[simp] theorem len_fs : (fsM p as ev most kept far last here).length = 8 := rfl
end
section
variable {S : Sto} {n : Nat} {fs : List (Str × FV)} {ρ : Env} {c f : Str}
@[simp] theorem s_fld {fo : Ex} : eFld c f fo ρ S = (fo ρ S).bind fun d S1 => match rdAt c S1 d with
  | some fs => (match getF f fs with
    | some (.d x) => .ok x S1
    | _ => .bad)
  | none => .bad := rfl
@[simp] theorem s_fldS {fo fv : Ex} : sFldS c f fo fv ρ S = (fv ρ S).toS ρ fun x S1 => (fo ρ S1).toS ρ fun o S2 => match insAt c S2 o with
  | some (n, fs) => if fs.length < 1000 then .nx ρ (S2.set n (.inst c (setF f (.d x) fs))) else .bad
  | none => .bad := rfl
@[simp] theorem s_mcall {m : Str} {F : Fn} {fo fa : Ex} : eMCall c m F fo fa ρ S = (fo ρ S).bind fun o S1 => match rdAt c S1 o with
  | some fs => (match getF m fs with
    | none => (fa ρ S1).bind fun t S2 => (match t with
      | .tup l => F (o :: l) S2
      | _ => .bad)
    | some _ => .bad)
  | none => .bad := rfl
@[simp] theorem s_raise {k : Exc} : sRaise k ρ S = .exc k ρ S := rfl
@[simp] theorem sl_0 {d : D} {r : Env} : slotD (some d :: r) 0 = some d := rfl
@[simp] theorem sl_S {o : Option D} {r : Env} {i : Nat} : slotD (o :: r) (i + 1) = slotD r i := rfl
end
end Bt
namespace Bt
open PySem PySem.Spec PyProof.Rows L2
theorem all_set {S : Sto} {n : Nat} {o : AObj} (h : S.all noLk = true) (ho : noLk o = true) : (S.set n o).all noLk = true := by
  refine List.all_eq_true.mpr fun x hx => ?_
  rcases List.mem_or_eq_of_mem_set hx with q | q
  · exact List.all_eq_true.mp h x q
  · rw [q]; exact ho
end Bt
namespace Bt
open PySem PySem.Spec PyProof.Rows L2
/-- the last moment of a tape -/
abbrev Tp.E (t : Tp) : Nat := endM t.p t.as t.most.toNat
section
variable {t : Tp} {S : Sto} {n : Nat}
theorem TpOk.here {t : Tp} (h : TpOk t) {x : Int} (hx : 0 ≤ x ∧ x ≤ t.E) : TpOk { t with here := x } := ⟨h.p, h.as, h.e0, h.far, h.m0, h.m1, h.f1, h.last, hx⟩
end
end Bt
namespace Bt
open PySem PySem.Spec PyProof.Rows L2
/-- a tape of the same run -/
structure Like (t u : Tp) : Prop where
  p : u.p = t.p
  as : u.as = t.as
  e0 : u.e0 = t.e0
  most : u.most = t.most
  ok : TpOk u
theorem Like.E {t u : Tp} (L : Like t u) : u.E = t.E := by unfold Tp.E; rw [L.p, L.as, L.most]
section
variable {t u : Tp} {S : Sto} {n : Nat}
@[simp] theorem rd_c0 {r : Sto} : rdAt "Tape" (u.o :: r) (.obj 0) = some u.fs := rfl
@[simp] theorem rd_c1 {x : AObj} {r : Sto} : rdAt "Tape" (x :: u.o :: r) (.obj 1) = some u.fs := rfl
end
theorem itM_stok {p : Prg} (hp : PrgOk p) {as : List Int} (ha : ∀ n ∈ as, Wo n) {N m : Nat} (h : m ≤ endM p as N) : StOk p m (itM p as m) := itM_ok hp ha m fun j hj => endM_lt N j (by omega)
end Bt
namespace Bt
open PySem PySem.Spec PyProof.Rows L2
structure W (t : Tp) (n : Nat) (S : Sto) : Prop where
  ex : ∃ u, S[n]? = some u.o ∧ Like t u
  nl : S.all noLk = true
/-- nothing but the tape at n is changed -/
structure Ch (n : Nat) (S S' : Sto) : Prop where
  ex : ∃ u : Tp, S' = S.set n u.o
theorem Ch.trans {n : Nat} {S S1 S2 : Sto} (h : Ch n S S1) (k : Ch n S1 S2) : Ch n S S2 := by
  obtain ⟨u, rfl⟩ := h.ex
  obtain ⟨v, rfl⟩ := k.ex
  exact ⟨v, by rw [List.set_set]⟩
theorem Ch.len {n : Nat} {S S' : Sto} (h : Ch n S S') : S'.length = S.length := by
  obtain ⟨u, rfl⟩ := h.ex; exact List.length_set
theorem W.set {t u' : Tp} {n : Nat} {S : Sto} (w : W t n S) (L : Like t u') : W t n (S.set n u'.o) := by
  obtain ⟨u, h, _⟩ := w.ex
  refine ⟨⟨u', ?_, L⟩, all_set w.nl rfl⟩
  rw [List.getElem?_set_self (List.getElem?_eq_some_iff.mp h).1]
end Bt
namespace Bt
open PySem PySem.Spec PyProof.Rows L2
/-- xs[::-1] of a list -/
def eRev (fe : Ex) : Ex := fun ρ S => (fe ρ S).bind fun d S1 => match d with
  | .lst l => .ok (.lst l.reverse) S1
  | .scr l => .ok (.lst l.reverse) S1
  | _ => .bad
@[simp] theorem s_rev {fe : Ex} {ρ : Env} {S : Sto} : eRev fe ρ S = (fe ρ S).bind fun d S1 => match d with
  | .lst l => .ok (.lst l.reverse) S1
  | .scr l => .ok (.lst l.reverse) S1
  | _ => .bad := rfl
end Bt
namespace Bt
open PySem PySem.Spec PyProof.Rows L2
section
variable {t : Tp} {S : Sto} {n : Nat}
theorem W.stok (w : W t n S) {m : Nat} (hm : m ≤ t.E) : StOk t.p m (itM t.p t.as m) := by
  obtain ⟨u, _, L⟩ := w.ex
  have hp := L.ok.p
  have ha := L.ok.as
  rw [L.p] at hp
  rw [L.as] at ha
  exact itM_stok hp ha hm
end
end Bt
namespace Bt
open PySem PySem.Spec PyProof.Rows L2
@[simp] theorem eqv_ns {s} : D.eqv .non (.str s) = false := by unfold D.eqv; simp only [D.toP, PyData.eqv]
@[simp] theorem eqv_sn {s} : D.eqv (.str s) .non = false := by unfold D.eqv; simp only [D.toP, PyData.eqv]
end Bt
namespace Bt
open PySem PySem.Spec PyProof.Rows L2
def taO (t : Tp) : AObj := .abs (.tape ⟨t.p, t.as, 0, t.most.toNat, t.here.toNat, none⟩)
def plainO : AObj → Bool
  | .abs _ => false
  | .lki _ _ => false
  | _ => true
inductive RelO : AObj → AObj → Prop
  | tape {u : Tp} {t : TapeI} : TpOk u → u.p = t.prog → u.as = t.asked → u.most = (t.most : Nat) → u.here = (t.here : Nat) → RelO u.o (.abs (.tape t))
  | same {a : AObj} : plainO a = true → RelO a a
structure RelS (S T : Sto) : Prop where
  len : S.length = T.length
  at_ : ∀ (n : Nat) (a : AObj), T[n]? = some a → ∃ c, S[n]? = some c ∧ RelO c a
theorem RelO.nl {c a : AObj} (h : RelO c a) : noLk c = true := by
  cases h with
  | tape => rfl
  | same h => cases c <;> first | rfl | cases h
theorem RelS.nil : RelS [] [] := ⟨rfl, fun n a h => by simp at h⟩
theorem RelS.nl {S T : Sto} (r : RelS S T) : S.all noLk = true := by
  rw [List.all_eq_true]
  intro c hc
  obtain ⟨n, hn, rfl⟩ := List.getElem_of_mem hc
  have hT : n < T.length := by rw [← r.len]; exact hn
  obtain ⟨c', h1, h2⟩ := r.at_ n T[n] (List.getElem?_eq_getElem hT)
  rw [List.getElem?_eq_getElem hn] at h1
  cases h1
  exact h2.nl
theorem RelS.set {S T : Sto} (r : RelS S T) {n : Nat} {c a : AObj} (h : RelO c a) : RelS (S.set n c) (T.set n a) := by
  refine ⟨by simp [r.len], fun m b hb => ?_⟩
  by_cases q : n = m
  · subst q
    have hn : n < T.length := by
      have := (List.getElem?_eq_some_iff.mp hb).1
      simpa using this
    rw [List.getElem?_set_self hn] at hb
    cases hb
    exact ⟨c, by rw [List.getElem?_set_self (by rw [r.len]; exact hn)], h⟩
  · rw [List.getElem?_set_ne q] at hb
    rw [List.getElem?_set_ne q]
    exact r.at_ m b hb
theorem RelS.take {S T : Sto} (r : RelS S T) (k : Nat) : RelS (S.take k) (T.take k) := by
  refine ⟨by simp [r.len], fun m b hb => ?_⟩
  rw [List.getElem?_take] at hb
  by_cases q : m < k
  · rw [if_pos q] at hb
    rw [List.getElem?_take, if_pos q]
    exact r.at_ m b hb
  · rw [if_neg q] at hb; cases hb
theorem RelS.tape {S T : Sto} (r : RelS S T) {n : Nat} {t : TapeI} (h : T[n]? = some (.abs (.tape t))) : ∃ u : Tp, S[n]? = some u.o ∧ TpOk u ∧ u.p = t.prog ∧ u.as = t.asked ∧ u.most = (t.most : Nat) ∧ u.here = (t.here : Nat) := by
  obtain ⟨c, h1, h2⟩ := r.at_ n _ h
  generalize ha : AObj.abs (.tape t) = a at h2
  cases h2 with
  | tape k1 k2 k3 k4 k5 => cases ha; exact ⟨_, h1, k1, k2, k3, k4, k5⟩
  | same q => rw [← ha] at q; cases q
def RelE (x : ER) : ER → Prop
  | .ok d T => ∃ S, x = .ok d S ∧ RelS S T
  | .exc k T => ∃ S, x = .exc k S ∧ RelS S T
  | .bad => True
def RelR (x : SR) : SR → Prop
  | .nx ρ T => ∃ S, x = .nx ρ S ∧ RelS S T
  | .rt d T => ∃ S, x = .rt d S ∧ RelS S T
  | .bk ρ T => ∃ S, x = .bk ρ S ∧ RelS S T
  | .ct ρ T => ∃ S, x = .ct ρ S ∧ RelS S T
  | .exc k ρ T => ∃ S, x = .exc k ρ S ∧ RelS S T
  | .bad => True
abbrev SimS (f g : Sx) : Prop := ∀ ρ S T, RelS S T → RelR (f ρ S) (g ρ T)
theorem RelE.bind {x y : ER} {k k' : D → Sto → ER} (h : RelE x y) (hk : ∀ d S T, RelS S T → RelE (k d S) (k' d T)) : RelE (x.bind k) (y.bind k') := by
  cases y with
  | ok d T => obtain ⟨S, rfl, r⟩ := h; exact hk d S T r
  | exc e T => obtain ⟨S, rfl, r⟩ := h; exact ⟨S, rfl, r⟩
  | bad => trivial
theorem RelE.toS {x y : ER} {ρ : Env} {k k' : D → Sto → SR} (h : RelE x y) (hk : ∀ d S T, RelS S T → RelR (k d S) (k' d T)) : RelR (x.toS ρ k) (y.toS ρ k') := by
  cases y with
  | ok d T => obtain ⟨S, rfl, r⟩ := h; exact hk d S T r
  | exc e T => obtain ⟨S, rfl, r⟩ := h; exact ⟨S, rfl, r⟩
  | bad => trivial
theorem RelR.toE {x y : SR} (h : RelR x y) : RelE x.toE y.toE := by
  cases y with
  | nx ρ T => obtain ⟨S, rfl, r⟩ := h; exact ⟨S, rfl, r⟩
  | rt ρ T => obtain ⟨S, rfl, r⟩ := h; exact ⟨S, rfl, r⟩
  | exc k ρ T => obtain ⟨S, rfl, r⟩ := h; exact ⟨S, rfl, r⟩
  | bk ρ T => trivial
  | ct ρ T => trivial
  | bad => trivial
theorem RelR.seq {x y : SR} {f g : Sx} (h : RelR x y) (k : SimS f g) : RelR (x.seq f) (y.seq g) := by
  cases y with
  | nx ρ T => obtain ⟨S, rfl, r⟩ := h; exact k ρ S T r
  | rt ρ T => obtain ⟨S, rfl, r⟩ := h; exact ⟨S, rfl, r⟩
  | exc k ρ T => obtain ⟨S, rfl, r⟩ := h; exact ⟨S, rfl, r⟩
  | bk ρ T => obtain ⟨S, rfl, r⟩ := h; exact ⟨S, rfl, r⟩
  | ct ρ T => obtain ⟨S, rfl, r⟩ := h; exact ⟨S, rfl, r⟩
  | bad => trivial
end Bt
namespace Bt
open PySem PySem.Spec PyProof.Rows L2
def endI (t : TapeI) : Nat := endM t.prog t.asked t.most
def tpAt (T : Sto) : D → Option TapeI
  | .obj n => (match T[n]? with
    | some (.abs (.tape t)) => some t
    | _ => none)
  | _ => none
def eT (F : Fn) (fo fa : Ex) : Ex := fun ρ T => (fo ρ T).bind fun o T1 => match tpAt T1 o with
  | some _ => (fa ρ T1).bind fun t T2 => (match t with
    | .tup l => F (o :: l) T2
    | _ => .bad)
  | none => .bad
def eTProg (fo : Ex) : Ex := fun ρ T => (fo ρ T).bind fun o T1 => match tpAt T1 o with
  | some t => .ok (prgD t.prog) T1
  | none => .bad
def eTAsk (fo : Ex) : Ex := fun ρ T => (fo ρ T).bind fun o T1 => match tpAt T1 o with
  | some t => .ok (asD t.asked) T1
  | none => .bad
section
variable {t : Tp} {T : Sto} {n : Nat} {fo fa : Ex} {ρ : Env}
@[simp] theorem endI_t : endI ⟨t.p, t.as, 0, t.most.toNat, t.here.toNat, none⟩ = t.E := rfl
@[simp] theorem s_eT {F : Fn} : eT F fo fa ρ T = (fo ρ T).bind fun o T1 => match tpAt T1 o with
  | some _ => (fa ρ T1).bind fun t T2 => (match t with
    | .tup l => F (o :: l) T2
    | _ => .bad)
  | none => .bad := rfl
@[simp] theorem s_eTProg : eTProg fo ρ T = (fo ρ T).bind fun o T1 => match tpAt T1 o with
  | some t => .ok (prgD t.prog) T1
  | none => .bad := rfl
@[simp] theorem s_eTAsk : eTAsk fo ρ T = (fo ρ T).bind fun o T1 => match tpAt T1 o with
  | some t => .ok (asD t.asked) T1
  | none => .bad := rfl
end
end Bt
namespace Bt
open PySem PySem.Spec PyProof.Rows L2
section
variable {ρ : Env} {S S1 S2 : Sto} {fe fe2 : Ex}
theorem it {l : List D} (h : fe ρ S = .ok (.tup l) S1) : iTupl fe ρ S = .ok (.tup l) S1 := by
  unfold iTupl; rw [h]; rfl
end
abbrev Tp.st (t : Tp) (m : Nat) : Sta := itM t.p t.as m
structure RunOk (t : Tp) : Prop where
  p : PrgOk t.p
  as : ∀ n ∈ t.as, Wo n
  N : t.E < 10000
theorem RunOk.stok {t : Tp} (h : RunOk t) {m : Nat} (hm : m ≤ t.E) : StOk t.p m (t.st m) := itM_stok h.p h.as hm
theorem RunOk.so {t : Tp} (h : RunOk t) {m : Nat} (hm : m ≤ t.E) : (t.st m).ok := (h.stok hm).so
theorem RunOk.go {t : Tp} (h : RunOk t) {m : Nat} (hm : m < t.E) : over t.p (t.st m) = false := endM_lt _ _ hm
theorem RunOk.row {t : Tp} (h : RunOk t) {m : Nat} (hm : m < t.E) : (t.st m).row < t.p.length := row_lt (h.stok (by omega)).row (h.go hm)
end Bt
namespace Bt
open PySem PySem.Spec PyProof.Rows L2
def orK (x : D) (S : Sto) (r : ER) : ER := match x with
  | .bl b => (match b with | true => .ok (.bl true) S | false => r)
  | _ => .bad
def notK (x : D) (S : Sto) : ER := match x with
  | .bl b => .ok (.bl !b) S
  | _ => .bad
section
variable {S : Sto} {x y : Bool} {r r1 r2 : ER} {a b : D} {ρ : Env} {fa fb fc : Ex}
theorem orK_f : orK (.bl false) S r = r := rfl
theorem t_or : eOr fa fb ρ S = (fa ρ S).bind fun x S1 => orK x S1 (fb ρ S1) := rfl
theorem t_not : eNot fa ρ S = (fa ρ S).bind fun x S1 => notK x S1 := rfl
theorem x_or (ha : fa ρ S = .ok (.bl x) S) (hb : x = false → fb ρ S = .ok (.bl y) S) : eOr fa fb ρ S = .ok (.bl (x || y)) S := by
  rw [t_or, ha]
  cases x with
  | false => simp only [ER.bind_ok, orK_f, hb rfl, Bool.false_or]
  | true => rfl
variable {Q : SR → Prop} {S1 : Sto} {g s1 s2 : Sx} {bb : Bool}
end
end Bt
namespace Bt
open PySem PySem.Spec PyProof.Rows L2
abbrev AlB : Type := Bool × He.AlD
def obsB (n : Nat) (fa : List He.Fa) (fn : List He.DefD) (ex : PySem.W.Frag → Bool) (g : Addr → Option Obj) : AlB := (ex (He.frG g (He.asD g n)), He.obsDG n fa fn g)
inductive DvR (K : PySem.W.Frag) : List D → List He.Dv → Prop
  | nil : DvR K [] []
  | int {i : Int} {l : List D} {m : List He.Dv} : DvR K l m → DvR K (.int i :: l) (.int i :: m)
  | str {s : Str} {l : List D} {m : List He.Dv} : DvR K l m → DvR K (.str s :: l) (.str s :: m)
theorem DvR.reps {K : PySem.W.Frag} {g : G} : ∀ {l : List D} {m : List He.Dv}, DvR K l m → RepsG K g l (m.map (He.Dv.v K))
  | _, _, .nil => .nil
  | _, _, .int h => .cons (.int _) h.reps
  | _, _, .str h => .cons (.str _) h.reps
end Bt
namespace Bt
open PySem PySem.Spec PyProof.Rows L2
def exAll : List Exc := [.moment, .run, .thing, .text]
theorem mem_exAll (e : Exc) : e ∈ exAll := by cases e <;> decide
def excCB (K : PySem.W.Frag) (D : Addr) : Bool :=
  decide (PySem.W.findIn K (.ref D) "__getattribute__" = some (some (.builtin "BaseException.__getattribute__"))) &&
  (decide (PySem.W.findIn K (.ref D) "__getattr__" = some none) &&
  (decide (PySem.W.subIn K (.ref D) (.type "BaseException") = some true) &&
  (PySem.W.hasDictIn K D &&
  (decide (PySem.W.findIn K (.ref D) "__class__" = some (some (.builtin "object.__class__"))) &&
  (decide (PySem.W.specialIn K (.builtin "object.__class__") "__get__" = some (some (.builtin "getset_descriptor.__get__"))) &&
  (decide (PySem.W.takesIn K (.builtin "object.__class__") = some true) &&
  decide (PySem.W.mroIn K D (.type "object") = some true)))))))
def refB (K : PySem.W.Frag) : Bool := exAll.all fun e => excCB K (He.ga K (excN e)) && (decide (PySem.W.exmOne K (excV K e) (.ref (He.ga K "TapeError")) = some true) && (decide (PySem.W.kitOne K (excV K e) (.type "ValueError") = some true) &&
  exAll.all fun e' => decide (PySem.W.kitOne K (excV K e) (excV K e') = some (decide (e = e')))))
structure RefOk (K : PySem.W.Frag) (mg : Str → Option Value) : Prop where
  b : refB K = true
  g : ∀ e : Exc, mg (excN e) = some (excV K e)
  gT : mg "TapeError" = some (.ref (He.ga K "TapeError"))
section
variable {K : PySem.W.Frag} {mg : Str → Option Value} (T : RefOk K mg)
include T
theorem RefOk.all (e : Exc) : excCB K (He.ga K (excN e)) = true ∧ PySem.W.exmOne K (excV K e) (.ref (He.ga K "TapeError")) = some true ∧ PySem.W.kitOne K (excV K e) (.type "ValueError") = some true ∧ ∀ e', PySem.W.kitOne K (excV K e) (excV K e') = some (decide (e = e')) := by
  have h := List.all_eq_true.mp T.b e (mem_exAll e)
  simp only [Bool.and_eq_true, decide_eq_true_eq] at h
  exact ⟨h.1, h.2.1, h.2.2.1, fun e' => of_decide_eq_true (List.all_eq_true.mp h.2.2.2 e' (mem_exAll e'))⟩
theorem RefOk.v (e : Exc) : PySem.W.kitOne K (excV K e) (.type "ValueError") = some true := (T.all e).2.2.1
theorem RefOk.k (e e' : Exc) : PySem.W.kitOne K (excV K e) (excV K e') = some (decide (e = e')) := (T.all e).2.2.2 e'
end
end Bt
namespace Bt
open PySem PySem.Spec PyProof.Rows L2
section
variable {K : PySem.W.Frag} {g : G} {S : Sto} {H : Hp} {n : Nat} {kvs : List (Key × D)}
def G.frz (g : G) (a : Addr) (o : HO) : G := { g with own := fun b => if b = a then none else g.own b, pin := fun b => if b = a then some o else g.pin b }
end
end Bt
namespace Bt
open PySem PySem.Spec PyProof.Rows L2
inductive Kd where
  | L (l : Addr) | T (l : Addr) | S (x : Str) (t : Tok)
def Kd.v : Kd → Value
  | .L l => .ref l
  | .T l => .ref l
  | .S x t => .str x t
def Kd.obj : Kd → Obj
  | .L l => { cls := .type "list_iterator", data := .fields #[.ref l, .int 0 0] }
  | .T l => { cls := .type "tuple_iterator", data := .fields #[.ref l, .int 0 0] }
  | .S x t => { cls := .type (strIterType x), data := .fields #[.str x t, .int 0 0] }
def Kd.st (it : Addr) : Kd → Nat → Heap → Prop
  | .L l => fun i h => h.IsListIter it l i
  | .T l => fun i h => h.IsTupleIter it l i
  | .S x t => fun i h => h.IsStrIter it (strIterType x) x t i
end Bt
namespace Bt
open PySem PySem.Spec PyProof.Rows L2
abbrev AlBT : Type := AlB × List (Option (List (Option (Str × Int))))
def tabsK (K : PySem.W.Frag) (ts : List (Str × List Str)) : List (Option (List (Option (Str × Int)))) := ts.map fun t => He.dicW K (He.ga K t.1)
def obsBT (n : Nat) (fa : List He.Fa) (fn : List He.DefD) (ex : PySem.W.Frag → Bool) (ts : List (Str × List Str)) (g : Addr → Option Obj) : AlBT := (obsB n fa fn ex g, tabsK (He.frG g (He.asD g n)) ts)
def hookBT (n : Nat) (fa : List He.Fa) (fn : List He.DefD) (ex : PySem.W.Frag → Bool) (ts : List (Str × List Str)) : PySem.W.Hook where
  α := AlBT
  obs := fun s => obsBT n fa fn ex ts s.heap.get?
  val := fun w => ((true, He.valD fn), ts.map fun t : Str × List Str => some (He.keysIn w.params t.2))
  says := fun w h => ∃ K : PySem.W.Frag, K.In h ∧ He.SaysD fa fn K ∧ ex K = true ∧ tabsK K ts = ts.map fun t => some (He.keysIn w.params t.2)
  of := fun _ _ e => ⟨_, He.frG_in, congrArg (fun z : AlBT => z.1.2) e, congrArg (fun z : AlBT => z.1.1) e, congrArg (fun z : AlBT => z.2) e⟩
  keeps := fun _ _ _ h k => by
    obtain ⟨K, hK, c⟩ := h
    exact ⟨K, hK.keeps k, c⟩
end Bt
namespace Bt
open PySem PySem.Spec PyProof.Rows L2
def ex3 : List Exc := [.moment, .thing, .text]
def sayB (K : PySem.W.Frag) : Bool := ex3.all fun e => ex3.all fun e' => decide (PySem.W.exmOne K (excV K e) (excV K e') = some (decide (e = e')))
structure SayOk (K : PySem.W.Frag) (mg : Str → Option Value) : Prop where
  b : sayB K = true
  g : ∀ e : Exc, e ≠ .run → mg (excN e) = some (excV K e)
inductive HdH (X : Cx) : List ExceptHandler → List (Exc × Str) → Prop
  | nil : HdH X [] []
  | cons {k : Exc} {s : Str} {j : Nat} {np p p2 pos' : Pos} {hds : List ExceptHandler} {l : List (Exc × Str)} (hr : k ≠ .run) (hg : Gl X (excN k)) (hd : (excN k == ("__debug__" : Str)) = false) (r : HdH X hds l) :
      HdH X (.ExceptHandler (some (.Name (excN k) np)) none [.Return (some (.Constant (.str s) j p)) p2] pos' :: hds) ((k, s) :: l)
section
variable {X : Cx} {W : WX}
theorem HdH.ok {hds : List ExceptHandler} {l : List (Exc × Str)} (T : SayOk X.K X.mg) (h : HdH X hds l) : HdsOk X hds (l.map fun q => (excV X.K q.1, fun _ _ _ => tRet (tC (.str q.2)))) := by
  induction h with
  | nil => exact .nil
  | cons hr hg hd r ih => exact .cons ⟨hg, hd, .inl (T.g _ hr)⟩ (fun a oe cls d pn hz hf => pss_one (ps_ret pe_str)) ih
theorem HdH.run {hds : List ExceptHandler} {l : List (Exc × Str)} (h : HdH X hds l) : ∀ q ∈ l, q.1 ≠ .run := by
  induction h with
  | nil => intro q hq; cases hq
  | cons hr hg hd r ih =>
    intro q hq
    rcases List.mem_cons.mp hq with rfl | hq
    · exact hr
    · exact ih q hq
end
def keysF (fs : List (Str × Str)) : List (Str × D) := fs.map fun q => (q.1, .non)
end Bt
namespace Bt
open PySem PySem.Spec PyProof.Rows L2
abbrev fs_MOVES : List (Str × Str) := [("over", "over"), ("out", "out"), ("backover", "back_over"), ("backout", "back_out")]
abbrev kf_MOVES : List (Str × D) := keysF fs_MOVES
end Bt
namespace Bt
open PySem PySem.Spec PyProof.Rows L2
section
variable {ρ : Env} {S S1 S2 : Sto} {fa fb : Ex} {x y d : D} {l : List D}
theorem x_op {F : Sto → D → D → Option D} (ha : fa ρ S = .ok x S1) (hb : fb ρ S1 = .ok y S2) (h : F S2 x y = some d) : eOp F fa fb ρ S = .ok d S2 := by
  rw [s_op, ha]; simp only [ER.bind_ok]; rw [hb]; simp only [ER.bind_ok]; rw [h]; rfl
end
end Bt
namespace Bt
open PySem PySem.Spec PyProof.Rows L2
section
variable {ρ : Env} {S S1 S2 S3 S4 : Sto} {fa fb fc fe : Ex} {i j k : Int} {x y z d : D} {b : Bool} {l : List D}
theorem x_not (ha : fa ρ S = .ok (.bl b) S1) : eNot fa ρ S = .ok (.bl !b) S1 := by
  rw [t_not, ha]; rfl
end
end Bt
namespace Bt
open PySem PySem.Spec PyProof.Rows L2
def Nc : Nat → D → Prop
  | _, .str s => PyData.strOk s = true ∧ s.length ≤ 1000
  | _, .int _ => True
  | _, .bl _ => True
  | _, .non => True
  | n + 1, .tup l => l.length ≤ 1000 ∧ ∀ x ∈ l, Nc n x
  | n + 1, .lst l => l.length ≤ 1000 ∧ ∀ x ∈ l, Nc n x
  | _, _ => False
theorem Nc.gd : ∀ {n : Nat} {d : D}, Nc n d → d.gd n
  | 0, .str s, h => ⟨h.1, Nat.le_refl _⟩
  | n + 1, .str s, h => ⟨h.1, Nat.zero_le _⟩
  | n, .int _, _ => gd_int
  | n, .bl _, _ => gd_bl
  | n, .non, _ => gd_non
  | n + 1, .tup l, h => gd_tup fun x hx => Nc.gd (h.2 x hx)
  | n + 1, .lst l, h => gd_lst fun x hx => Nc.gd (h.2 x hx)
  | 0, .tup l, h => h.elim
  | 0, .lst l, h => h.elim
  | 0, .scr l, h => h.elim
  | n + 1, .scr l, h => h.elim
  | 0, .obj l, h => h.elim
  | n + 1, .obj l, h => h.elim
theorem Nc.mono : ∀ {n m : Nat} {d : D}, Nc n d → n ≤ m → Nc m d
  | 0, 0, _, h, _ => h
  | n, m + 1, .str s, h, _ => by cases n <;> exact h
  | n, m, .int _, h, _ => by cases m <;> trivial
  | n, m, .bl _, h, _ => by cases m <;> trivial
  | n, m, .non, h, _ => by cases m <;> trivial
  | n + 1, m + 1, .tup l, h, hm => ⟨h.1, fun x hx => Nc.mono (h.2 x hx) (Nat.le_of_succ_le_succ hm)⟩
  | n + 1, m + 1, .lst l, h, hm => ⟨h.1, fun x hx => Nc.mono (h.2 x hx) (Nat.le_of_succ_le_succ hm)⟩
  | 0, m + 1, .tup l, h, _ => h.elim
  | 0, m + 1, .lst l, h, _ => h.elim
  | 0, m + 1, .scr l, h, _ => h.elim
  | n + 1, m + 1, .scr l, h, _ => h.elim
  | 0, m + 1, .obj l, h, _ => h.elim
  | n + 1, m + 1, .obj l, h, _ => h.elim
def isS : D → Bool
  | .str _ => true
  | _ => false
section
variable {ρ : Env} {S : Sto} {d : D} {n : Nat}
theorem x_ty {c t : Ty} {fa : Ex} {x : D} (h : fa ρ S = .ok x S) (ht : tyOf S x = some t) : eIsT c fa ρ S = .ok (.bl (isTy t c)) S := by
  rw [s_isT, h]
  simp only [ER.bind_ok, ht]
theorem x_ixk {i : Nat} {l : List D} {k : Nat} {x : D} (h : eVar i ρ S = .ok (.tup l) S) (hx : l[k]? = some x) : eOp opIx (eVar i) (eC (.int (k : Nat))) ρ S = .ok x S :=
  x_op (x := .tup l) (y := .int (k : Nat)) h rfl (by rw [o_ixT, atI_nat', hx])
end
def headS : D → Bool
  | .tup l => (match l with
    | a :: _ => isS a
    | _ => false)
  | _ => false
theorem hds {ρ : Env} {S : Sto} {d : D} {n : Nat} {em : Ex} (h : Nc n d) (hv : eVar 0 ρ S = .ok d S) (he : ∀ l, d = .tup l → em ρ S = .ok (.bl (decide (l = []))) S) : eOr (eNot (eIsT .tuple (eVar 0))) (eOr em (eNot (eIsT .str (eOp opIx (eVar 0) (eC (.int 0)))))) ρ S = .ok (.bl (!headS d)) S := by
  cases d with
  | tup l =>
    refine x_or (x := false) (y := !headS (.tup l)) (x_not (b := true) (x_ty hv rfl)) fun _ => ?_
    cases l with
    | nil => exact x_or (x := true) (y := true) (he [] rfl) fun z => by cases z
    | cons a r =>
      refine x_or (x := false) (y := !headS (.tup (a :: r))) (he _ rfl) fun _ => ?_
      have ha : ∃ m, Nc m a := by
        cases n with
        | zero => exact h.elim
        | succ n => exact ⟨n, h.2 a List.mem_cons_self⟩
      obtain ⟨m, ha⟩ := ha
      cases a with
      | str w => exact x_not (b := true) (x_ty (x_ixk (k := 0) hv rfl) rfl)
      | scr l => cases m <;> exact ha.elim
      | obj l => cases m <;> exact ha.elim
      | non => exact x_not (b := false) (x_ty (x_ixk (k := 0) hv rfl) rfl)
      | bl b => exact x_not (b := false) (x_ty (x_ixk (k := 0) hv rfl) rfl)
      | int b => exact x_not (b := false) (x_ty (x_ixk (k := 0) hv rfl) rfl)
      | tup b => exact x_not (b := false) (x_ty (x_ixk (k := 0) hv rfl) rfl)
      | lst b => exact x_not (b := false) (x_ty (x_ixk (k := 0) hv rfl) rfl)
  | scr l => cases n <;> exact h.elim
  | obj l => cases n <;> exact h.elim
  | non => exact x_or (x := true) (y := true) (x_not (b := false) (x_ty hv rfl)) fun z => by cases z
  | bl b => exact x_or (x := true) (y := true) (x_not (b := false) (x_ty hv rfl)) fun z => by cases z
  | int b => exact x_or (x := true) (y := true) (x_not (b := false) (x_ty hv rfl)) fun z => by cases z
  | str b => exact x_or (x := true) (y := true) (x_not (b := false) (x_ty hv rfl)) fun z => by cases z
  | lst b => exact x_or (x := true) (y := true) (x_not (b := false) (x_ty hv rfl)) fun z => by cases z
end Bt
namespace Bt
open PySem PySem.Spec PyProof.Rows L2 TL
def nS (k : Int) : Str := Str.ofString (toString k)
/-- a word as the texts have them -/
structure Wd (w : Str) : Prop where
  ok : PyData.strOk w = true
  len : w.length ≤ 10
  sp : 32 ∉ tl w
  nl : 10 ∉ tl w
  ne : tl w ≠ []
theorem tl_nS {k : Int} (h : 0 ≤ k) : tl (nS k) = numL k.toNat := by
  obtain ⟨n, rfl⟩ := Int.eq_ofNat_of_zero_le h
  rw [Int.toNat_natCast]
  exact tl_num n
end Bt
namespace Bt
open PySem PySem.Spec PyProof.Rows L2 TL
structure WsOk (ws : List Str) : Prop where
  wd : ∀ w ∈ ws, Wd w
theorem WsOk.so {ws : List Str} (h : WsOk ws) : ∀ w ∈ ws, PyData.strOk w = true := fun w hw => (h.wd w hw).ok
end Bt
namespace Bt
open PySem PySem.Spec PyProof.Rows L2 TL
def tH (t : Tp) (k : Nat) : Tp := { t with here := (k : Int) }
abbrev dkF (n : Nat) : List (Str × FV) := [("tape", .d (.obj (n + 1))), ("kept", .d (.obj (n + 2)))]
structure Dk (S : Sto) (n : Nat) (t : Tp) (k : Nat) (kv : List (Key × D)) : Prop where
  o : S[n]? = some (.inst "Desk" (dkF n))
  tp : S[n + 1]? = some (taO (tH t k))
  kd : S[n + 2]? = some (.dict kv)
/-- all but the desk's own things is as before -/
structure Ex3 (n : Nat) (S S' : Sto) : Prop where
  len : S.length ≤ S'.length
  at_ : ∀ m, m < S.length → m ≠ n + 1 → m ≠ n + 2 → S'[m]? = S[m]?
theorem Ex3.trans {n : Nat} {S S1 S2 : Sto} (h : Ex3 n S S1) (h2 : Ex3 n S1 S2) : Ex3 n S S2 :=
  ⟨Nat.le_trans h.len h2.len, fun m a b c => (h2.at_ m (Nat.lt_of_lt_of_le a h.len) b c).trans (h.at_ m a b c)⟩
section
variable {S T : Sto} {n : Nat} {t : Tp} {k k' : Nat} {kv kv' : List (Key × D)} {ρ : Env} {fo fa : Ex}
theorem Dk.lt (D : Dk S n t k kv) : n + 2 < S.length := (List.getElem?_eq_some_iff.mp D.kd).1
end
end Bt
namespace Bt
open PySem PySem.Spec PyProof.Rows L2 TL
section
variable {S T : Sto} {n : Nat} {t : Tp} {k k' : Nat} {kv kv' : List (Key × D)} {ρ : Env} {fo fa : Ex}
def MkB (kv : List (Key × D)) : Prop := kv = [] ∨ ∃ v, kv = [(.inr "m", v)]
theorem nS_m {j : Nat} {x : Str} {c : Nat} (hc : c ∈ tl x) (hd : c < 48 ∨ 57 < c) : x ≠ nS j := fun h => by
  rw [h, tl_nS (by omega)] at hc
  exact numL_free hd hc
theorem MkB.num (h : MkB kv) (j : Nat) : valD kv (.inr (nS j)) = none := by
  rcases h with rfl | ⟨v, rfl⟩
  · rfl
  · show (if (Sum.inr "m" : Key) = .inr (nS j) then some v else none) = none
    rw [if_neg]
    intro e
    exact nS_m (x := "m") (c := 109) (by decide) (.inr (by decide)) (Sum.inr.inj e)
theorem MkB.put (h : MkB kv) (v : D) : putD kv (.inr "m") v = [(.inr "m", v)] := by
  rcases h with rfl | ⟨w, rfl⟩ <;> rfl
theorem MkB.len (h : MkB kv) : kv.length < 1000000 := by
  rcases h with rfl | ⟨w, rfl⟩ <;> simp
theorem Dk.ex {n' : Nat} {S' : Sto} (dk : Dk S n t k kv) (h : Ex3 n' S S') (d : n + 2 < n' ∨ n' + 2 < n) : Dk S' n t k kv := by
  have hl := dk.lt
  exact ⟨(h.at_ _ (by omega) (by omega) (by omega)).trans dk.o, (h.at_ _ (by omega) (by omega) (by omega)).trans dk.tp, (h.at_ _ (by omega) (by omega) (by omega)).trans dk.kd⟩
end
end Bt
namespace Bt
open PySem PySem.Spec PyProof.Rows L2
def top (i : Nat) : Stmt := PySem.Challenge.pw_backtape_k91_whole_desks.main.body.getD i (.Pass ⟨0, 0, 0, 0⟩)
abbrev s_begun : Stmt := top 19
abbrev s_Tape___init__ : Stmt := clsBody (top 39) 0
abbrev s_Desk___init__ : Stmt := clsBody (top 57) 0
abbrev s_Tape_moment : Stmt := clsBody (top 39) 7
abbrev s_Tape_keep : Stmt := clsBody (top 39) 1
abbrev s_is_over : Stmt := top 23
abbrev s_reckoned : Stmt := top 20
abbrev s_with_worth : Stmt := top 22
abbrev s_written_by : Stmt := top 24
abbrev s_stepped : Stmt := top 25
abbrev s_Tape_came : Stmt := clsBody (top 39) 2
abbrev s_Tape_at : Stmt := clsBody (top 39) 3
abbrev s_Tape_state : Stmt := clsBody (top 39) 8
abbrev s_Desk_where : Stmt := clsBody (top 57) 3
abbrev s_Tape_to : Stmt := clsBody (top 39) 9
abbrev s_Tape_end : Stmt := clsBody (top 39) 4
abbrev s_sum_at : Stmt := top 28
abbrev s_next_so : Stmt := top 31
abbrev s_reads_of : Stmt := top 33
abbrev s_step_reads : Stmt := top 34
abbrev s_thing_written : Stmt := top 35
abbrev s_reasonsU : Stmt := top 36
abbrev s_Desk_by_sum : Stmt := clsBody (top 57) 5
abbrev s_Tape_back : Stmt := clsBody (top 39) 11
abbrev s_Tape_go : Stmt := clsBody (top 39) 10
abbrev s_Words___init__ : Stmt := clsBody (top 44) 0
abbrev s_Words_word : Stmt := clsBody (top 44) 1
abbrev s_Words_number : Stmt := clsBody (top 44) 2
abbrev s_is_mark : Stmt := top 56
abbrev s_is_name : Stmt := top 13
abbrev s_is_thing : Stmt := top 16
abbrev s_need_thing : Stmt := top 27
abbrev s_worth_of : Stmt := top 21
abbrev s_changes : Stmt := top 29
abbrev s_last_change : Stmt := top 30
abbrev s_Words_sum_in : Stmt := clsBody (top 44) 3
abbrev s_is_worth : Stmt := top 12
abbrev s_left_of : Stmt := top 14
abbrev s_is_sum : Stmt := top 15
abbrev s_sum_words : Stmt := top 42
abbrev s_written_sum : Stmt := top 43
abbrev s_read_sum : Stmt := top 45
abbrev s_thing_in : Stmt := top 55
abbrev s_Desk_with_more : Stmt := clsBody (top 57) 4
abbrev s_depth : Stmt := top 47
abbrev s_back_out : Stmt := top 51
abbrev s_back_over : Stmt := top 50
abbrev s_out : Stmt := top 49
abbrev s_over : Stmt := top 48
abbrev s_Desk_done : Stmt := clsBody (top 57) 2
abbrev s_Desk_say : Stmt := clsBody (top 57) 1
abbrev s_l_cell : Stmt := top 59
abbrev s_l_drawn : Stmt := top 60
abbrev s_l_asked : Stmt := top 64
abbrev s_l_sum : Stmt := top 61
abbrev s_l_row : Stmt := top 62
abbrev s_l_program : Stmt := top 63
abbrev s_law : Stmt := top 65
end Bt
namespace Bt
open PySem PySem.Spec PyProof.Rows L2
def d_begun : He.DefD := ⟨("begun", none), "begun", "begun", defArgs s_begun, defBody s_begun, defScope s_begun, [], []⟩
def d_Tape___init__ : He.DefD := ⟨("Tape", some "__init__"), "__init__", "Tape.__init__", defArgs s_Tape___init__, defBody s_Tape___init__, defScope s_Tape___init__, [], []⟩
def d_Desk___init__ : He.DefD := ⟨("Desk", some "__init__"), "__init__", "Desk.__init__", defArgs s_Desk___init__, defBody s_Desk___init__, defScope s_Desk___init__, [], []⟩
def d_Tape_moment : He.DefD := ⟨("Tape", some "moment"), "moment", "Tape.moment", defArgs s_Tape_moment, defBody s_Tape_moment, defScope s_Tape_moment, [], []⟩
def d_Tape_keep : He.DefD := ⟨("Tape", some "keep"), "keep", "Tape.keep", defArgs s_Tape_keep, defBody s_Tape_keep, defScope s_Tape_keep, [], []⟩
def d_is_over : He.DefD := ⟨("is_over", none), "is_over", "is_over", defArgs s_is_over, defBody s_is_over, defScope s_is_over, [], []⟩
def d_reckoned : He.DefD := ⟨("reckoned", none), "reckoned", "reckoned", defArgs s_reckoned, defBody s_reckoned, defScope s_reckoned, [], []⟩
def d_with_worth : He.DefD := ⟨("with_worth", none), "with_worth", "with_worth", defArgs s_with_worth, defBody s_with_worth, defScope s_with_worth, [], []⟩
def d_written_by : He.DefD := ⟨("written_by", none), "written_by", "written_by", defArgs s_written_by, defBody s_written_by, defScope s_written_by, [], []⟩
def d_stepped : He.DefD := ⟨("stepped", none), "stepped", "stepped", defArgs s_stepped, defBody s_stepped, defScope s_stepped, [], []⟩
def d_Tape_came : He.DefD := ⟨("Tape", some "came"), "came", "Tape.came", defArgs s_Tape_came, defBody s_Tape_came, defScope s_Tape_came, [], []⟩
def d_Tape_at : He.DefD := ⟨("Tape", some "at"), "at", "Tape.at", defArgs s_Tape_at, defBody s_Tape_at, defScope s_Tape_at, [], []⟩
def d_Tape_state : He.DefD := ⟨("Tape", some "state"), "state", "Tape.state", defArgs s_Tape_state, defBody s_Tape_state, defScope s_Tape_state, [], []⟩
def d_Desk_where : He.DefD := ⟨("Desk", some "where"), "where", "Desk.where", defArgs s_Desk_where, defBody s_Desk_where, defScope s_Desk_where, [], []⟩
def d_Tape_to : He.DefD := ⟨("Tape", some "to"), "to", "Tape.to", defArgs s_Tape_to, defBody s_Tape_to, defScope s_Tape_to, [], []⟩
def d_Tape_end : He.DefD := ⟨("Tape", some "end"), "end", "Tape.end", defArgs s_Tape_end, defBody s_Tape_end, defScope s_Tape_end, [], []⟩
def d_sum_at : He.DefD := ⟨("sum_at", none), "sum_at", "sum_at", defArgs s_sum_at, defBody s_sum_at, defScope s_sum_at, [], []⟩
def d_next_so : He.DefD := ⟨("next_so", none), "next_so", "next_so", defArgs s_next_so, defBody s_next_so, defScope s_next_so, [], []⟩
def d_reads_of : He.DefD := ⟨("reads_of", none), "reads_of", "reads_of", defArgs s_reads_of, defBody s_reads_of, defScope s_reads_of, [], []⟩
def d_step_reads : He.DefD := ⟨("step_reads", none), "step_reads", "step_reads", defArgs s_step_reads, defBody s_step_reads, defScope s_step_reads, [], []⟩
def d_thing_written : He.DefD := ⟨("thing_written", none), "thing_written", "thing_written", defArgs s_thing_written, defBody s_thing_written, defScope s_thing_written, [], []⟩
def d_reasonsU : He.DefD := ⟨("reasons", none), "reasons", "reasons", defArgs s_reasonsU, defBody s_reasonsU, defScope s_reasonsU, [], []⟩
def d_Desk_by_sum : He.DefD := ⟨("Desk", some "by_sum"), "by_sum", "Desk.by_sum", defArgs s_Desk_by_sum, defBody s_Desk_by_sum, defScope s_Desk_by_sum, [], []⟩
def d_Tape_back : He.DefD := ⟨("Tape", some "back"), "back", "Tape.back", defArgs s_Tape_back, defBody s_Tape_back, defScope s_Tape_back, [], []⟩
def d_Tape_go : He.DefD := ⟨("Tape", some "go"), "go", "Tape.go", defArgs s_Tape_go, defBody s_Tape_go, defScope s_Tape_go, [], []⟩
def d_Words___init__ : He.DefD := ⟨("Words", some "__init__"), "__init__", "Words.__init__", defArgs s_Words___init__, defBody s_Words___init__, defScope s_Words___init__, [], []⟩
def d_Words_word : He.DefD := ⟨("Words", some "word"), "word", "Words.word", defArgs s_Words_word, defBody s_Words_word, defScope s_Words_word, [], []⟩
def d_Words_number : He.DefD := ⟨("Words", some "number"), "number", "Words.number", defArgs s_Words_number, defBody s_Words_number, defScope s_Words_number, [], []⟩
def d_is_mark : He.DefD := ⟨("is_mark", none), "is_mark", "is_mark", defArgs s_is_mark, defBody s_is_mark, defScope s_is_mark, [], []⟩
def d_is_name : He.DefD := ⟨("is_name", none), "is_name", "is_name", defArgs s_is_name, defBody s_is_name, defScope s_is_name, [], []⟩
def d_is_thing : He.DefD := ⟨("is_thing", none), "is_thing", "is_thing", defArgs s_is_thing, defBody s_is_thing, defScope s_is_thing, [], []⟩
def d_need_thing : He.DefD := ⟨("need_thing", none), "need_thing", "need_thing", defArgs s_need_thing, defBody s_need_thing, defScope s_need_thing, [], []⟩
def d_worth_of : He.DefD := ⟨("worth_of", none), "worth_of", "worth_of", defArgs s_worth_of, defBody s_worth_of, defScope s_worth_of, [], []⟩
def d_changes : He.DefD := ⟨("changes", none), "changes", "changes", defArgs s_changes, defBody s_changes, defScope s_changes, [], []⟩
def d_last_change : He.DefD := ⟨("last_change", none), "last_change", "last_change", defArgs s_last_change, defBody s_last_change, defScope s_last_change, [], []⟩
def d_Words_sum_in : He.DefD := ⟨("Words", some "sum_in"), "sum_in", "Words.sum_in", defArgs s_Words_sum_in, defBody s_Words_sum_in, defScope s_Words_sum_in, [], []⟩
def d_is_worth : He.DefD := ⟨("is_worth", none), "is_worth", "is_worth", defArgs s_is_worth, defBody s_is_worth, defScope s_is_worth, [], []⟩
def d_left_of : He.DefD := ⟨("left_of", none), "left_of", "left_of", defArgs s_left_of, defBody s_left_of, defScope s_left_of, [], []⟩
def d_is_sum : He.DefD := ⟨("is_sum", none), "is_sum", "is_sum", defArgs s_is_sum, defBody s_is_sum, defScope s_is_sum, [], []⟩
def d_sum_words : He.DefD := ⟨("sum_words", none), "sum_words", "sum_words", defArgs s_sum_words, defBody s_sum_words, defScope s_sum_words, [], []⟩
def d_written_sum : He.DefD := ⟨("written_sum", none), "written_sum", "written_sum", defArgs s_written_sum, defBody s_written_sum, defScope s_written_sum, [], []⟩
def d_read_sum : He.DefD := ⟨("read_sum", none), "read_sum", "read_sum", defArgs s_read_sum, defBody s_read_sum, defScope s_read_sum, [], []⟩
def d_thing_in : He.DefD := ⟨("thing_in", none), "thing_in", "thing_in", defArgs s_thing_in, defBody s_thing_in, defScope s_thing_in, [], []⟩
def d_Desk_with_more : He.DefD := ⟨("Desk", some "with_more"), "with_more", "Desk.with_more", defArgs s_Desk_with_more, defBody s_Desk_with_more, defScope s_Desk_with_more, [], []⟩
def d_depth : He.DefD := ⟨("depth", none), "depth", "depth", defArgs s_depth, defBody s_depth, defScope s_depth, [], []⟩
def d_back_out : He.DefD := ⟨("back_out", none), "back_out", "back_out", defArgs s_back_out, defBody s_back_out, defScope s_back_out, [], []⟩
def d_back_over : He.DefD := ⟨("back_over", none), "back_over", "back_over", defArgs s_back_over, defBody s_back_over, defScope s_back_over, [], []⟩
def d_out : He.DefD := ⟨("out", none), "out", "out", defArgs s_out, defBody s_out, defScope s_out, [], []⟩
def d_over : He.DefD := ⟨("over", none), "over", "over", defArgs s_over, defBody s_over, defScope s_over, [], []⟩
def d_Desk_done : He.DefD := ⟨("Desk", some "done"), "done", "Desk.done", defArgs s_Desk_done, defBody s_Desk_done, defScope s_Desk_done, [], []⟩
def d_Desk_say : He.DefD := ⟨("Desk", some "say"), "say", "Desk.say", defArgs s_Desk_say, defBody s_Desk_say, defScope s_Desk_say, [], []⟩
def d_l_cell : He.DefD := ⟨("_law_cell", none), "_law_cell", "_law_cell", defArgs s_l_cell, defBody s_l_cell, defScope s_l_cell, [], []⟩
def d_l_drawn : He.DefD := ⟨("_law_drawn", none), "_law_drawn", "_law_drawn", defArgs s_l_drawn, defBody s_l_drawn, defScope s_l_drawn, [], []⟩
def d_l_asked : He.DefD := ⟨("_law_asked", none), "_law_asked", "_law_asked", defArgs s_l_asked, defBody s_l_asked, defScope s_l_asked, [], []⟩
def d_l_sum : He.DefD := ⟨("_law_sum", none), "_law_sum", "_law_sum", defArgs s_l_sum, defBody s_l_sum, defScope s_l_sum, [], []⟩
def d_l_row : He.DefD := ⟨("_law_row", none), "_law_row", "_law_row", defArgs s_l_row, defBody s_l_row, defScope s_l_row, [], []⟩
def d_l_program : He.DefD := ⟨("_law_program", none), "_law_program", "_law_program", defArgs s_l_program, defBody s_l_program, defScope s_l_program, [], []⟩
def d_law : He.DefD := ⟨("law", none), "law", "law", defArgs s_law, defBody s_law, defScope s_law, [], []⟩
def hfn : List He.DefD := [d_begun, d_Tape___init__, d_Desk___init__, d_Tape_moment, d_Tape_keep, d_is_over, d_reckoned, d_with_worth, d_written_by, d_stepped, d_Tape_came, d_Tape_at, d_Tape_state, d_Desk_where, d_Tape_to, d_Tape_end, d_sum_at, d_next_so, d_reads_of, d_step_reads, d_thing_written, d_reasonsU, d_Desk_by_sum, d_Tape_back, d_Tape_go, d_Words___init__, d_Words_word, d_Words_number, d_is_mark, d_is_name, d_is_thing, d_need_thing, d_worth_of, d_changes, d_last_change, d_Words_sum_in, d_is_worth, d_left_of, d_is_sum, d_sum_words, d_written_sum, d_read_sum, d_thing_in, d_Desk_with_more, d_depth, d_back_out, d_back_over, d_out, d_over, d_Desk_done, d_Desk_say, d_l_cell, d_l_drawn, d_l_asked, d_l_sum, d_l_row, d_l_program, d_law]
def hfa : List He.Fa := [.glo "begun", .glo "is_over", .glo "reckoned", .glo "with_worth", .glo "written_by", .glo "stepped", .glo "sum_at", .glo "next_so", .glo "reads_of", .glo "step_reads", .glo "thing_written", .glo "reasons", .glo "is_mark", .glo "is_name", .glo "is_thing", .glo "need_thing", .glo "worth_of", .glo "changes", .glo "last_change", .glo "is_worth", .glo "left_of", .glo "is_sum", .glo "sum_words", .glo "written_sum", .glo "read_sum", .glo "thing_in", .glo "depth", .glo "back_out", .glo "back_over", .glo "out", .glo "over", .glo "_law_cell", .glo "_law_drawn", .glo "_law_asked", .glo "_law_sum", .glo "_law_row", .glo "_law_program", .glo "law", .cls "Desk", .glo "Desk", .cls "Tape", .glo "Tape", .cls "Words", .glo "Words", .noat "Desk" "kept", .noat "Desk" "tape", .noat "Tape" "asked", .noat "Tape" "every", .noat "Tape" "far", .noat "Tape" "here", .noat "Tape" "kept", .noat "Tape" "last", .noat "Tape" "most", .noat "Tape" "program", .noat "Words" "left", .mkr "Tape", .mkr "Desk", .meth "Tape" "moment", .meth "Tape" "keep", .meth "Tape" "came", .meth "Tape" "at", .meth "Tape" "state", .meth "Desk" "where", .meth "Tape" "to", .meth "Tape" "end", .meth "Desk" "by_sum", .meth "Tape" "back", .meth "Tape" "go", .mkr "Words", .meth "Words" "word", .meth "Words" "number", .meth "Words" "sum_in", .meth "Desk" "with_more", .meth "Desk" "done", .meth "Desk" "say", .glo "NoMoment", .exc "NoMoment", .glo "NoText", .exc "NoText", .glo "NoThing", .exc "NoThing", .free "all", .free "bool", .free "dict", .free "int", .free "isinstance", .free "len", .free "list", .free "max", .free "min", .free "range", .free "str", .free "tuple", .int "CELLS" 4, .str "FIGURES" "0123456789", .str "LETTERS" "abcdefghijklmnopqrstuvwxyz", .int "MOST_CALLS" 6, .int "MOST_MARKS" 8, .int "MOST_PARTS" 15, .str "NAMES" "abcdef", .int "SIZE" 10007, .glo "WORDS", .glo "MOVES"]
def hnames : List PySem.Str := (["_wall", "TapeError", "NoMoment", "NoThing", "NoText", "NAMES", "CELLS", "SIZE", "MOST_PARTS", "WORDS", "is_worth", "is_name", "left_of", "is_sum", "is_thing", "MOST_CALLS", "begun", "reckoned", "worth_of", "with_worth", "is_over", "written_by", "stepped", "need_thing", "sum_at", "changes", "last_change", "next_so", "reads_of", "step_reads"] : List PySem.Str) ++ (["thing_written", "reasons", "MOST_MARKS", "Tape", "FIGURES", "sum_words", "written_sum", "Words", "read_sum", "depth", "over", "out", "back_over", "back_out", "LETTERS", "MOVES", "thing_in", "is_mark", "Desk", "_law_cell", "_law_drawn", "_law_sum", "_law_row", "_law_program", "_law_asked"] : List PySem.Str)
def hex (K : PySem.W.Frag) : Bool := He.tupB K "WORDS" [.str "add", .str "sub", .str "mul", .str "less"] && sayB K && He.valsB K (He.ga K "MOVES") (fs_MOVES.map fun q => (q.1, He.Dv.glo q.2))
def htabs : List (Str × List Str) := [("MOVES", kf_MOVES.map (·.1))]
abbrev hR : PySem.W.OpenRow := PySem.W.OpenLaw.row PySem.Challenge.rw_backtape_k91_whole_desks
abbrev hhk : PySem.W.Hook := Bt.hookBT 6 hfa hfn hex htabs
def hob (s : PySem.W.SharedT) : AlBT := obsBT 6 hfa hfn hex htabs (HandSHeadRun.getT s)
theorem hrun_false (w : PySem.World) : HandSHeadRun.RunEq hR (PySem.W.view hR.prog [65]) hhk hob 20000 hnames (w.withFollow "special-get-raises" false) := by
  intro os
  kernel_rfl
theorem hrun_true (w : PySem.World) : HandSHeadRun.RunEq hR (PySem.W.view hR.prog [65]) hhk hob 20000 hnames (w.withFollow "special-get-raises" true) := by
  intro os
  kernel_rfl
theorem hrun (w : PySem.World) : HandSHeadRun.RunEq hR (PySem.W.view hR.prog [65]) hhk hob 20000 hnames w := PySem.W.byRow2 "special-get-raises" (P := fun w => HandSHeadRun.RunEq hR (PySem.W.view hR.prog [65]) hhk hob 20000 hnames w) hrun_false hrun_true w
end Bt
set_option Elab.async false
set_option linter.all false
set_option maxRecDepth 100000
set_option maxHeartbeats 4000000
namespace Bt
open PySem L2
section
variable {K : PySem.W.Frag} {F F' : Hp} {α α' : List Addr}
theorem Reps.get : ∀ {ds : List D} {vs : List V} {i : Nat} {d : D}, Reps K F α ds vs → ds[i]? = some d → ∃ v, vs[i]? = some v ∧ Rep K F α d v
  | _, _, _, _, .nil, e => by simp at e
  | _, _, 0, _, .cons r _, e => by simp at e; subst e; exact ⟨_, rfl, r⟩
  | _, _, i + 1, d, .cons _ t, e => by
    obtain ⟨v, h1, h2⟩ := Reps.get (i := i) (d := d) t (by simpa using e)
    exact ⟨v, by simpa using h1, h2⟩
theorem Reps.snoc {ds : List D} {vs : List V} {d : D} {v : V} (h : Reps K F α ds vs) (r : Rep K F α d v) : Reps K F α (ds ++ [d]) (vs ++ [v]) := h.append (.cons r .nil)
theorem Reps.ints : ∀ (ns : List Int), Reps K F α (ns.map D.int) (ns.map V.int)
  | [] => .nil
  | n :: r => .cons (.int n) (Reps.ints r)
theorem Reps.ints_inv : ∀ {ns : List Int} {vs : List V}, Reps K F α (ns.map D.int) vs → vs = ns.map V.int
  | [], _, .nil => rfl
  | n :: r, _, .cons (.int _) t => by rw [Reps.ints_inv t]; rfl
end
theorem lko_lst {xs : List V} : ¬ LkO (.lst xs) := by rintro (⟨_, _, _, h⟩ | ⟨_, _, h⟩) <;> cases h
theorem lko_dK {xs : List (Key × V)} : ¬ LkO (.dK xs) := by rintro (⟨_, _, _, h⟩ | ⟨_, _, h⟩) <;> cases h
section
variable {K : PySem.W.Frag} {g : G} {S : Sto} {H : Hp}
theorem gext_obj (g : G) (p : Addr) : GExt g (g.obj p) := ⟨fun _ _ h => h, fun n a h => by
  show (g.α ++ [p])[n]? = some a
  rw [List.getElem?_append_left (by have := List.getElem?_eq_some_iff.mp h; obtain ⟨h1, _⟩ := this; exact h1)]
  exact h, fun _ _ h => h⟩
theorem getLast_app {α : Type} (l : List α) (a : α) : (l ++ [a])[l.length]? = some a := by simp
theorem World.push (w : World K g S H) {p : Addr} {o : HO} {u : AObj} (hp : H p = none) (hu : ObjAt K (g.obj p) (upd H p o) S.length u) : World K (g.obj p) (S ++ [u]) (upd H p o) := by
  refine ⟨fun a x h => ?_, ?_, fun n x h => ?_, fun b q hb => ?_, fun b x hb => ?_⟩
  · rw [upd_ne (ne_of_none h (w.fresh hp))]; exact w.sub a x h
  · show (g.α ++ [p]).length = _
    simp [w.len]
  · by_cases e : n < S.length
    · rw [List.getElem?_append_left e] at h
      refine (w.at_ n x h).mono (gext_obj g p) fun b j hb => ⟨?_, by rw [upd_ne (w.notown hp hb)]⟩
      show (if b = p then _ else _) = _
      rw [if_neg (w.notown hp hb)]; exact hb
    · have e2 : n = S.length := by
        have := (List.getElem?_eq_some_iff.mp h).1
        simp at this; omega
      subst e2
      rw [getLast_app] at h
      cases h
      exact hu
  · have hb' : (if b = p then some (g.α.length, 0) else g.own b) = some q := hb
    by_cases e : b = p
    · subst e
      exact ⟨w.fresh hp, by rw [upd_same]; rfl⟩
    · rw [if_neg e] at hb'
      rw [upd_ne e]
      exact w.free b q hb'
  · obtain ⟨h1, h2, h3⟩ := w.pin b x hb
    have ne : b ≠ p := ne_of_none h1 hp
    refine ⟨by rw [upd_ne ne]; exact h1, h2, ?_⟩
    show (if b = p then _ else _) = _
    rw [if_neg ne]; exact h3
theorem World.pushList (w : World K g S H) {p : Addr} {l : List D} {xs : List V} (hp : H p = none) (r : RepsG K g l xs) : World K (g.obj p) (S ++ [.list l]) (upd H p (.lst xs)) ∧ RepG K (g.obj p) (.obj S.length) (.ref p) := by
  have e : (g.obj p).α[S.length]? = some p := by
    show (g.α ++ [p])[S.length]? = some p
    rw [← w.len]; exact getLast_app _ _
  refine ⟨w.push hp ⟨p, xs, e, ?_, upd_same, (gext_obj g p).reps r⟩, .obj e⟩
  show (if p = p then some (g.α.length, 0) else _) = _
  rw [if_pos rfl, w.len]
theorem World.pushDict (w : World K g S H) {p : Addr} {kvs : List (Key × D)} {ks : List (Key × V)} (hp : H p = none) (r : KReps K g kvs ks) : World K (g.obj p) (S ++ [.dict kvs]) (upd H p (.dK ks)) ∧ RepG K (g.obj p) (.obj S.length) (.ref p) := by
  have e : (g.obj p).α[S.length]? = some p := by
    show (g.α ++ [p])[S.length]? = some p
    rw [← w.len]; exact getLast_app _ _
  refine ⟨w.push hp ⟨p, ks, e, ?_, upd_same, r.mono (gext_obj g p).sub⟩, .obj e⟩
  show (if p = p then some (g.α.length, 0) else _) = _
  rw [if_pos rfl, w.len]
/-- the n-th thing is written at the place b of its own -/
theorem World.write (w : World K g S H) {n j : Nat} {b : Addr} {o : HO} {u : AObj} (hb : g.own b = some (n, j)) (hu : ObjAt K g (upd H b o) n u) : World K g (S.set n u) (upd H b o) := by
  refine ⟨fun a x h => ?_, by simp [w.len], fun m x h => ?_, fun c q hc => ?_, fun c x hc => ?_⟩
  · rw [upd_ne (ne_of_none h (w.free b _ hb).1)]; exact w.sub a x h
  · by_cases e : m = n
    · subst e
      have hl : m < S.length := by
        have := (List.getElem?_eq_some_iff.mp h).1
        simpa using this
      rw [List.getElem?_set_self hl] at h
      cases h
      exact hu
    · rw [List.getElem?_set_ne (Ne.symm e)] at h
      refine (w.at_ m x h).mono (GExt.refl g) fun c i hc => ⟨hc, ?_⟩
      rw [upd_ne]
      intro z; subst z
      rw [hb] at hc; cases hc; exact e rfl
  · refine ⟨(w.free c q hc).1, ?_⟩
    by_cases e : c = b
    · subst e; rw [upd_same]; rfl
    · rw [upd_ne e]; exact (w.free c q hc).2
  · obtain ⟨h1, h2, h3⟩ := w.pin c x hc
    refine ⟨?_, h2, h3⟩
    rw [upd_ne]; exact h1
    intro z; subst z; rw [hb] at h3; cases h3
/-- a list of the store is frozen -/
def G.ice (g : G) (a : Addr) (o : HO) : G := { g with F := upd g.F a o, own := fun b => if b = a then none else g.own b }
theorem World.freeze (w : World K g S H) {n : Nat} {l : List D} {v : V} (hS : S[n]? = some (.list l)) (hv : RepG K g (.obj n) v) : ∃ g', GExt g g' ∧ World K g' (S.set n .dead) H ∧ RepG K g' (.lst l) v := by
  obtain ⟨a, xs, h1, h2, h3, h4⟩ := w.at_ n _ hS
  cases hv with
  | obj h5 =>
    rw [h1] at h5; cases h5
    have fa := (w.free a _ h2).1
    have ex : GExt g (g.ice a (.lst xs)) := ⟨fun b o h => by
      show upd g.F a _ b = _
      rw [upd_ne (ne_of_none h fa)]; exact h, fun _ _ h => h, fun _ _ h => h⟩
    refine ⟨g.ice a (.lst xs), ex, ⟨fun b o h => ?_, by simp [G.ice, w.len], fun m x h => ?_, fun b q hb => ?_, fun b x hb => ?_⟩, .lst upd_same (ex.reps h4)⟩
    · have h' : upd g.F a (.lst xs) b = some o := h
      by_cases e : b = a
      · subst e; rw [upd_same] at h'; cases h'; exact h3
      · rw [upd_ne e] at h'; exact w.sub b o h'
    · by_cases e : m = n
      · subst e
        have hl : m < S.length := by
          have := (List.getElem?_eq_some_iff.mp h).1
          simpa using this
        rw [List.getElem?_set_self hl] at h
        cases h
        trivial
      · rw [List.getElem?_set_ne (Ne.symm e)] at h
        refine (w.at_ m x h).mono ex fun b j hb => ⟨?_, rfl⟩
        show (if b = a then none else g.own b) = _
        rw [if_neg]; exact hb
        intro z; subst z
        rw [h2] at hb; cases hb; exact e rfl
    · have hb' : (if b = a then none else g.own b) = some q := hb
      by_cases e : b = a
      · rw [if_pos e] at hb'; cases hb'
      · rw [if_neg e] at hb'
        refine ⟨?_, (w.free b q hb').2⟩
        show upd g.F a _ b = none
        rw [upd_ne e]; exact (w.free b q hb').1
    · obtain ⟨r1, r2, r3⟩ := w.pin b x hb
      have ne : b ≠ a := by intro z; subst z; rw [h2] at r3; cases r3
      refine ⟨r1, ?_, ?_⟩
      · show upd g.F a _ b = none
        rw [upd_ne ne]; exact r2
      · show (if b = a then none else g.own b) = none
        rw [if_neg ne]; exact r3
/-- an object of the hand layer that is only held -/
def G.hold (g : G) (p : Addr) (o : HO) : G := { g with pin := fun b => if b = p then some o else g.pin b }
theorem World.hold (w : World K g S H) {p : Addr} {o : HO} (hp : H p = none) : World K (g.hold p o) S (upd H p o) ∧ GExt g (g.hold p o) := by
  have np : g.pin p = none := by
    cases e : g.pin p with
    | none => rfl
    | some x => have := (w.pin p x e).1; rw [hp] at this; cases this
  have no : g.own p = none := by
    cases e : g.own p with
    | none => rfl
    | some q => exact absurd rfl (w.notown hp e)
  have ex : GExt g (g.hold p o) := ⟨fun _ _ h => h, fun _ _ h => h, fun a x h => by
    show (if a = p then _ else _) = _
    rw [if_neg]; exact h
    intro z; subst z; rw [np] at h; cases h⟩
  refine ⟨⟨fun a x h => ?_, w.len, fun n x h => (w.at_ n x h).mono ex fun b j hb => ⟨hb, by rw [upd_ne (w.notown hp hb)]⟩, fun b q hb => ?_, fun b x hb => ?_⟩, ex⟩
  · rw [upd_ne (ne_of_none h (w.fresh hp))]; exact w.sub a x h
  · rw [upd_ne (w.notown hp hb)]; exact w.free b q hb
  · have hb' : (if b = p then some o else g.pin b) = some x := hb
    by_cases e : b = p
    · subst e
      rw [if_pos rfl] at hb'
      exact ⟨by rw [upd_same]; exact hb', w.fresh hp, no⟩
    · rw [if_neg e] at hb'
      obtain ⟨r1, r2, r3⟩ := w.pin b x hb'
      exact ⟨by rw [upd_ne e]; exact r1, r2, r3⟩
/-- what is held is written -/
theorem World.rehold (w : World K g S H) {p : Addr} {o u : HO} (hp : g.pin p = some o) (ho : ¬ LkO o) : World K (g.hold p u) S (upd H p u) := by
  obtain ⟨q1, q2, q3⟩ := w.pin p o hp
  have own_ne : ∀ {b q}, g.own b = some q → b ≠ p := fun {b q} h z => by subst z; rw [q3] at h; cases h
  refine ⟨fun a x h => ?_, w.len, fun n x h => ?_, fun b q hb => ?_, fun b x hb => ?_⟩
  · rw [upd_ne (ne_of_none h q2)]; exact w.sub a x h
  · exact (w.at_ n x h).monoS ⟨fun _ _ h => h, fun _ _ h => h⟩ (fun b j hb => ⟨hb, by rw [upd_ne (own_ne hb)]⟩) fun b o' h l => by
      show (if b = p then _ else _) = _
      rw [if_neg]; exact h
      intro z; subst z; rw [hp] at h; cases h; exact ho l
  · rw [upd_ne (own_ne hb)]; exact w.free b q hb
  · have hb' : (if b = p then some u else g.pin b) = some x := hb
    by_cases e : b = p
    · subst e
      rw [if_pos rfl] at hb'
      exact ⟨by rw [upd_same]; exact hb', q2, q3⟩
    · rw [if_neg e] at hb'
      obtain ⟨r1, r2, r3⟩ := w.pin b x hb'
      exact ⟨by rw [upd_ne e]; exact r1, r2, r3⟩
end
end Bt
namespace Bt
open PySem L2
def tE (K : PySem.W.Frag) (W : WX) (f : Ex) : TE := fun σ H Q => ∃ g S ρ, World K g S H ∧ RelSt K g σ ρ ∧ Post K W σ g Q (f ρ S)
def tT (K : PySem.W.Frag) (W : WX) (f : Ex) : TT := fun σ H Q => ∃ g S ρ, World K g S H ∧ RelSt K g σ ρ ∧ PostT K W σ g Q (f ρ S)
def tA (K : PySem.W.Frag) (W : WX) (f : Ex) : TA := fun σ H Q => ∃ g S ρ, World K g S H ∧ RelSt K g σ ρ ∧ PostA K W σ g Q (f ρ S)
def tS (K : PySem.W.Frag) (W : WX) (f : Sx) : TS := fun N σ H => ∃ g S ρ, World K g S H ∧ RelSt K g σ ρ ∧ PostS K W g N (f ρ S)
structure JE (X : Cx) (W : WX) (e : Expr) (f : Ex) : Prop where
  run : PE X e (tE X.K W f)
structure JT (X : Cx) (W : WX) (e : Expr) (f : Ex) : Prop where
  run : PT X e (tT X.K W f)
structure JW (X : Cx) (W : WX) (e : Expr) (f : Ex) : Prop where
  run : PW X e (tT X.K W f)
structure JA (X : Cx) (W : WX) (es : List Expr) (f : Ex) : Prop where
  run : PA X es (tA X.K W f)
structure JS (X : Cx) (W : WX) (st : Stmt) (f : Sx) : Prop where
  run : PS X st (tS X.K W f)
structure JSs (X : Cx) (W : WX) (sts : List Stmt) (f : Sx) : Prop where
  run : PSs X sts (tS X.K W f)
theorem peImp {X : Cx} {e : Expr} {t t' : TE} (h : PE X e t) (i : ∀ σ H Q, t' σ H Q → t σ H Q) : PE X e t' := ⟨fun pins s σ H Q I q => h.run pins s σ H Q I (i σ H Q q)⟩
theorem ptImp {X : Cx} {e : Expr} {t t' : TT} (h : PT X e t) (i : ∀ σ H Q, t' σ H Q → t σ H Q) : PT X e t' := ⟨fun pins s σ H Q I q => h.run pins s σ H Q I (i σ H Q q)⟩
theorem pwImp {X : Cx} {e : Expr} {t t' : TT} (h : PW X e t) (i : ∀ σ H Q, t' σ H Q → t σ H Q) : PW X e t' := ⟨fun w pins s σ H Q I q => h.run w pins s σ H Q I (i σ H Q q)⟩
theorem paImp {X : Cx} {e : List Expr} {t t' : TA} (h : PA X e t) (i : ∀ σ H Q, t' σ H Q → t σ H Q) : PA X e t' := ⟨fun w pins s σ H Q I q => h.run w pins s σ H Q I (i σ H Q q)⟩
theorem psImp {X : Cx} {e : Stmt} {t t' : TS} (h : PS X e t) (i : ∀ N σ H, t' N σ H → t N σ H) : PS X e t' := ⟨fun pins s σ H N I q => h.run pins s σ H N I (i N σ H q)⟩
theorem pssImp {X : Cx} {e : List Stmt} {t t' : TS} (h : PSs X e t) (i : ∀ N σ H, t' N σ H → t N σ H) : PSs X e t' := ⟨fun pins s σ H N I q => h.run pins s σ H N I (i N σ H q)⟩
section
variable {K : PySem.W.Frag} {W : WX} {σ : L2.St} {g g' : G} {Q Q' : VK} {r : ER}
theorem Post.of_bind {k : D → Sto → ER} (h : Post K W σ g Q (r.bind k)) (hQ : ∀ d S v g1 H1, r = .ok d S → GExt g g1 → World K g1 S H1 → RepG K g1 d v → Post K W σ g1 Q (k d S) → Q' v H1) : Post K W σ g Q' r := by
  cases r with
  | ok d S => exact fun v g1 H1 x y z => hQ d S v g1 H1 rfl x y z (Post.ext h x)
  | exc k S => exact h
  | bad => exact h
theorem PostT.of_bind {k : D → Sto → ER} {QT : Bool → Hp → Prop} (h : PostT K W σ g QT (r.bind k)) (hQ : ∀ d S v g1 H1, r = .ok d S → GExt g g1 → World K g1 S H1 → RepG K g1 d v → PostT K W σ g1 QT (k d S) → Q' v H1) : Post K W σ g Q' r := by
  cases r with
  | ok d S => exact fun v g1 H1 x y z => hQ d S v g1 H1 rfl x y z (PostT.ext h x)
  | exc k S => exact h
  | bad => exact h
theorem PostA.of_bind {k : D → Sto → ER} {QT : List V → Hp → Prop} (h : PostA K W σ g QT (r.bind k)) (hQ : ∀ d S v g1 H1, r = .ok d S → GExt g g1 → World K g1 S H1 → RepG K g1 d v → PostA K W σ g1 QT (k d S) → Q' v H1) : Post K W σ g Q' r := by
  cases r with
  | ok d S => exact fun v g1 H1 x y z => hQ d S v g1 H1 rfl x y z (PostA.ext h x)
  | exc k S => exact h
  | bad => exact h
/-- .. the first part a test -/
theorem Post.of_test {k : D → Sto → ER} {QT : Bool → Hp → Prop} (h : Post K W σ g Q (r.bind fun d S => match d with | .bl b => k (.bl b) S | _ => .bad)) (hQ : ∀ b S g1 H1, r = .ok (.bl b) S → GExt g g1 → World K g1 S H1 → Post K W σ g1 Q (k (.bl b) S) → QT b H1) : PostT K W σ g QT r := by
  cases r with
  | ok d S =>
    cases d with
    | bl b => exact fun g1 H1 x y => hQ b S g1 H1 rfl x y (Post.ext h x)
    | _ => exact h
  | exc k S => exact h
  | bad => exact h
theorem PostT.of_test {k : D → Sto → ER} {QT QT' : Bool → Hp → Prop} (h : PostT K W σ g QT' (r.bind fun d S => match d with | .bl b => k (.bl b) S | _ => .bad)) (hQ : ∀ b S g1 H1, r = .ok (.bl b) S → GExt g g1 → World K g1 S H1 → PostT K W σ g1 QT' (k (.bl b) S) → QT b H1) : PostT K W σ g QT r := by
  cases r with
  | ok d S =>
    cases d with
    | bl b => exact fun g1 H1 x y => hQ b S g1 H1 rfl x y (PostT.ext h x)
    | _ => exact h
  | exc k S => exact h
  | bad => exact h
/-- .. an argument list -/
theorem Post.of_args {k : List D → Sto → ER} {QT : List V → Hp → Prop} (h : Post K W σ g Q (r.bind fun d S => match d with | .tup l => k l S | _ => .bad)) (hQ : ∀ l S vs g1 H1, r = .ok (.tup l) S → GExt g g1 → World K g1 S H1 → RepsG K g1 l vs → Post K W σ g1 Q (k l S) → QT vs H1) : PostA K W σ g QT r := by
  cases r with
  | ok d S =>
    cases d with
    | tup b => exact fun v g1 H1 x y z => hQ b S v g1 H1 rfl x y z (Post.ext h x)
    | _ => exact h
  | exc k S => exact h
  | bad => exact h
theorem PostA.of_args {k : List D → Sto → ER} {QT QT' : List V → Hp → Prop} (h : PostA K W σ g QT' (r.bind fun d S => match d with | .tup l => k l S | _ => .bad)) (hQ : ∀ l S vs g1 H1, r = .ok (.tup l) S → GExt g g1 → World K g1 S H1 → RepsG K g1 l vs → PostA K W σ g1 QT' (k l S) → QT vs H1) : PostA K W σ g QT r := by
  cases r with
  | ok d S =>
    cases d with
    | tup b => exact fun v g1 H1 x y z => hQ b S v g1 H1 rfl x y z (PostA.ext h x)
    | _ => exact h
  | exc k S => exact h
  | bad => exact h
theorem Post.valE {d : D} {S : Sto} {v : V} {H : Hp} (h : Post K W σ g Q (.ok d S)) (e : GExt g g') (w : World K g' S H) (r : RepG K g' d v) : Q v H := h v g' H e w r
theorem Post.lift {o : Option D} {S : Sto} (h : Post K W σ g Q (lift1 o S)) : ∃ d, o = some d ∧ Post K W σ g Q (.ok d S) := by
  cases o with
  | none => exact h.elim
  | some d => exact ⟨d, rfl, h⟩
end
section
variable {X : Cx} {W : WX} {pos : Pos} {a b c : Expr} {fa fb fc : Ex}
theorem je_var (i : Nat) {x : Str} (hN : X.N[i]? = some x := by rfl) (hv : Vis X.env.scope x := by first | exact Or.inl rfl | exact Or.inr (Or.inl rfl) | exact Or.inr (Or.inr rfl)) (hd : (x == ("__debug__" : Str)) = false := by decide)
    (hcd : (x == ("__classdict__" : Str)) = false := by decide) : JE X W (.Name x pos) (eVar i) := ⟨peImp (pe_var hN hv hd hcd) fun σ H Q ⟨g, S, ρ, w, r, h⟩ => by
  unfold eVar at h
  cases e : ρ[i]? with
  | none => rw [e] at h; exact h.elim
  | some o =>
    cases o with
    | none => rw [e] at h; exact h.elim
    | some d =>
      rw [e] at h
      obtain ⟨v, h1, h2⟩ := r.at_ i d e
      exact ⟨v, h1, h.val w h2⟩⟩
theorem tC_of {K : PySem.W.Frag} {d : D} {v : V} (hr : ∀ g, RepG K g d v) : ∀ σ H Q, tE K W (eC d) σ H Q → tC v σ H Q := fun σ H Q ⟨g, S, ρ, w, r, h⟩ => h.val w (hr g)
theorem je_int {i : Int} {j : Nat} : JE X W (.Constant (.int i) j pos) (eC (.int i)) := ⟨peImp pe_int (tC_of fun _ => .int i)⟩
theorem je_bl {i : Bool} {j : Nat} : JE X W (.Constant (.bool i) j pos) (eC (.bl i)) := ⟨peImp pe_bl (tC_of fun _ => .bl i)⟩
theorem je_non {j : Nat} : JE X W (.Constant .none j pos) (eC .non) := ⟨peImp pe_non (tC_of fun _ => .non)⟩
theorem je_str {x : Str} {j : Nat} : JE X W (.Constant (.str x) j pos) (eC (.str x)) := ⟨peImp pe_str (tC_of fun _ => .str x)⟩
/-- what a name of the module says -/
structure GlobC (K : PySem.W.Frag) (mg : Str → Option Value) (x : Str) (d : D) : Prop where
  ex : ∃ u v, mg x = some u ∧ RelV v u ∧ ∀ g, RepG K g d v
theorem je_glob {x : Str} {d : D} (c : GlobC X.K X.mg x d) (hg : Gl X x := by rfl) (hd : (x == ("__debug__" : Str)) = false := by decide) : JE X W (.Name x pos) (eC d) := by
  obtain ⟨u, v, h1, h2, h3⟩ := c.ex
  exact ⟨peImp (pe_glob hg h1 h2 hd) (tC_of h3)⟩
/-- the rule r does F -/
def L2r (K : PySem.W.Frag) (r : R2) (F : Sto → D → D → Option D) : Prop :=
  ∀ (g : G) (S : Sto) (H : Hp) (x y : V) (dx dy d : D) (Q : VK), World K g S H → RepG K g dx x → RepG K g dy y → F S dx dy = some d →
    (∀ v g' H', GExt g g' → World K g' S H' → RepG K g' d v → Q v H') → r x y H Q
def L1r (K : PySem.W.Frag) (r : V → Hp → VK → Prop) (F : Sto → D → Option D) : Prop :=
  ∀ (g : G) (S : Sto) (H : Hp) (x : V) (dx d : D) (Q : VK), World K g S H → RepG K g dx x → F S dx = some d →
    (∀ v g' H', GExt g g' → World K g' S H' → RepG K g' d v → Q v H') → r x H Q
def LAr (K : PySem.W.Frag) (r : List V → Hp → VK → Prop) (F : Sto → List D → Option D) : Prop :=
  ∀ (g : G) (S : Sto) (H : Hp) (xs : List V) (dx : List D) (d : D) (Q : VK), World K g S H → RepsG K g dx xs → F S dx = some d →
    (∀ v g' H', GExt g g' → World K g' S H' → RepG K g' d v → Q v H') → r xs H Q
theorem tOp_of {K : PySem.W.Frag} {r : R2} {F : Sto → D → D → Option D} (l : L2r K r F) : ∀ σ H Q, tE K W (eOp F fa fb) σ H Q → tOp r (tE K W fa) (tE K W fb) σ H Q := fun σ H Q ⟨g, S, ρ, w, rs, h⟩ => by
  refine ⟨g, S, ρ, w, rs, h.of_bind fun dx S1 x g1 H1 _ e1 w1 r1 h1 => ?_⟩
  refine ⟨g1, S1, ρ, w1, rs.mono e1, h1.of_bind fun dy S2 y g2 H2 _ e2 w2 r2 h2 => ?_⟩
  obtain ⟨d, hd, h3⟩ := h2.lift
  exact l g2 S2 H2 x y dx dy d Q w2 (e2.rep r1) r2 hd fun v g' H' e w r => h3 v g' H' e w r
theorem je_op {op : Operator} {r : R2} {F : Sto → D → D → Option D} (ho : OpR X (binaryOp op) r) (l : L2r X.K r F) (ha : JE X W a fa) (hb : JE X W b fb) : JE X W (.BinOp a op b pos) (eOp F fa fb) :=
  ⟨peImp (pe_op ho ha.run hb.run) (tOp_of l)⟩
theorem je_cmp {op : CmpOp} {r : R2} {F : Sto → D → D → Option D} (ho : OpR X (compareOp op) r) (l : L2r X.K r F) (ha : JE X W a fa) (hb : JE X W b fb) (hm : behindInMarks op b = false := by rfl) : JE X W (.Compare a [op] [b] pos) (eOp F fa fb) :=
  ⟨peImp (pe_cmpR ho ha.run hb.run hm) (tOp_of l)⟩
theorem je_un {op : UnaryOp} {r : V → Hp → VK → Prop} {F : Sto → D → Option D} (ho : UnR X (unaryOp op) r) (l : L1r X.K r F) (ha : JE X W a fa) : JE X W (.UnaryOp op a pos) (eUn F fa) :=
  ⟨peImp (pe_un ho ha.run) fun σ H Q ⟨g, S, ρ, w, rs, h⟩ => ⟨g, S, ρ, w, rs, h.of_bind fun dx S1 x g1 H1 _ e1 w1 r1 h1 => by
    obtain ⟨d, hd, h3⟩ := h1.lift
    exact l g1 S1 H1 x dx d Q w1 r1 hd fun v g' H' e w r => h3 v g' H' e w r⟩⟩
theorem je_ix {r : R2} {F : Sto → D → D → Option D} (ho : IxR X r) (l : L2r X.K r F) (ha : JE X W a fa) (hb : JE X W b fb) (hs : PlainIx b := by exact fun _ _ => rfl) : JE X W (.Subscript a b pos) (eOp F fa fb) :=
  ⟨peImp (pe_ix ho ha.run hb.run hs) (tOp_of l)⟩
/-- joining of rules -/
theorem L2r.or {K : PySem.W.Frag} {r r' : R2} {F F' : Sto → D → D → Option D} (h : L2r K r F) (h' : L2r K r' F') : L2r K (fun x y H Q => r x y H Q ∨ r' x y H Q) (fun S x y => match F S x y with | some d => some d | none => F' S x y) := by
  intro g S H x y dx dy d Q w rx ry e k
  have e' : (match F S dx dy with | some d => some d | none => F' S dx dy) = some d := e
  cases q : F S dx dy with
  | some z => rw [q] at e'; cases e'; exact .inl (h g S H x y dx dy d Q w rx ry q k)
  | none => rw [q] at e'; exact .inr (h' g S H x y dx dy d Q w rx ry e' k)
theorem jt_val (h : JE X W a fa) (he : ∀ whole, isTrue a X.env whole = (do let v ← whole; standAt a.pos; holding [v] (truthy v)) := by intro _; rfl) : JT X W a fa :=
  ⟨ptImp (pt_val h.run he) fun σ H Q ⟨g, S, ρ, w, rs, h⟩ => ⟨g, S, ρ, w, rs, by
    cases q : fa ρ S with
    | bad => rw [q] at h; exact h
    | exc k S' => rw [q] at h; exact h
    | ok d S' =>
      rw [q] at h
      cases d with
      | bl b =>
        intro v g' H' e w r
        cases r
        exact ⟨b, rfl, h g' H' e w⟩
      | _ => exact h.elim⟩⟩
theorem jt_cmp {op : CmpOp} {r : R2} {F : Sto → D → D → Option D} (ho : OpR X (compareOp op) r) (l : L2r X.K r F) (ha : JE X W a fa) (hb : JE X W b fb) (hm : behindInMarks op b = false := by rfl) : JT X W (.Compare a [op] [b] pos) (eOp F fa fb) :=
  ⟨ptImp (pt_cmpR ho ha.run hb.run hm) fun σ H Q ⟨g, S, ρ, w, rs, h⟩ => tOp_of l σ H _ ⟨g, S, ρ, w, rs, by
    cases q : eOp F fa fb ρ S with
    | bad => rw [q] at h; exact h
    | exc k S' => rw [q] at h; exact h
    | ok d S' =>
      rw [q] at h
      cases d with
      | bl b =>
        intro v g' H' e w r
        cases r
        exact ⟨b, rfl, h g' H' e w⟩
      | _ => exact h.elim⟩⟩
variable {rest : List Expr}
theorem jw_and1 (h : JT X W a fa) : JW X W (.BoolOp .And [a] pos) fa := ⟨pw_and1 h.run⟩
theorem jw_or1 (h : JT X W a fa) : JW X W (.BoolOp .Or [a] pos) fa := ⟨pw_or1 h.run⟩
theorem jw_and (ha : JT X W a fa) (hb : JW X W (.BoolOp .And (b :: rest) pos) fb) : JW X W (.BoolOp .And (a :: b :: rest) pos) (eAnd fa fb) :=
  ⟨pwImp (pw_and ha.run hb.run) fun σ H Q ⟨g, S, ρ, w, rs, h⟩ => ⟨g, S, ρ, w, rs, PostT.of_test (k := fun d S1 => match d with | .bl b => (match b with | true => fb ρ S1 | false => .ok (.bl false) S1) | _ => .bad) h fun b S1 g1 H1 _ e1 w1 h1 => by
    cases b with
    | true => rw [if_pos rfl]; exact ⟨g1, S1, ρ, w1, rs.mono e1, h1⟩
    | false => rw [if_neg Bool.false_ne_true]; exact h1 g1 H1 (GExt.refl _) w1⟩⟩
theorem jw_or (ha : JT X W a fa) (hb : JW X W (.BoolOp .Or (b :: rest) pos) fb) : JW X W (.BoolOp .Or (a :: b :: rest) pos) (eOr fa fb) :=
  ⟨pwImp (pw_or ha.run hb.run) fun σ H Q ⟨g, S, ρ, w, rs, h⟩ => ⟨g, S, ρ, w, rs, PostT.of_test (k := fun d S1 => match d with | .bl b => (match b with | true => .ok (.bl true) S1 | false => fb ρ S1) | _ => .bad) h fun b S1 g1 H1 _ e1 w1 h1 => by
    cases b with
    | true => rw [if_pos rfl]; exact h1 g1 H1 (GExt.refl _) w1
    | false => rw [if_neg Bool.false_ne_true]; exact ⟨g1, S1, ρ, w1, rs.mono e1, h1⟩⟩⟩
theorem JW.jt (h : JW X W a fa) : JT X W a fa := ⟨h.run.pt⟩
theorem jt_not (ha : JT X W a fa) : JT X W (.UnaryOp .Not a pos) (eNot fa) :=
  ⟨ptImp (pt_not ha.run) fun σ H Q ⟨g, S, ρ, w, rs, h⟩ => ⟨g, S, ρ, w, rs, PostT.of_test (k := fun d S1 => match d with | .bl b => .ok (.bl !b) S1 | _ => .bad) h fun b S1 g1 H1 _ e1 w1 h1 => h1 g1 H1 (GExt.refl _) w1⟩⟩
theorem je_one {op : BoolOp} (h : JE X W a fa) : JE X W (.BoolOp op [a] pos) fa := ⟨pe_one h.run⟩
theorem blOf {K : PySem.W.Frag} {g : G} {σ : L2.St} {Q Q' : VK} {r : ER} {k : D → Sto → ER} (h : Post K W σ g Q (r.bind fun d S => match d with | .bl b => k (.bl b) S | _ => .bad)) (hQ : ∀ b S g1 H1, r = .ok (.bl b) S → GExt g g1 → World K g1 S H1 → Post K W σ g1 Q (k (.bl b) S) → Q' (.bl b) H1) : Post K W σ g Q' r := by
  cases r with
  | ok d S =>
    cases d with
    | bl b =>
      intro v g1 H1 x y z
      cases z
      exact hQ b S g1 H1 rfl x y (Post.ext h x)
    | _ => exact h.elim
  | exc k S => exact h
  | bad => exact h
theorem je_and (ha : JE X W a fa) (hb : JE X W (.BoolOp .And (b :: rest) pos) fb) : JE X W (.BoolOp .And (a :: b :: rest) pos) (eAnd fa fb) :=
  ⟨peImp (pe_and ha.run hb.run) fun σ H Q ⟨g, S, ρ, w, rs, h⟩ => ⟨g, S, ρ, w, rs, blOf (k := fun d S1 => match d with | .bl b => (match b with | true => fb ρ S1 | false => .ok (.bl false) S1) | _ => .bad) h fun b S1 g1 H1 _ e1 w1 h1 => by
    refine ⟨b, rfl, ?_⟩
    cases b with
    | true => rw [if_pos rfl]; exact ⟨g1, S1, ρ, w1, rs.mono e1, h1⟩
    | false => rw [if_neg Bool.false_ne_true]; exact h1.val w1 (.bl false)⟩⟩
theorem je_or (ha : JE X W a fa) (hb : JE X W (.BoolOp .Or (b :: rest) pos) fb) : JE X W (.BoolOp .Or (a :: b :: rest) pos) (eOr fa fb) :=
  ⟨peImp (pe_or ha.run hb.run) fun σ H Q ⟨g, S, ρ, w, rs, h⟩ => ⟨g, S, ρ, w, rs, blOf (k := fun d S1 => match d with | .bl b => (match b with | true => .ok (.bl true) S1 | false => fb ρ S1) | _ => .bad) h fun b S1 g1 H1 _ e1 w1 h1 => by
    refine ⟨b, rfl, ?_⟩
    cases b with
    | true => rw [if_pos rfl]; exact h1.val w1 (.bl true)
    | false => rw [if_neg Bool.false_ne_true]; exact ⟨g1, S1, ρ, w1, rs.mono e1, h1⟩⟩⟩
theorem je_not (ha : JE X W a fa) : JE X W (.UnaryOp .Not a pos) (eNot fa) :=
  ⟨peImp (pe_not ha.run) fun σ H Q ⟨g, S, ρ, w, rs, h⟩ => ⟨g, S, ρ, w, rs, blOf (k := fun d S1 => match d with | .bl b => .ok (.bl !b) S1 | _ => .bad) h fun b S1 g1 H1 _ e1 w1 h1 => ⟨b, rfl, h1.val w1 (.bl _)⟩⟩⟩
theorem je_if (hc : JT X W c fc) (ha : JE X W a fa) (hb : JE X W b fb) : JE X W (.IfExp c a b pos) (eIf fc fa fb) :=
  ⟨peImp (pe_ifExp hc.run ha.run hb.run) fun σ H Q ⟨g, S, ρ, w, rs, h⟩ => ⟨g, S, ρ, w, rs, Post.of_test (k := fun d S1 => match d with | .bl b => (match b with | true => fa ρ S1 | false => fb ρ S1) | _ => .bad) h fun b S1 g1 H1 _ e1 w1 h1 => by
    cases b with
    | true => rw [if_pos rfl]; exact ⟨g1, S1, ρ, w1, rs.mono e1, h1⟩
    | false => rw [if_neg Bool.false_ne_true]; exact ⟨g1, S1, ρ, w1, rs.mono e1, h1⟩⟩⟩
theorem je_chain {op op' : CmpOp} {r r' : R2} {F F' : Sto → D → D → Option D} (ho : OpR X (compareOp op) r) (ho' : OpR X (compareOp op') r') (l : L2r X.K r F) (l' : L2r X.K r' F') (ha : JE X W a fa) (hb : JE X W b fb) (hc : JE X W c fc) (hm : lastMarks [op, op'] [b, c] = false := by rfl) : JE X W (.Compare a [op, op'] [b, c] pos) (eChain F F' fa fb fc) :=
  ⟨peImp (pe_chain ho ho' ha.run hb.run hc.run hm) fun σ H Q ⟨g, S, ρ, w, rs, h⟩ => by
    refine ⟨g, S, ρ, w, rs, h.of_bind fun dx S1 x g1 H1 _ e1 w1 r1 h1 => ?_⟩
    refine ⟨g1, S1, ρ, w1, rs.mono e1, h1.of_bind fun dy S2 y g2 H2 _ e2 w2 r2 h2 => ?_⟩
    cases q : F S2 dx dy with
    | none => rw [q] at h2; exact h2.elim
    | some d =>
      rw [q] at h2
      refine l g2 S2 H2 x y dx dy d _ w2 (e2.rep r1) r2 q fun v g3 H3 e3 w3 r3 => ?_
      cases d with
      | bl k =>
        cases r3
        refine ⟨k, rfl, ?_⟩
        have h3 := Post.ext h2 e3
        cases k with
        | true =>
          rw [if_pos rfl]
          refine ⟨g3, S2, ρ, w3, rs.mono (e1.trans (e2.trans e3)), Post.of_bind h3 fun du S4 u g4 H4 _ e4 w4 r4 h4 => ?_⟩
          obtain ⟨d, hd, h5⟩ := h4.lift
          exact l' g4 S4 H4 y u dy du d Q w4 ((e3.trans e4).rep r2) r4 hd fun v g' H' e w r => h5 v g' H' e w r
        | false =>
          rw [if_neg Bool.false_ne_true]
          exact Post.val (d := .bl false) (S := S2) h3 w3 (.bl false)
      | _ => exact h2.elim⟩
theorem jt_chain {op op' : CmpOp} {r r' : R2} {F F' : Sto → D → D → Option D} (ho : OpR X (compareOp op) r) (ho' : OpR X (compareOp op') r') (l : L2r X.K r F) (l' : L2r X.K r' F') (ha : JE X W a fa) (hb : JE X W b fb) (hc : JE X W c fc) (hm : lastMarks [op, op'] [b, c] = false := by rfl) : JT X W (.Compare a [op, op'] [b, c] pos) (eChain F F' fa fb fc) :=
  ⟨ptImp (pt_chain ho ho' ha.run hb.run hc.run hm) fun σ H Q ⟨g, S, ρ, w, rs, h⟩ => by
    refine ⟨g, S, ρ, w, rs, PostT.of_bind h fun dx S1 x g1 H1 _ e1 w1 r1 h1 => ?_⟩
    refine ⟨g1, S1, ρ, w1, rs.mono e1, PostT.of_bind h1 fun dy S2 y g2 H2 _ e2 w2 r2 h2 => ?_⟩
    cases q : F S2 dx dy with
    | none => rw [q] at h2; exact h2.elim
    | some d =>
      rw [q] at h2
      refine l g2 S2 H2 x y dx dy d _ w2 (e2.rep r1) r2 q fun v g3 H3 e3 w3 r3 => ?_
      cases d with
      | bl k =>
        cases r3
        refine ⟨k, rfl, ?_⟩
        have h3 := PostT.ext h2 e3
        cases k with
        | true =>
          rw [if_pos rfl]
          refine ⟨g3, S2, ρ, w3, rs.mono (e1.trans (e2.trans e3)), PostT.of_bind h3 fun du S4 u g4 H4 _ e4 w4 r4 h4 => ?_⟩
          cases q2 : F' S4 dy du with
          | none => rw [q2] at h4; exact h4.elim
          | some d5 =>
            rw [q2] at h4
            refine l' g4 S4 H4 y u dy du d5 _ w4 ((e3.trans e4).rep r2) r4 q2 fun v g' H' e w r => ?_
            cases d5 with
            | bl b5 => cases r; exact ⟨b5, rfl, h4 g' H' e w⟩
            | _ => exact h4.elim
        | false =>
          rw [if_neg Bool.false_ne_true]
          exact ⟨false, rfl, h3 g3 H3 (GExt.refl _) w3⟩
      | _ => exact h2.elim⟩
theorem ja_nil : JA X W [] eNil := ⟨paImp pa_nil fun σ H Q ⟨g, S, ρ, w, rs, h⟩ => h [] g H (GExt.refl g) w .nil⟩
theorem ja_cons {es : List Expr} {fr : Ex} (ha : JE X W a fa) (hr : JA X W es fr) (hs : starEach (a :: es) X.env = (false, eval a X.env) :: starEach es X.env := by rfl) : JA X W (a :: es) (eCons fa fr) :=
  ⟨paImp (pa_cons ha.run hr.run hs) fun σ H Q ⟨g, S, ρ, w, rs, h⟩ => by
    refine ⟨g, S, ρ, w, rs, PostA.of_bind h fun dx S1 x g1 H1 _ e1 w1 r1 h1 => ?_⟩
    exact ⟨g1, S1, ρ, w1, rs.mono e1, PostA.of_args (k := fun l S2 => .ok (.tup (dx :: l)) S2) h1 fun l S2 vs g2 H2 _ e2 w2 r2 h2 => h2 (x :: vs) g2 H2 (GExt.refl _) w2 (.cons (e2.rep r1) r2)⟩⟩
theorem lim_le {n : Nat} (h : n ≤ lim) : n ≤ sizeLine := Nat.le_trans h (by decide)
/-- a list that may be changed -/
def eNew (f : Ex) : Ex := fun ρ S => (f ρ S).bind fun t S1 => match t with
  | .tup l => (if l.length ≤ lim then .ok (.obj S1.length) (S1 ++ [.list l]) else .bad)
  | _ => .bad
theorem je_tup {es : List Expr} {x1 : Nat} {f : Ex} (h : JA X W es f) : JE X W (.Tuple es x1 pos) (eTup f) :=
  ⟨peImp (pe_tup h.run) fun σ H Q ⟨g, S, ρ, w, rs, h⟩ => ⟨g, S, ρ, w, rs, Post.of_args (k := fun l S1 => if l.length ≤ lim then .ok (.tup l) S1 else .bad) h fun l S1 vs g1 H1 _ e1 w1 r1 h1 => by
    by_cases q : l.length ≤ lim
    · rw [if_pos q] at h1
      refine ⟨by rw [← r1.length]; exact lim_le q, fun p hp => ?_⟩
      obtain ⟨w2, e2⟩ := w1.add (o := .tup vs) hp
      exact h1.valE e2 w2 (.tup (SqT.of upd_same) (e2.reps r1))
    · rw [if_neg q] at h1; exact h1.elim⟩⟩
theorem je_lst {es : List Expr} {f : Ex} (h : JA X W es f) : JE X W (.List es pos) (eLst f) :=
  ⟨peImp (pe_lst h.run) fun σ H Q ⟨g, S, ρ, w, rs, h⟩ => ⟨g, S, ρ, w, rs, Post.of_args (k := fun l S1 => if l.length ≤ lim then .ok (.lst l) S1 else .bad) h fun l S1 vs g1 H1 _ e1 w1 r1 h1 => by
    by_cases q : l.length ≤ lim
    · rw [if_pos q] at h1
      refine ⟨by rw [← r1.length]; exact lim_le q, fun p hp => ?_⟩
      obtain ⟨w2, e2⟩ := w1.add (o := .lst vs) hp
      exact h1.valE e2 w2 (.lst upd_same (e2.reps r1))
    · rw [if_neg q] at h1; exact h1.elim⟩⟩
theorem je_new {es : List Expr} {f : Ex} (h : JA X W es f) : JE X W (.List es pos) (eNew f) :=
  ⟨peImp (pe_lst h.run) fun σ H Q ⟨g, S, ρ, w, rs, h⟩ => ⟨g, S, ρ, w, rs, Post.of_args (k := fun l S1 => if l.length ≤ lim then .ok (.obj S1.length) (S1 ++ [.list l]) else .bad) h fun l S1 vs g1 H1 _ e1 w1 r1 h1 => by
    by_cases q : l.length ≤ lim
    · rw [if_pos q] at h1
      refine ⟨by rw [← r1.length]; exact lim_le q, fun p hp => ?_⟩
      obtain ⟨w2, e2⟩ := w1.pushList hp r1
      exact h1.valE (gext_obj g1 p) w2 e2
    · rw [if_neg q] at h1; exact h1.elim⟩⟩
end
end Bt
namespace Bt
open PySem L2
section
variable {K : PySem.W.Frag} {W : WX} {σ : L2.St} {ρ : Env} {g g' : G} {Q : VK} {r : ER} {N : L2.Ends} {f : D → Sto → SR}
theorem PostS.of_er (h : PostS K W g N (r.toS ρ f)) (rs : RelSt K g σ ρ) (hQ : ∀ d S v g1 H1, r = .ok d S → GExt g g1 → World K g1 S H1 → RepG K g1 d v → PostS K W g1 N (f d S) → Q v H1) : Post K W σ g Q r := by
  cases r with
  | ok d S => exact fun v g1 H1 x y z => hQ d S v g1 H1 rfl x y z (PostS.ext h x)
  | exc k S => exact fun g1 H1 x y => h σ g1 H1 x y (rs.mono x)
  | bad => exact h
theorem PostS.of_test {k : Bool → Sto → SR} {QT : Bool → Hp → Prop} (h : PostS K W g N (r.toS ρ fun d S => match d with | .bl b => k b S | _ => .bad)) (rs : RelSt K g σ ρ) (hQ : ∀ b S g1 H1, r = .ok (.bl b) S → GExt g g1 → World K g1 S H1 → PostS K W g1 N (k b S) → QT b H1) : PostT K W σ g QT r := by
  cases r with
  | ok d S =>
    cases d with
    | bl b => exact fun g1 H1 x y => hQ b S g1 H1 rfl x y (PostS.ext h x)
    | _ => exact h
  | exc k S => exact fun g1 H1 x y => h σ g1 H1 x y (rs.mono x)
  | bad => exact h
end
def sSkip : Sx := fun ρ S => .nx ρ S
/-- the list in a slot is frozen -/
def sIce (i : Nat) (f : Sx) : Sx := fun ρ S => match ρ[i]? with
  | some (some (.obj n)) => (match S[n]? with
    | some (.list l) => f (ρ.set i (some (.lst l))) (S.set n .dead)
    | _ => .bad)
  | _ => .bad
section
variable {X : Cx} {W : WX} {pos : Pos} {e c : Expr} {fe fc : Ex} {st : Stmt} {sts rest : List Stmt} {f h : Sx}
theorem jss_nil : JSs X W [] sSkip := ⟨pssImp pss_nil fun N σ H ⟨g, S, ρ, w, rs, q⟩ => q σ g H (GExt.refl g) w rs⟩
theorem tSeq_of {K : PySem.W.Frag} {t u : TS} (h1 : ∀ N σ H, tS K W f N σ H → t N σ H) (h2 : ∀ N σ H, tS K W h N σ H → u N σ H) : ∀ N σ H, tS K W (sSeq f h) N σ H → tSeq t u N σ H := fun N σ H ⟨g, S, ρ, w, rs, q⟩ => by
  refine h1 _ σ H ⟨g, S, ρ, w, rs, ?_⟩
  unfold sSeq at q
  cases e : f ρ S with
  | nx ρ1 S1 => rw [e] at q; exact fun σ' g' H' x y z => h2 _ _ _ ⟨g', S1, ρ1, y, z, PostS.ext q x⟩
  | rt d S1 => rw [e] at q; exact q
  | bk ρ1 S1 => rw [e] at q; exact q
  | ct ρ1 S1 => rw [e] at q; exact q
  | exc k ρ1 S1 => rw [e] at q; exact q
  | bad => rw [e] at q; exact q
theorem jss_cons (h1 : JS X W st f) (h2 : JSs X W rest h) : JSs X W (st :: rest) (sSeq f h) := ⟨pssImp (pss_cons h1.run h2.run) (tSeq_of (fun _ _ _ x => x) fun _ _ _ x => x)⟩
theorem jss_one (h1 : JS X W st f) : JSs X W [st] f := ⟨pss_one h1.run⟩
theorem jss_ice {i : Nat} (h1 : JSs X W sts f) : JSs X W sts (sIce i f) := ⟨pssImp h1.run fun N σ H ⟨g, S, ρ, w, rs, q⟩ => by
  unfold sIce at q
  cases e : ρ[i]? with
  | none => rw [e] at q; exact q.elim
  | some o =>
    cases o with
    | none => rw [e] at q; exact q.elim
    | some d =>
      cases d with
      | obj n =>
        rw [e] at q
        cases e2 : S[n]? with
        | none => simp only [e2] at q; exact q.elim
        | some u =>
          cases u with
          | list l =>
            simp only [e2] at q
            obtain ⟨v, h1, h2⟩ := rs.at_ i _ e
            obtain ⟨g', x, w', r'⟩ := w.freeze e2 h2
            refine ⟨g', _, _, w', ?_, PostS.ext q x⟩
            have := (rs.mono x).set (i := i) r'
            have hi : i < σ.length := (List.getElem?_eq_some_iff.mp h1).1
            have z : σ.set i (some v) = σ := by
              apply List.ext_getElem?
              intro j
              by_cases hj : j = i
              · subst hj; rw [List.getElem?_set_self hi]; exact h1.symm
              · rw [List.getElem?_set_ne (Ne.symm hj)]
            rw [z] at this
            exact this
          | _ => simp only [e2] at q; exact q.elim
      | _ => rw [e] at q; exact q.elim⟩
theorem js_set {i : Nat} {x : Str} {pos' : Pos} (hN : X.N.Nodup) (he : JE X W e fe) (hi : X.N[i]? = some x := by rfl) (hx : Loc X.env.scope x := by first | exact .inl rfl | exact .inr rfl) (hs : swapsWith e (some (.Name x pos')) pos.line X.env = pure false := by rfl) (hf : X.fn x = true ∨ X.env.scope.names.lookup x = some .local := by first | exact .inl rfl | exact .inr rfl | assumption) : JS X W (.Assign [.Name x pos'] e pos) (sSet i fe) :=
  ⟨psImp (ps_set hN hi hx he.run hs hf) fun N σ H ⟨g, S, ρ, w, rs, q⟩ => ⟨g, S, ρ, w, rs, PostS.of_er q rs fun d S1 v g1 H1 _ e1 w1 r1 q1 => q1 _ g1 H1 (GExt.refl _) w1 ((rs.mono e1).set r1)⟩⟩
theorem js_expr (he : JE X W e fe) (hs : swapsWith e none pos.line X.env = pure false := by rfl) : JS X W (.Expr e pos) (sExpr fe) :=
  ⟨psImp (ps_expr he.run hs) fun N σ H ⟨g, S, ρ, w, rs, q⟩ => ⟨g, S, ρ, w, rs, PostS.of_er q rs fun d S1 v g1 H1 _ e1 w1 r1 q1 => q1 _ g1 H1 (GExt.refl _) w1 (rs.mono e1)⟩⟩
theorem js_ret (he : JE X W e fe) : JS X W (.Return (some e) pos) (sRet fe) :=
  ⟨psImp (ps_ret he.run) fun N σ H ⟨g, S, ρ, w, rs, q⟩ => ⟨g, S, ρ, w, rs, PostS.of_er q rs fun d S1 v g1 H1 _ e1 w1 r1 q1 => q1 v g1 H1 (GExt.refl _) w1 r1⟩⟩
theorem js_if {a b : List Stmt} (hc : JT X W c fc) (ha : JSs X W a f) (hb : JSs X W b h) : JS X W (.If c a b pos) (sIf fc f h) :=
  ⟨psImp (ps_if hc.run ha.run hb.run) fun N σ H ⟨g, S, ρ, w, rs, q⟩ => ⟨g, S, ρ, w, rs, PostS.of_test (k := fun b S1 => match b with | true => f ρ S1 | false => h ρ S1) q rs fun b S1 g1 H1 _ e1 w1 q1 => by
    cases b with
    | true => rw [if_pos rfl]; exact ⟨g1, S1, ρ, w1, rs.mono e1, q1⟩
    | false => rw [if_neg Bool.false_ne_true]; exact ⟨g1, S1, ρ, w1, rs.mono e1, q1⟩⟩⟩
end
def whileN (fc : Ex) (fb : Sx) : Nat → Sx
  | 0 => fun _ _ => .bad
  | n + 1 => fun ρ S => (fc ρ S).toS ρ fun x S1 => match x with
    | .bl b => (match b with
      | true => (match fb ρ S1 with
        | .nx ρ2 S2 => whileN fc fb n ρ2 S2
        | .ct ρ2 S2 => whileN fc fb n ρ2 S2
        | .bk ρ2 S2 => .nx ρ2 S2
        | .rt d S2 => .rt d S2
        | .exc k ρ2 S2 => .exc k ρ2 S2
        | .bad => .bad)
      | false => .nx ρ S1)
    | _ => .bad
section
variable {X : Cx} {W : WX} {pos : Pos} {c : Expr} {fc : Ex} {fb : Sx} {body : List Stmt}
theorem js_while (n : Nat) (hp : PassesOwn (model X.prog X.w) X.A X.env X.xe) (hc : JT X W c fc) (hb : JSs X W body fb) : JS X W (.While c body [] pos) (whileN fc fb n) :=
  ⟨psImp (ps_while hp hc.run hb.run) fun N σ H h => by
    refine ⟨fun m σ H => ∃ g S ρ, World X.K g S H ∧ RelSt X.K g σ ρ ∧ PostS X.K W g N (whileN fc fb m ρ S), ⟨n, h⟩, ?_⟩
    rintro m σ H ⟨g, S, ρ, w, rs, q⟩
    cases m with
    | zero => exact q.elim
    | succ m =>
      refine ⟨g, S, ρ, w, rs, PostS.of_test (k := fun b S1 => match b with
        | true => (match fb ρ S1 with
          | .nx ρ2 S2 => whileN fc fb m ρ2 S2
          | .ct ρ2 S2 => whileN fc fb m ρ2 S2
          | .bk ρ2 S2 => .nx ρ2 S2
          | .rt d S2 => .rt d S2
          | .exc k ρ2 S2 => .exc k ρ2 S2
          | .bad => .bad)
        | false => .nx ρ S1) q rs fun b S1 g1 H1 _ e1 w1 q1 => ?_⟩
      cases b with
      | false => rw [if_neg Bool.false_ne_true]; exact q1 σ g1 H1 (GExt.refl _) w1 (rs.mono e1)
      | true =>
        rw [if_pos rfl]
        refine ⟨fun σ H => ∃ g S ρ, World X.K g S H ∧ RelSt X.K g σ ρ ∧ PostS X.K W g N (whileN fc fb m ρ S), fun σ' H' z => ⟨m, Nat.lt_succ_self m, z⟩, g1, S1, ρ, w1, rs.mono e1, ?_⟩
        have q1' : PostS X.K W g1 N (match fb ρ S1 with
          | .nx ρ2 S2 => whileN fc fb m ρ2 S2
          | .ct ρ2 S2 => whileN fc fb m ρ2 S2
          | .bk ρ2 S2 => .nx ρ2 S2
          | .rt d S2 => .rt d S2
          | .exc k ρ2 S2 => .exc k ρ2 S2
          | .bad => .bad) := q1
        cases e : fb ρ S1 with
        | nx ρ2 S2 => rw [e] at q1'; exact fun σ' g' H' x y z => ⟨g', S2, ρ2, y, z, PostS.ext q1' x⟩
        | ct ρ2 S2 => rw [e] at q1'; exact fun σ' g' H' x y z => ⟨g', S2, ρ2, y, z, PostS.ext q1' x⟩
        | bk ρ2 S2 => rw [e] at q1'; exact q1'
        | rt d S2 => rw [e] at q1'; exact q1'
        | exc k ρ2 S2 => rw [e] at q1'; exact q1'
        | bad => rw [e] at q1'; exact q1'⟩
end
def tI (K : PySem.W.Frag) (W : WX) (f : Ex) : TI := fun σ H R => ∃ g S ρ, World K g S H ∧ RelSt K g σ ρ ∧ PostI K W σ g R (f ρ S)
structure JI (X : Cx) (W : WX) (tg e : Expr) (f : Ex) : Prop where
  run : PI X tg e (tI X.K W f)
theorem piImp {X : Cx} {tg e : Expr} {t t' : TI} (h : PI X tg e t) (i : ∀ σ H Q, t' σ H Q → t σ H Q) : PI X tg e t' := ⟨fun pins s σ H Q I q => h.run pins s σ H Q I (i σ H Q q)⟩
section
variable {K : PySem.W.Frag} {W : WX} {σ : L2.St} {g g' : G} {r : ER} {R : It → Hp → Prop} {Q : VK}
theorem PostI.of_bind {k : D → Sto → ER} (h : PostI K W σ g R (r.bind k)) (hQ : ∀ d S v g1 H1, r = .ok d S → GExt g g1 → World K g1 S H1 → RepG K g1 d v → PostI K W σ g1 R (k d S) → Q v H1) : Post K W σ g Q r := by
  cases r with
  | ok d S => exact fun v g1 H1 x y z => hQ d S v g1 H1 rfl x y z (PostI.ext h x)
  | exc k S => exact h
  | bad => exact h
end
/-- a frozen list; a tuple -/
def iLst (fe : Ex) : Ex := fun ρ S => (fe ρ S).bind fun d S1 => match d with
  | .lst l => .ok (.tup l) S1
  | .scr l => .ok (.tup l) S1
  | _ => .bad
theorem itl_ok {K : PySem.W.Frag} {g : G} {a : Addr} {xs : List V} {l : List D} (h : SqL K g.F a xs) (r : RepsG K g l xs) : ItOk K g (Itl K a) l := by
  intro g' S' H' i e w
  have sub : ∀ b o, g.F b = some o → H' b = some o := fun b o q => w.sub b o (e.f b o q)
  have hq : SqL K H' a xs := sqlMono sub h
  refine ⟨fun d hd => ?_, fun hn => ⟨xs, hq, ?_⟩⟩
  · obtain ⟨v, h1, h2⟩ := r.get hd
    refine ⟨⟨xs, v, hq, h1⟩, fun x H'' ⟨y1, y2⟩ => ?_⟩
    subst y1
    have := y2 xs hq
    rw [h1] at this
    cases this
    exact ⟨g', GExt.refl _, w, e.rep h2⟩
  · rw [← r.length]; exact List.getElem?_eq_none_iff.mp hn
theorem itt_ok {K : PySem.W.Frag} {g : G} {a : Addr} {xs : List V} {l : List D} (h : SqT K g.F a xs) (r : RepsG K g l xs) : ItOk K g (Itt K a) l := by
  intro g' S' H' i e w
  have sub : ∀ b o, g.F b = some o → H' b = some o := fun b o q => w.sub b o (e.f b o q)
  have hq : SqT K H' a xs := sqtMono sub h
  refine ⟨fun d hd => ?_, fun hn => ⟨xs, hq, ?_⟩⟩
  · obtain ⟨v, h1, h2⟩ := r.get hd
    refine ⟨⟨xs, v, hq, h1⟩, fun x H'' ⟨y1, y2⟩ => ?_⟩
    subst y1
    have := y2 xs hq
    rw [h1] at this
    cases this
    exact ⟨g', GExt.refl _, w, e.rep h2⟩
  · rw [← r.length]; exact List.getElem?_eq_none_iff.mp hn
def rngD (lo : Int) (n : Nat) : List D := (List.range n).map fun (i : Nat) => D.int (lo + i)
theorem itr_ok {K : PySem.W.Frag} {g : G} {lo : Int} {n : Nat} : ItOk K g (Itr lo n) (rngD lo n) := by
  intro g' S' H' i e w
  refine ⟨fun d hd => ?_, fun hn => ?_⟩
  · unfold rngD at hd
    simp only [List.getElem?_map, Option.map_eq_some_iff] at hd
    obtain ⟨j, hj, rfl⟩ := hd
    have hlt : i < n := by
      have := (List.getElem?_eq_some_iff.mp hj).1
      simpa using this
    have : j = i := by
      rw [List.getElem?_range hlt] at hj
      exact (Option.some.inj hj).symm
    subst this
    refine ⟨hlt, fun x H'' ⟨y1, y2⟩ => ?_⟩
    subst y1; subst y2
    exact ⟨g', GExt.refl _, w, .int _⟩
  · show n ≤ i
    have := List.getElem?_eq_none_iff.mp hn
    simpa [rngD] using this
def iRange1 (fe : Ex) : Ex := fun ρ S => (fe ρ S).bind fun d S1 => match d with
  | .int j => if -lim ≤ j ∧ j ≤ lim then .ok (.tup (rngD 0 j.toNat)) S1 else .bad
  | _ => .bad
def iRange2 (fe fe2 : Ex) : Ex := fun ρ S => (fe ρ S).bind fun d S1 => (fe2 ρ S1).bind fun d2 S2 => match d with
  | .int i => (match d2 with
    | .int j => if (-lim ≤ i ∧ i ≤ lim) ∧ (-lim ≤ j ∧ j ≤ lim) then .ok (.tup (rngD i (j - i).toNat)) S2 else .bad
    | _ => .bad)
  | _ => .bad
theorem lim62 {j : Int} (h : -(lim : Int) ≤ j ∧ j ≤ lim) : -(2 ^ 62) ≤ j ∧ j < 2 ^ 62 := by
  unfold lim at h
  omega
section
variable {X : Cx} {W : WX} {pos p : Pos} {tg e e2 : Expr} {fe fe2 : Ex}
theorem ji_lst (h : JE X W e fe) : JI X W tg e (iLst fe) := ⟨piImp (pi_list h.run) fun σ H R ⟨g, S, ρ, w, rs, q⟩ => ⟨g, S, ρ, w, rs, PostI.of_bind q fun d S1 v g1 H1 _ e1 w1 r1 q1 => by
  cases d with
  | lst l =>
    cases r1 with
    | lst s r => exact ⟨_, rfl, ⟨_, SqL.of (w1.sub _ _ s)⟩, q1 _ g1 H1 (GExt.refl _) w1 (itl_ok (SqL.of s) r)⟩
  | scr l =>
    cases r1 with
    | scr s r => exact ⟨_, rfl, ⟨_, sqlMono w1.sub s⟩, q1 _ g1 H1 (GExt.refl _) w1 (itl_ok s r)⟩
  | _ => exact q1.elim⟩⟩
theorem ji_tup (h : JE X W e fe) : JI X W tg e (iTupl fe) := ⟨piImp (pi_tup h.run) fun σ H R ⟨g, S, ρ, w, rs, q⟩ => ⟨g, S, ρ, w, rs, PostI.of_bind q fun d S1 v g1 H1 _ e1 w1 r1 q1 => by
  cases d with
  | tup l =>
    cases r1 with
    | tup s r => exact ⟨_, rfl, ⟨_, sqtMono w1.sub s⟩, q1 _ g1 H1 (GExt.refl _) w1 (itt_ok s r)⟩
  | _ => exact q1.elim⟩⟩
theorem ji_range1 (hm : X.mg "range" = none) (ha : JE X W e fe) (hg : Gl X "range" := by rfl) (hs : starEach [e] X.env = [(false, eval e X.env)] := by rfl) : JI X W tg (.Call (.Name "range" p) [e] [] pos) (iRange1 fe) :=
  ⟨piImp (pi_range1 hg hm (pa_cons ha.run pa_nil hs) hs) fun σ H R ⟨g, S, ρ, w, rs, q⟩ => ⟨g, S, ρ, w, rs, PostI.of_bind q fun d S1 v g1 H1 _ e1 w1 r1 q1 => by
      cases d with
      | int j =>
        cases r1
        dsimp only at q1
        by_cases hj : -(lim : Int) ≤ j ∧ j ≤ lim
        · rw [if_pos hj] at q1
          exact ⟨j, rfl, (lim62 hj).1, (lim62 hj).2, q1 _ g1 H1 (GExt.refl _) w1 itr_ok⟩
        · rw [if_neg hj] at q1; exact q1.elim
      | _ => exact q1.elim⟩⟩
theorem ji_range2 (hm : X.mg "range" = none) (ha : JE X W e fe) (hb : JE X W e2 fe2) (hg : Gl X "range" := by rfl) (hs : starEach [e, e2] X.env = [(false, eval e X.env), (false, eval e2 X.env)] := by rfl) (hs2 : starEach [e2] X.env = [(false, eval e2 X.env)] := by rfl) : JI X W tg (.Call (.Name "range" p) [e, e2] [] pos) (iRange2 fe fe2) :=
  ⟨piImp (pi_range2 hg hm (pa_cons ha.run (pa_cons hb.run pa_nil hs2) (hs.trans (by rw [hs2]))) hs hs2) fun σ H R ⟨g, S, ρ, w, rs, q⟩ => ⟨g, S, ρ, w, rs, PostI.of_bind q fun d S1 v g1 H1 _ e1 w1 r1 q1 =>
    ⟨g1, S1, ρ, w1, rs.mono e1, PostI.of_bind q1 fun d2 S2 v2 g2 H2 _ e2 w2 r2 q2 => by
      cases d with
      | int i =>
        cases r1
        cases d2 with
        | int j =>
          cases r2
          have q2 : PostI X.K W σ g2 R (if (-(lim : Int) ≤ i ∧ i ≤ lim) ∧ (-(lim : Int) ≤ j ∧ j ≤ lim) then .ok (.tup (rngD i (j - i).toNat)) S2 else .bad) := q2
          by_cases hj : (-(lim : Int) ≤ i ∧ i ≤ lim) ∧ (-(lim : Int) ≤ j ∧ j ≤ lim)
          · rw [if_pos hj] at q2
            exact ⟨i, j, rfl, ⟨(lim62 hj.1).1, (lim62 hj.1).2, (lim62 hj.2).1, (lim62 hj.2).2⟩, q2 _ g2 H2 (GExt.refl _) w2 itr_ok⟩
          · rw [if_neg hj] at q2; exact q2.elim
        | _ => exact q2.elim
      | _ => exact q2.elim⟩⟩⟩
end
theorem Off.refl (ws : List Nat) (σ : L2.St) : Off ws σ σ := ⟨rfl, fun _ _ => rfl⟩
def tG (K : PySem.W.Frag) (ws : List Nat) (f : D → Env → Option Env) : TG := fun v σ H Q => ∃ g S ρ d ρ', World K g S H ∧ RelSt K g σ ρ ∧ RepG K g d v ∧ f d ρ = some ρ' ∧ ∀ σ' g' H', GExt g g' → World K g' S H' → RelSt K g' σ' ρ' → Off ws σ σ' → Q σ' H'
def tGs (K : PySem.W.Frag) (ws : List Nat) (f : List D → Env → Option Env) : TGs := fun vs σ H Q => ∃ g S ρ ds ρ', World K g S H ∧ RelSt K g σ ρ ∧ RepsG K g ds vs ∧ f ds ρ = some ρ' ∧ ∀ σ' g' H', GExt g g' → World K g' S H' → RelSt K g' σ' ρ' → Off ws σ σ' → Q σ' H'
structure JG (X : Cx) (tg : Expr) (ws : List Nat) (f : D → Env → Option Env) : Prop where
  run : PG X tg (tG X.K ws f)
structure JGs (X : Cx) (tg : List Expr) (ws : List Nat) (f : List D → Env → Option Env) : Prop where
  run : PGs X tg (tGs X.K ws f)
theorem pgImp {X : Cx} {tg : Expr} {t t' : TG} (h : PG X tg t) (i : ∀ v σ H Q, t' v σ H Q → t v σ H Q) : PG X tg t' := ⟨fun pins s σ H v u Q I r q => h.run pins s σ H v u Q I r (i v σ H Q q)⟩
theorem pgsImp {X : Cx} {tg : List Expr} {t t' : TGs} (h : PGs X tg t) (i : ∀ v σ H Q, t' v σ H Q → t v σ H Q) : PGs X tg t' := ⟨fun pins s σ H v u Q I r q => h.run pins s σ H v u Q I r (i v σ H Q q)⟩
def dN (i : Nat) : D → Env → Option Env := fun d ρ => some (ρ.set i (some d))
def dNil : List D → Env → Option Env := fun ds ρ => match ds with | [] => some ρ | _ => none
def dCons (f : D → Env → Option Env) (fs : List D → Env → Option Env) : List D → Env → Option Env := fun ds ρ => match ds with
  | d :: r => (match f d ρ with | some ρ1 => fs r ρ1 | none => none)
  | [] => none
def dTup (n : Nat) (fs : List D → Env → Option Env) : D → Env → Option Env := fun d ρ => match d with
  | .tup l => if l.length = n then fs l ρ else none
  | _ => none
section
variable {X : Cx} {pos : Pos} {tg : Expr} {es : List Expr} {f : D → Env → Option Env} {fs : List D → Env → Option Env}
theorem jg_name {i : Nat} {x : Str} (hN : X.N.Nodup) (hi : X.N[i]? = some x := by rfl) (hx : Loc X.env.scope x := by first | exact .inl rfl | exact .inr rfl) (hf : X.fn x = true ∨ X.env.scope.names.lookup x = some .local := by first | exact .inl rfl | exact .inr rfl | assumption) : JG X (.Name x pos) [i] (dN i) :=
  ⟨pgImp (pg_name hN hi hx hf) fun v σ H Q ⟨g, S, ρ, d, ρ', w, rs, r, e, k⟩ => by
    cases e
    exact k _ g H (GExt.refl _) w (rs.set r) ⟨by simp, fun j hj => by
      rw [List.getElem?_set_ne]
      intro z; subst z; exact hj (by simp)⟩⟩
theorem jgs_nil : JGs X [] [] dNil := ⟨pgsImp pgs_nil fun v σ H Q ⟨g, S, ρ, ds, ρ', w, rs, r, e, k⟩ => by
  cases r with
  | nil => cases e; exact ⟨rfl, k _ g H (GExt.refl _) w rs (Off.refl _ _)⟩
  | cons => cases e⟩
theorem jgs_cons {ws us : List Nat} (h : JG X tg ws f) (hs : JGs X es us fs) (hh : (assignEach (tg :: es) X.env).map (·.2) = assign tg X.env :: (assignEach es X.env).map (·.2) := by rfl) : JGs X (tg :: es) (ws ++ us) (dCons f fs) :=
  ⟨pgsImp (pgs_cons h.run hs.run hh) fun v σ H Q ⟨g, S, ρ, ds, ρ', w, rs, r, e, k⟩ => by
    cases r with
    | nil => cases e
    | @cons d v1 ds vs r1 r2 =>
      have e' : (match f d ρ with | some ρ1 => fs ds ρ1 | none => none) = some ρ' := e
      cases q : f d ρ with
      | none => rw [q] at e'; cases e'
      | some ρ1 =>
        rw [q] at e'
        exact ⟨v1, vs, rfl, g, S, ρ, d, ρ1, w, rs, r1, q, fun σ1 g1 H1 x1 w1 rs1 o1 => ⟨g1, S, ρ1, ds, ρ', w1, rs1, x1.reps r2, e', fun σ2 g2 H2 x2 w2 rs2 o2 => k σ2 g2 H2 (x1.trans x2) w2 rs2 (o1.trans o2)⟩⟩⟩
theorem jg_tup {k n : Nat} {ws : List Nat} (hc : X.calm = true) (h : JGs X es ws fs) (hn : (assignEach es X.env).length = n := by rfl) (hst : (assignEach es X.env).findIdx? (·.1) = none := by rfl) : JG X (.Tuple es k pos) ws (dTup n fs) :=
  ⟨pgImp (pg_tup hc h.run hn hst) fun v σ H Q ⟨g, S, ρ, d, ρ', w, rs, r, e, kk⟩ => by
    cases d with
    | tup l =>
      cases r with
      | tup s r =>
        have e' : (if l.length = n then fs l ρ else none) = some ρ' := e
        by_cases q : l.length = n
        · rw [if_pos q] at e'
          exact ⟨_, _, rfl, sqtMono w.sub s, by rw [← r.length]; exact q, g, S, ρ, l, ρ', w, rs, r, e', kk⟩
        · rw [if_neg q] at e'; cases e'
    | _ => cases e⟩
end
def sAsg (fe : Ex) (f : D → Env → Option Env) : Sx := fun ρ S => (fe ρ S).toS ρ fun d S1 => match f d ρ with
  | some ρ1 => .nx ρ1 S1
  | none => .bad
theorem js_asg {X : Cx} {W : WX} {tg e : Expr} {fe : Ex} {f : D → Env → Option Env} {ws : List Nat} {pos : Pos} (he : JE X W e fe) (hg : JG X tg ws f) (hs : swapsWithSole [tg] e pos.line X.env = pure false := by rfl) (hw : swappedStores [tg] e X.env = pure none := by rfl)
    (h1 : (assignEach [tg] X.env).map (·.2) = [assign tg X.env] := by rfl) : JS X W (.Assign [tg] e pos) (sAsg fe f) :=
  ⟨psImp (ps_asg he.run hg.run hs hw h1) fun N σ H ⟨g, S, ρ, w, rs, q⟩ => ⟨g, S, ρ, w, rs, PostS.of_er q rs fun d S1 v g1 H1 _ e1 w1 r1 q1 => by
    cases e2 : f d ρ with
    | none => rw [e2] at q1; exact q1.elim
    | some ρ1 =>
      rw [e2] at q1
      exact ⟨g1, S1, ρ, d, ρ1, w1, rs.mono e1, r1, e2, fun σ2 g2 H2 x2 w2 rs2 _ => q1 σ2 g2 H2 x2 w2 rs2⟩⟩⟩
def forL (f : D → Env → Option Env) (fb : Sx) : List D → Sx
  | [] => fun ρ S => .nx ρ S
  | d :: ds => fun ρ S => match f d ρ with
    | none => .bad
    | some ρ1 => (match fb ρ1 S with
      | .nx ρ2 S2 => forL f fb ds ρ2 S2
      | .ct ρ2 S2 => forL f fb ds ρ2 S2
      | .bk ρ2 S2 => .nx ρ2 S2
      | .rt d S2 => .rt d S2
      | .exc k ρ2 S2 => .exc k ρ2 S2
      | .bad => .bad)
def sFor (fi : Ex) (f : D → Env → Option Env) (fb : Sx) : Sx := fun ρ S => (fi ρ S).toS ρ fun t S1 => match t with
  | .tup l => forL f fb l ρ S1
  | _ => .bad
theorem js_for {X : Cx} {W : WX} {tg iter : Expr} {fi : Ex} {f : D → Env → Option Env} {fb : Sx} {body : List Stmt} {ws : List Nat} {pos : Pos} (hp : PassesOwn (model X.prog X.w) X.A X.env X.xe) (hc : X.calm = true) (hi : JI X W tg iter fi) (hg : JG X tg ws f) (hb : JSs X W body fb)
    (hs : ∀ x, foldedSetIterable iter X.env x = pure x := by intro _; rfl) : JS X W (.For tg iter body [] pos) (sFor fi f fb) :=
  ⟨psImp (ps_for hp hc hi.run hg.run hb.run hs) fun N σ H ⟨g, S, ρ, w, rs, q⟩ => by
    refine ⟨g, S, ρ, w, rs, ?_⟩
    unfold sFor at q
    cases e : fi ρ S with
    | bad => rw [e] at q; exact q.elim
    | exc k S1 => rw [e] at q; exact fun g1 H1 x y => q σ g1 H1 x y (rs.mono x)
    | ok t S1 =>
      cases t with
      | tup l =>
        rw [e] at q
        have q : PostS X.K W g N (forL f fb l ρ S1) := q
        intro J g1 H1 x1 w1 it
        refine ⟨fun i m σ H => m = l.length - i ∧ i ≤ l.length ∧ ∃ g2 S2 ρ2, GExt g1 g2 ∧ World X.K g2 S2 H ∧ RelSt X.K g2 σ ρ2 ∧ PostS X.K W g2 N (forL f fb (l.drop i) ρ2 S2), ⟨l.length, by simp, Nat.zero_le _, g1, S1, ρ, GExt.refl _, w1, rs.mono x1, q.ext x1⟩, ?_⟩
        rintro i m σ2 H2 ⟨rfl, hi, g2, S2, ρ2, x2, w2, rs2, q2⟩
        obtain ⟨i1, i2⟩ := it g2 S2 H2 i x2 w2
        by_cases hlt : i < l.length
        · have hd : l[i]? = some l[i] := by simp [hlt]
          have hdrop : l.drop i = l[i] :: l.drop (i + 1) := List.drop_eq_getElem_cons hlt
          rw [hdrop] at q2
          obtain ⟨go, y⟩ := i1 _ hd
          refine .inr ⟨go, fun σ H => ∃ g3 S3 ρ3, GExt g1 g3 ∧ World X.K g3 S3 H ∧ RelSt X.K g3 σ ρ3 ∧ PostS X.K W g3 N (forL f fb (l.drop (i + 1)) ρ3 S3), fun σ3 H3 ⟨g3, S3, ρ3, z⟩ => ⟨l.length - (i + 1), by omega, rfl, hlt, g3, S3, ρ3, z⟩, fun v H3 hy => ?_⟩
          obtain ⟨g3, x3, w3, r3⟩ := y v H3 hy
          have q2' : PostS X.K W g2 N (match f l[i] ρ2 with
            | none => .bad
            | some ρ1 => (match fb ρ1 S2 with
              | .nx ρ2 S2 => forL f fb (l.drop (i + 1)) ρ2 S2
              | .ct ρ2 S2 => forL f fb (l.drop (i + 1)) ρ2 S2
              | .bk ρ2 S2 => .nx ρ2 S2
              | .rt d S2 => .rt d S2
              | .exc k ρ2 S2 => .exc k ρ2 S2
              | .bad => .bad)) := q2
          cases ef : f l[i] ρ2 with
          | none => rw [ef] at q2'; exact q2'.elim
          | some ρ3 =>
            rw [ef] at q2'
            refine ⟨g3, S2, ρ2, l[i], ρ3, w3, rs2.mono x3, r3, ef, fun σ4 g4 H4 x4 w4 rs4 _ => ⟨g4, S2, ρ3, w4, rs4, ?_⟩⟩
            have q3 := q2'.ext (x3.trans x4)
            have xx : GExt g1 g4 := x2.trans (x3.trans x4)
            cases eb : fb ρ3 S2 with
            | nx ρ5 S5 => simp only [eb] at q3; exact fun σ' g' H' x y z => ⟨g', S5, ρ5, xx.trans x, y, z, q3.ext x⟩
            | ct ρ5 S5 => simp only [eb] at q3; exact fun σ' g' H' x y z => ⟨g', S5, ρ5, xx.trans x, y, z, q3.ext x⟩
            | bk ρ5 S5 => simp only [eb] at q3; exact q3
            | rt d S5 => simp only [eb] at q3; exact q3
            | exc k ρ5 S5 => simp only [eb] at q3; exact q3
            | bad => simp only [eb] at q3; exact q3
        · have e2 : i = l.length := by omega
          subst e2
          refine .inl ⟨i2 (by simp), ?_⟩
          rw [List.drop_length] at q2
          exact q2 σ2 g2 H2 (GExt.refl _) w2 rs2
      | _ => rw [e] at q; exact q.elim⟩
end Bt
namespace Bt
open PySem PySem.Spec PyProof.Rows L2
abbrev wNo : WX := fun _ _ _ _ => False
def wipeD (ρ : Env) : List Nat → Env
  | [] => ρ
  | v :: vs => (wipeD ρ vs).set v none
theorem wipeD_length (ρ : Env) : ∀ vs, (wipeD ρ vs).length = ρ.length
  | [] => rfl
  | v :: vs => by unfold wipeD; rw [List.length_set, wipeD_length ρ vs]
theorem wipeD_some {ρ : Env} {i : Nat} {d : D} : ∀ {vs : List Nat}, (wipeD ρ vs)[i]? = some (some d) → ρ[i]? = some (some d) ∧ i ∉ vs
  | [], h => ⟨h, by simp⟩
  | v :: vs, h => by
    unfold wipeD at h
    by_cases hi : v = i
    · subst hi
      by_cases hv : v < (wipeD ρ vs).length
      · rw [List.getElem?_set_self hv] at h; cases h
      · rw [List.getElem?_eq_none (by simpa using hv)] at h; cases h
    · rw [List.getElem?_set_ne hi] at h
      obtain ⟨h1, h2⟩ := wipeD_some h
      exact ⟨h1, by simp only [List.mem_cons, not_or]; exact ⟨fun e => hi e.symm, h2⟩⟩
theorem wipe_at (σ : L2.St) (i : Nat) : ∀ vs : List Nat, (wipe σ vs)[i]? = if i ∈ vs then (if i < σ.length then some none else none) else σ[i]?
  | [] => by simp [wipe]
  | v :: vs => by
    unfold wipe
    by_cases e : v = i
    · subst e
      by_cases hv : v < σ.length
      · rw [List.getElem?_set_self (by rw [wipe_length]; exact hv), if_pos (by simp), if_pos hv]
      · rw [List.getElem?_eq_none (by rw [List.length_set, wipe_length]; omega), if_pos (by simp), if_neg hv]
    · rw [List.getElem?_set_ne e, wipe_at σ i vs]
      by_cases hm : i ∈ vs
      · rw [if_pos hm, if_pos (show i ∈ v :: vs from List.mem_cons_of_mem _ hm)]
      · rw [if_neg hm, if_neg (by simp only [List.mem_cons, not_or]; exact ⟨fun z => e z.symm, hm⟩)]
theorem wipe_off {σ σ2 : L2.St} {vs ws : List Nat} (hw : ∀ i ∈ ws, i ∈ vs) (o : Off ws (wipe σ vs) σ2) : wipe σ2 vs = wipe σ vs := by
  apply List.ext_getElem?
  intro i
  rw [wipe_at, wipe_at]
  have hl : σ2.length = σ.length := o.1.trans (wipe_length σ vs)
  by_cases hm : i ∈ vs
  · rw [if_pos hm, if_pos hm, hl]
  · rw [if_neg hm, if_neg hm, o.2 i (fun z => hm (hw i z)), wipe_at, if_neg hm]
theorem RelSt.wipe {K : PySem.W.Frag} {g : G} {σ : L2.St} {ρ : Env} (r : RelSt K g σ ρ) (vs : List Nat) : RelSt K g (L2.wipe σ vs) (wipeD ρ vs) := ⟨by rw [wipeD_length, wipe_length, r.len], fun i d h => by
  obtain ⟨h1, h2⟩ := wipeD_some h
  obtain ⟨v, h3, h4⟩ := r.at_ i d h1
  exact ⟨v, by rw [wipe_at, if_neg h2]; exact h3, h4⟩⟩
structure JTs (X : Cx) (W : WX) (ifs : List Expr) (f : Ex) : Prop where
  run : PTs X ifs (tT X.K W f)
def eYes : Ex := fun _ S => .ok (.bl true) S
theorem jts_nil {X : Cx} {W : WX} : JTs X W [] eYes := ⟨⟨fun pins s σ H Q I ⟨g, S, ρ, w, rs, q⟩ => (pts_nil (X := X)).run pins s σ H Q I (q g H (GExt.refl _) w)⟩⟩
theorem jts_one {X : Cx} {W : WX} {c : Expr} {f : Ex} (h : JT X W c f) : JTs X W [c] f := ⟨pts_one h.run⟩
/-- one item: kept, left out, or it can't be -/
def stepC (f : D → Env → Option Env) (fc fe : Ex) (ρ : Env) (d : D) (S : Sto) : Option (Option D × Sto) := match f d ρ with
  | none => none
  | some ρ1 => (match fc ρ1 S with
    | .ok (.bl true) S1 => (match fe ρ1 S1 with
      | .ok y S2 => some (some y, S2)
      | _ => none)
    | .ok (.bl false) S1 => some (none, S1)
    | _ => none)
def compL (step : D → Sto → Option (Option D × Sto)) : List D → List D → Sto → ER
  | [], acc, S => .ok (.lst acc) S
  | d :: ds, acc, S => match step d S with
    | some (some y, S2) => if acc.length < lim then compL step ds (acc ++ [y]) S2 else .bad
    | some (none, S2) => compL step ds acc S2
    | none => .bad
def eComp (vs : List Nat) (fi : Ex) (f : D → Env → Option Env) (fc fe : Ex) : Ex := fun ρ S => (fi ρ S).bind fun t S1 => match t with
  | .tup l => compL (stepC f fc fe (wipeD ρ vs)) l [] S1
  | _ => .bad
section
variable {K : PySem.W.Frag} {g : G} {S : Sto} {H : Hp}
/-- a list that was held is frozen -/
def G.thaw (g : G) (p : Addr) (o : HO) : G := { g with F := upd g.F p o, pin := fun b => if b = p then none else g.pin b }
theorem World.thaw (w : World K g S H) {p : Addr} {o : HO} (hp : g.pin p = some o) (ho : ¬ LkO o) : World K (g.thaw p o) S H := by
  obtain ⟨q1, q2, q3⟩ := w.pin p o hp
  have sub : GSub g (g.thaw p o) := ⟨fun a x h => by
    show upd g.F p o a = _
    rw [upd_ne (ne_of_none h q2)]; exact h, fun _ _ h => h⟩
  refine ⟨fun a x h => ?_, w.len, fun n x h => (w.at_ n x h).monoS sub (fun b j hb => ⟨hb, rfl⟩) fun b o' h l => (by
    show (if b = p then none else g.pin b) = _
    rw [if_neg]; exact h
    intro z; subst z; rw [hp] at h; cases h; exact ho l), fun b q hb => ?_, fun b x hb => ?_⟩
  · have h' : upd g.F p o a = some x := h
    by_cases e : a = p
    · subst e; rw [upd_same] at h'; rw [← h']; exact q1
    · rw [upd_ne e] at h'; exact w.sub a x h'
  · refine ⟨?_, (w.free b q hb).2⟩
    show upd g.F p o b = none
    rw [upd_ne]; exact (w.free b q hb).1
    intro z; subst z
    have hb' : g.own b = some q := hb
    rw [q3] at hb'; cases hb'
  · have hb' : (if b = p then none else g.pin b) = some x := hb
    by_cases e : b = p
    · rw [if_pos e] at hb'; cases hb'
    · rw [if_neg e] at hb'
      obtain ⟨r1, r2, r3⟩ := w.pin b x hb'
      refine ⟨r1, ?_, r3⟩
      show upd g.F p o b = none
      rw [upd_ne e]; exact r2
end
theorem tLc_of {K : PySem.W.Frag} {W : WX} {wi : TI} {g : TG} {tt : TT} {te : TE} {vs ws : List Nat} {fi fc fe : Ex} {f : D → Env → Option Env} (hw : ∀ i ∈ ws, i ∈ vs)
    (hi : ∀ σ H R, tI K W fi σ H R → wi σ H R) (hg : ∀ v σ H Q, tG K ws f v σ H Q → g v σ H Q) (ht : ∀ σ H Q, tT K wNo fc σ H Q → tt σ H Q) (he : ∀ σ H Q, tE K wNo fe σ H Q → te σ H Q) :
    ∀ σ H Q, tE K W (eComp vs fi f fc fe) σ H Q → tLc wi g tt te vs σ H Q := fun σ H Q ⟨g0, S, ρ, w, rs, q⟩ => by
  refine hi σ H _ ⟨g0, S, ρ, w, rs, ?_⟩
  unfold eComp at q
  cases e : fi ρ S with
  | bad => rw [e] at q; exact q.elim
  | exc k S1 => rw [e] at q; exact q
  | ok t S1 =>
    rw [e] at q
    cases t with
    | tup l =>
      have q : Post K W σ g0 Q (compL (stepC f fc fe (wipeD ρ vs)) l [] S1) := q
      intro J g1 H1 x1 w1 it C hC
      obtain ⟨w2, x2⟩ := w1.hold (o := .lst []) hC
      have fr : ∀ b o, g0.pin b = some o → b ≠ C := fun b o hb => ne_of_none (w1.pin b o (x1.p b o hb)).1 hC
      refine ⟨fun i m H => m = l.length - i ∧ i ≤ l.length ∧ ∃ g2 S2 acc xs, GExt g1 g2 ∧ g2.pin C = some (.lst xs) ∧ World K g2 S2 H ∧ RepsG K g2 acc xs ∧ Post K W σ g0 Q (compL (stepC f fc fe (wipeD ρ vs)) (l.drop i) acc S2), ⟨l.length, by simp, Nat.zero_le _, _, S1, [], [], x2, ?_, w2, .nil, q⟩, ?_⟩
      · show (if C = C then _ else _) = _
        rw [if_pos rfl]
      rintro i m H3 ⟨rfl, hi3, g2, S2, acc, xs, x3, pc, w3, ra, q3⟩
      obtain ⟨i1, i2⟩ := it g2 S2 H3 i x3 w3
      by_cases hlt : i < l.length
      · have hd : l[i]? = some l[i] := by simp [hlt]
        have hdrop : l.drop i = l[i] :: l.drop (i + 1) := List.drop_eq_getElem_cons hlt
        rw [hdrop] at q3
        obtain ⟨go, y⟩ := i1 _ hd
        refine .inr ⟨go, fun H => ∃ g2 S2 acc xs, GExt g1 g2 ∧ g2.pin C = some (.lst xs) ∧ World K g2 S2 H ∧ RepsG K g2 acc xs ∧ Post K W σ g0 Q (compL (stepC f fc fe (wipeD ρ vs)) (l.drop (i + 1)) acc S2), fun H4 ⟨g4, S4, acc4, xs4, z⟩ => ⟨l.length - (i + 1), by omega, rfl, hlt, g4, S4, acc4, xs4, z⟩, fun v H4 hy => ?_⟩
        obtain ⟨g4, x4, w4, r4⟩ := y v H4 hy
        unfold compL stepC at q3
        cases ef : f l[i] (wipeD ρ vs) with
        | none => simp only [ef] at q3; exact q3.elim
        | some ρ1 =>
          simp only [ef] at q3
          have rs4 : RelSt K g4 (L2.wipe σ vs) (wipeD ρ vs) := (rs.mono (x1.trans (x3.trans x4))).wipe vs
          refine hg v _ H4 _ ⟨g4, S2, wipeD ρ vs, l[i], ρ1, w4, rs4, r4, ef, fun σ5 g5 H5 x5 w5 rs5 o5 => ⟨wipe_off hw o5, ?_⟩⟩
          refine ht _ _ _ ⟨g5, S2, ρ1, w5, rs5, ?_⟩
          cases ec : fc ρ1 S2 with
          | bad => simp only [ec] at q3; exact q3.elim
          | exc k S5 => simp only [ec] at q3; exact q3.elim
          | ok d S5 =>
            cases d with
            | bl b =>
              cases b with
              | false =>
                simp only [ec] at q3
                intro g6 H6 x6 w6
                rw [if_neg Bool.false_ne_true]
                have xx := (x4.trans x5).trans x6
                exact ⟨g6, S5, acc, xs, x3.trans xx, xx.p _ _ pc, w6, xx.reps ra, q3⟩
              | true =>
                simp only [ec] at q3
                intro g6 H6 x6 w6
                rw [if_pos rfl]
                refine he _ _ _ ⟨g6, S5, ρ1, w6, rs5.mono x6, ?_⟩
                cases ee : fe ρ1 S5 with
                | bad => simp only [ee] at q3; exact q3.elim
                | exc k S5 => simp only [ee] at q3; exact q3.elim
                | ok y S6 =>
                  simp only [ee] at q3
                  intro u g7 H7 x7 w7 r7
                  have xx := ((x4.trans x5).trans x6).trans x7
                  have pc7 := xx.p _ _ pc
                  obtain ⟨p1, p2, p3⟩ := w7.pin _ _ pc7
                  have ra7 := xx.reps ra
                  by_cases hz : acc.length < lim
                  · rw [if_pos hz] at q3
                    refine ⟨xs, p1, ?_, ?_⟩
                    · rw [← ra7.length]; exact Nat.lt_trans hz (by decide)
                    · have w8 := w7.rehold (u := .lst (xs ++ [u])) pc7 lko_lst
                      refine ⟨_, S6, acc ++ [y], xs ++ [u], ⟨fun a o h => ?_, fun n a h => ?_, fun a o h => ?_⟩, ?_, w8, ?_, q3⟩
                      · exact (x3.trans xx).f a o h
                      · exact (x3.trans xx).a n a h
                      · show (if a = C then _ else _) = _
                        rw [if_neg]
                        · exact (x3.trans xx).p a o h
                        · exact ne_of_none (w1.pin a o h).1 hC
                      · show (if C = C then _ else _) = _
                        rw [if_pos rfl]
                      · exact (ra7.snoc r7)
                  · rw [if_neg hz] at q3; exact q3.elim
            | _ => simp only [ec] at q3; exact q3.elim
      · have e2 : i = l.length := by omega
        subst e2
        refine .inl ⟨i2 (by simp), ?_⟩
        rw [List.drop_length] at q3
        have w4 := w3.thaw pc lko_lst
        refine q3 (.ref C) _ H3 ⟨fun a o h => ?_, fun n a h => ?_, fun a o h => ?_⟩ w4 (.lst upd_same ?_)
        · show upd g2.F C _ a = _
          have h2 := x3.f a o (x1.f a o h)
          rw [upd_ne (ne_of_none h2 (w3.pin _ _ pc).2.1)]; exact h2
        · exact x3.a n a (x1.a n a h)
        · show (if a = C then _ else _) = _
          rw [if_neg (fr a o h)]
          exact x3.p a o (x1.p a o h)
        · refine ra.mono (fun a o h => ?_) fun n a h => h
          show upd g2.F C _ a = _
          rw [upd_ne (ne_of_none h (w3.pin _ _ pc).2.1)]; exact h
    | _ => exact q.elim
section
variable {X : Cx} {W : WX} {elt tg iter : Expr} {ifs : List Expr} {scope : Scope} {own : List (Str × Nat)} {pos spos : Pos} {ws : List Nat} {fi fc fe : Ex} {f : D → Env → Option Env}
theorem je_comp (own : List (Str × Nat)) (hc : X.calm = true) (hN : X.N.Nodup) (hi : JI X W tg iter fi) (ok : BlkOk X.N X.env.scope scope own)
    (hg : ∀ (s : Shared) (H : Hp) (C : Addr) (cl : List (Str × Addr)) (fp : List Addr), JG (X.blk s H scope (compEnvC scope cl C X.env) fp) tg ws f) (hw : ∀ i ∈ ws, i ∈ own.map (·.2))
    (ht : ∀ (s : Shared) (H : Hp) (C : Addr) (cl : List (Str × Addr)) (fp : List Addr), JTs (X.blk s H scope (compEnvC scope cl C X.env) fp) wNo ifs fc)
    (he : ∀ (s : Shared) (H : Hp) (C : Addr) (cl : List (Str × Addr)) (fp : List Addr), JE (X.blk s H scope (compEnvC scope cl C X.env) fp) wNo elt fe) (hs : ∀ x, foldedSetIterable iter X.env x = pure x := by intro _; rfl) :
    JE X W (.ListComp elt [⟨tg, iter, ifs, 0⟩] scope pos) (eComp (own.map (·.2)) fi f fc fe) :=
  ⟨peImp (pe_lc (own := own) hc hN hi.run ok (fun s H C cl fp => (hg s H C cl fp).run) (fun s H C cl fp => (ht s H C cl fp).run) (fun s H C cl fp => (he s H C cl fp).run) hs) (tLc_of hw (fun _ _ _ x => x) (fun _ _ _ _ x => x) (fun _ _ _ x => x) fun _ _ _ x => x)⟩
theorem js_setComp (own : List (Str × Nat)) {i : Nat} {y : Str} {py : Pos} (hc : X.calm = true) (hN : X.N.Nodup) (hi : JI X W tg iter fi) (ok : BlkOk X.N X.env.scope scope own)
    (hg : ∀ (s : Shared) (H : Hp) (C : Addr) (cl : List (Str × Addr)) (fp : List Addr), JG (X.blk s H scope (compEnvC scope cl C X.env) fp) tg ws f) (hw : ∀ i ∈ ws, i ∈ own.map (·.2))
    (ht : ∀ (s : Shared) (H : Hp) (C : Addr) (cl : List (Str × Addr)) (fp : List Addr), JTs (X.blk s H scope (compEnvC scope cl C X.env) fp) wNo ifs fc)
    (he : ∀ (s : Shared) (H : Hp) (C : Addr) (cl : List (Str × Addr)) (fp : List Addr), JE (X.blk s H scope (compEnvC scope cl C X.env) fp) wNo elt fe)
    (hsw : swapsWith (.ListComp elt [⟨tg, iter, ifs, 0⟩] scope pos) (some (.Name y py)) spos.line X.env = pure true := by exact sw_true rfl rfl rfl (by decide +kernel)) (hy : X.N[i]? = some y := by rfl) (hyl : X.env.scope.names.lookup y = some .local := by rfl) (hs : ∀ x, foldedSetIterable iter X.env x = pure x := by intro _; rfl) :
    JS X W (.Assign [.Name y py] (.ListComp elt [⟨tg, iter, ifs, 0⟩] scope pos) spos) (sSet i (eComp (own.map (·.2)) fi f fc fe)) :=
  ⟨psImp (ps_setLc (i := i) (own := own) hc hN hy hyl hsw hi.run ok (fun s H C cl fp => (hg s H C cl fp).run) (fun s H C cl fp => (ht s H C cl fp).run) (fun s H C cl fp => (he s H C cl fp).run) hs) fun N σ H ⟨g, S, ρ, w, rs, q⟩ =>
    tLc_of (W := W) (f := f) (fi := fi) (fc := fc) (fe := fe) hw (fun _ _ _ x => x) (fun _ _ _ _ x => x) (fun _ _ _ x => x) (fun _ _ _ x => x) σ H _ ⟨g, S, ρ, w, rs, PostS.of_er q rs fun d S1 v g1 H1 _ e1 w1 r1 q1 => q1 _ g1 H1 (GExt.refl _) w1 ((rs.mono e1).set r1)⟩⟩
end
def fnBody (n N : Nat) (f : Sx) : Fn := fun ds S => if ds.length = n then (f (ds.map some ++ List.replicate (N - n) none) S).toE else .bad
def eCall0 (F : Fn) : Ex := fun _ S => match F [] S with
  | .ok d S1 => .ok d S1
  | _ => .bad
section
variable {X : Cx} {W : WX} {x : Str} {k : Nat} {F : Fn} {p pos : Pos} {e : Expr} {es : List Expr} {fa : Ex}
theorem postF_of {K : PySem.W.Frag} {σ : L2.St} {g : G} {Q : VK} {r : ER} (h : Post K W σ g Q r) : PostF K g Q (WE W σ) r := by
  cases r with
  | ok d S => exact h
  | exc k S => exact h
  | bad => exact h
theorem je_call (c : Cal X.prog X.w X.K X.mg X.base x k F) (hr : Room k X.A) (tk : Takes X W) (ha : JA X W (e :: es) fa) (hg : Gl X x := by rfl) (hdb : (x == ("__debug__" : Str)) = false := by decide) (he : starEach (e :: es) X.env = (false, eval e X.env) :: starEach es X.env := by rfl) (hpl : (backTo pos (starEach es X.env)).any (·.1) = false := by rfl) :
    JE X W (.Call (.Name x p) (e :: es) [] pos) (eCall F fa) := by
  obtain ⟨f, fd, ps, h1, h2, h3, h4⟩ := c.ex
  exact ⟨peImp (pe_callS (E := WE W) h4 hr hg h1 h2 h3 (fun σ => passAt tk σ) ha.run hdb he hpl) fun σ H Q ⟨g, S, ρ, w, rs, q⟩ => ⟨g, S, ρ, w, rs, Post.of_args (k := fun l S1 => F l S1) q fun l S1 vs g1 H1 _ e1 w1 r1 q1 => ⟨g1, S1, l, w1, r1, postF_of q1⟩⟩⟩
theorem je_call0 (c : Cal X.prog X.w X.K X.mg X.base x k F) (hr : Room k X.A) (hg : Gl X x := by rfl) (hdb : (x == ("__debug__" : Str)) = false := by decide) : JE X W (.Call (.Name x p) [] [] pos) (eCall0 F) := by
  obtain ⟨f, fd, ps, h1, h2, h3, h4⟩ := c.ex
  exact ⟨peImp (pe_call0 (ds := []) (dvs := []) (E := E0) h4 hr hg h1 h2 h3 .nil passL (hdb := hdb)) fun σ H Q ⟨g, S, ρ, w, rs, q⟩ => ⟨g, S, [], w, .nil, by
    unfold eCall0 at q
    cases e : F [] S with
    | ok d S1 => rw [e] at q; exact q
    | exc k S1 => rw [e] at q; exact q.elim
    | bad => rw [e] at q; exact q.elim⟩⟩
end
/-- the body does it -/
theorem reps_start {K : PySem.W.Frag} {g : G} {N : List Str} {ds : List D} {vs : List V} (r : RepsG K g ds vs) : RelSt K g (L2.start N vs) (ds.map some ++ List.replicate (N.length - ds.length) none) := by
  unfold L2.start
  refine ⟨by simp [r.length], fun i d h => ?_⟩
  by_cases hi : i < ds.length
  · rw [List.getElem?_append_left (by simpa using hi)] at h
    simp only [List.getElem?_map, Option.map_eq_some_iff] at h
    obtain ⟨d', h1, h2⟩ := h
    cases h2
    obtain ⟨v, h3, h4⟩ := r.get h1
    refine ⟨v, ?_, h4⟩
    rw [List.getElem?_append_left (by rw [List.length_map, ← r.length]; exact hi)]
    simp [h3]
  · rw [List.getElem?_append_right (by simpa using hi)] at h
    have := List.mem_of_getElem? h
    have := List.eq_of_mem_replicate this
    cases this
theorem fn_ok {P : Program} {w : PySem.World} {K : PySem.W.Frag} {mg : Str → Option Value} {base : Heap} {x qual : Str} {params : Arguments} {body : List Stmt} {scope : Scope} {f : Addr} {fd : FuncData} {N ps : List Str} {k : Nat} {m : Sx}
    (F : FunD K x qual params body scope [] [] f fd) (S : FnScope N ps scope)
    (hb : ∀ (cdv : Value) (A : Around) (outer : List PySem.Env) (s : Shared) (H : Hp) (E : XK), Room k (A.deeper (envOfC qual scope s.heap.objs.size f cdv)) →
      JSs (cxOf (L2.CX P w) P w K mg base N qual scope f cdv A outer s H E) (fun cls d _ H => E cls d H) body m) :
    FnOk P w K mg base (L2.CX P w) (k + 1) f fd ps (spOf K (fnBody ps.length N.length m)) := by
  refine F.ok S (fun vs H Q E ⟨g, S, ds, w, r, q⟩ => ?_) fun cdv A outer s H vs Q E hr ⟨g, S0, ds, w, r, q⟩ => ?_
  · unfold fnBody at q
    by_cases hl : ds.length = ps.length
    · rw [← r.length]; exact hl
    · rw [if_neg hl] at q; exact q.elim
  · refine ⟨_, (hb cdv A outer s H E hr).run, ?_⟩
    unfold fnBody at q
    by_cases hl : ds.length = ps.length
    · rw [if_pos hl] at q
      refine ⟨g, S0, _, w, reps_start r, ?_⟩
      rw [hl]
      cases e : m (ds.map some ++ List.replicate (N.length - ps.length) none) S0 with
      | nx ρ S1 => rw [e] at q; exact fun σ' g' H' x y z => q .non g' H' x y .non
      | rt d S1 => rw [e] at q; exact q
      | exc k ρ S1 => rw [e] at q; exact fun σ' g' H' x y z => q g' H' x y
      | bk ρ S1 => rw [e] at q; exact q.elim
      | ct ρ S1 => rw [e] at q; exact q.elim
      | bad => rw [e] at q; exact q.elim
    · rw [if_neg hl] at q; exact q.elim
end Bt
namespace Bt
open PySem PySem.Spec PyProof.Rows L2
section
variable {K : PySem.W.Frag} {g : G} {S : Sto} {H : Hp} {d : D} {v : V} {l : List D}
theorem seqOf_rep (w : World K g S H) (r : RepG K g d v) (e : seqOf S d = some l) : ∃ a xs, v = .ref a ∧ SqL K H a xs ∧ RepsG K g l xs := by
  cases d with
  | lst l' => cases e; cases r with | lst s r => exact ⟨_, _, rfl, SqL.of (w.sub _ _ s), r⟩
  | scr l' => cases e; cases r with | scr s r => exact ⟨_, _, rfl, sqlMono w.sub s, r⟩
  | obj n =>
    simp only [seqOf] at e
    cases h : S[n]? with
    | none => rw [h] at e; cases e
    | some o =>
      rw [h] at e
      cases o with
      | list l' =>
        cases e
        obtain ⟨a, xs, h1, h2, h3, h4⟩ := w.at_ n _ h
        cases r with
        | obj h5 => rw [h1] at h5; cases h5; exact ⟨_, _, rfl, SqL.of h3, h4⟩
      | _ => cases e
  | _ => cases e
end
def opSub : Sto → D → D → Option D := fun _ x y => match x, y with
  | .int i, .int j => some (.int (i - j))
  | _, _ => none
def opMod : Sto → D → D → Option D := fun _ x y => match x, y with
  | .int i, .int j => if 0 < j then some (.int (i % j)) else none
  | _, _ => none
def opDiv : Sto → D → D → Option D := fun _ x y => match x, y with
  | .int i, .int j => if 0 < j ∧ j < 1073741824 then some (.int (i / j)) else none
  | _, _ => none
def opNeg : Sto → D → Option D := fun _ x => match x with
  | .int i => some (.int (-i))
  | _ => none
def rOr (r r' : R2) : R2 := fun x y H Q => r x y H Q ∨ r' x y H Q
section
variable {X : Cx}
abbrev rAddI : R2 := rI0 fun i j => .int (i + j)
abbrev rAddS : R2 := fun x y H Q => ∃ i j, x = .str i ∧ y = .str j ∧ i.length + j.length ≤ sizeLine ∧ Q (.str (i ++ j)) H
theorem or_add : OpR X (binaryOp .Add) (rOr rAddI (rOr rAddS (rOr (rCatA X.K) rCat))) := op_add.or (op_add_str.or (op_catA.or op_cat))
theorem l_add : L2r X.K (rOr rAddI (rOr rAddS (rOr (rCatA X.K) rCat))) opAdd := by
  intro g S H x y dx dy d Q w rx ry e k
  cases dx with
  | int i =>
    cases dy with
    | int j => cases e; cases rx; cases ry; exact .inl ⟨_, _, rfl, rfl, k _ g H (GExt.refl _) w (.int _)⟩
    | _ => cases e
  | str i =>
    cases dy with
    | str j =>
      cases rx; cases ry
      have e' : (if i.length + j.length ≤ lim then some (D.str (i ++ j)) else none) = some d := e
      by_cases q : i.length + j.length ≤ lim
      · rw [if_pos q] at e'; cases e'
        exact .inr (.inl ⟨_, _, rfl, rfl, lim_le q, k _ g H (GExt.refl _) w (.str _)⟩)
      · rw [if_neg q] at e'; cases e'
    | _ => cases e
  | tup a =>
    cases dy with
    | tup b =>
      cases rx with
      | @tup ad xs _ s r =>
      cases ry with
      | @tup bd ys _ s2 r2 =>
      have e' : (if a.length + b.length ≤ lim then some (D.tup (a ++ b)) else none) = some d := e
      by_cases q : a.length + b.length ≤ lim
      · rw [if_pos q] at e'; cases e'
        refine .inr (.inr (.inl ⟨_, _, _, _, rfl, rfl, sqtMono w.sub s, sqtMono w.sub s2, ?_, fun h0 => ?_, fun h1 h0 => ?_, fun h1 h2 p hp => ?_⟩))
        · rw [← r.length, ← r2.length]; exact lim_le q
        · subst h0
          have : a = [] := List.length_eq_zero_iff.mp (by rw [r.length]; rfl)
          subst this
          exact k _ g H (GExt.refl _) w (.tup s2 r2)
        · subst h0
          have : b = [] := List.length_eq_zero_iff.mp (by rw [r2.length]; rfl)
          subst this
          rw [List.append_nil] at k
          exact k _ g H (GExt.refl _) w (.tup s r)
        · obtain ⟨w2, e2⟩ := w.add (o := .tup (xs ++ ys)) hp
          exact k _ _ _ e2 w2 (.tup (SqT.of upd_same) (e2.reps (r.append r2)))
      · rw [if_neg q] at e'; cases e'
    | _ => cases e
  | lst a =>
    cases dy with
    | lst b =>
      cases rx with
      | @lst ad xs _ s r =>
      cases ry with
      | @lst bd ys _ s2 r2 =>
      have e' : (if a.length + b.length ≤ lim then some (D.lst (a ++ b)) else none) = some d := e
      by_cases q : a.length + b.length ≤ lim
      · rw [if_pos q] at e'; cases e'
        refine .inr (.inr (.inr ⟨_, _, _, _, rfl, rfl, w.sub _ _ s, w.sub _ _ s2, ?_, fun p hp => ?_⟩))
        · rw [← r.length, ← r2.length]; exact lim_le q
        · obtain ⟨w2, e2⟩ := w.add (o := .lst (xs ++ ys)) hp
          exact k _ _ _ e2 w2 (.lst upd_same (e2.reps (r.append r2)))
      · rw [if_neg q] at e'; cases e'
    | _ => cases e
  | _ => cases e
theorem l_sub : L2r X.K (rI0 fun i j => .int (i - j)) opSub := by
  intro g S H x y dx dy d Q w rx ry e k
  cases dx with
  | int i =>
    cases dy with
    | int j => cases e; cases rx; cases ry; exact ⟨_, _, rfl, rfl, k _ g H (GExt.refl _) w (.int _)⟩
    | _ => cases e
  | _ => cases e
abbrev rMulI : R2 := rI CMul fun i j => .int (i * j)
theorem or_mul : OpR X (binaryOp .Mult) (rOr rMulI (rOr (rRepT X.K) rRep)) := op_mul.or (op_repT.or op_rep)
theorem l_mul : L2r X.K (rOr rMulI (rOr (rRepT X.K) rRep)) opMul := by
  intro g S H x y dx dy d Q w rx ry e k
  cases dx with
  | int i =>
    cases dy with
    | int j =>
      cases rx; cases ry
      have e' : (if i.natAbs < 18446744073709551616 ∨ j.natAbs < 18446744073709551616 then some (D.int (i * j)) else none) = some d := e
      by_cases q : i.natAbs < 18446744073709551616 ∨ j.natAbs < 18446744073709551616
      · rw [if_pos q] at e'; cases e'
        refine .inl ⟨_, _, rfl, rfl, ?_, k _ g H (GExt.refl _) w (.int _)⟩
        unfold CMul; omega
      · rw [if_neg q] at e'; cases e'
    | _ => cases e
  | tup a =>
    cases dy with
    | int j =>
      cases ry
      cases rx with
      | @tup ad xs _ s r =>
      have e' : (if a.length ≠ 0 ∧ 2 ≤ j ∧ j ≤ 1000 ∧ a.length ≤ 1000 then some (D.tup (List.replicate j.toNat a).flatten) else none) = some d := e
      by_cases q : a.length ≠ 0 ∧ 2 ≤ j ∧ j ≤ 1000 ∧ a.length ≤ 1000
      · rw [if_pos q] at e'; cases e'
        have hl := r.length
        refine .inr (.inl ⟨_, _, _, rfl, rfl, sqtMono w.sub s, fun z => ?_, q.2.1, q.2.2.1, by rw [← hl]; exact q.2.2.2, fun p hp => ?_⟩)
        · subst z; exact q.1 hl
        · obtain ⟨w2, e2⟩ := w.add (o := .tup (List.replicate j.toNat xs).flatten) hp
          exact k _ _ _ e2 w2 (.tup (SqT.of upd_same) (e2.reps (r.rep _)))
      · rw [if_neg q] at e'; cases e'
    | _ => cases e
  | lst a =>
    cases dy with
    | int j =>
      cases ry
      cases rx with
      | @lst ad xs _ s r =>
      have e' : (if -1000 ≤ j ∧ j ≤ 1000 ∧ a.length ≤ 1000 then some (D.lst (List.replicate j.toNat a).flatten) else none) = some d := e
      by_cases q : -1000 ≤ j ∧ j ≤ 1000 ∧ a.length ≤ 1000
      · rw [if_pos q] at e'; cases e'
        have hl := r.length
        refine .inr (.inr ⟨_, _, _, rfl, rfl, w.sub _ _ s, by omega, by omega, ?_, fun p hp => ?_⟩)
        · rw [← hl]
          have h1 : j.toNat ≤ 1000 := by omega
          exact Nat.le_trans (Nat.mul_le_mul q.2.2 h1) (by decide)
        · obtain ⟨w2, e2⟩ := w.add (o := .lst (List.replicate j.toNat xs).flatten) hp
          exact k _ _ _ e2 w2 (.lst upd_same (e2.reps (r.rep _)))
      · rw [if_neg q] at e'; cases e'
    | _ => cases e
  | _ => cases e
theorem l_mod : L2r X.K (rI (fun _ j => 0 < j) fun i j => .int (i % j)) opMod := by
  intro g S H x y dx dy d Q w rx ry e k
  cases dx with
  | int i =>
    cases dy with
    | int j =>
      cases rx; cases ry
      have e' : (if 0 < j then some (D.int (i % j)) else none) = some d := e
      by_cases q : 0 < j
      · rw [if_pos q] at e'; cases e'
        exact ⟨_, _, rfl, rfl, q, k _ g H (GExt.refl _) w (.int _)⟩
      · rw [if_neg q] at e'; cases e'
    | _ => cases e
  | _ => cases e
theorem l_div : L2r X.K (rI CDiv fun i j => .int (i / j)) opDiv := by
  intro g S H x y dx dy d Q w rx ry e k
  cases dx with
  | int i =>
    cases dy with
    | int j =>
      cases rx; cases ry
      have e' : (if 0 < j ∧ j < 1073741824 then some (D.int (i / j)) else none) = some d := e
      by_cases q : 0 < j ∧ j < 1073741824
      · rw [if_pos q] at e'; cases e'
        exact ⟨_, _, rfl, rfl, q, k _ g H (GExt.refl _) w (.int _)⟩
      · rw [if_neg q] at e'; cases e'
    | _ => cases e
  | _ => cases e
theorem l_neg : L1r X.K (rU fun i => .int (-i)) opNeg := by
  intro g S H x dx d Q w rx e k
  cases dx with
  | int i => cases e; cases rx; exact ⟨_, rfl, k _ g H (GExt.refl _) w (.int _)⟩
  | _ => cases e
end
def opCmp (p : Int → Int → Bool) : Sto → D → D → Option D := fun _ x y => match x, y with
  | .int i, .int j => some (.bl (p i j))
  | _, _ => none
abbrev opLt := opCmp fun i j => decide (i < j)
abbrev opLe := opCmp fun i j => decide (i ≤ j)
abbrev opGt := opCmp fun i j => decide (j < i)
abbrev opGe := opCmp fun i j => decide (j ≤ i)
theorem l_cmp {K : PySem.W.Frag} {p : Int → Int → Bool} : L2r K (rI0 fun i j => .bl (p i j)) (opCmp p) := by
  intro g S H x y dx dy d Q w rx ry e k
  cases dx with
  | int i =>
    cases dy with
    | int j => cases e; cases rx; cases ry; exact ⟨_, _, rfl, rfl, k _ g H (GExt.refl _) w (.bl _)⟩
    | _ => cases e
  | _ => cases e
section
variable {K : PySem.W.Frag} {F H : Hp} {α : List Addr}
mutual
theorem Rep.dp (sub : ∀ a o, F a = some o → H a = some o) : ∀ {d : D} {v : V}, d.wf = true → Rep K F α d v → Dp K H v d.toP
  | _, _, _, .non => .non
  | _, _, _, .bl b => .bl b
  | _, _, _, .int i => .int i
  | _, _, _, .str s => .str s
  | _, _, h, .tup s r => .tup (sqtMono sub s) (Reps.dp sub h r)
  | _, _, h, .lst s r => .lst (SqL.of (sub _ _ s)) (Reps.dp sub h r)
  | _, _, h, .scr s r => .lst (sqlMono sub s) (Reps.dp sub h r)
  | _, _, h, .obj e => nomatch h
theorem Reps.dp (sub : ∀ a o, F a = some o → H a = some o) : ∀ {ds : List D} {vs : List V}, D.wfs ds = true → Reps K F α ds vs → DpAll K H vs (D.toPs ds)
  | _, _, _, .nil => .nil
  | _, _, h, .cons r t => by
    have h' := Bool.and_eq_true_iff.mp h
    exact .cons (Rep.dp sub h'.1 r) (Reps.dp sub h'.2 t)
end
end
mutual
theorem canLay_of : ∀ (d : D), d.wf = true → d.toP.canLay0 = true
  | .non, _ => rfl
  | .bl _, _ => rfl
  | .int _, _ => rfl
  | .str _, h => h
  | .tup l, h => canLays_of l h
  | .lst l, h => canLays_of l h
  | .scr l, h => canLays_of l h
  | .obj _, h => nomatch h
theorem canLays_of : ∀ (l : List D), D.wfs l = true → PyData.canLayAll0 (D.toPs l) = true
  | [], _ => rfl
  | d :: ds, h => by
    have h' := Bool.and_eq_true_iff.mp h
    show (d.toP.canLay0 && PyData.canLayAll0 (D.toPs ds)) = true
    rw [canLay_of d h'.1, canLays_of ds h'.2]; rfl
end
mutual
theorem dep_of : ∀ (d : D), d.toP.depth = d.dep
  | .non => rfl
  | .bl _ => rfl
  | .int _ => rfl
  | .str _ => rfl
  | .tup l => congrArg (· + 1) (deps_of l)
  | .lst l => congrArg (· + 1) (deps_of l)
  | .scr l => congrArg (· + 1) (deps_of l)
  | .obj _ => rfl
theorem deps_of : ∀ (l : List D), PyData.depthAll (D.toPs l) = D.deps l
  | [] => rfl
  | d :: ds => by
    show max d.toP.depth (PyData.depthAll (D.toPs ds)) = _
    rw [dep_of d, deps_of ds]; rfl
end
theorem good_wf {d : D} (h : d.good = true) : d.wf = true := (Bool.and_eq_true_iff.mp h).1
theorem good_shaped {d : D} (h : d.good = true) : SeqAt.shaped d.toP = true := by
  have h' := Bool.and_eq_true_iff.mp h
  unfold SeqAt.shaped
  rw [canLay_of d h'.1, dep_of, decide_eq_true (Nat.le_trans (of_decide_eq_true h'.2) (by decide))]; rfl
section
variable {X : Cx}
theorem l_eq : L2r X.K (rEqD X.K) opEq := by
  intro g S H x y dx dy d Q w rx ry e k
  unfold opEq at e
  cases q : (dx.good && dy.good) with
  | false => rw [q] at e; cases e
  | true =>
    rw [q] at e; cases e
    have h' := Bool.and_eq_true_iff.mp q
    exact ⟨_, _, rx.dp w.sub (good_wf h'.1), ry.dp w.sub (good_wf h'.2), good_shaped h'.1, good_shaped h'.2, k _ g H (GExt.refl _) w (.bl _)⟩
theorem l_ne : L2r X.K (rNeD X.K) opNe := by
  intro g S H x y dx dy d Q w rx ry e k
  unfold opNe at e
  cases q : (dx.good && dy.good) with
  | false => rw [q] at e; cases e
  | true =>
    rw [q] at e; cases e
    have h' := Bool.and_eq_true_iff.mp q
    exact ⟨_, _, rx.dp w.sub (good_wf h'.1), ry.dp w.sub (good_wf h'.2), good_shaped h'.1, good_shaped h'.2, k _ g H (GExt.refl _) w (.bl _)⟩
end
end Bt
namespace Bt
open PySem PySem.Spec PyProof.Rows L2
theorem atI_rep {K : PySem.W.Frag} {g : G} {l : List D} {xs : List V} {i : Int} {d : D} (r : RepsG K g l xs) (h : atI l i = some d) : ∃ v, atI xs i = some v ∧ RepG K g d v := by
  unfold atI at h ⊢
  rw [← r.length]
  cases e : ixN l.length i with
  | none => rw [e] at h; cases h
  | some j =>
    rw [e] at h
    exact r.get h
section
variable {X : Cx}
theorem l_ix : L2r X.K (rIx X.K) opIx := by
  intro g S H x y dx dy d Q w rx ry e k
  cases dy with
  | int i =>
    cases ry
    have seq : ∀ {d : D}, (match seqOf S dx with | some l => atI l i | none => none) = some d → (∀ v g' H', GExt g g' → World X.K g' S H' → RepG X.K g' d v → Q v H') → rIx X.K x (.int i) H Q := fun {d} e k => by
      cases q : seqOf S dx with
      | none => rw [q] at e; cases e
      | some l =>
        rw [q] at e
        obtain ⟨a, xs, rfl, h1, h2⟩ := seqOf_rep w rx q
        obtain ⟨v, h3, h4⟩ := atI_rep h2 e
        exact .inl ⟨_, _, _, _, rfl, rfl, h1, h3, k v g H (GExt.refl _) w h4⟩
    cases dx with
    | tup l =>
      cases rx with
      | @tup a xs _ s r =>
        obtain ⟨v, h3, h4⟩ := atI_rep r (show atI l i = some d from e)
        exact .inr (.inl ⟨_, _, _, _, rfl, rfl, sqtMono w.sub s, h3, k v g H (GExt.refl _) w h4⟩)
    | str s =>
      cases rx
      have e' : (if s.length ≤ lim then (atI s.cps.toList i).map fun c => D.str ⟨#[c]⟩ else none) = some d := e
      by_cases q : s.length ≤ lim
      · rw [if_pos q] at e'
        cases q2 : atI s.cps.toList i with
        | none => rw [q2] at e'; cases e'
        | some c =>
          rw [q2] at e'; cases e'
          exact .inr (.inr ⟨_, _, c, rfl, rfl, lim_le q, q2, k _ g H (GExt.refl _) w (.str _)⟩)
      · rw [if_neg q] at e'; cases e'
    | lst l => exact seq e k
    | scr l => exact seq e k
    | obj l => exact seq e k
    | _ => cases e
  | _ => cases e
end
/-- a part of a slice -/
def tO (K : PySem.W.Frag) (W : WX) (f : Ex) : TO := fun σ H Q => ∃ g S ρ, World K g S H ∧ RelSt K g σ ρ ∧ match f ρ S with
  | .ok .non S' => ∀ g' H', GExt g g' → World K g' S' H' → Q none H'
  | .ok (.int i) S' => ∀ g' H', GExt g g' → World K g' S' H' → Q (some i) H'
  | .exc k S' => ∀ g' H', GExt g g' → World K g' S' H' → W (excV K k) none σ H'
  | _ => False
structure JOp (X : Cx) (W : WX) (e : Option Expr) (f : Ex) : Prop where
  t : ∃ t, PO X e t ∧ ∀ σ H Q, tO X.K W f σ H Q → t σ H Q
theorem jo_none {X : Cx} {W : WX} : JOp X W none eNo := ⟨_, po_none, fun σ H Q ⟨g, S, ρ, w, rs, q⟩ => q g H (GExt.refl _) w⟩
theorem jo_some {X : Cx} {W : WX} {e : Expr} {f : Ex} (h : JE X W e f) : JOp X W (some e) (eInt f) := ⟨_, po_some h.run, fun σ H Q ⟨g, S, ρ, w, rs, q⟩ => by
  refine ⟨g, S, ρ, w, rs, ?_⟩
  unfold eInt at q
  cases e : f ρ S with
  | bad => rw [e] at q; exact q
  | exc k S1 => rw [e] at q; exact q
  | ok d S1 =>
    rw [e] at q
    cases d with
    | int i =>
      intro v g1 H1 x1 w1 r1
      cases r1
      exact ⟨i, rfl, q g1 H1 x1 w1⟩
    | _ => exact q.elim⟩
theorem cut_rep {K : PySem.W.Frag} {g : G} {l : List D} {xs : List V} (r : RepsG K g l xs) (lo hi : Option Int) : RepsG K g (cutD l lo hi) (cutV xs lo hi) := by
  unfold cutD cutV
  rw [r.length]
  exact (r.drop _).take _
abbrev rSlAll (K : PySem.W.Frag) : V → Option Int → Option Int → Hp → VK → Prop := fun x lo hi H Q => rSlA K x lo hi H Q ∨ (rSlL K x lo hi H Q ∨ rSlS x lo hi H Q)
section
variable {X : Cx} {W : WX} {e : Expr} {lo hi : Option Expr} {fx flo fhi : Ex} {p2 pos : Pos}
theorem sl_all : SlR X (rSlAll X.K) := sl_tupA.or (sl_list.or sl_str)
theorem je_sl (hx : JE X W e fx) (hl : JOp X W lo flo) (hh : JOp X W hi fhi) : JE X W (.Subscript e (.Slice lo hi none p2) pos) (eSl fx flo fhi) := by
  obtain ⟨tl, pl, il⟩ := hl.t
  obtain ⟨th, ph, ih⟩ := hh.t
  refine ⟨peImp (pe_slice sl_all hx.run pl ph) fun σ H Q ⟨g, S, ρ, w, rs, q⟩ => ?_⟩
  refine ⟨g, S, ρ, w, rs, Post.of_bind q fun dx S1 x g1 H1 _ e1 w1 r1 q1 => ?_⟩
  have fin : ∀ {g3 : G} {S3 : Sto} {H3 : Hp} {l h : Option Int}, GExt g1 g3 → World X.K g3 S3 H3 → Post X.K W σ g3 Q (lift1 (opSl dx l h) S3) → rSlAll X.K x l h H3 Q := fun {g3 S3 H3 l h} e3 w3 q3 => by
    have r3 := e3.rep r1
    cases dx with
    | tup ls =>
      cases r3 with
      | @tup a xs _ s r =>
      refine .inl ⟨_, _, rfl, sqtMono w3.sub s, fun z => ?_, fun z p hp => ?_⟩
      · refine Post.val (d := .tup (cutD ls l h)) (S := S3) q3 w3 ?_
        have : cutV xs l h = xs := by
          unfold cutV
          rw [z.1, z.2]; simp
        have cr := cut_rep r l h
        rw [this] at cr
        exact .tup s cr
      · obtain ⟨w4, e4⟩ := w3.add (o := .tup (cutV xs l h)) hp
        exact Post.valE (d := .tup (cutD ls l h)) (S := S3) q3 e4 w4 (.tup (SqT.of upd_same) (e4.reps (cut_rep r l h)))
    | lst ls =>
      cases r3 with
      | @lst a xs _ s r =>
      refine .inr (.inl ⟨_, _, rfl, SqL.of (w3.sub _ _ s), fun p hp => ?_⟩)
      obtain ⟨w4, e4⟩ := w3.add (o := .lst (cutV xs l h)) hp
      exact Post.valE (d := .lst (cutD ls l h)) (S := S3) q3 e4 w4 (.lst upd_same (e4.reps (cut_rep r l h)))
    | scr ls =>
      cases r3 with
      | @scr a xs _ s r =>
      refine .inr (.inl ⟨_, _, rfl, sqlMono w3.sub s, fun p hp => ?_⟩)
      obtain ⟨w4, e4⟩ := w3.add (o := .lst (cutV xs l h)) hp
      exact Post.valE (d := .lst (cutD ls l h)) (S := S3) q3 e4 w4 (.lst upd_same (e4.reps (cut_rep r l h)))
    | str s =>
      cases r3
      by_cases q : s.length ≤ lim
      · have q4 : Post X.K W σ g3 Q (lift1 (if s.length ≤ lim then some (.str (cutS s l h)) else none) S3) := q3
        rw [if_pos q] at q4
        exact .inr (.inr ⟨_, rfl, lim_le q, Post.val (d := .str (cutS s l h)) (S := S3) q4 w3 (.str _)⟩)
      · have q4 : Post X.K W σ g3 Q (lift1 (if s.length ≤ lim then some (.str (cutS s l h)) else none) S3) := q3
        rw [if_neg q] at q4; exact q4.elim
    | _ => exact q3.elim
  have second : ∀ {g2 : G} {S2 : Sto} {H2 : Hp} {l : Option Int}, GExt g1 g2 → World X.K g2 S2 H2 → Post X.K W σ g2 Q ((fhi ρ S2).bind fun dh S3 => partD dh fun h => lift1 (opSl dx l h) S3) → th σ H2 fun u H3 => rSlAll X.K x l u H3 Q := fun {g2 S2 H2 l} e2 w2 q2 => by
    refine ih _ _ _ ⟨g2, S2, ρ, w2, rs.mono (e1.trans e2), ?_⟩
    cases eh : fhi ρ S2 with
    | bad => rw [eh] at q2; exact q2
    | exc k S3 => rw [eh] at q2; exact q2
    | ok d S3 =>
      rw [eh] at q2
      cases d with
      | non => exact fun g3 H3 x3 w3 => fin (e2.trans x3) w3 (Post.ext q2 x3)
      | int i => exact fun g3 H3 x3 w3 => fin (e2.trans x3) w3 (Post.ext q2 x3)
      | _ => exact q2.elim
  refine il _ _ _ ⟨g1, S1, ρ, w1, rs.mono e1, ?_⟩
  cases el : flo ρ S1 with
  | bad => rw [el] at q1; exact q1
  | exc k S3 => rw [el] at q1; exact q1
  | ok d S2 =>
    rw [el] at q1
    cases d with
    | non => exact fun g2 H2 x2 w2 => second x2 w2 (Post.ext q1 x2)
    | int i => exact fun g2 H2 x2 w2 => second x2 w2 (Post.ext q1 x2)
    | _ => exact q1.elim
end
section
variable {X : Cx}
theorem room_in_shaped' {A : Around} {d : PyData} {ds : List PyData} (h : SeqAt.shaped d = true) (hu : A.units + 65 < cLine) : A.units + 1 + min (PyData.depthAll ds) d.depth < cLine := by
  have := SeqAt.depth_of_shaped h
  have h2 : min (PyData.depthAll ds) d.depth ≤ d.depth := Nat.min_le_right _ _
  omega
def rInT (K : PySem.W.Frag) : R2 := fun x y H Q => ∃ d ds, Dp K H x d ∧ Dp K H y (.tuple ds) ∧ SeqAt.shaped d = true ∧ SeqAt.shaped (.tuple ds) = true ∧ Q (.bl (ds.any fun z => PyData.eqv z d)) H
def rNotInT (K : PySem.W.Frag) : R2 := fun x y H Q => ∃ d ds, Dp K H x d ∧ Dp K H y (.tuple ds) ∧ SeqAt.shaped d = true ∧ SeqAt.shaped (.tuple ds) = true ∧ Q (.bl (!ds.any fun z => PyData.eqv z d)) H
theorem op_inT (hu : X.A.units + 65 < cLine) : OpR X (compareOp .In) (rInT X.K) := by
  intro pins s σ H x y v u Q I rx ry h
  obtain ⟨d, ds, hd, he, sd, se, q⟩ := h
  obtain ⟨as, r1⟩ := Dp.reads I d x v hd rx
  obtain ⟨bs, r2⟩ := Dp.reads I (.tuple ds) y u he ry
  exact SeqAt.in_tuple_reads r2 r1 (SeqAt.canLay_of_shaped se) (SeqAt.canLay_of_shaped sd) (room_in_shaped' sd hu) ⟨.bl _, H, I, rfl, q⟩
theorem op_notInT (hu : X.A.units + 65 < cLine) : OpR X (compareOp .NotIn) (rNotInT X.K) := by
  intro pins s σ H x y v u Q I rx ry h
  obtain ⟨d, ds, hd, he, sd, se, q⟩ := h
  obtain ⟨as, r1⟩ := Dp.reads I d x v hd rx
  obtain ⟨bs, r2⟩ := Dp.reads I (.tuple ds) y u he ry
  exact SeqAt.notIn_tuple_reads r2 r1 (SeqAt.canLay_of_shaped se) (SeqAt.canLay_of_shaped sd) (room_in_shaped' sd hu) ⟨.bl _, H, I, rfl, q⟩
end
def memD (x : D) (l : List D) : Bool := l.any fun z => z.eqv x
def opInB (neg : Bool) : Sto → D → D → Option D := fun S x y => match y with
  | .tup l => if x.good && (D.tup l).good then some (.bl (if neg then !memD x l else memD x l)) else none
  | .str z => (match x with
    | .str c => (match c.cps.toList with
      | [n] => some (.bl (if neg then !decide (n ∈ z.cps.toList) else decide (n ∈ z.cps.toList)))
      | _ => none)
    | _ => none)
  | _ => (match seqOf S y with
    | some l => if x.good && (D.lst l).good then some (.bl (if neg then !memD x l else memD x l)) else none
    | none => none)
abbrev opIn := opInB false
abbrev opNotIn := opInB true
theorem memD_any (x : D) : ∀ l : List D, (D.toPs l).any (fun z => PyData.eqv z x.toP) = memD x l
  | [] => rfl
  | d :: ds => by
    show (PyData.eqv d.toP x.toP || (D.toPs ds).any _) = _
    rw [memD_any x ds]; rfl
abbrev rSign (neg : Bool) : R2 := fun x y H Q => ∃ (c : Nat) (z : Str), x = .str ⟨#[c]⟩ ∧ y = .str z ∧ Q (.bl (if neg then !decide (c ∈ z.cps.toList) else decide (c ∈ z.cps.toList))) H
abbrev rInAll (K : PySem.W.Frag) : R2 := rOr (rInT K) (rOr (rInD K) (rSign false))
abbrev rNotInAll (K : PySem.W.Frag) : R2 := rOr (rNotInT K) (rOr (rNotInD K) (rSign true))
section
variable {X : Cx}
theorem or_in (hu : X.A.units + 65 < cLine) : OpR X (compareOp .In) (rInAll X.K) := (op_inT hu).or ((op_inD hu).or op_in_sign)
theorem or_notIn (hu : X.A.units + 65 < cLine) : OpR X (compareOp .NotIn) (rNotInAll X.K) := (op_notInT hu).or ((op_notInD hu).or op_notIn_sign)
theorem str_one {c : Str} {n : Nat} (h : c.cps.toList = [n]) : c = ⟨#[n]⟩ := by
  obtain ⟨a⟩ := c
  have : a = #[n] := by
    apply Array.toList_inj.mp
    exact h
  rw [this]
theorem l_in : L2r X.K (rInAll X.K) opIn := by
  intro g S H x y dx dy d Q w rx ry e k
  have seq : (match seqOf S dy with | some l => if dx.good && (D.lst l).good then some (D.bl (memD dx l)) else none | none => none) = some d → rInAll X.K x y H Q := fun e => by
    cases q : seqOf S dy with
    | none => rw [q] at e; cases e
    | some l =>
      rw [q] at e
      have e' : (if dx.good && (D.lst l).good then some (D.bl (memD dx l)) else none) = some d := e
      cases q2 : (dx.good && (D.lst l).good) with
      | false => rw [q2] at e'; cases e'
      | true =>
        rw [q2] at e'; cases e'
        have h' := Bool.and_eq_true_iff.mp q2
        obtain ⟨a, xs, rfl, h1, h2⟩ := seqOf_rep w ry q
        refine .inr (.inl ⟨dx.toP, D.toPs l, rx.dp w.sub (good_wf h'.1), .lst h1 (h2.dp w.sub (good_wf h'.2)), good_shaped h'.1, good_shaped (d := .lst l) h'.2, ?_⟩)
        rw [memD_any]
        exact k _ g H (GExt.refl _) w (.bl _)
  cases dy with
  | tup l =>
    have e' : (if dx.good && (D.tup l).good then some (D.bl (memD dx l)) else none) = some d := e
    cases q2 : (dx.good && (D.tup l).good) with
    | false => rw [q2] at e'; cases e'
    | true =>
      rw [q2] at e'; cases e'
      have h' := Bool.and_eq_true_iff.mp q2
      refine .inl ⟨dx.toP, D.toPs l, rx.dp w.sub (good_wf h'.1), ry.dp w.sub (good_wf h'.2), good_shaped h'.1, good_shaped (d := .tup l) h'.2, ?_⟩
      rw [memD_any]
      exact k _ g H (GExt.refl _) w (.bl _)
  | str z =>
    cases ry
    cases dx with
    | str c =>
      cases rx
      have e' : (match c.cps.toList with | [n] => some (D.bl (decide (n ∈ z.cps.toList))) | _ => none) = some d := e
      cases q : c.cps.toList with
      | nil => rw [q] at e'; cases e'
      | cons n r =>
        cases r with
        | nil =>
          rw [q] at e'; cases e'
          rw [str_one q]
          exact .inr (.inr ⟨n, z, rfl, rfl, k _ g H (GExt.refl _) w (.bl _)⟩)
        | cons m r => rw [q] at e'; cases e'
    | _ => cases e
  | lst l => exact seq e
  | scr l => exact seq e
  | obj n => exact seq e
  | non => exact seq e
  | bl b => exact seq e
  | int i => exact seq e
theorem l_notIn : L2r X.K (rNotInAll X.K) opNotIn := by
  intro g S H x y dx dy d Q w rx ry e k
  have seq : (match seqOf S dy with | some l => if dx.good && (D.lst l).good then some (D.bl (!memD dx l)) else none | none => none) = some d → rNotInAll X.K x y H Q := fun e => by
    cases q : seqOf S dy with
    | none => rw [q] at e; cases e
    | some l =>
      rw [q] at e
      have e' : (if dx.good && (D.lst l).good then some (D.bl (!memD dx l)) else none) = some d := e
      cases q2 : (dx.good && (D.lst l).good) with
      | false => rw [q2] at e'; cases e'
      | true =>
        rw [q2] at e'; cases e'
        have h' := Bool.and_eq_true_iff.mp q2
        obtain ⟨a, xs, rfl, h1, h2⟩ := seqOf_rep w ry q
        refine .inr (.inl ⟨dx.toP, D.toPs l, rx.dp w.sub (good_wf h'.1), .lst h1 (h2.dp w.sub (good_wf h'.2)), good_shaped h'.1, good_shaped (d := .lst l) h'.2, ?_⟩)
        rw [memD_any]
        exact k _ g H (GExt.refl _) w (.bl _)
  cases dy with
  | tup l =>
    have e' : (if dx.good && (D.tup l).good then some (D.bl (!memD dx l)) else none) = some d := e
    cases q2 : (dx.good && (D.tup l).good) with
    | false => rw [q2] at e'; cases e'
    | true =>
      rw [q2] at e'; cases e'
      have h' := Bool.and_eq_true_iff.mp q2
      refine .inl ⟨dx.toP, D.toPs l, rx.dp w.sub (good_wf h'.1), ry.dp w.sub (good_wf h'.2), good_shaped h'.1, good_shaped (d := .tup l) h'.2, ?_⟩
      rw [memD_any]
      exact k _ g H (GExt.refl _) w (.bl _)
  | str z =>
    cases ry
    cases dx with
    | str c =>
      cases rx
      have e' : (match c.cps.toList with | [n] => some (D.bl (!decide (n ∈ z.cps.toList))) | _ => none) = some d := e
      cases q : c.cps.toList with
      | nil => rw [q] at e'; cases e'
      | cons n r =>
        cases r with
        | nil =>
          rw [q] at e'; cases e'
          rw [str_one q]
          exact .inr (.inr ⟨n, z, rfl, rfl, k _ g H (GExt.refl _) w (.bl _)⟩)
        | cons m r => rw [q] at e'; cases e'
    | _ => cases e
  | lst l => exact seq e
  | scr l => exact seq e
  | obj n => exact seq e
  | non => exact seq e
  | bl b => exact seq e
  | int i => exact seq e
end
section
variable {X : Cx} {W : WX} {a : Expr} {fa : Ex} {pos pos' : Pos} {j : Nat}
theorem rep_non {K : PySem.W.Frag} {g : G} {d : D} {v : V} (r : RepG K g d v) : decide (v = .non) = (match d with | .non => true | _ => false) := by
  cases r <;> simp
theorem jt_isN' {neg : Bool} {op : CmpOp} {t : TE} (h : PC X op a (.Constant .none j pos') t) (hm : behindInMarks op (.Constant .none j pos') = false) (k : ∀ σ H Q, tE X.K W (eIsN neg fa) σ H Q → t σ H Q) : JT X W (.Compare a [op] [.Constant .none j pos'] pos) (eIsN neg fa) :=
  ⟨ptImp (pt_cmp h hm) fun σ H Q ⟨g, S, ρ, w, rs, q⟩ => k σ H _ ⟨g, S, ρ, w, rs, by
    cases e : eIsN neg fa ρ S with
    | bad => rw [e] at q; exact q
    | exc k S' => rw [e] at q; exact q
    | ok d S' =>
      rw [e] at q
      cases d with
      | bl b =>
        intro v g' H' x w r
        cases r
        exact ⟨b, rfl, q g' H' x w⟩
      | _ => exact q.elim⟩⟩
theorem jt_isN (ha : JE X W a fa) : JT X W (.Compare a [.Is] [.Constant .none j pos'] pos) (eIsN false fa) :=
  jt_isN' (pc_isN ha.run) rfl fun σ H Q ⟨g, S, ρ, w, rs, q⟩ => ⟨g, S, ρ, w, rs, Post.of_bind q fun d S1 v g1 H1 _ e1 w1 r1 q1 => by
    rw [rep_non r1]
    cases d <;> exact Post.val (S := S1) q1 w1 (.bl _)⟩
theorem jt_notN (ha : JE X W a fa) : JT X W (.Compare a [.IsNot] [.Constant .none j pos'] pos) (eIsN true fa) :=
  jt_isN' (pc_notN ha.run) rfl fun σ H Q ⟨g, S, ρ, w, rs, q⟩ => ⟨g, S, ρ, w, rs, Post.of_bind q fun d S1 v g1 H1 _ e1 w1 r1 q1 => by
    rw [rep_non r1]
    cases d <;> exact Post.val (S := S1) q1 w1 (.bl _)⟩
end
end Bt
namespace Bt
open PySem PySem.Spec PyProof.Rows L2
section
variable {X : Cx} {W : WX} {x : Str} {id T : String} {e : Expr} {es : List Expr} {fa : Ex} {p pos : Pos} {r : List V → Hp → VK → Prop} {F : Sto → List D → Option D}
theorem tCB_of {K : PySem.W.Frag} (l : LAr K r F) : ∀ σ H Q, tE K W (eCallB F fa) σ H Q → tCB r (tA K W fa) σ H Q := fun σ H Q ⟨g, S, ρ, w, rs, q⟩ =>
  ⟨g, S, ρ, w, rs, Post.of_args (k := fun l S1 => lift1 (F S1 l) S1) q fun ds S1 vs g1 H1 _ e1 w1 r1 q1 => by
    obtain ⟨d, hd, q2⟩ := q1.lift
    exact l g1 S1 H1 vs ds d Q w1 r1 hd fun v g' H' e w r => q2 v g' H' e w r⟩
theorem je_callB (hc : CallR X (.builtin id) r) (l : LAr X.K r F) (hm : X.mg x = none) (ha : JA X W (e :: es) fa) (hv : bootBuiltins x = some (.builtin id) := by decide +kernel) (hg : Gl X x := by rfl) (hn : x ≠ "__name__" := by decide) (hdb : (x == ("__debug__" : Str)) = false := by decide)
    (he : starEach (e :: es) X.env = (false, eval e X.env) :: starEach es X.env := by rfl) (hpl : (backTo pos (starEach es X.env)).any (·.1) = false := by rfl) : JE X W (.Call (.Name x p) (e :: es) [] pos) (eCallB F fa) :=
  ⟨peImp (pe_callB hc hg hm hv ha.run hn hdb he hpl) (tCB_of l)⟩
theorem je_callTy (hc : CallR X (.type T) r) (l : LAr X.K r F) (hm : X.mg x = none) (ha : JA X W (e :: es) fa) (hv : bootBuiltins x = some (.type T) := by decide +kernel) (hg : Gl X x := by rfl) (hn : x ≠ "__name__" := by decide) (hdb : (x == ("__debug__" : Str)) = false := by decide)
    (he : starEach (e :: es) X.env = (false, eval e X.env) :: starEach es X.env := by rfl) (hpl : (backTo pos (starEach es X.env)).any (·.1) = false := by rfl) : JE X W (.Call (.Name x p) (e :: es) [] pos) (eCallB F fa) :=
  ⟨peImp (pe_callTy hc hg hm hv ha.run hn hdb he hpl) (tCB_of l)⟩
end
theorem reps1 {K : PySem.W.Frag} {F : Hp} {α : List Addr} {d : D} {vs : List V} (r : Reps K F α [d] vs) : ∃ v, vs = [v] ∧ Rep K F α d v := by
  cases r with
  | cons a t => cases t; exact ⟨_, rfl, a⟩
theorem reps2 {K : PySem.W.Frag} {F : Hp} {α : List Addr} {d e : D} {vs : List V} (r : Reps K F α [d, e] vs) : ∃ v u, vs = [v, u] ∧ Rep K F α d v ∧ Rep K F α e u := by
  cases r with
  | cons a t =>
    obtain ⟨u, rfl, h⟩ := reps1 t
    exact ⟨_, _, rfl, a, h⟩
def L1a (K : PySem.W.Frag) (r : List V → Hp → VK → Prop) (F : Sto → D → Option D) : Prop :=
  ∀ (g : G) (S : Sto) (H : Hp) (x : V) (dx d : D) (Q : VK), World K g S H → RepG K g dx x → F S dx = some d →
    (∀ v g' H', GExt g g' → World K g' S H' → RepG K g' d v → Q v H') → r [x] H Q
theorem l_f1 {K : PySem.W.Frag} {r : List V → Hp → VK → Prop} {F : Sto → D → Option D} (l : L1a K r F) : LAr K r (f1 F) := by
  intro g S H xs dx d Q w rx e k
  match dx, rx, e with
  | [], _, e => cases e
  | [dx], rx, e =>
    obtain ⟨v, rfl, r1⟩ := reps1 rx
    exact l g S H v dx d Q w r1 e k
  | _ :: _ :: _, _, e => cases e
def bInt : Sto → D → Option D := fun _ x => match x with
  | .int i => some (.int i)
  | .bl b => some (.int (if b then 1 else 0))
  | _ => none
def bStr : Sto → D → Option D := fun _ x => match x with
  | .int i => if i.natAbs < 10 ^ 15 then some (.str (toString i)) else none
  | _ => none
def bMax2 : Sto → List D → Option D := fun _ l => match l with
  | [.int i, .int j] => some (.int (max i j))
  | _ => none
def bMin2 : Sto → List D → Option D := fun _ l => match l with
  | [.int i, .int j] => some (.int (min i j))
  | _ => none
def intsOf : List D → Option (List Int)
  | [] => some []
  | .int i :: r => (match intsOf r with
    | some l => some (i :: l)
    | none => none)
  | _ => none
theorem intsOf_map : ∀ ns : List Int, intsOf (ns.map D.int) = some ns
  | [] => rfl
  | n :: r => by simp [intsOf, intsOf_map r]
theorem intsOf_inv : ∀ {l : List D} {ns : List Int}, intsOf l = some ns → l = ns.map D.int
  | [], _, h => by cases h; rfl
  | d :: r, ns, h => by
    cases d with
    | int i =>
      have h' : (match intsOf r with | some l => some (i :: l) | none => none) = some ns := h
      cases q : intsOf r with
      | none => rw [q] at h'; cases h'
      | some l => rw [q] at h'; cases h'; rw [intsOf_inv q]; rfl
    | _ => cases h
def maxL : List Int → Int
  | [] => 0
  | [a] => a
  | a :: r => max a (maxL r)
theorem maxL_mem : ∀ {l : List Int}, l ≠ [] → maxL l ∈ l
  | [], h => absurd rfl h
  | [a], _ => List.mem_singleton.mpr rfl
  | a :: b :: r, _ => by
    have ih := maxL_mem (l := b :: r) (by simp)
    show max a (maxL (b :: r)) ∈ _
    rcases Int.le_total a (maxL (b :: r)) with h | h
    · rw [Int.max_eq_right h]; exact List.mem_cons_of_mem _ ih
    · rw [Int.max_eq_left h]; exact List.mem_cons_self
theorem maxL_ge : ∀ {l : List Int} {x : Int}, x ∈ l → x ≤ maxL l
  | [a], x, h => by rw [List.mem_singleton.mp h]; exact Int.le_refl _
  | a :: b :: r, x, h => by
    show x ≤ max a (maxL (b :: r))
    rcases List.mem_cons.mp h with rfl | h
    · exact Int.le_max_left _ _
    · exact Int.le_trans (maxL_ge (l := b :: r) h) (Int.le_max_right _ _)
def onInts (f : List Int → Option D) : Sto → D → Option D := fun S x => match seqOf S x with
  | some l => (match intsOf l with
    | some ns => f ns
    | none => none)
  | none => none
def bMaxL : Sto → D → Option D := onInts fun ns => if 0 < ns.length then some (.int (maxL ns)) else none
section
variable {K : PySem.W.Frag}
abbrev rLen (K : PySem.W.Frag) : List V → Hp → VK → Prop := fun xs H Q => ∃ x n, xs = [x] ∧ LenV K x H n ∧ Q (.int n) H
theorem l_len : LAr K (rLen K) (f1 bLen) := l_f1 <| by
  intro g S H x dx d Q w rx e k
  have seq : (match seqOf S dx with | some l => some (D.int l.length) | none => none) = some d → rLen K [x] H Q := fun e => by
    cases q : seqOf S dx with
    | none => rw [q] at e; cases e
    | some l =>
      rw [q] at e; cases e
      obtain ⟨a, xs, rfl, h1, h2⟩ := seqOf_rep w rx q
      refine ⟨_, l.length, rfl, .inl ⟨xs, h1, h2.length⟩, k _ g H (GExt.refl _) w (.int _)⟩
  cases dx with
  | tup l =>
    cases e
    cases rx with
    | @tup a xs _ s r => exact ⟨_, l.length, rfl, .inr ⟨xs, sqtMono w.sub s, r.length⟩, k _ g H (GExt.refl _) w (.int _)⟩
  | str s =>
    cases rx
    have e' : (if s.length ≤ lim then some (D.int s.length) else none) = some d := e
    by_cases q : s.length ≤ lim
    · rw [if_pos q] at e'; cases e'
      exact ⟨_, s.length, rfl, ⟨lim_le q, rfl⟩, k _ g H (GExt.refl _) w (.int _)⟩
    · rw [if_neg q] at e'; cases e'
  | lst l => exact seq e
  | scr l => exact seq e
  | obj n => exact seq e
  | non => exact seq e
  | bl b => exact seq e
  | int i => exact seq e
theorem l_int : LAr K (fun xs H Q => (∃ i, xs = [V.int i] ∧ Q (.int i) H) ∨ ∃ k, xs = [V.bl k] ∧ Q (.int (if k then 1 else 0)) H) (f1 bInt) := l_f1 <| by
  intro g S H x dx d Q w rx e k
  cases dx with
  | int i => cases e; cases rx; exact .inl ⟨_, rfl, k _ g H (GExt.refl _) w (.int _)⟩
  | bl b => cases e; cases rx; exact .inr ⟨_, rfl, k _ g H (GExt.refl _) w (.int _)⟩
  | _ => cases e
theorem l_str : LAr K (fun xs H Q => ∃ i : Int, xs = [V.int i] ∧ i.natAbs.log2 < 1920 ∧ Q (.str (toString i)) H) (f1 bStr) := l_f1 <| by
  intro g S H x dx d Q w rx e k
  cases dx with
  | int i =>
    cases rx
    have e' : (if i.natAbs < 10 ^ 15 then some (D.str (toString i)) else none) = some d := e
    by_cases q : i.natAbs < 10 ^ 15
    · rw [if_pos q] at e'; cases e'
      refine ⟨_, rfl, ?_, k _ g H (GExt.refl _) w (.str _)⟩
      by_cases h0 : i.natAbs = 0
      · rw [h0]; decide
      · have := (Nat.log2_lt h0).mpr (Nat.lt_trans q (by decide : 10 ^ 15 < 2 ^ 60))
        omega
    · rw [if_neg q] at e'; cases e'
  | _ => cases e
theorem l_max2 : LAr K (fun xs H Q => ∃ i j, xs = [V.int i, V.int j] ∧ Q (.int (if j > i then j else i)) H) bMax2 := by
  intro g S H xs dx d Q w rx e k
  match dx, rx, e with
  | [.int i, .int j], rx, e =>
    obtain ⟨v, u, rfl, r1, r2⟩ := reps2 rx
    cases r1; cases r2; cases e
    refine ⟨_, _, rfl, ?_⟩
    have : (if j > i then j else i) = max i j := by
      by_cases h : j > i
      · rw [if_pos h]; omega
      · rw [if_neg h]; omega
    rw [this]
    exact k _ g H (GExt.refl _) w (.int _)
theorem l_min2 : LAr K (fun xs H Q => ∃ i j, xs = [V.int i, V.int j] ∧ Q (.int (if j < i then j else i)) H) bMin2 := by
  intro g S H xs dx d Q w rx e k
  match dx, rx, e with
  | [.int i, .int j], rx, e =>
    obtain ⟨v, u, rfl, r1, r2⟩ := reps2 rx
    cases r1; cases r2; cases e
    refine ⟨_, _, rfl, ?_⟩
    have : (if j < i then j else i) = min i j := by
      by_cases h : j < i
      · rw [if_pos h]; omega
      · rw [if_neg h]; omega
    rw [this]
    exact k _ g H (GExt.refl _) w (.int _)
theorem l_listOf : LAr K (fun xs H Q => ∃ p ys, xs = [.ref p] ∧ (SqL K H p ys ∨ SqT K H p ys) ∧ ∀ l, H l = none → Q (.ref l) (upd H l (.lst ys))) (f1 bList) := l_f1 <| by
  intro g S H x dx d Q w rx e k
  have fin : ∀ {ls : List D} {xs : List V}, d = .lst ls → RepsG K g ls xs → ∀ p, H p = none → Q (.ref p) (upd H p (.lst xs)) := fun {ls xs} ed r p hp => by
    subst ed
    obtain ⟨w2, e2⟩ := w.add (o := .lst xs) hp
    exact k _ _ _ e2 w2 (.lst upd_same (e2.reps r))
  have seq : (match seqOf S dx with | some l => some (D.lst l) | none => none) = some d → (∃ p ys, [x] = [V.ref p] ∧ (SqL K H p ys ∨ SqT K H p ys) ∧ ∀ l, H l = none → Q (.ref l) (upd H l (.lst ys))) := fun e => by
    cases q : seqOf S dx with
    | none => rw [q] at e; cases e
    | some l =>
      rw [q] at e; cases e
      obtain ⟨a, xs, rfl, h1, h2⟩ := seqOf_rep w rx q
      exact ⟨_, _, rfl, .inl h1, fin rfl h2⟩
  cases dx with
  | tup l =>
    cases e
    cases rx with
    | @tup a xs _ s r => exact ⟨_, _, rfl, .inr (sqtMono w.sub s), fin rfl r⟩
  | lst l => exact seq e
  | scr l => exact seq e
  | obj n => exact seq e
  | non => exact seq e
  | bl b => exact seq e
  | int i => exact seq e
  | str s => exact seq e
theorem l_tupOf : LAr K (fun xs H Q => ∃ p ys, xs = [.ref p] ∧ ((SqL K H p ys ∧ ∀ l, H l = none → Q (.ref l) (upd H l (.tup ys))) ∨ (SqT K H p ys ∧ Q (.ref p) H))) (f1 bTuple) := l_f1 <| by
  intro g S H x dx d Q w rx e k
  have seq : (match seqOf S dx with | some l => some (D.tup l) | none => none) = some d → (∃ p ys, [x] = [V.ref p] ∧ ((SqL K H p ys ∧ ∀ l, H l = none → Q (.ref l) (upd H l (.tup ys))) ∨ (SqT K H p ys ∧ Q (.ref p) H))) := fun e => by
    cases q : seqOf S dx with
    | none => rw [q] at e; cases e
    | some l =>
      rw [q] at e; cases e
      obtain ⟨a, xs, rfl, h1, h2⟩ := seqOf_rep w rx q
      refine ⟨_, _, rfl, .inl ⟨h1, fun p hp => ?_⟩⟩
      obtain ⟨w2, e2⟩ := w.add (o := .tup xs) hp
      exact k _ _ _ e2 w2 (.tup (SqT.of upd_same) (e2.reps h2))
  cases dx with
  | tup l =>
    cases e
    cases rx with
    | @tup a xs _ s r => exact ⟨_, _, rfl, .inr ⟨sqtMono w.sub s, k _ g H (GExt.refl _) w (.tup s r)⟩⟩
  | lst l => exact seq e
  | scr l => exact seq e
  | obj n => exact seq e
  | non => exact seq e
  | bl b => exact seq e
  | int i => exact seq e
  | str s => exact seq e
theorem onInts_of {f : List Int → Option D} {g : G} {S : Sto} {H : Hp} {x : V} {dx d : D} (w : World K g S H) (rx : RepG K g dx x) (e : onInts f S dx = some d) : ∃ a ns, x = .ref a ∧ SqL K H a (ns.map V.int) ∧ f ns = some d := by
  unfold onInts at e
  cases q : seqOf S dx with
  | none => rw [q] at e; cases e
  | some l =>
    rw [q] at e
    cases q2 : intsOf l with
    | none => simp only [q2] at e; cases e
    | some ns =>
      simp only [q2] at e
      obtain ⟨a, xs, rfl, h1, h2⟩ := seqOf_rep w rx q
      have h3 := intsOf_inv q2
      subst h3
      rw [Reps.ints_inv h2] at h1
      exact ⟨a, ns, rfl, h1, e⟩
theorem l_maxL : LAr K (rMax K) (f1 bMaxL) := l_f1 <| by
  intro g S H x dx d Q w rx e k
  obtain ⟨a, ns, rfl, h1, h2⟩ := onInts_of w rx e
  by_cases q : 0 < ns.length
  · rw [if_pos q] at h2; cases h2
    refine ⟨a, ns, rfl, h1, q, fun m hm hge => ?_⟩
    have hne : ns ≠ [] := by intro z; subst z; exact absurd q (by decide)
    have : m = maxL ns := Int.le_antisymm (maxL_ge hm) (hge _ (maxL_mem hne))
    subst this
    exact k _ g H (GExt.refl _) w (.int _)
  · rw [if_neg q] at h2; cases h2
end
def Ty.n : Ty → String
  | .int => "int" | .bool => "bool" | .str => "str" | .tuple => "tuple" | .list => "list" | .none => "NoneType"
section
variable {X : Cx} {W : WX} {x y : Str} {e : Expr} {fa : Ex} {p p2 pos : Pos}
theorem kit_all (K : PySem.W.Frag) (t c : Ty) : PySem.W.kitOne K (.type t.n) (.type c.n) = some (isTy t c) := by
  cases t <;> cases c <;> rfl
/-- what stands in a tuple of the written part -/
theorem tup_ty {K : PySem.W.Frag} {F H : Hp} {a : Addr} {xs : List V} (sub : ∀ b o, F b = some o → H b = some o) (h : SqT K F a xs) : TyX K H (.ref a) (.type "tuple") := by
  rcases h with (h | ⟨o, h⟩) | ⟨o, its, n, h1, h2, _⟩
  · exact .base (.tup (sub _ _ h))
  · exact .fTuple (sub _ _ h)
  · exact .kTuple h1 h2
theorem je_isT (c : Ty) (ha : JE X W e fa) (hm : X.mg "isinstance" = none) (hm2 : X.mg y = none) (hv2 : bootBuiltins y = some (.type c.n) := by decide +kernel) (hg : Gl X "isinstance" := by rfl) (hg2 : Gl X y := by rfl) (hn2 : y ≠ "__name__" := by decide) (hd2 : (y == ("__debug__" : Str)) = false := by decide)
    (he : starEach (e :: [.Name y p2]) X.env = (false, eval e X.env) :: starEach [.Name y p2] X.env := by rfl) (he2 : starEach [.Name y p2] X.env = (false, eval (.Name y p2) X.env) :: starEach [] X.env := by rfl) (hpl : (backTo pos (starEach [.Name y p2] X.env)).any (·.1) = false := by rfl) :
    JE X W (.Call (.Name "isinstance" p) [e, .Name y p2] [] pos) (eIsT c fa) :=
  ⟨peImp (pe_callB (x := "isinstance") call_isi hg hm (by decide +kernel) (pa_cons ha.run (pa_cons (pe_bltn (v := .ty c.n) hg2 hm2 hv2 rfl hn2 hd2) pa_nil he2) he) (by decide) (by decide) he hpl) fun σ H Q ⟨g, S, ρ, w, rs, q⟩ =>
    ⟨g, S, ρ, w, rs, Post.of_bind q fun d S1 v g1 H1 _ e1 w1 r1 q1 => by
      cases et : tyOf S1 d with
      | none => simp only [et] at q1; exact q1.elim
      | some t =>
        simp only [et] at q1
        refine ⟨v, .ty c.n, .type t.n, .type c.n, isTy t c, rfl, .ty _, ?_, kit_all _ _ _, Post.val q1 w1 (.bl _)⟩
        cases r1 with
        | non => cases et; exact .base .non
        | bl b => cases et; exact .base (.bl _)
        | int i => cases et; exact .base (.int _)
        | str s => cases et; exact .base (.str _)
        | tup s r => cases et; exact tup_ty w1.sub s
        | lst s r => cases et; exact .base (.lst (w1.sub _ _ s))
        | scr s r => cases et
        | obj s => cases et⟩⟩
end
end Bt
namespace Bt
open PySem PySem.Spec PyProof.Rows L2
def isSeqD : Sto → D → Bool := fun S d => (seqOf S d).isSome
def PostV (K : PySem.W.Frag) (g : G) (Q : VK) : ER → Prop
  | .ok d S => ∀ v g' H', GExt g g' → World K g' S H' → RepG K g' d v → Q v H'
  | _ => False
theorem ty_str {K : PySem.W.Frag} {g : G} {S : Sto} {H : Hp} {x : V} {dx : D} (w : World K g S H) (r : RepG K g dx x) (h : isStrD S dx = true) : tyV K "str" x H := by
  cases r with
  | str s => rfl
  | _ => cases h
theorem ty_seq {K : PySem.W.Frag} {g : G} {S : Sto} {H : Hp} {x : V} {dx : D} (w : World K g S H) (r : RepG K g dx x) (h : isSeqD S dx = true) : tyV K "list" x H := by
  obtain ⟨l, e⟩ := Option.isSome_iff_exists.mp h
  obtain ⟨a, xs, rfl, h1, h2⟩ := seqOf_rep w r e
  exact .inl ⟨rfl, xs, h1⟩
/-- the rule r does F; T: the receiver's type -/
structure LMr (K : PySem.W.Frag) (T : String) (r : V → List V → Hp → VK → Prop) (chk : Sto → D → Bool) (F : Sto → D → D → ER) : Prop where
  ty : ∀ (g : G) (S : Sto) (H : Hp) (x : V) (dx : D), World K g S H → RepG K g dx x → chk S dx = true → tyV K T x H
  go : ∀ (g : G) (S : Sto) (H : Hp) (x y : V) (dx dy : D) (Q : VK), World K g S H → RepG K g dx x → RepG K g dy y → PostV K g Q (F S dx dy) → r x [y] H Q
  noexc : ∀ S dx dy k S', F S dx dy ≠ .exc k S'
section
variable {X : Cx} {W : WX} {o e : Expr} {fo fa : Ex} {T id : String} {name : Str} {apos cpos : Pos} {r : V → List V → Hp → VK → Prop} {chk : Sto → D → Bool} {F : Sto → D → D → ER}
theorem je_meth (l : LMr X.K T r chk F) (pa : PlainAttrs T) (slot : Slot T name id) (hty : typeOf (.builtin id) = pure (.type "method_descriptor")) (hm : MtR X id r) (ho : JE X W o fo) (ha : JE X W e fa)
    (hbase : attributeBase o name X.env (eval o X.env) = eval o X.env := by rfl)
    (hfew : ((backTo cpos (starEach (e :: []) X.env)).all (fun x => !x.1) && (backToKw cpos (keywordEach [] X.env)).all (fun x => x.1.isSome)
      && decide ((e :: []).length + ([] : List Keyword).length + (if ([] : List Keyword).isEmpty then 0 else 1) < 30)) = true := by rfl)
    (hline : (apos.endLine == cpos.line) = true := by rfl) (hs : starEach (e :: []) X.env = (false, eval e X.env) :: starEach [] X.env := by rfl) (hplain : (backTo cpos (starEach [] X.env)).any (·.1) = false := by rfl) :
    JE X W (.Call (.Attribute o name apos) [e] [] cpos) (eMeth chk F fo fa) :=
  ⟨peImp (pe_bm pa slot hty hm ho.run (pa_cons ha.run pa_nil hs) hbase hfew hline hs hplain) fun σ H Q ⟨g, S, ρ, w, rs, q⟩ => ⟨g, S, ρ, w, rs, Post.of_bind q fun dx S1 x g1 H1 _ e1 w1 r1 q1 => by
    cases ec : chk S1 dx with
    | false => simp only [ec] at q1; exact q1.elim
    | true =>
      simp only [ec] at q1
      refine ⟨l.ty g1 S1 H1 x dx w1 r1 ec, g1, S1, ρ, w1, rs.mono e1, Post.of_bind q1 fun da S2 y g2 H2 _ x2 w2 r2 q2 => ?_⟩
      refine l.go g2 S2 H2 x y dx da Q w2 (x2.rep r1) r2 ?_
      cases ef : F S2 dx da with
      | ok d S3 => rw [ef] at q2; exact q2
      | exc k S3 => exact absurd ef (l.noexc _ _ _ _ _)
      | bad => rw [ef] at q2; exact q2⟩⟩
end
/-- the first place of a text within another -/
def mSIdx : Sto → D → D → ER := fun S x y => match x, y with
  | .str a, .str b => (match Builtin.Str.occurrences a b 0 a.length 1 with
    | i :: _ => .ok (.int (i : Nat)) S
    | [] => .bad)
  | _, _ => .bad
abbrev rSIdx : V → List V → Hp → VK → Prop := fun x xs H Q => ∃ a b i rest, x = .str a ∧ xs = [.str b] ∧ Builtin.Str.occurrences a b 0 a.length 1 = i :: rest ∧ Q (.int (i : Nat)) H
theorem l_sidx {K : PySem.W.Frag} : LMr K "str" rSIdx isStrD mSIdx where
  ty := fun _ _ _ _ _ w r h => ty_str w r h
  go := by
    intro g S H x y dx dy Q w rx ry q
    cases dx with
    | str a =>
      cases dy with
      | str b =>
        cases rx; cases ry
        cases e : Builtin.Str.occurrences a b 0 a.length 1 with
        | nil => simp only [mSIdx, e] at q; exact q.elim
        | cons i r =>
          simp only [mSIdx, e] at q
          exact ⟨a, b, i, r, rfl, rfl, e, q _ g H (GExt.refl _) w (.int _)⟩
      | _ => exact q.elim
    | _ => exact q.elim
  noexc := by
    intro S dx dy k S' h
    unfold mSIdx at h
    split at h
    · split at h <;> cases h
    · cases h
/-- x.append(e), x a list of the store -/
def mApp : Sto → D → D → ER := fun S x y => match x with
  | .obj n => (match S[n]? with
    | some (.list l) => if l.length < lim then .ok .non (S.set n (.list (l ++ [y]))) else .bad
    | _ => .bad)
  | _ => .bad
theorem l_app {K : PySem.W.Frag} : LMr K "list" rAppend isSeqD mApp where
  ty := fun _ _ _ _ _ w r h => ty_seq w r h
  go := by
    intro g S H x y dx dy Q w rx ry q
    cases dx with
    | obj n =>
      cases e : S[n]? with
      | none => simp only [mApp, e] at q; exact q.elim
      | some u =>
        cases u with
        | list l =>
          simp only [mApp, e] at q
          obtain ⟨a, xs, h1, h2, h3, h4⟩ := w.at_ n _ e
          cases rx with
          | obj h5 =>
            rw [h1] at h5; cases h5
            by_cases z : l.length < lim
            · rw [if_pos z] at q
              refine ⟨a, xs, y, rfl, rfl, h3, ?_, q .non g _ (GExt.refl _) (w.write h2 ⟨a, xs ++ [y], h1, h2, upd_same, h4.snoc ry⟩) .non⟩
              rw [← h4.length]; exact Nat.lt_trans z (by decide)
            · rw [if_neg z] at q; exact q.elim
        | _ => simp only [mApp, e] at q; exact q.elim
    | _ => exact q.elim
  noexc := by
    intro S dx dy k S' h
    unfold mApp at h
    split at h
    · split at h
      · split at h <;> cases h
      · cases h
    · cases h
section
variable {X : Cx} {W : WX} {o e : Expr} {fo fa : Ex} {apos cpos : Pos}
theorem je_sidx (ho : JE X W o fo) (ha : JE X W e fa) (hbase : attributeBase o "index" X.env (eval o X.env) = eval o X.env := by rfl)
    (hfew : ((backTo cpos (starEach (e :: []) X.env)).all (fun x => !x.1) && (backToKw cpos (keywordEach [] X.env)).all (fun x => x.1.isSome)
      && decide ((e :: []).length + ([] : List Keyword).length + (if ([] : List Keyword).isEmpty then 0 else 1) < 30)) = true := by rfl)
    (hline : (apos.endLine == cpos.line) = true := by rfl) (hs : starEach (e :: []) X.env = (false, eval e X.env) :: starEach [] X.env := by rfl) : JE X W (.Call (.Attribute o "index" apos) [e] [] cpos) (eMeth isStrD mSIdx fo fa) :=
  je_meth l_sidx PySem.F.plainAttrs_str PySem.F.slot_str_index PySem.F.type_str_index mt_sindex ho ha hbase hfew hline hs rfl
theorem je_app (ho : JE X W o fo) (ha : JE X W e fa) (hbase : attributeBase o "append" X.env (eval o X.env) = eval o X.env := by rfl)
    (hfew : ((backTo cpos (starEach (e :: []) X.env)).all (fun x => !x.1) && (backToKw cpos (keywordEach [] X.env)).all (fun x => x.1.isSome)
      && decide ((e :: []).length + ([] : List Keyword).length + (if ([] : List Keyword).isEmpty then 0 else 1) < 30)) = true := by rfl)
    (hline : (apos.endLine == cpos.line) = true := by rfl) (hs : starEach (e :: []) X.env = (false, eval e X.env) :: starEach [] X.env := by rfl) : JE X W (.Call (.Attribute o "append" apos) [e] [] cpos) (eMeth isSeqD mApp fo fa) :=
  je_meth l_app PySem.F.plainAttrs_list PySem.F.slot_list_append PySem.F.type_list_append mt_append ho ha hbase hfew hline hs rfl
end
end Bt
namespace Bt
open PySem PySem.Spec PyProof.Rows L2
def keyD : D → Option Key
  | .int i => some (.inl i)
  | .str s => some (.inr s)
  | _ => none
def kD : Key → D
  | .inl i => .int i
  | .inr s => .str s
theorem keyD_kD {d : D} {k : Key} (h : keyD d = some k) : d = kD k := by
  cases d <;> cases h <;> rfl
@[simp] theorem keyD_of (k : Key) : keyD (kD k) = some k := by cases k <;> rfl
def mergeD (kvs more : List (Key × D)) : List (Key × D) := more.foldl (fun acc kv => putD acc kv.1 kv.2) kvs
section
variable {K : PySem.W.Frag} {g : G}
theorem kD_rep {k : Key} {d : D} {v : V} (h : keyD d = some k) (r : RepG K g d v) : v = kV k := by
  rw [keyD_kD h] at r
  cases k <;> cases r <;> rfl
theorem KReps.merge : ∀ {more : List (Key × D)} {ms : List (Key × V)} {kvs : List (Key × D)} {ks : List (Key × V)}, KReps K g more ms → KReps K g kvs ks → KReps K g (mergeD kvs more) (mergeK ks ms) := by
  intro more ms kvs ks r
  unfold KReps at r
  induction r generalizing kvs ks with
  | nil => intro q; exact q
  | @cons p q ps qs h t ih =>
    intro r0
    have e : KReps K g (putD kvs p.1 p.2) (putK ks q.1 q.2) := by
      have := KReps.put r0 p.1 h.2
      rw [← h.1]; exact this
    exact ih e
end
/-- the pairs of a display: k, v, k, v .. -/
def pairsD : List D → Option (List (Key × D))
  | [] => some []
  | k :: v :: r => (match keyD k with
    | some k' => (match pairsD r with
      | some l => some ((k', v) :: l)
      | none => none)
    | none => none)
  | _ => none
def ePair (fk fv fr : Ex) : Ex := fun ρ S => (fk ρ S).bind fun k S1 => (fv ρ S1).bind fun v S2 => (fr ρ S2).bind fun t S3 => match t with
  | .tup l => .ok (.tup (k :: v :: l)) S3
  | _ => .bad
def flatP : List (V × V) → List V
  | [] => []
  | p :: r => p.1 :: p.2 :: flatP r
def tP (K : PySem.W.Frag) (W : WX) (f : Ex) : L2.St → Hp → (List (V × V) → Hp → Prop) → Prop := fun σ H Q => tA K W f σ H fun vs H1 => ∀ ps, flatP ps = vs → Q ps H1
structure JP (X : Cx) (W : WX) (pos : Pos) (keys : List (Option Expr)) (values : List Expr) (f : Ex) : Prop where
  ex : ∃ trs, PPs X pos keys values trs ∧ ∀ σ H Q, tP X.K W f σ H Q → tPairs trs σ H Q
section
variable {X : Cx} {W : WX} {pos : Pos} {k v : Expr} {ks : List (Option Expr)} {vs : List Expr} {fk fv fr : Ex}
theorem jp_nil : JP X W pos [] [] eNil := ⟨_, pps_nil, fun σ H Q ⟨g, S, ρ, w, rs, q⟩ => q [] g H (GExt.refl _) w .nil [] rfl⟩
theorem jp_cons (hk : JE X W k fk) (hv : JE X W v fv) (hr : JP X W pos ks vs fr) : JP X W pos (some k :: ks) (v :: vs) (ePair fk fv fr) := by
  obtain ⟨trs, h1, h2⟩ := hr.ex
  refine ⟨_, pps_cons hk.run hv.run h1, fun σ H Q ⟨g, S, ρ, w, rs, q⟩ => ?_⟩
  refine ⟨g, S, ρ, w, rs, PostA.of_bind q fun dk S1 x g1 H1 _ e1 w1 r1 q1 => ?_⟩
  refine ⟨g1, S1, ρ, w1, rs.mono e1, PostA.of_bind q1 fun dv S2 y g2 H2 _ e2 w2 r2 q2 => ?_⟩
  refine h2 _ _ _ ⟨g2, S2, ρ, w2, rs.mono (e1.trans e2), ?_⟩
  refine PostA.of_args (k := fun l S3 => .ok (.tup (dk :: dv :: l)) S3) q2 fun l S3 vs g3 H3 _ e3 w3 r3 q3 ps hp => ?_
  subst hp
  exact q3 (x :: y :: flatP ps) g3 H3 (GExt.refl _) w3 (.cons ((e2.trans e3).rep r1) (.cons (e3.rep r2) r3)) ((x, y) :: ps) rfl
end
theorem pairsD_reps {K : PySem.W.Frag} {g : G} : ∀ {l : List D} {kvs : List (Key × D)} {vs : List V}, pairsD l = some kvs → RepsG K g l vs → ∃ ks, KReps K g kvs ks ∧ flatP (ks.map fun kv => (kV kv.1, kv.2)) = vs
  | [], _, _, e, r => by cases e; cases r; exact ⟨[], .nil, rfl⟩
  | [_], _, _, e, _ => by cases e
  | k :: v :: l, kvs, vs, e, r => by
    have e' : (match keyD k with | some k' => (match pairsD l with | some l => some ((k', v) :: l) | none => none) | none => none) = some kvs := e
    cases q : keyD k with
    | none => rw [q] at e'; cases e'
    | some k' =>
      rw [q] at e'
      cases q2 : pairsD l with
      | none => simp only [q2] at e'; cases e'
      | some kvs' =>
        simp only [q2] at e'; cases e'
        cases r with
        | cons r1 t =>
          cases t with
          | cons r2 t =>
            obtain ⟨ks, h1, h2⟩ := pairsD_reps q2 t
            refine ⟨(k', _) :: ks, .cons ⟨rfl, r2⟩ h1, ?_⟩
            simp only [List.map_cons, flatP, h2, kD_rep q r1]
/-- {..}[k] -/
def eDispIx (fp fk : Ex) : Ex := fun ρ S => (fp ρ S).bind fun t S1 => match t with
  | .tup l => (match pairsD l with
    | some kvs => if kvs.length ≤ 15 then (fk ρ S1).bind fun k S2 => (match keyD k with
      | some k' => lift1 (valD (mergeD [] kvs) k') S2
      | none => .bad) else .bad
    | none => .bad)
  | _ => .bad
theorem je_dispIx {X : Cx} {W : WX} {pos pos2 : Pos} {k : Expr} {keys : List (Option Expr)} {values : List Expr} {fp fk : Ex} (hu : X.A.units + 1 < cLine) (hp : JP X W pos keys values fp) (hk : JE X W k fk) (hs : NoSl k := by exact fun _ _ => rfl)
    (hall : keys.all (·.isSome) = true := by rfl) (hl : keys.length = values.length := by rfl) (h0 : keys ≠ [] := by exact fun z => nomatch z) (h15 : keys.length ≤ 15 := by decide) : JE X W (.Subscript (.Dict keys values pos) k pos2) (eDispIx fp fk) := by
  obtain ⟨trs, h1, h2⟩ := hp.ex
  refine ⟨peImp (pe_dget hu (pe_disp h1 hall hl h0 h15) hk.run hs) fun σ H Q ⟨g, S, ρ, w, rs, q⟩ p hp => ?_⟩
  obtain ⟨w1, x1⟩ := w.hold (o := .dK []) hp
  have pin1 : (g.hold p (.dK [])).pin p = some (.dK []) := by
    show (if p = p then _ else _) = _
    rw [if_pos rfl]
  refine h2 _ _ _ ⟨_, S, ρ, w1, rs.mono x1, ?_⟩
  have q' := Post.ext q x1
  unfold eDispIx at q'
  cases ef : fp ρ S with
  | bad => rw [ef] at q'; exact q'
  | exc k S1 => rw [ef] at q'; exact q'
  | ok t S1 =>
    rw [ef] at q'
    cases t with
    | tup l =>
      intro vs g2 H2 x2 w2 r2 ps hps
      simp only [ER.bind_ok] at q'
      cases ep : pairsD l with
      | none => simp only [ep] at q'; exact q'.elim
      | some kvs =>
        simp only [ep] at q'
        by_cases hz : kvs.length ≤ 15
        · rw [if_pos hz] at q'
          obtain ⟨ks, hk1, hk2⟩ := pairsD_reps ep r2
          have hps2 : ps = ks.map fun kv => (kV kv.1, kv.2) := by
            have : flatP ps = flatP (ks.map fun kv => (kV kv.1, kv.2)) := hps.trans hk2.symm
            have inj : ∀ a b : List (V × V), flatP a = flatP b → a = b := by
              intro a
              induction a with
              | nil => intro b h; cases b with | nil => rfl | cons => cases h
              | cons p r ih =>
                intro b h
                cases b with
                | nil => cases h
                | cons p2 r2 =>
                  simp only [flatP, List.cons.injEq] at h
                  obtain ⟨a1, a2, a3⟩ := h
                  rw [ih _ a3, Prod.ext a1 a2]
            exact inj _ _ this
          have pin2 := x2.p _ _ pin1
          obtain ⟨p1, p2, p3⟩ := w2.pin _ _ pin2
          have klen : ks.length = kvs.length := (Paired.length hk1).symm
          refine ⟨p1, ks, hps2, by rw [klen]; exact hz, ?_⟩
          have w3 := w2.rehold (u := .dK (mergeK [] ks)) pin2 lko_dK
          have xx : GExt g (g2.hold p (.dK (mergeK [] ks))) := ⟨fun a o h => (x1.trans x2).f a o h, fun n a h => (x1.trans x2).a n a h, fun a o h => by
            show (if a = p then _ else _) = _
            rw [if_neg (ne_of_none (w.pin a o h).1 hp)]
            exact (x1.trans x2).p a o h⟩
          have pin3 : (g2.hold p (.dK (mergeK [] ks))).pin p = some (.dK (mergeK [] ks)) := by
            show (if p = p then _ else _) = _
            rw [if_pos rfl]
          have mk : KReps X.K (g2.hold p (.dK (mergeK [] ks))) (mergeD [] kvs) (mergeK [] ks) := KReps.merge (g := g2.hold p (.dK (mergeK [] ks))) hk1 .nil
          have q0 := Post.ext q xx
          unfold eDispIx at q0
          rw [ef] at q0
          simp only [ER.bind_ok, ep] at q0
          rw [if_pos hz] at q0
          refine ⟨_, S1, ρ, w3, rs.mono xx, Post.of_bind q0 fun dk S2 y g3 H3 _ e3 w4 r4 q3 => ?_⟩
          cases ek : keyD dk with
          | none => simp only [ek] at q3; exact q3.elim
          | some k' =>
            simp only [ek] at q3
            obtain ⟨d, hd, q4⟩ := q3.lift
            obtain ⟨v, hv1, hv2⟩ := (mk.val k').2 d hd
            have hH := (w4.pin _ _ (e3.p _ _ pin3)).1
            have hy := kD_rep ek r4
            subst hy
            exact ⟨p, v, rfl, by rw [← hv1]; exact DGet.k hH, q4.val w4 (e3.rep hv2)⟩
        · rw [if_neg hz] at q'; exact q'.elim
    | _ => exact q'.elim
end Bt
namespace Bt
open PySem PySem.Spec PyProof.Rows L2
theorem hu65 {k : Nat} {A : Around} (h : 1 ≤ k) (hr : Room k A) : A.units + 65 < cLine := by have := hr.un; omega
theorem hu64 {k : Nat} {A : Around} (hr : Room k A) : A.units + 64 < cLine := hr.units
/-- a def stands where the top put it -/
structure DefAt (K : PySem.W.Frag) (mg : Str → Option Value) (x : Str) (st : Stmt) : Prop where
  ex : ∃ fd, FunD K x x (defArgs st) (defBody st) (defScope st) [] [] (He.ga K x) fd
  mg : mg x = some (.ref (He.ga K x))
section
variable {P : Program} {w : PySem.World} {K : PySem.W.Frag} {mg : Str → Option Value} {base : Heap} {x : Str} {st : Stmt} {N ps : List Str} {k : Nat} {m : Sx}
theorem cal_mk (D : DefAt K mg x st) (S : FnScope N ps (defScope st))
    (hbd : ∀ (kV doc pm : Value) (an : Option Addr) (cdv ct : Value) (us : List Value), us.length = ps.length → bindArgs (PySem.W.fnOf x x (defArgs st) (defBody st) (defScope st) .none kV doc pm an cdv ct) ⟨us, []⟩ = pure (ps.zip us))
    (hb : ∀ (cdv : Value) (A : Around) (outer : List PySem.Env) (s : Shared) (H : Hp) (E : XK), Room k (A.deeper (envOfC x (defScope st) s.heap.objs.size (He.ga K x) cdv)) →
      JSs (cxOf (L2.CX P w) P w K mg base N x (defScope st) (He.ga K x) cdv A outer s H E) (fun cls d _ H => E cls d H) (defBody st) m) :
    Cal P w K mg base x (k + 1) (fnBody ps.length N.length m) := by
  obtain ⟨fd, F⟩ := D.ex
  exact ⟨_, fd, ps, D.mg, F.kp, F.bindsN hbd, fn_ok F S hb⟩
theorem jss_never {X : Cx} {W : WX} {sts : List Stmt} : JSs X W sts (fun _ _ => .bad) := ⟨pssImp pss_never fun N σ H ⟨g, S, ρ, w, rs, q⟩ => q.elim⟩
def recN (F : Fn → Fn) : Nat → Fn
  | 0 => fun _ _ => .bad
  | n + 1 => F (recN F n)
/-- the meaning may be told otherwise -/
theorem Cal.imp {F F' : Fn} (c : Cal P w K mg base x k F) (h : ∀ g S H ds vs, World K g S H → RepsG K g ds vs → ∀ Q E, PostF K g Q E (F' ds S) → PostF K g Q E (F ds S)) : Cal P w K mg base x k F' := by
  obtain ⟨f, fd, ps, h1, h2, h3, h4⟩ := c.ex
  exact ⟨f, fd, ps, h1, h2, h3, h4.imp fun vs H Q E ⟨g, S, ds, w, r, q⟩ => ⟨g, S, ds, w, r, h g S H ds vs w r Q E q⟩⟩
end
theorem cal_bad {P : Program} {w : PySem.World} {K : PySem.W.Frag} {mg : Str → Option Value} {base : Heap} {x : Str} {st : Stmt} {N ps : List Str} {k : Nat} (D : DefAt K mg x st) (S : FnScope N ps (defScope st))
    (hbd : ∀ (kV doc pm : Value) (an : Option Addr) (cdv ct : Value) (us : List Value), us.length = ps.length → bindArgs (PySem.W.fnOf x x (defArgs st) (defBody st) (defScope st) .none kV doc pm an cdv ct) ⟨us, []⟩ = pure (ps.zip us)) : Cal P w K mg base x (k + 1) (fun _ _ => .bad) :=
  (cal_mk (k := k) D S hbd fun _ _ _ _ _ _ _ => jss_never).imp fun _ _ _ _ _ _ _ _ _ q => q.elim
mutual
def D.pure : D → Bool
  | .tup l => D.pures l
  | .lst l => D.pures l
  | .scr l => D.pures l
  | .obj _ => false
  | _ => true
def D.pures : List D → Bool
  | [] => true
  | d :: ds => D.pure d && D.pures ds
end
def FV.pure : FV → Bool
  | .d x => D.pure x
  | .l xs => D.pures xs
  | .k kvs => kvs.all fun p => D.pure p.2
section
variable {K : PySem.W.Frag} {F F0 : Hp} {α α0 : List Addr}
mutual
theorem Rep.pureAny : ∀ {d : D} {v : V}, d.pure = true → Rep K F α d v → Rep K F α0 d v
  | _, _, _, .non => .non
  | _, _, _, .bl b => .bl b
  | _, _, _, .int i => .int i
  | _, _, _, .str s => .str s
  | _, _, h, .tup s r => .tup s (Reps.pureAny h r)
  | _, _, h, .lst s r => .lst s (Reps.pureAny h r)
  | _, _, h, .scr s r => .scr s (Reps.pureAny h r)
  | _, _, h, .obj e => nomatch h
theorem Reps.pureAny : ∀ {ds : List D} {vs : List V}, D.pures ds = true → Reps K F α ds vs → Reps K F α0 ds vs
  | _, _, _, .nil => .nil
  | _, _, h, .cons r t => by
    have h' := Bool.and_eq_true_iff.mp h
    exact .cons (Rep.pureAny h'.1 r) (Reps.pureAny h'.2 t)
end
mutual
theorem Rep.cut (k : ∀ (n : Nat) (a : Addr), α0[n]? = some a → α[n]? = some a) : ∀ {d : D} {v0 v : V}, Rep K F0 α0 d v0 → Rep K F α d v → Rep K F α0 d v
  | _, _, _, .non, .non => .non
  | _, _, _, .bl b, .bl _ => .bl b
  | _, _, _, .int i, .int _ => .int i
  | _, _, _, .str s, .str _ => .str s
  | _, _, _, .tup _ r0, .tup s r => .tup s (Reps.cut k r0 r)
  | _, _, _, .lst _ r0, .lst s r => .lst s (Reps.cut k r0 r)
  | _, _, _, .scr _ r0, .scr s r => .scr s (Reps.cut k r0 r)
  | _, _, _, .obj e0, .obj e => by
    have := k _ _ e0
    rw [this] at e; cases e
    exact .obj e0
theorem Reps.cut (k : ∀ (n : Nat) (a : Addr), α0[n]? = some a → α[n]? = some a) : ∀ {ds : List D} {vs0 vs : List V}, Reps K F0 α0 ds vs0 → Reps K F α ds vs → Reps K F α0 ds vs
  | _, _, _, .nil, .nil => .nil
  | _, _, _, .cons r0 t0, .cons r t => .cons (Rep.cut k r0 r) (Reps.cut k t0 t)
end
end
theorem KReps.cut {K : PySem.W.Frag} {g0 g g2 : G} (hf : g2.F = g.F) (ha : g2.α = g0.α) (k : ∀ (n : Nat) (a : Addr), g0.α[n]? = some a → g.α[n]? = some a) {kvs : List (Key × D)} {ks0 ks : List (Key × V)} (r0 : KReps K g0 kvs ks0) (r : KReps K g kvs ks) : KReps K g2 kvs ks := by
  unfold KReps at r0 r ⊢
  induction r generalizing ks0 with
  | nil => exact .nil
  | cons h t ih =>
    cases r0 with
    | cons h0 t0 =>
      refine .cons ⟨h.1, ?_⟩ (ih t0)
      rw [hf, ha]
      exact Rep.cut k h0.2 h.2
theorem KReps.pureAny {K : PySem.W.Frag} {g g2 : G} (hf : g2.F = g.F) {kvs : List (Key × D)} {ks : List (Key × V)} (r : KReps K g kvs ks) (hp : (kvs.all fun p => D.pure p.2) = true) : KReps K g2 kvs ks := by
  unfold KReps at r ⊢
  induction r with
  | nil => exact .nil
  | cons h t ih =>
    simp only [List.all_cons, Bool.and_eq_true] at hp
    refine .cons ⟨h.1, ?_⟩ (ih hp.2)
    rw [hf]
    exact Rep.pureAny hp.1 h.2
theorem ab_pure {x : Ab} {c : Str} {fs : List (Str × FV)} (h : AbInv x c fs) : ∀ p ∈ fs, p.2.pure = true := h.elim
def G.cut (g g0 : G) (n : Nat) : G := { F := g.F, α := g0.α, own := fun b => (match g.own b with | some q => if q.1 < n then some q else none | none => none), pin := g.pin }
theorem cut_own {g g0 : G} {n m : Nat} {b : Addr} {j : Nat} (h : g.own b = some (m, j)) (hm : m < n) : (g.cut g0 n).own b = some (m, j) := by
  show (match g.own b with | some q => if q.1 < n then some q else none | none => none) = _
  rw [h]; exact if_pos hm
theorem InstAt.cut {K : PySem.W.Frag} {g0 g : G} {H0 H : Hp} {n N : Nat} {c : Str} {fs : List (Str × FV)} (hn : n < N) (e : GExt g0 g) (x : InstAt K g H n c fs) (y : (∀ p ∈ fs, p.2.pure = true) ∨ InstAt K g0 H0 n c fs) (ha : ∃ a, g0.α[n]? = some a) : InstAt K (g.cut g0 N) H n c fs := by
  obtain ⟨a, dx, vs, h1, h2, h3, h4, h5⟩ := x
  obtain ⟨a0, ha0⟩ := ha
  have := e.a _ _ ha0
  rw [h1] at this; cases this
  refine ⟨a, dx, vs, ha0, cut_own h2 hn, h3, h4, fun j p q hp hq => ?_⟩
  obtain ⟨h6, h7⟩ := h5 j p q hp hq
  refine ⟨h6, ?_⟩
  obtain ⟨pn, pf⟩ := p
  rcases y with y | ⟨b, dy, us, y1, y2, y3, y4, y5⟩
  · have hpure := y _ (List.mem_of_getElem? hp)
    cases pf with
    | d z => exact Rep.pureAny hpure h7
    | l xs =>
      obtain ⟨a, vs, r1, r2, r3, r4⟩ := h7
      exact ⟨a, vs, r1, cut_own r2 hn, r3, Reps.pureAny hpure r4⟩
    | k kvs =>
      obtain ⟨a, vs, r1, r2, r3, r4⟩ := h7
      exact ⟨a, vs, r1, cut_own r2 hn, r3, KReps.pureAny (g := g) (g2 := g.cut g0 N) rfl r4 hpure⟩
  · have hj : j < us.length := by rw [← y4]; exact (List.getElem?_eq_some_iff.mp hp).1
    obtain ⟨y6, y7⟩ := y5 j _ us[j] hp (by simp [hj])
    cases pf with
    | d z => exact Rep.cut e.a y7 h7
    | l xs =>
      obtain ⟨a, vs, r1, r2, r3, r4⟩ := h7
      obtain ⟨_, _, _, _, _, q4⟩ := y7
      exact ⟨a, vs, r1, cut_own r2 hn, r3, Reps.cut e.a q4 r4⟩
    | k kvs =>
      obtain ⟨a, vs, r1, r2, r3, r4⟩ := h7
      obtain ⟨_, _, _, _, _, q4⟩ := y7
      exact ⟨a, vs, r1, cut_own r2 hn, r3, KReps.cut (g0 := g0) (g := g) (g2 := g.cut g0 N) rfl rfl e.a q4 r4⟩
theorem LkAt.cut {K : PySem.W.Frag} {g0 g : G} {n N : Nat} {c : Str} {fs : List (Str × FV)} (e : GExt g0 g) (x : LkAt K g n c fs) (y : LkAt K g0 n c fs) : LkAt K (g.cut g0 N) n c fs := by
  obtain ⟨b, dx, vs, h1, h2, h3, h4⟩ := x
  obtain ⟨b0, dx0, vs0, y1, y2, y3, y4⟩ := y
  have hb := e.a _ _ y1
  rw [h1] at hb; cases hb
  refine ⟨b, dx, vs, y1, h2, h3, fun j p q hp hq => ?_⟩
  obtain ⟨h5, h6⟩ := h4 j p q hp hq
  have hj : j < vs0.length := by rw [← y3]; exact (List.getElem?_eq_some_iff.mp hp).1
  obtain ⟨_, y6⟩ := y4 j p vs0[j] hp (by simp [hj])
  refine ⟨h5, ?_⟩
  obtain ⟨pn, pf⟩ := p
  cases pf with
  | d x => exact Rep.cut e.a y6 h6
  | l xs => exact h6
  | k kvs =>
    obtain ⟨a, ks, o, r1, r2, r3⟩ := h6
    obtain ⟨_, _, _, _, _, q3⟩ := y6
    exact ⟨a, ks, o, r1, r2, KReps.cut (g0 := g0) (g := g) (g2 := g.cut g0 N) rfl rfl e.a q3 r3⟩
theorem World.cut {K : PySem.W.Frag} {g0 g : G} {S S' : Sto} {H0 H : Hp} (w0 : World K g0 S H0) (w : World K g S' H) (e : GExt g0 g) (hS : S'.take S.length = S) : World K (g.cut g0 S.length) S H ∧ GExt g0 (g.cut g0 S.length) := by
  have ex : GExt g0 (g.cut g0 S.length) := ⟨e.f, fun _ _ h => h, e.p⟩
  refine ⟨⟨w.sub, w0.len, fun n o h => ?_, fun b q hb => ?_, fun b o hb => ?_⟩, ex⟩
  · have hn : n < S.length := (List.getElem?_eq_some_iff.mp h).1
    have h' : S'[n]? = some o := by
      rw [← hS, List.getElem?_take] at h
      rw [if_pos hn] at h; exact h
    have x := w.at_ n o h'
    have x0 := w0.at_ n o h
    have hα : ∃ a, g0.α[n]? = some a := ⟨_, List.getElem?_eq_getElem (w0.len ▸ hn)⟩
    cases o with
    | list l =>
      obtain ⟨a, xs, h1, h2, h3, h4⟩ := x
      obtain ⟨a0, xs0, q1, q2, q3, q4⟩ := x0
      have := e.a _ _ q1
      rw [h1] at this; cases this
      exact ⟨a, xs, q1, cut_own h2 hn, h3, Reps.cut e.a q4 h4⟩
    | dict l =>
      obtain ⟨a, xs, h1, h2, h3, h4⟩ := x
      obtain ⟨a0, xs0, q1, q2, q3, q4⟩ := x0
      have := e.a _ _ q1
      rw [h1] at this; cases this
      exact ⟨a, xs, q1, cut_own h2 hn, h3, KReps.cut (g0 := g0) (g := g) (g2 := g.cut g0 S.length) rfl rfl e.a q4 h4⟩
    | dead => trivial
    | inst c fs => exact InstAt.cut hn e x (.inr x0) hα
    | abs y =>
      rcases x with ⟨c, fs, h1, h2⟩ | ⟨a, h1, h2⟩
      · exact .inl ⟨c, fs, h1, InstAt.cut (H0 := H0) hn e h2 (.inl (ab_pure h1)) hα⟩
      · rcases x0 with ⟨c, fs, z, _⟩ | ⟨a0, z1, z2⟩
        · exact z.elim
        · rw [z1] at h1; cases h1
          exact .inr ⟨_, z1, z2⟩
    | lki c fs => exact LkAt.cut e x x0
    | fdict l =>
      obtain ⟨a, xs, od, h1, h2, h3⟩ := x
      obtain ⟨a0, xs0, od0, q1, q2, q3⟩ := x0
      have := e.a _ _ q1
      rw [h1] at this; cases this
      exact ⟨a, xs, od, q1, h2, KReps.cut (g0 := g0) (g := g) (g2 := g.cut g0 S.length) rfl rfl e.a q3 h3⟩
    | flist l =>
      obtain ⟨a, xs, od, h1, h2, h3⟩ := x
      obtain ⟨a0, xs0, od0, q1, q2, q3⟩ := x0
      have := e.a _ _ q1
      rw [h1] at this; cases this
      exact ⟨a, xs, od, q1, h2, Reps.cut e.a q3 h3⟩
  · have hb' : (match g.own b with | some q => if q.1 < S.length then some q else none | none => none) = some q := hb
    cases z : g.own b with
    | none => rw [z] at hb'; cases hb'
    | some q' => exact w.free b q' z
  · obtain ⟨h1, h2, h3⟩ := w.pin b o hb
    refine ⟨h1, h2, ?_⟩
    show (match g.own b with | some q => if q.1 < S.length then some q else none | none => none) = none
    rw [h3]
open Classical in
noncomputable def trunc (F : Fn) : Fn := fun ds S => match F ds S with
  | .ok d S' => if S'.take S.length = S ∧ d.pure = true then .ok d S else .bad
  | .exc k S' => if S'.take S.length = S then .exc k S else .bad
  | .bad => .bad
theorem trunc_ok {F : Fn} {ds : List D} {S S' : Sto} {d : D} (h : F ds S = .ok d S') (hS : S'.take S.length = S) (hp : d.pure = true) : trunc F ds S = .ok d S := by
  unfold trunc; rw [h]; exact if_pos ⟨hS, hp⟩
theorem Cal.trunc {P : Program} {w : PySem.World} {K : PySem.W.Frag} {mg : Str → Option Value} {base : Heap} {x : Str} {k : Nat} {F : Fn} (c : Cal P w K mg base x k F) : Cal P w K mg base x k (Bt.trunc F) :=
  c.imp fun g S H ds vs w r Q E q => by
    unfold Bt.trunc at q
    cases e : F ds S with
    | bad => rw [e] at q; exact q
    | ok d S' =>
      simp only [e] at q
      by_cases z : S'.take S.length = S ∧ d.pure = true
      · rw [if_pos z] at q
        intro v g' H' x1 w1 r1
        obtain ⟨w2, x2⟩ := World.cut w w1 x1 z.1
        exact q v _ H' x2 w2 (Rep.pureAny z.2 r1)
      · rw [if_neg z] at q; exact q.elim
    | exc k S' =>
      simp only [e] at q
      by_cases z : S'.take S.length = S
      · rw [if_pos z] at q
        intro g' H' x1 w1
        obtain ⟨w2, x2⟩ := World.cut w w1 x1 z
        exact q _ H' x2 w2
      · rw [if_neg z] at q; exact q.elim
end Bt
namespace Bt
open PySem PySem.Spec PyProof.Rows L2
theorem walk_law {l : PySem.W.OpenLaw} {n k : Nat} {q : Program} {loose : List Str} {XP : (Str → Option Value) → Heap → Prop} {YP : PySem.World → Heap → Prop} {d : DefRec} {x : Str}
    (hn : l.most = some n) (hn2 : n ≤ sizeLine) (hdf : d.params.defaults = []) (hr : Room k callerA)
    (F : ∀ (w : PySem.World) (mg : Str → Option Value) (fa : Addr) (h : Heap), YP w h → h.Ns mainGlobals mg → mg d.name = some (.ref fa) →
      ∃ (K : PySem.W.Frag) (fd : FuncData) (sp : Sp), K.In h ∧ (∀ (s : Shared) (u : Value), BindsTo s fd ⟨[u], []⟩ [(x, u)]) ∧
        (∀ (H : Hp) (a : Addr) (ns : List Int), ns.length ≤ n → Only H → SqL K H a (ns.map V.int) → sp [.ref a] H (fun v _ => v = .bl true) fun _ _ _ => False) ∧
        ∀ base : Heap, K.In base → base.Ns mainGlobals mg → FnOk l.prog w K mg base (L2.CX l.prog w) k fa fd [x] sp) :
    PySem.W.WalkO q loose XP YP l.row.toRowW d [] (fun f vs => PySem.call f vs) := by
  refine Att.attach_call hn hdf fun w s₀ s₁ mg mb fa o pm cd doc a vs ns G Y ho hd hcd hmg hobj hints hlen hg => ?_
  obtain ⟨K, fd, sp, KX, hb, hsp, hF⟩ := F w mg fa _ Y G.T.g hmg
  exact law_call KX G.T.g G.T.b G.T.builtins G.T.nolimit hg hobj hints (Nat.le_trans hlen hn2) hr hF hb (fun H hO hS => hsp H a ns hlen hO hS) fun H e s' hx => by
    obtain ⟨_, _, _, _, _, _, _, _, _, _, _, _, z⟩ := hx
    exact z
theorem glob_int {K : PySem.W.Frag} {mg : Str → Option Value} {x : Str} {i : Int} (h : ∃ t, mg x = some (.int i t)) : GlobC K mg x (.int i) := ⟨by
  obtain ⟨t, e⟩ := h
  exact ⟨_, .int i, e, ⟨t, rfl⟩, fun _ => .int i⟩⟩
theorem glob_str {K : PySem.W.Frag} {mg : Str → Option Value} {x z : Str} (h : ∃ t, mg x = some (.str z t)) : GlobC K mg x (.str z) := ⟨by
  obtain ⟨t, e⟩ := h
  exact ⟨_, .str z, e, ⟨t, rfl⟩, fun _ => .str z⟩⟩
/-- the law's promise out of its meaning -/
theorem sp_law {K : PySem.W.Frag} {F : Fn} (h : ∀ ns : List Int, ns.length ≤ 63 → ∃ S, F [.scr (ns.map D.int)] [] = .ok (.bl true) S) :
    ∀ (H : Hp) (a : Addr) (ns : List Int), ns.length ≤ 63 → Only H → SqL K H a (ns.map V.int) → spOf K F [.ref a] H (fun v _ => v = .bl true) fun _ _ _ => False := by
  intro H a ns hl _ hs
  obtain ⟨S, e⟩ := h ns hl
  refine ⟨⟨H, [], fun _ => none, fun _ => none⟩, [], [.scr (ns.map D.int)], ⟨fun _ _ h => h, rfl, fun n o h => by simp at h, fun _ _ h => (by cases h), fun _ _ h => (by cases h)⟩, .cons (.scr hs (Reps.ints ns)) .nil, ?_⟩
  rw [e]
  intro v g' H' _ _ r
  cases r
  rfl
end Bt
namespace Bt
open PySem PySem.Spec PyProof.Rows L2
section
variable {ρ : Env} {S : Sto}
@[simp] theorem s_skip : sSkip ρ S = .nx ρ S := rfl
end
@[simp] theorem o_sub {S i j} : opSub S (.int i) (.int j) = some (.int (i - j)) := rfl
@[simp] theorem o_mod {S i j} : opMod S (.int i) (.int j) = if 0 < j then some (.int (i % j)) else none := rfl
@[simp] theorem o_div {S i j} : opDiv S (.int i) (.int j) = if 0 < j ∧ j < 1073741824 then some (.int (i / j)) else none := rfl
@[simp] theorem o_neg {S i} : opNeg S (.int i) = some (.int (-i)) := rfl
@[simp] theorem o_cmp {p S i j} : opCmp p S (.int i) (.int j) = some (.bl (p i j)) := rfl
@[simp] theorem b_int {S i} : bInt S (.int i) = some (.int i) := rfl
@[simp] theorem b_intB {S b} : bInt S (.bl b) = some (.int (if b then 1 else 0)) := rfl
end Bt
namespace Bt
open PySem PySem.Spec PyProof.Rows L2
theorem eqv_refl {d : D} (h : d.good = true) : D.eqv d d = true := SeqAt.eqv_refl d.toP (canLay_of d (good_wf h))
theorem gd_scr {n : Nat} {l : List D} (h : ∀ d ∈ l, d.gd n) : (D.scr l).gd (n + 1) := ⟨(gds h).1, Nat.succ_le_succ (gds h).2⟩
def Sta.get (s : Sta) : Th → Int
  | .nm i => s.nm.getD i 0
  | .cl j => s.cl.getD j 0
theorem rowAt_get {p : Prg} {s : Sta} (h : s.row < p.length) : p[s.row]? = some (rowAt p s) := by
  unfold rowAt
  rw [List.getD_eq_getElem?_getD, List.getElem?_eq_getElem h]; rfl
end Bt
namespace Bt
open PySem PySem.Spec PyProof.Rows L2
abbrev c_CELLS : D := .int 4
abbrev c_MOST_CALLS : D := .int 6
abbrev c_NAMES : D := .str "abcdef"
abbrev c_SIZE : D := .int 10007
noncomputable def F_begun : Fn := fnBody 0 0
    (sRet (eTup (eCons (eC (.int 0)) (eCons (eOp opMul (eTup (eCons (eC (.int 0)) eNil)) (eCallB (f1 bLen) (eCons (eC c_NAMES) eNil))) (eCons (eOp opMul (eTup (eCons (eC (.int 0)) eNil)) (eC c_CELLS)) (eCons (eTup eNil) (eCons (eC (.int 0)) (eCons (eTup eNil) eNil))))))))
noncomputable def G_begun : Fn := F_begun
noncomputable def F_reckoned (rec : Fn) : Fn := fnBody 2 5
    (sSeq (sSet 2 (eOp opIx (eVar 0) (eC (.int 0))))
    (sSeq (sIf (eOp opEq (eVar 2) (eC (.str "num")))
    (sRet (eOp opIx (eVar 0) (eC (.int 1))))
    sSkip)
    (sSeq (sIf (eOp opEq (eVar 2) (eC (.str "name")))
    (sRet (eOp opIx (eOp opIx (eVar 1) (eC (.int 1))) (eMeth isStrD mSIdx (eC c_NAMES) (eOp opIx (eVar 0) (eC (.int 1))))))
    sSkip)
    (sSeq (sSet 3 (eCall rec (eCons (eOp opIx (eVar 0) (eC (.int 1))) (eCons (eVar 1) eNil))))
    (sSeq (sIf (eOp opEq (eVar 2) (eC (.str "cell")))
    (sRet (eOp opIx (eOp opIx (eVar 1) (eC (.int 2))) (eOp opMod (eVar 3) (eC c_CELLS))))
    sSkip)
    (sSeq (sSet 4 (eCall rec (eCons (eOp opIx (eVar 0) (eC (.int 2))) (eCons (eVar 1) eNil))))
    (sSeq (sIf (eOp opEq (eVar 2) (eC (.str "less")))
    (sRet (eCallB (f1 bInt) (eCons (eOp opLt (eVar 3) (eVar 4)) eNil)))
    sSkip)
    (sRet (eOp opMod (eDispIx (ePair (eC (.str "add")) (eOp opAdd (eVar 3) (eVar 4)) (ePair (eC (.str "sub")) (eOp opSub (eVar 3) (eVar 4)) (ePair (eC (.str "mul")) (eOp opMul (eVar 3) (eVar 4)) eNil))) (eVar 2)) (eC c_SIZE))))))))))
noncomputable def G_reckoned : Fn := recN F_reckoned 20
noncomputable def F_with_worth : Fn := fnBody 3 6
    (sSeq (sSet 3 (eIf (eIsT .int (eVar 1)) (eC (.int 2)) (eC (.int 1))))
    (sSeq (sSet 4 (eIf (eIsT .int (eVar 1)) (eVar 1) (eMeth isStrD mSIdx (eC c_NAMES) (eVar 1))))
    (sSeq (sSet 5 (eOp opAdd (eOp opAdd (eSl (eOp opIx (eVar 0) (eVar 3)) eNo (eInt (eVar 4))) (eTup (eCons (eVar 2) eNil))) (eSl (eOp opIx (eVar 0) (eVar 3)) (eInt (eOp opAdd (eVar 4) (eC (.int 1)))) eNo)))
    (sRet (eOp opAdd (eOp opAdd (eSl (eVar 0) eNo (eInt (eVar 3))) (eTup (eCons (eVar 5) eNil))) (eSl (eVar 0) (eInt (eOp opAdd (eVar 3) (eC (.int 1)))) eNo))))))
noncomputable def G_with_worth : Fn := F_with_worth
noncomputable def F_is_over : Fn := fnBody 2 3
    (sSeq (sIf (eOp opEq (eOp opIx (eVar 1) (eC (.int 0))) (eCallB (f1 bLen) (eCons (eVar 0) eNil)))
    (sRet (eC (.bl true)))
    sSkip)
    (sSeq (sSet 2 (eOp opIx (eOp opIx (eVar 0) (eOp opIx (eVar 1) (eC (.int 0)))) (eC (.int 0))))
    (sRet (eOr (eOp opEq (eVar 2) (eC (.str "stop"))) (eOr (eAnd (eOp opEq (eVar 2) (eC (.str "back"))) (eOp opEq (eOp opIx (eVar 1) (eC (.int 3))) (eTup eNil))) (eAnd (eOp opEq (eVar 2) (eC (.str "call"))) (eOp opEq (eCallB (f1 bLen) (eCons (eOp opIx (eVar 1) (eC (.int 3))) eNil)) (eC c_MOST_CALLS))))))))
noncomputable def G_is_over : Fn := F_is_over
noncomputable def F_written_by : Fn := fnBody 3 4
    (sSeq (sSet 3 (eOp opIx (eVar 0) (eOp opIx (eVar 2) (eC (.int 0)))))
    (sSeq (sIf (eOp opEq (eOp opIx (eVar 3) (eC (.int 0))) (eC (.str "set")))
    (sRet (eTup (eCons (eOp opIx (eVar 3) (eC (.int 1))) (eCons (eCall G_reckoned (eCons (eOp opIx (eVar 3) (eC (.int 2))) (eCons (eVar 2) eNil))) eNil))))
    sSkip)
    (sSeq (sIf (eOp opEq (eOp opIx (eVar 3) (eC (.int 0))) (eC (.str "put")))
    (sRet (eTup (eCons (eOp opMod (eCall G_reckoned (eCons (eOp opIx (eVar 3) (eC (.int 1))) (eCons (eVar 2) eNil))) (eC c_CELLS)) (eCons (eCall G_reckoned (eCons (eOp opIx (eVar 3) (eC (.int 2))) (eCons (eVar 2) eNil))) eNil))))
    sSkip)
    (sSeq (sIf (eOp opEq (eOp opIx (eVar 3) (eC (.int 0))) (eC (.str "ask")))
    (sRet (eTup (eCons (eOp opIx (eVar 3) (eC (.int 1))) (eCons (eIf (eOp opLt (eOp opIx (eVar 2) (eC (.int 4))) (eCallB (f1 bLen) (eCons (eVar 1) eNil))) (eOp opIx (eVar 1) (eOp opIx (eVar 2) (eC (.int 4)))) (eC (.int 0))) eNil))))
    sSkip)
    (sRet (eC .non))))))
noncomputable def G_written_by : Fn := F_written_by
noncomputable def F_stepped : Fn := fnBody 3 9
    (sSeq (sSet 3 (eOp opIx (eVar 0) (eOp opIx (eVar 2) (eC (.int 0)))))
    (sSeq (sSet 4 (eOp opAdd (eOp opIx (eVar 2) (eC (.int 0))) (eC (.int 1))))
    (sSeq (sSet 5 (eOp opIx (eVar 2) (eC (.int 3))))
    (sSeq (sIf (eOr (eOp opEq (eOp opIx (eVar 3) (eC (.int 0))) (eC (.str "jump"))) (eAnd (eOp opEq (eOp opIx (eVar 3) (eC (.int 0))) (eC (.str "unless"))) (eOp opEq (eCall G_reckoned (eCons (eOp opIx (eVar 3) (eC (.int 1))) (eCons (eVar 2) eNil))) (eC (.int 0)))))
    (sSet 4 (eOp opIx (eVar 3) (eUn opNeg (eC (.int 1)))))
    sSkip)
    (sSeq (sIf (eOp opEq (eOp opIx (eVar 3) (eC (.int 0))) (eC (.str "call")))
    (sSeq (sSet 4 (eOp opIx (eVar 3) (eC (.int 1))))
    (sSet 5 (eOp opAdd (eVar 5) (eTup (eCons (eOp opAdd (eOp opIx (eVar 2) (eC (.int 0))) (eC (.int 1))) eNil)))))
    sSkip)
    (sSeq (sIf (eOp opEq (eOp opIx (eVar 3) (eC (.int 0))) (eC (.str "back")))
    (sSeq (sSet 4 (eOp opIx (eVar 5) (eUn opNeg (eC (.int 1)))))
    (sSet 5 (eSl (eVar 5) eNo (eInt (eUn opNeg (eC (.int 1)))))))
    sSkip)
    (sSeq (sSet 6 (eIf (eOp opEq (eOp opIx (eVar 3) (eC (.int 0))) (eC (.str "say"))) (eOp opAdd (eOp opIx (eVar 2) (eC (.int 5))) (eTup (eCons (eCall G_reckoned (eCons (eOp opIx (eVar 3) (eC (.int 1))) (eCons (eVar 2) eNil))) eNil))) (eOp opIx (eVar 2) (eC (.int 5)))))
    (sSeq (sSet 7 (eTup (eCons (eVar 4) (eCons (eOp opIx (eVar 2) (eC (.int 1))) (eCons (eOp opIx (eVar 2) (eC (.int 2))) (eCons (eVar 5) (eCons (eOp opAdd (eOp opIx (eVar 2) (eC (.int 4))) (eCallB (f1 bInt) (eCons (eOp opEq (eOp opIx (eVar 3) (eC (.int 0))) (eC (.str "ask"))) eNil))) (eCons (eVar 6) eNil))))))))
    (sSeq (sSet 8 (eCall G_written_by (eCons (eVar 0) (eCons (eVar 1) (eCons (eVar 2) eNil)))))
    (sRet (eIf (eIsN false (eVar 8)) (eVar 7) (eCall G_with_worth (eCons (eVar 7) (eCons (eOp opIx (eVar 8) (eC (.int 0))) (eCons (eOp opIx (eVar 8) (eC (.int 1))) eNil)))))))))))))))
noncomputable def G_stepped : Fn := F_stepped
noncomputable def F_l_cell : Fn := fnBody 2 2
    (sSeq (sIf (eOp opEq (eVar 0) (eLst eNil))
    (sRet (eOp opMul (eC (.int 7)) (eVar 1)))
    sSkip)
    (sRet (eOp opAdd (eOp opIx (eVar 0) (eOp opMod (eVar 1) (eCallB (f1 bLen) (eCons (eVar 0) eNil)))) (eOp opMul (eC (.int 6553)) (eOp opDiv (eVar 1) (eCallB (f1 bLen) (eCons (eVar 0) eNil)))))))
noncomputable def G_l_cell : Fn := F_l_cell
noncomputable def F_l_drawn : Fn := fnBody 3 4
    (sSeq (sSet 3 (eOp opMod (eOp opAdd (eOp opMul (eOp opMod (eCall G_l_cell (eCons (eVar 0) (eCons (eVar 1) eNil))) (eC (.int 2147483563))) (eC (.int 69069))) (eOp opMul (eC (.int 104723)) (eOp opAdd (eVar 1) (eC (.int 1))))) (eC (.int 2147483563))))
    (sSeq (sSet 3 (eOp opMod (eOp opAdd (eOp opMul (eVar 3) (eVar 3)) (eOp opDiv (eVar 3) (eC (.int 3)))) (eC (.int 2147483399))))
    (sRet (eOp opMod (eOp opDiv (eOp opMod (eOp opAdd (eOp opMul (eVar 3) (eVar 3)) (eOp opDiv (eVar 3) (eC (.int 7)))) (eC (.int 2147483647))) (eC (.int 11))) (eVar 2)))))
noncomputable def G_l_drawn : Fn := F_l_drawn
noncomputable def F_l_sum (rec : Fn) : Fn := fnBody 3 5
    (sSeq (sSet 3 (eCall G_l_drawn (eCons (eVar 0) (eCons (eVar 1) (eCons (eC (.int 10)) eNil)))))
    (sSeq (sIf (eOr (eOp opEq (eVar 2) (eC (.int 0))) (eOp opLt (eVar 3) (eC (.int 4))))
    (sSeq (sIf (eOp opEq (eCall G_l_drawn (eCons (eVar 0) (eCons (eOp opAdd (eVar 1) (eC (.int 1))) (eCons (eC (.int 2)) eNil)))) (eC (.int 0)))
    (sRet (eTup (eCons (eC (.str "num")) (eCons (eOp opIx (eLst (eCons (eC (.int 0)) (eCons (eC (.int 1)) (eCons (eC (.int 2)) (eCons (eC (.int 3)) (eCons (eC (.int 10)) (eCons (eC (.int 10006)) eNil))))))) (eCall G_l_drawn (eCons (eVar 0) (eCons (eOp opAdd (eVar 1) (eC (.int 2))) (eCons (eC (.int 6)) eNil))))) eNil))))
    sSkip)
    (sRet (eTup (eCons (eC (.str "name")) (eCons (eOp opIx (eC (.str "abcf")) (eCall G_l_drawn (eCons (eVar 0) (eCons (eOp opAdd (eVar 1) (eC (.int 2))) (eCons (eC (.int 4)) eNil))))) eNil)))))
    sSkip)
    (sSeq (sSet 4 (eCall rec (eCons (eVar 0) (eCons (eOp opAdd (eOp opMul (eVar 1) (eC (.int 2))) (eC (.int 5))) (eCons (eOp opSub (eVar 2) (eC (.int 1))) eNil)))))
    (sSeq (sIf (eOp opLt (eVar 3) (eC (.int 6)))
    (sRet (eTup (eCons (eC (.str "cell")) (eCons (eVar 4) eNil))))
    sSkip)
    (sRet (eTup (eCons (eOp opIx (eLst (eCons (eC (.str "add")) (eCons (eC (.str "sub")) (eCons (eC (.str "mul")) (eCons (eC (.str "less")) eNil))))) (eOp opSub (eVar 3) (eC (.int 6)))) (eCons (eVar 4) (eCons (eCall rec (eCons (eVar 0) (eCons (eOp opAdd (eOp opMul (eVar 1) (eC (.int 2))) (eC (.int 19))) (eCons (eOp opSub (eVar 2) (eC (.int 1))) eNil)))) eNil)))))))))
noncomputable def G_l_sum : Fn := recN F_l_sum 5
noncomputable def F_l_row : Fn := fnBody 3 7
    (sSeq (sSet 3 (eCall G_l_drawn (eCons (eVar 0) (eCons (eVar 1) (eCons (eC (.int 16)) eNil)))))
    (sSeq (sSet 4 (eCall G_l_drawn (eCons (eVar 0) (eCons (eOp opAdd (eVar 1) (eC (.int 1))) (eCons (eOp opAdd (eVar 2) (eC (.int 1))) eNil)))))
    (sSeq (sSet 5 (eOp opIx (eC (.str "abc")) (eCall G_l_drawn (eCons (eVar 0) (eCons (eOp opAdd (eVar 1) (eC (.int 2))) (eCons (eC (.int 3)) eNil))))))
    (sSeq (sSet 6 (eCall G_l_sum (eCons (eVar 0) (eCons (eOp opAdd (eVar 1) (eC (.int 3))) (eCons (eC (.int 2)) eNil)))))
    (sSeq (sIf (eOp opLt (eVar 3) (eC (.int 5)))
    (sRet (eTup (eCons (eC (.str "set")) (eCons (eVar 5) (eCons (eVar 6) eNil)))))
    sSkip)
    (sSeq (sIf (eOp opLt (eVar 3) (eC (.int 7)))
    (sRet (eTup (eCons (eC (.str "put")) (eCons (eCall G_l_sum (eCons (eVar 0) (eCons (eOp opAdd (eVar 1) (eC (.int 9))) (eCons (eC (.int 1)) eNil)))) (eCons (eVar 6) eNil)))))
    sSkip)
    (sSeq (sIf (eOp opLt (eVar 3) (eC (.int 9)))
    (sRet (eOp opIx (eLst (eCons (eTup (eCons (eC (.str "ask")) (eCons (eVar 5) eNil))) (eCons (eTup (eCons (eC (.str "say")) (eCons (eVar 6) eNil))) eNil))) (eOp opSub (eVar 3) (eC (.int 7)))))
    sSkip)
    (sSeq (sIf (eOp opLt (eVar 3) (eC (.int 12)))
    (sRet (eOp opIx (eLst (eCons (eTup (eCons (eC (.str "jump")) (eCons (eVar 4) eNil))) (eCons (eTup (eCons (eC (.str "unless")) (eCons (eVar 6) (eCons (eVar 4) eNil)))) (eCons (eTup (eCons (eC (.str "unless")) (eCons (eTup (eCons (eC (.str "name")) (eCons (eVar 5) eNil))) (eCons (eVar 4) eNil)))) eNil)))) (eOp opSub (eVar 3) (eC (.int 9)))))
    sSkip)
    (sRet (eOp opIx (eLst (eCons (eTup (eCons (eC (.str "call")) (eCons (eVar 4) eNil))) (eCons (eTup (eCons (eC (.str "call")) (eCons (eVar 4) eNil))) (eCons (eTup (eCons (eC (.str "back")) eNil)) (eCons (eOp opIx (eLst (eCons (eTup (eCons (eC (.str "stop")) eNil)) (eCons (eTup (eCons (eC (.str "back")) eNil)) eNil))) (eOp opMod (eVar 4) (eC (.int 2)))) eNil))))) (eOp opSub (eVar 3) (eC (.int 12)))))))))))))
noncomputable def G_l_row : Fn := F_l_row
noncomputable def F_l_program : Fn := fnBody 2 7
    (sSeq (sSet 2 (eOp opAdd (eC (.int 1)) (eCall G_l_drawn (eCons (eVar 0) (eCons (eVar 1) (eCons (eC (.int 9)) eNil))))))
    (sSeq (sIf (eOp opEq (eCall G_l_drawn (eCons (eVar 0) (eCons (eOp opAdd (eVar 1) (eC (.int 1))) (eCons (eC (.int 4)) eNil)))) (eC (.int 0)))
    (sSeq (sSet 3 (eTup (eCons (eC (.str "put")) (eCons (eTup (eCons (eC (.str "name")) (eCons (eC (.str "a")) eNil))) (eCons (eTup (eCons (eC (.str "num")) (eCons (eCall G_l_drawn (eCons (eVar 0) (eCons (eOp opAdd (eVar 1) (eC (.int 2))) (eCons (eC (.int 9)) eNil)))) eNil))) eNil)))))
    (sSeq (sSet 4 (eOp opIx (eLst (eCons (eC (.str "add")) (eCons (eC (.str "sub")) eNil))) (eCall G_l_drawn (eCons (eVar 0) (eCons (eOp opAdd (eVar 1) (eC (.int 3))) (eCons (eC (.int 2)) eNil))))))
    (sSeq (sSet 5 (eTup (eCons (eTup (eCons (eC (.str "ask")) (eCons (eC (.str "a")) eNil))) (eCons (eTup (eCons (eC (.str "call")) (eCons (eC (.int 4)) eNil))) (eCons (eTup (eCons (eC (.str "say")) (eCons (eTup (eCons (eC (.str "name")) (eCons (eC (.str "a")) eNil))) eNil))) (eCons (eTup (eCons (eC (.str "jump")) (eCons (eC (.int 0)) eNil))) (eCons (eVar 3) eNil)))))))
    (sRet (eOp opAdd (eVar 5) (eTup (eCons (eTup (eCons (eC (.str "call")) (eCons (eC (.int 7)) eNil))) (eCons (eTup (eCons (eC (.str "back")) eNil)) (eCons (eTup (eCons (eC (.str "set")) (eCons (eC (.str "b")) (eCons (eTup (eCons (eVar 4) (eCons (eTup (eCons (eC (.str "name")) (eCons (eC (.str "b")) eNil))) (eCons (eTup (eCons (eC (.str "name")) (eCons (eC (.str "a")) eNil))) eNil)))) eNil)))) (eCons (eTup (eCons (eC (.str "back")) eNil)) eNil))))))))))
    sSkip)
    (sRet (eCallB (f1 bTuple) (eCons (eComp [6] (iRange1 (eVar 2)) (dN 6) eYes (eCall G_l_row (eCons (eVar 0) (eCons (eOp opAdd (eOp opAdd (eVar 1) (eC (.int 10))) (eOp opMul (eC (.int 40)) (eVar 6))) (eCons (eVar 2) eNil))))) eNil)))))
noncomputable def G_l_program : Fn := F_l_program
noncomputable def F_l_asked : Fn := fnBody 2 3
    (sRet (eComp [2] (iRange1 (eCall G_l_drawn (eCons (eVar 0) (eCons (eVar 1) (eCons (eC (.int 4)) eNil))))) (dN 2) eYes (eOp opIx (eLst (eCons (eC (.int 0)) (eCons (eC (.int 1)) (eCons (eC (.int 5)) (eCons (eC (.int 10006)) eNil))))) (eCall G_l_drawn (eCons (eVar 0) (eCons (eOp opAdd (eOp opAdd (eVar 1) (eC (.int 1))) (eVar 2)) (eCons (eC (.int 4)) eNil)))))))
noncomputable def G_l_asked : Fn := F_l_asked
end Bt
namespace Bt
open PySem PySem.Spec PyProof.Rows L2
theorem nm_idx (i : Fin 6) (S : Sto) : mSIdx S (.str "abcdef") (.str (nmS i)) = .ok (.int (i : Nat)) S := by
  have h : ∀ i : Fin 6, ∃ r, Builtin.Str.occurrences (Str.ofString "abcdef") (nmS i) 0 (Str.ofString "abcdef").length 1 = i.val :: r := by
    intro i
    match i with
    | 0 => exact ⟨[], by decide +kernel⟩
    | 1 => exact ⟨[], by decide +kernel⟩
    | 2 => exact ⟨[], by decide +kernel⟩
    | 3 => exact ⟨[], by decide +kernel⟩
    | 4 => exact ⟨[], by decide +kernel⟩
    | 5 => exact ⟨[], by decide +kernel⟩
  obtain ⟨r, e⟩ := h i
  unfold mSIdx
  simp only [e]
section
variable {N : Nat} {f : Sx} {S : Sto} {a b c d : D}
theorem fnB0 : fnBody 0 N f [] S = (f (List.replicate (N - 0) none) S).toE := rfl
theorem fnB1 : fnBody 1 N f [a] S = (f ([some a] ++ List.replicate (N - 1) none) S).toE := rfl
theorem fnB2 : fnBody 2 N f [a, b] S = (f ([some a, some b] ++ List.replicate (N - 2) none) S).toE := rfl
theorem fnB3 : fnBody 3 N f [a, b, c] S = (f ([some a, some b, some c] ++ List.replicate (N - 3) none) S).toE := rfl
theorem fnB4 : fnBody 4 N f [a, b, c, d] S = (f ([some a, some b, some c, some d] ++ List.replicate (N - 4) none) S).toE := rfl
end
theorem at_nm {l : List Int} (h : l.length = 6) (i : Fin 6) : (l.map D.int)[i.val]? = some (.int (l.getD i.val 0)) := by
  rw [List.getElem?_map, List.getD_eq_getElem?_getD, List.getElem?_eq_getElem (by rw [h]; exact i.isLt)]; rfl
theorem at_cl {l : List Int} (h : l.length = 4) {n : Int} : atI (l.map D.int) (n % 4) = some (.int (l.getD (n % 4).toNat 0)) := by
  have h1 := Int.emod_nonneg n (show (4 : Int) ≠ 0 by decide)
  have h2 := Int.emod_lt_of_pos n (show (0 : Int) < 4 by decide)
  obtain ⟨m, hm⟩ := Int.eq_ofNat_of_zero_le h1
  rw [hm, show (m : Int) = ((m : Nat) : Int) from rfl, atI_nat', List.getElem?_map, List.getD_eq_getElem?_getD]
  rw [Int.toNat_natCast, List.getElem?_eq_getElem (by omega)]; rfl
theorem wo_nat {n : Int} (h : Wo n) : n.natAbs < 18446744073709551616 := by
  have := h.1; have := h.2; omega
/-- one step of reckoned, over whatever is called below -/
theorem reckoned_1 (s : Sta) (hs : s.ok) (S : Sto) (G : Fn) (a : Sm) (ha : a.ok)
    (h : ∀ b : Sm, b.ok → b.dep < a.dep → G [b.d, s.d] S = .ok (.int (b.ev s)) S) : F_reckoned G [a.d, s.d] S = .ok (.int (a.ev s)) S := by
  unfold F_reckoned
  rw [fnB2]
  cases a with
  | num k =>
    simp [Sm.d, Sm.ev]
  | name i => 
    simp [Sm.d, nm_idx, c_NAMES, atI_nat', at_nm hs.nl i, Sm.ev]
  | cell a => 
    have e := h a ha (Nat.lt_succ_self _)
    simp [Sm.d, e, c_CELLS, at_cl hs.cl, Sm.ev]
  | add a b =>
    have e1 := h a ha.1 (Nat.lt_succ_of_le (Nat.le_max_left _ _))
    have e2 := h b ha.2 (Nat.lt_succ_of_le (Nat.le_max_right _ _))
    have p1 := wo_nat (Sm.ev_wo hs ha.1)
    simp [Sm.d, e1, e2, p1, c_SIZE, eDispIx, ePair, pairsD, keyD, mergeD, putD, valD, ofString_inj, Sm.ev]
    trace_state
  | sub a b =>
    have e1 := h a ha.1 (Nat.lt_succ_of_le (Nat.le_max_left _ _))
    have e2 := h b ha.2 (Nat.lt_succ_of_le (Nat.le_max_right _ _))
    have p1 := wo_nat (Sm.ev_wo hs ha.1)
    simp [Sm.d, e1, e2, p1, c_SIZE, eDispIx, ePair, pairsD, keyD, mergeD, putD, valD, ofString_inj, Sm.ev]
  | mul a b =>
    have e1 := h a ha.1 (Nat.lt_succ_of_le (Nat.le_max_left _ _))
    have e2 := h b ha.2 (Nat.lt_succ_of_le (Nat.le_max_right _ _))
    have p1 := wo_nat (Sm.ev_wo hs ha.1)
    simp [Sm.d, e1, e2, p1, c_SIZE, eDispIx, ePair, pairsD, keyD, mergeD, putD, valD, ofString_inj, Sm.ev]
  | less a b =>
    have e1 := h a ha.1 (Nat.lt_succ_of_le (Nat.le_max_left _ _))
    have e2 := h b ha.2 (Nat.lt_succ_of_le (Nat.le_max_right _ _))
    simp [Sm.d, e1, e2, Sm.ev]
    trace_state
theorem reckoned_n (s : Sta) (hs : s.ok) (S : Sto) : ∀ (n : Nat) (a : Sm), a.ok → a.dep < n → recN F_reckoned n [a.d, s.d] S = .ok (.int (a.ev s)) S := by
  intro n
  induction n with
  | zero => intro a _ h; omega
  | succ n ih =>
    intro a ha hd
    exact reckoned_1 s hs S _ a ha fun b hb hl => ih b hb (by omega)
theorem reckoned_ok {s : Sta} (hs : s.ok) {S : Sto} {a : Sm} (ha : a.ok) (hd : a.dep < 20) : G_reckoned [a.d, s.d] S = .ok (.int (a.ev s)) S := reckoned_n s hs S 20 a ha hd
end Bt
namespace Bt
open PySem PySem.Spec PyProof.Rows L2
theorem cut_pre {l : List D} {k : Int} (h : 0 ≤ k) : cutD l none (some k) = l.take k.toNat := by
  unfold cutD
  have e : HT.sIx l.length l.length (some k) = min k.toNat l.length := by
    show (if k < 0 then _ else min k.toNat l.length) = _
    rw [if_neg (by omega)]
  rw [e, HT.sIx_none, Nat.sub_zero, List.drop_zero]
  rcases Nat.le_total k.toNat l.length with q | q
  · rw [Nat.min_eq_left q]
  · rw [Nat.min_eq_right q, List.take_of_length_le (Nat.le_refl _), List.take_of_length_le q]
theorem cut_suf {l : List D} {k : Int} (h : 0 ≤ k) : cutD l (some k) none = l.drop k.toNat := by
  unfold cutD
  have e : HT.sIx l.length 0 (some k) = min k.toNat l.length := by
    show (if k < 0 then _ else min k.toNat l.length) = _
    rw [if_neg (by omega)]
  rw [e, HT.sIx_none]
  rcases Nat.le_total k.toNat l.length with q | q
  · rw [Nat.min_eq_left q, List.take_of_length_le (by rw [List.length_drop]; omega)]
  · rw [Nat.min_eq_right q, Nat.sub_self, List.take_zero, List.drop_of_length_le q]
theorem set_cut {l : List D} {i : Nat} {x : D} (h : i < l.length) : l.take i ++ [x] ++ l.drop (i + 1) = l.set i x := by
  rw [List.set_eq_take_append_cons_drop, if_pos h, List.append_assoc]; rfl
theorem begun_ok {S : Sto} : G_begun [] S = .ok sta0.d S := by
  unfold G_begun F_begun
  rw [fnB0]
  simp [c_NAMES, c_CELLS, sta0, Sta.d, lim, List.replicate]
theorem eq_nil {S : Sto} {l : List D} (h : (D.tup l).good = true) : opEq S (.tup l) (.tup []) = some (.bl l.isEmpty) := by
  rw [b_good h rfl, eqv_tup]
  cases l <;> simp
theorem nats_good {l : List Nat} : (D.tup (l.map fun (n : Nat) => D.int n)).good = true := (gd_nats (n := 0)).good
theorem over_law {p : Prg} {k : Nat} {s : Sta} {S : Sto} (h : StOk p k s) : G_is_over [prgD p, s.d] S = .ok (.bl (over p s)) S := by
  unfold G_is_over F_is_over
  rw [fnB2]
  by_cases q : s.row = p.length
  · simp [prgD, q]
    unfold over rowAt
    rw [List.getD_eq_getElem?_getD, List.getElem?_eq_none (by omega)]; rfl
  · have hr : s.row < p.length := by have := h.row; omega
    have hrow := rowAt_get hr
    unfold over
    generalize rowAt p s = r at hrow ⊢
    have q' : ¬ ((s.row : Int) = p.length) := by omega
    simp [prgD, q', atI_nat', hrow]
    cases r with
  | call q =>
      simp [Row.d]; omega
    | back =>
      simp [Row.d, eq_nil nats_good, lim]
      cases s.calls <;> rfl
    | _ => simp [Row.d]
theorem row_ix {p : Prg} {s : Sta} {S : Sto} (h : s.row < p.length) : opIx S (prgD p) (.int s.row) = some (rowAt p s).d := by
  unfold prgD
  rw [o_ixT, atI_nat', List.getElem?_map, rowAt_get h]; rfl
def wrD : Option (Th × Int) → D
  | none => .non
  | some (t, n) => .tup [t.d, .int n]
theorem written_law {p : Prg} {k : Nat} {s : Sta} {as : List Int} {S : Sto} (hp : PrgOk p) (h : StOk p k s) (hr : s.row < p.length) : G_written_by [prgD p, .lst (as.map .int), s.d] S = .ok (wrD (wrs as s (rowAt p s))) S := by
  unfold G_written_by F_written_by
  rw [fnB3]
  have hk := rowAt_ok hp s
  simp [row_ix hr]
  generalize rowAt p s = r at hk ⊢
  cases r with
  | set i a =>
    have e := reckoned_ok h.so (S := S) hk.1 (Nat.lt_trans hk.2 (by decide))
    simp [Row.d, e, wrs, wrD, lim, Th.d]
  | put a b =>
    have e := reckoned_ok h.so (S := S) hk.1.1 (Nat.lt_trans hk.1.2 (by decide))
    have e2 := reckoned_ok h.so (S := S) hk.2.1 (Nat.lt_trans hk.2.2 (by decide))
    have z := Int.emod_nonneg (a.ev s) (show (4 : Int) ≠ 0 by decide)
    simp [Row.d, e, e2, wrs, wrD, lim, Th.d, c_CELLS]
    omega
  | ask i =>
    rcases Nat.lt_or_ge s.asked as.length with q | q
    · simp [Row.d, wrs, wrD, lim, Th.d, q, atI_nat']
    · have q' : ¬ s.asked < as.length := by omega
      simp [Row.d, wrs, wrD, lim, Th.d, q']
  | _ => simp [Row.d, wrs, wrD]
theorem set_map {l : List Int} {i : Nat} {n : Int} (h : i < l.length) : ((l.map D.int).take i ++ [D.int n]) ++ (l.map D.int).drop (i + 1) = (l.set i n).map D.int := by
  rw [set_cut (by rw [List.length_map]; exact h), List.map_set]
theorem with_law {s : Sta} {t : Th} {n : Int} {S : Sto} (hs : s.ok) (ht : t.ok) : G_with_worth [s.d, t.d, .int n] S = .ok (s.put t n).d S := by
  unfold G_with_worth F_with_worth
  rw [fnB3]
  cases t with
  | nm i =>
    have e1 : cutD (s.nm.map D.int) none (some (i.val : Int)) = (s.nm.map D.int).take i.val := by rw [cut_pre (by omega)]; rfl
    have e2 : cutD (s.nm.map D.int) (some ((i.val : Int) + 1)) none = (s.nm.map D.int).drop (i.val + 1) := by rw [cut_suf (by omega)]; rfl
    have hi : i.val < s.nm.length := by rw [hs.nl]; exact i.isLt
    have e3 := set_map (n := n) hi
    rw [List.append_assoc] at e3; simp at e3
    have l1 : i.val ≤ 999999 := by omega
    have l2 : min i.val 6 + 1 ≤ 1000000 := by omega
    have l3 : i.val + 1 + (5 - i.val) ≤ 1000000 := by omega
    simp [Th.d, isTy, c_NAMES, nm_idx, e1, e2, lim, hs.nl, l1, l2, l3, Sta.d, cut_pre, cut_suf, Sta.put, e3]
  | cl j =>
    have e1 : cutD (s.cl.map D.int) none (some (j : Int)) = (s.cl.map D.int).take j := by rw [cut_pre (by omega)]; rfl
    have e2 : cutD (s.cl.map D.int) (some ((j : Int) + 1)) none = (s.cl.map D.int).drop (j + 1) := by rw [cut_suf (by omega)]; rfl
    have hj : j < 4 := ht
    have hi : j < s.cl.length := by rw [hs.cl]; exact hj
    have e3 := set_map (n := n) hi
    rw [List.append_assoc] at e3; simp at e3
    have l2 : min j 4 + 1 ≤ 1000000 := by omega
    have l3 : min j 4 + 1 + (3 - j) ≤ 1000000 := by omega
    simp [Th.d, isTy, e1, e2, lim, hs.cl, l2, l3, Sta.d, cut_pre, cut_suf, Sta.put, e3]
theorem wrs_ok {as : List Int} {s : Sta} {r : Row} {t : Th} {n : Int} (h : wrs as s r = some (t, n)) : t.ok := by
  cases r <;> cases h <;> try exact trivial
  show (_ : Int).toNat < 4
  rename_i a b
  have z := Int.emod_nonneg (a.ev s) (show (4 : Int) ≠ 0 by decide)
  have z2 := Int.emod_lt_of_pos (a.ev s) (show (0 : Int) < 4 by decide)
  omega
def preR (s : Sta) (r : Row) : Sta := { s with row := goal s r, calls := calls' s r, asked := asked' s r, said := said' s r }
theorem stepR_pre (as : List Int) (r : Row) (s : Sta) : stepR as r s = match wrs as s r with | some (x, n) => (preR s r).put x n | none => preR s r := rfl
theorem step_law {p : Prg} {k : Nat} {s : Sta} {as : List Int} {S : Sto} (hp : PrgOk p) (h : StOk p k s) (ho : over p s = false) (hk : k < 900000) : G_stepped [prgD p, asD as, s.d] S = .ok (stepM p as s).d S := by
  have hr := row_lt h.row ho
  have hw := written_law (as := as) (S := S) hp h hr
  have hro := rowAt_ok hp s
  have hcl : s.calls.length ≤ 999999 := by have := h.deep; omega
  have hsl : s.said.length ≤ 999999 := by have := h.said; omega
  unfold stepM
  rw [stepR_pre]
  unfold over at ho
  unfold G_stepped F_stepped
  rw [fnB3]
  unfold asD
  simp only [s_seq, s_set, s_op, s_var0, s_varS, ER.bind_ok, List.cons_append, List.nil_append, sta_0, row_ix hr, l1_some, s_c]
  have hwo : ∀ t n, wrs as s (rowAt p s) = some (t, n) → t.ok := fun t n => wrs_ok
  generalize rowAt p s = r at hw hro ho hwo ⊢
  cases r with
  | set i a =>
    have e := with_law (n := a.ev s) (S := S) (s := preR s (.set i a)) ⟨h.so.nl, h.so.cl, h.so.nw, h.so.cw⟩ (hwo _ _ rfl)
    have eT : (preR s (.set i a)).d = .tup [.int (s.row + 1), .tup (s.nm.map .int), .tup (s.cl.map .int), .tup (s.calls.map fun (n : Nat) => .int n), .int s.asked, .tup (s.said.map .int)] := by simp [Sta.d, preR, goal, calls', asked', said']
    rw [eT] at e
    simp [wrs, wrD] at hw
    simp [Row.d, hw, lim, e, wrs]
  | put a b =>
    have e := with_law (n := b.ev s) (S := S) (s := preR s (.put a b)) ⟨h.so.nl, h.so.cl, h.so.nw, h.so.cw⟩ (hwo _ _ rfl)
    have eT : (preR s (.put a b)).d = .tup [.int (s.row + 1), .tup (s.nm.map .int), .tup (s.cl.map .int), .tup (s.calls.map fun (n : Nat) => .int n), .int s.asked, .tup (s.said.map .int)] := by simp [Sta.d, preR, goal, calls', asked', said']
    rw [eT] at e
    simp [wrs, wrD] at hw
    simp [Row.d, hw, lim, e, wrs]
  | ask i =>
    have e := with_law (n := as.getD s.asked 0) (S := S) (s := preR s (.ask i)) ⟨h.so.nl, h.so.cl, h.so.nw, h.so.cw⟩ (hwo _ _ rfl)
    have eT : (preR s (.ask i)).d = .tup [.int (s.row + 1), .tup (s.nm.map .int), .tup (s.cl.map .int), .tup (s.calls.map fun (n : Nat) => .int n), .int (s.asked + 1), .tup (s.said.map .int)] := by simp [Sta.d, preR, goal, calls', asked', said']
    rw [eT] at e
    simp [wrs, wrD] at hw e
    simp [Row.d, hw, lim, e, wrs]
  | say a =>
    have e := reckoned_ok h.so (S := S) hro.1 (Nat.lt_trans hro.2 (by decide))
    have eT : (preR s (.say a)).d = .tup [.int (s.row + 1), .tup (s.nm.map .int), .tup (s.cl.map .int), .tup (s.calls.map fun (n : Nat) => .int n), .int s.asked, .tup (s.said.map .int ++ [.int (a.ev s)])] := by simp [Sta.d, preR, goal, calls', asked', said']
    simp [wrs, wrD] at hw
    simp [Row.d, hw, e, hsl, lim, wrs, eT]
  | jump q =>
    have eT : (preR s (.jump q)).d = .tup [.int q, .tup (s.nm.map .int), .tup (s.cl.map .int), .tup (s.calls.map fun (n : Nat) => .int n), .int s.asked, .tup (s.said.map .int)] := by simp [Sta.d, preR, goal, calls', asked', said']
    simp [wrs, wrD] at hw
    simp [Row.d, hw, lim, wrs, eT]
  | «unless» a q =>
    have e := reckoned_ok h.so (S := S) hro.1.1 (Nat.lt_trans hro.1.2 (by decide))
    simp [wrs, wrD] at hw
    by_cases z : a.ev s = 0
    · have eT : (preR s (.unless a q)).d = .tup [.int q, .tup (s.nm.map .int), .tup (s.cl.map .int), .tup (s.calls.map fun (n : Nat) => .int n), .int s.asked, .tup (s.said.map .int)] := by simp [Sta.d, preR, goal, calls', asked', said', z]
      simp [Row.d, hw, e, z, lim, wrs, eT]
    · have eT : (preR s (.unless a q)).d = .tup [.int (s.row + 1), .tup (s.nm.map .int), .tup (s.cl.map .int), .tup (s.calls.map fun (n : Nat) => .int n), .int s.asked, .tup (s.said.map .int)] := by simp [Sta.d, preR, goal, calls', asked', said', z]
      simp [Row.d, hw, e, z, lim, wrs, eT]
  | call q =>
    have eT : (preR s (.call q)).d = .tup [.int q, .tup (s.nm.map .int), .tup (s.cl.map .int), .tup (s.calls.map (fun (n : Nat) => .int n) ++ [.int (s.row + 1)]), .int s.asked, .tup (s.said.map .int)] := by simp [Sta.d, preR, goal, calls', asked', said']
    simp [wrs, wrD] at hw
    simp [Row.d, hw, hcl, lim, wrs, eT]
  | back =>
    simp [wrs, wrD] at hw
    have ⟨x, e⟩ : ∃ x, s.calls.getLast? = some x := by
      cases q : s.calls.getLast? with
      | none => rw [List.getLast?_eq_none_iff] at q; rw [q] at ho; cases ho
      | some x => exact ⟨x, rfl⟩
    have eT : (preR s (.back)).d = .tup [.int x, .tup (s.nm.map .int), .tup (s.cl.map .int), .tup (s.calls.map fun (n : Nat) => D.int n).dropLast, .int s.asked, .tup (s.said.map .int)] := by simp [Sta.d, preR, goal, calls', asked', said', e]
    simp [Row.d, hw, e, lim, wrs, eT]
  | stop => cases ho
end Bt
namespace Bt
open PySem PySem.Spec PyProof.Rows L2
theorem set_end {α : Type} {S : List α} {a b : α} : (S ++ [a]).set S.length b = S ++ [b] := by
  rw [List.set_append_right _ _ (Nat.le_refl _), Nat.sub_self]; rfl
theorem get_end {α : Type} {S : List α} {a : α} : (S ++ [a])[S.length]? = some a := by
  rw [List.getElem?_append_right (Nat.le_refl _), Nat.sub_self]; rfl
theorem m_appO {S : Sto} {l : List D} {d : D} (h : l.length < lim) : mApp (S ++ [.list l]) (.obj S.length) d = .ok .non (S ++ [.list (l ++ [d])]) := by
  unfold mApp
  simp only [get_end]
  rw [if_pos h, set_end]
theorem isSeqO {S : Sto} {l : List D} : isSeqD (S ++ [.list l]) (.obj S.length) = true := by
  unfold isSeqD seqOf
  simp
theorem o_leI {S : Sto} {i j : Int} : opLe S (.int i) (.int j) = some (.bl (decide (i ≤ j))) := rfl
end Bt
namespace Bt
open PySem PySem.Spec PyProof.Rows L2
def cellM (ns : List Int) (k : Int) : Int := if ns = [] then 7 * k else ns.getD (k % (ns.length : Int)).toNat 0 + 6553 * (k / (ns.length : Int))
def drawnM (ns : List Int) (k many : Int) : Int :=
  let c := (cellM ns k % 2147483563 * 69069 + 104723 * (k + 1)) % 2147483563
  let d := (c * c + c / 3) % 2147483399
  (d * d + d / 7) % 2147483647 / 11 % many
def scrD (ns : List Int) : D := .scr (ns.map D.int)
theorem drawn_rng {ns : List Int} {k many : Int} (h : 0 < many) : 0 ≤ drawnM ns k many ∧ drawnM ns k many < many :=
  ⟨Int.emod_nonneg _ (by omega), Int.emod_lt_of_pos _ h⟩
theorem scr_good {ns : List Int} : (scrD ns).good = true := (gd_scr (n := 0) fun d hd => by
  obtain ⟨i, _, rfl⟩ := List.mem_map.mp hd; exact gd_int).good
theorem cell_law {ns : List Int} (hn : ns.length ≤ 63) {k : Int} {S : Sto} : G_l_cell [scrD ns, .int k] S = .ok (.int (cellM ns k)) S := by
  unfold G_l_cell F_l_cell
  rw [fnB2]
  have e0 : opEq S (scrD ns) (.lst []) = some (.bl (decide (ns = []))) := by
    rw [b_good scr_good rfl]
    unfold scrD
    rw [eqv_scl]
    cases ns <;> simp
  by_cases q : ns = []
  · rw [q] at e0 ⊢
    have e0' : opEq S (scrD []) (.lst []) = some (.bl true) := e0
    simp [e0', cellM, lim]
  · have hpos : 0 < ns.length := by
      cases ns with
      | nil => exact absurd rfl q
      | cons => simp
    have z1 := Int.emod_nonneg k (show (ns.length : Int) ≠ 0 by omega)
    have z2 := Int.emod_lt_of_pos k (show (0 : Int) < ns.length by omega)
    have e1 : atI (ns.map D.int) (k % (ns.length : Int)) = some (.int (ns.getD (k % (ns.length : Int)).toNat 0)) := by
      obtain ⟨m, hm⟩ := Int.eq_ofNat_of_zero_le z1
      rw [hm, atI_nat', List.getElem?_map, List.getD_eq_getElem?_getD, Int.toNat_natCast, List.getElem?_eq_getElem (by omega)]; rfl
    have l2 : (ns.length : Int) < 1073741824 := by omega
    simp [e0, q, cellM, lim]
    simp [scrD, e1, hpos, l2]
theorem drawn_law {ns : List Int} (hn : ns.length ≤ 63) {k many : Int} (hm : 0 < many) {S : Sto} : G_l_drawn [scrD ns, .int k, .int many] S = .ok (.int (drawnM ns k many)) S := by
  unfold G_l_drawn F_l_drawn
  rw [fnB3]
  have b1 : ((cellM ns k % 2147483563 * 69069 + 104723 * (k + 1)) % 2147483563).natAbs < 18446744073709551616 := by
    have := Int.emod_nonneg (cellM ns k % 2147483563 * 69069 + 104723 * (k + 1)) (show (2147483563 : Int) ≠ 0 by decide)
    have := Int.emod_lt_of_pos (cellM ns k % 2147483563 * 69069 + 104723 * (k + 1)) (show (0 : Int) < 2147483563 by decide)
    omega
  unfold drawnM
  simp [cell_law hn, hm]
  generalize (cellM ns k % 2147483563 * 69069 + 104723 * (k + 1)) % 2147483563 = c at b1 ⊢
  have b2 : ((c * c + c / 3) % 2147483399).natAbs < 18446744073709551616 := by
    have := Int.emod_nonneg (c * c + c / 3) (show (2147483399 : Int) ≠ 0 by decide)
    have := Int.emod_lt_of_pos (c * c + c / 3) (show (0 : Int) < 2147483399 by decide)
    omega
  simp [b1]
  generalize (c * c + c / 3) % 2147483399 = d at b2 ⊢
  simp [b2, hm]
def sumM (ns : List Int) : Nat → Int → Sm
  | 0, at' => if drawnM ns (at' + 1) 2 = 0 then .num ([0, 1, 2, 3, 10, 10006].getD (drawnM ns (at' + 2) 6).toNat 0) else .name ([0, 1, 2, 5].getD (drawnM ns (at' + 2) 4).toNat 0)
  | n + 1, at' => if drawnM ns at' 10 < 4 then (if drawnM ns (at' + 1) 2 = 0 then .num ([0, 1, 2, 3, 10, 10006].getD (drawnM ns (at' + 2) 6).toNat 0) else .name ([0, 1, 2, 5].getD (drawnM ns (at' + 2) 4).toNat 0))
    else if drawnM ns at' 10 < 6 then .cell (sumM ns n (at' * 2 + 5))
    else if drawnM ns at' 10 = 6 then .add (sumM ns n (at' * 2 + 5)) (sumM ns n (at' * 2 + 19))
    else if drawnM ns at' 10 = 7 then .sub (sumM ns n (at' * 2 + 5)) (sumM ns n (at' * 2 + 19))
    else if drawnM ns at' 10 = 8 then .mul (sumM ns n (at' * 2 + 5)) (sumM ns n (at' * 2 + 19))
    else .less (sumM ns n (at' * 2 + 5)) (sumM ns n (at' * 2 + 19))
theorem sum0_ok (ns : List Int) (at' : Int) : ((if drawnM ns (at' + 1) 2 = 0 then .num ([0, 1, 2, 3, 10, 10006].getD (drawnM ns (at' + 2) 6).toNat 0) else .name ([0, 1, 2, 5].getD (drawnM ns (at' + 2) 4).toNat 0) : Sm)).ok ∧ ((if drawnM ns (at' + 1) 2 = 0 then .num ([0, 1, 2, 3, 10, 10006].getD (drawnM ns (at' + 2) 6).toNat 0) else .name ([0, 1, 2, 5].getD (drawnM ns (at' + 2) 4).toNat 0) : Sm)).dep = 0 := by
  split
  · exact ⟨getD_wo (by
      intro n hn
      simp only [List.mem_cons, List.not_mem_nil, or_false] at hn
      rcases hn with rfl | rfl | rfl | rfl | rfl | rfl <;> exact ⟨by decide, by decide⟩) _, rfl⟩
  · exact ⟨trivial, rfl⟩
theorem sumM_ok (ns : List Int) : ∀ (n : Nat) (at' : Int), (sumM ns n at').ok ∧ (sumM ns n at').dep ≤ n
  | 0, at' => by
    obtain ⟨a, b⟩ := sum0_ok ns at'
    exact ⟨a, Nat.le_of_eq b⟩
  | n + 1, at' => by
    obtain ⟨a, b⟩ := sum0_ok ns at'
    have h1 := sumM_ok ns n (at' * 2 + 5)
    have h2 := sumM_ok ns n (at' * 2 + 19)
    unfold sumM
    split
    · exact ⟨a, by rw [b]; exact Nat.zero_le _⟩
    · split
      · exact ⟨h1.1, Nat.succ_le_succ h1.2⟩
      · split
        · exact ⟨⟨h1.1, h2.1⟩, Nat.succ_le_succ (Nat.max_le.mpr ⟨h1.2, h2.2⟩)⟩
        · split
          · exact ⟨⟨h1.1, h2.1⟩, Nat.succ_le_succ (Nat.max_le.mpr ⟨h1.2, h2.2⟩)⟩
          · split
            · exact ⟨⟨h1.1, h2.1⟩, Nat.succ_le_succ (Nat.max_le.mpr ⟨h1.2, h2.2⟩)⟩
            · exact ⟨⟨h1.1, h2.1⟩, Nat.succ_le_succ (Nat.max_le.mpr ⟨h1.2, h2.2⟩)⟩
theorem six (i : Int) (h : 0 ≤ i ∧ i < 6) : i = 0 ∨ i = 1 ∨ i = 2 ∨ i = 3 ∨ i = 4 ∨ i = 5 := by omega
theorem four (i : Int) (h : 0 ≤ i ∧ i < 4) : i = 0 ∨ i = 1 ∨ i = 2 ∨ i = 3 := by omega
theorem three (i : Int) (h : 0 ≤ i ∧ i < 3) : i = 0 ∨ i = 1 ∨ i = 2 := by omega
theorem abcf_ix {S : Sto} {i : Int} (h : 0 ≤ i ∧ i < 4) : opIx S (.str "abcf") (.int i) = some (.str (nmS ([0, 1, 2, 5].getD i.toNat 0))) := by
  rcases four i h with rfl | rfl | rfl | rfl <;> rfl
theorem abc_ix {S : Sto} {i : Int} (h : 0 ≤ i ∧ i < 3) : opIx S (.str "abc") (.int i) = some (.str (nmS ([0, 1, 2].getD i.toNat 0))) := by
  rcases three i h with rfl | rfl | rfl <;> rfl
theorem nums_ix {i : Int} (h : 0 ≤ i ∧ i < 6) : atI [D.int 0, .int 1, .int 2, .int 3, .int 10, .int 10006] i = some (.int ([0, 1, 2, 3, 10, 10006].getD i.toNat 0)) := by
  rcases six i h with rfl | rfl | rfl | rfl | rfl | rfl <;> rfl
theorem sum_1 {ns : List Int} (hn : ns.length ≤ 63) (G : Fn) (S : Sto) (n : Nat) (at' : Int) (h : ∀ m at'', m + 1 = n → G [scrD ns, .int at'', .int (m : Nat)] S = .ok (sumM ns m at'').d S) :
    F_l_sum G [scrD ns, .int at', .int (n : Nat)] S = .ok (sumM ns n at').d S := by
  unfold F_l_sum
  rw [fnB3]
  have d (k : Int) (m : Int) (hm : 0 < m) := drawn_law (S := S) hn (k := k) hm
  have r6 := drawn_rng (ns := ns) (k := at' + 2) (many := 6) (by decide)
  have r4 := drawn_rng (ns := ns) (k := at' + 2) (many := 4) (by decide)
  have r10 := drawn_rng (ns := ns) (k := at') (many := 10) (by decide)
  have e1 := nums_ix r6
  have e2 := abcf_ix (S := S) r4
  have d10 := d at' 10 (by decide)
  have d2 := d (at' + 1) 2 (by decide)
  have d6 := d (at' + 2) 6 (by decide)
  have d4 := d (at' + 2) 4 (by decide)
  cases n with
  | zero =>
    unfold sumM
    by_cases c2 : drawnM ns (at' + 1) 2 = 0
    · simp [d10, d2, d6, d4, c2, lim, e1, e2, Sm.d]
    · simp [d10, d2, d6, d4, c2, lim, e1, e2, Sm.d]
  | succ m =>
    have h1 := h m (at' * 2 + 5) rfl
    have h2 := h m (at' * 2 + 19) rfl
    have cz : ¬ ((m : Int) + 1 = 0) := by omega
    unfold sumM
    by_cases c0 : drawnM ns at' 10 < 4
    · by_cases c2 : drawnM ns (at' + 1) 2 = 0
      · simp [d10, d2, d6, d4, c0, c2, cz, lim, e1, e2, Sm.d]
      · simp [d10, d2, d6, d4, c0, c2, cz, lim, e1, e2, Sm.d]
    · by_cases c1 : drawnM ns at' 10 < 6
      · simp [d10, c0, cz, c1, h1, lim, Sm.d]
      · rcases four (drawnM ns at' 10 - 6) (by omega) with q | q | q | q
        · have q' : drawnM ns at' 10 = 6 := by omega
          simp [d10, q', cz, h1, h2, lim, Sm.d]
        · have q' : drawnM ns at' 10 = 7 := by omega
          simp [d10, q', cz, h1, h2, lim, Sm.d]
        · have q' : drawnM ns at' 10 = 8 := by omega
          simp [d10, q', cz, h1, h2, lim, Sm.d]
        · have q' : drawnM ns at' 10 = 9 := by omega
          simp [d10, q', cz, h1, h2, lim, Sm.d]
theorem sum_n {ns : List Int} (hn : ns.length ≤ 63) (S : Sto) : ∀ (f n : Nat) (at' : Int), n < f → recN F_l_sum f [scrD ns, .int at', .int (n : Nat)] S = .ok (sumM ns n at').d S
  | 0, n, at', h => absurd h (Nat.not_lt_zero _)
  | f + 1, n, at', h => sum_1 hn (recN F_l_sum f) S n at' fun m at'' e => sum_n hn S f m at'' (by omega)
theorem sum_law {ns : List Int} (hn : ns.length ≤ 63) {S : Sto} {n : Nat} {at' : Int} (h : n < 5) : G_l_sum [scrD ns, .int at', .int (n : Nat)] S = .ok (sumM ns n at').d S := sum_n hn S 5 n at' h
def rowM (ns : List Int) (at' : Int) (size : Nat) : Row :=
  let way := drawnM ns at' 16
  let place := (drawnM ns (at' + 1) (size + 1)).toNat
  let name : Fin 6 := [0, 1, 2].getD (drawnM ns (at' + 2) 3).toNat 0
  let one := sumM ns 2 (at' + 3)
  if way < 5 then .set name one
  else if way < 7 then .put (sumM ns 1 (at' + 9)) one
  else if way = 7 then .ask name
  else if way = 8 then .say one
  else if way = 9 then .jump place
  else if way = 10 then .unless one place
  else if way = 11 then .unless (.name name) place
  else if way < 14 then .call place
  else if way = 14 then .back
  else if place % 2 = 0 then .stop else .back
theorem rowM_ok (ns : List Int) (at' : Int) (size : Nat) : (rowM ns at' size).ok size := by
  have h3 := sumM_ok ns 2 (at' + 3)
  have h9 := sumM_ok ns 1 (at' + 9)
  have hp := drawn_rng (ns := ns) (k := at' + 1) (many := size + 1) (by omega)
  have hp' : (drawnM ns (at' + 1) (size + 1)).toNat ≤ size := by omega
  unfold rowM
  simp only
  split
  · exact ⟨h3.1, by have := h3.2; omega⟩
  split
  · exact ⟨⟨h9.1, by have := h9.2; omega⟩, h3.1, by have := h3.2; omega⟩
  split
  · exact trivial
  split
  · exact ⟨h3.1, by have := h3.2; omega⟩
  split
  · exact hp'
  split
  · exact ⟨⟨h3.1, by have := h3.2; omega⟩, hp'⟩
  split
  · exact ⟨⟨trivial, by show 0 < 9; decide⟩, hp'⟩
  split
  · exact hp'
  split
  · exact trivial
  split
  · exact trivial
  · exact trivial
theorem row_law {ns : List Int} (hn : ns.length ≤ 63) {S : Sto} {size : Nat} {at' : Int} : G_l_row [scrD ns, .int at', .int (size : Nat)] S = .ok (rowM ns at' size).d S := by
  unfold G_l_row F_l_row
  rw [fnB3]
  have d16 := drawn_law (S := S) hn (k := at') (many := 16) (by decide)
  have dp := drawn_law (S := S) hn (k := at' + 1) (many := size + 1) (by omega)
  have d3 := drawn_law (S := S) hn (k := at' + 2) (many := 3) (by decide)
  have r16 := drawn_rng (ns := ns) (k := at') (many := 16) (by decide)
  have rp := drawn_rng (ns := ns) (k := at' + 1) (many := size + 1) (by omega)
  have r3 := drawn_rng (ns := ns) (k := at' + 2) (many := 3) (by decide)
  have e3 := abc_ix (S := S) r3
  have s2 : G_l_sum [scrD ns, .int (at' + 3), .int 2] S = .ok (sumM ns 2 (at' + 3)).d S := sum_law hn (n := 2) (by decide)
  have s1 : G_l_sum [scrD ns, .int (at' + 9), .int 1] S = .ok (sumM ns 1 (at' + 9)).d S := sum_law hn (n := 1) (by decide)
  obtain ⟨pl, hpl⟩ := Int.eq_ofNat_of_zero_le rp.1
  unfold rowM
  simp [d16, dp, d3, e3, s2, hpl]
  generalize ([0, 1, 2] : List (Fin 6))[(drawnM ns (at' + 2) 3).toNat]?.getD 0 = name
  generalize sumM ns 2 (at' + 3) = one at s2 ⊢
  generalize drawnM ns at' 16 = way at r16 ⊢
  by_cases c5 : way < 5
  · simp [c5, lim, Row.d]
  by_cases c7 : way < 7
  · simp [c5, c7, lim, Row.d, s1]
  have cs : way = 7 ∨ way = 8 ∨ way = 9 ∨ way = 10 ∨ way = 11 ∨ way = 12 ∨ way = 13 ∨ way = 14 ∨ way = 15 := by omega
  have ix2 : ∀ (x y : D), atI [x, y] ((pl : Int) % 2) = some (if pl % 2 = 0 then x else y) := by
    intro x y
    rcases (by omega : pl % 2 = 0 ∨ pl % 2 = 1) with q | q
    · rw [show (pl : Int) % 2 = 0 by omega, q]; rfl
    · rw [show (pl : Int) % 2 = 1 by omega, q]; rfl
  rcases cs with rfl | rfl | rfl | rfl | rfl | rfl | rfl | rfl | rfl
  · simp [lim, Row.d, Sm.d, ix2]
  · simp [lim, Row.d, Sm.d, ix2]
  · simp [lim, Row.d, Sm.d, ix2]
  · simp [lim, Row.d, Sm.d, ix2]
  · simp [lim, Row.d, Sm.d, ix2]
  · simp [lim, Row.d, Sm.d, ix2]
  · simp [lim, Row.d, Sm.d, ix2]
  · simp [lim, Row.d, Sm.d, ix2]
  · simp [lim, Row.d, Sm.d, ix2]
    split <;> rfl
end Bt
namespace Bt
open PySem PySem.Spec PyProof.Rows L2
theorem compL_map {step : D → Sto → Option (Option D × Sto)} {h : D → D} {S : Sto} : ∀ (l acc : List D), (∀ d ∈ l, step d S = some (some (h d), S)) → acc.length + l.length ≤ lim → compL step l acc S = .ok (.lst (acc ++ l.map h)) S
  | [], acc, _, _ => by simp [compL]
  | d :: l, acc, e, b => by
    have b' : acc.length + (l.length + 1) ≤ lim := b
    unfold compL
    rw [e d List.mem_cons_self]
    simp only
    rw [if_pos (by omega), compL_map l (acc ++ [h d]) (fun x hx => e x (List.mem_cons_of_mem _ hx)) (by simp; omega)]
    simp
theorem comp_rng {i : Nat} {fn fe : Ex} {ρ : Env} {S : Sto} {n : Nat} {g : Nat → D} (hn : fn ρ S = .ok (.int (n : Nat)) S) (hl : n ≤ lim)
    (he : ∀ j, j < n → fe ((wipeD ρ [i]).set i (some (.int (j : Nat)))) S = .ok (g j) S) : eComp [i] (iRange1 fn) (dN i) eYes fe ρ S = .ok (.lst ((List.range n).map g)) S := by
  have hl' : (n : Int) ≤ (lim : Int) := by exact Int.ofNat_le.mpr hl
  have e1 : iRange1 fn ρ S = .ok (.tup (rngD 0 n)) S := by
    unfold iRange1
    rw [hn]
    simp only [ER.bind_ok]
    rw [if_pos ⟨by omega, hl'⟩]; rfl
  unfold eComp
  rw [e1]
  simp only [ER.bind_ok]
  rw [compL_map (h := fun d => match d with | .int k => g k.toNat | _ => .non) (rngD 0 n) []]
  · unfold rngD
    rw [List.map_map, List.nil_append]
    congr 2
    apply List.map_congr_left
    intro a _
    show g ((0 : Int) + (a : Nat)).toNat = g a
    congr 1; omega
  · intro d hd
    unfold rngD at hd
    obtain ⟨j, hj, rfl⟩ := List.mem_map.mp hd
    have hj' := List.mem_range.mp hj
    have ej : (0 : Int) + (j : Nat) = (j : Nat) := by omega
    unfold stepC dN
    simp only [ej]
    rw [show eYes ((wipeD ρ [i]).set i (some (.int (j : Nat)))) S = .ok (.bl true) S from rfl]
    simp only
    rw [he j hj', Int.toNat_natCast]
  · unfold rngD; simp; exact hl
def prgM (ns : List Int) (at' : Int) : Prg :=
  if drawnM ns (at' + 1) 4 = 0 then
    [.ask 0, .call 4, .say (.name 0), .jump 0, .put (.name 0) (.num (drawnM ns (at' + 2) 9)), .call 7, .back,
      .set 1 (if drawnM ns (at' + 3) 2 = 0 then .add (.name 1) (.name 0) else .sub (.name 1) (.name 0)), .back]
  else (List.range (1 + drawnM ns at' 9).toNat).map fun (k : Nat) => rowM ns (at' + 10 + 40 * (k : Int)) (1 + drawnM ns at' 9).toNat
theorem prgM_ok (ns : List Int) (at' : Int) : PrgOk (prgM ns at') ∧ (prgM ns at').length ≤ 9 := by
  have r9 := drawn_rng (ns := ns) (k := at') (many := 9) (by decide)
  have r2 := drawn_rng (ns := ns) (k := at' + 2) (many := 9) (by decide)
  unfold prgM
  split
  · refine ⟨⟨?_, by simp⟩, by simp⟩
    intro r hr
    simp only [List.mem_cons, List.not_mem_nil, or_false] at hr
    rcases hr with rfl | rfl | rfl | rfl | rfl | rfl | rfl | rfl | rfl
    · exact trivial
    · show 4 ≤ 9; decide
    · exact ⟨trivial, by decide⟩
    · show 0 ≤ 9; decide
    · exact ⟨⟨trivial, by decide⟩, ⟨by omega, by omega⟩, by show 0 < 9; decide⟩
    · show 7 ≤ 9; decide
    · exact trivial
    · split
      · exact ⟨⟨trivial, trivial⟩, by decide⟩
      · exact ⟨⟨trivial, trivial⟩, by decide⟩
    · exact trivial
  · refine ⟨⟨?_, by simp; omega⟩, by simp; omega⟩
    intro r hr
    obtain ⟨k, _, rfl⟩ := List.mem_map.mp hr
    simp only [List.length_map, List.length_range]
    exact rowM_ok _ _ _
theorem prg_law {ns : List Int} (hn : ns.length ≤ 63) {S : Sto} {at' : Int} : G_l_program [scrD ns, .int at'] S = .ok (prgD (prgM ns at')) S := by
  unfold G_l_program F_l_program
  rw [fnB2]
  have d9 := drawn_law (S := S) hn (k := at') (many := 9) (by decide)
  have d4 := drawn_law (S := S) hn (k := at' + 1) (many := 4) (by decide)
  have dd := drawn_law (S := S) hn (k := at' + 2) (many := 9) (by decide)
  have d2 := drawn_law (S := S) hn (k := at' + 3) (many := 2) (by decide)
  have r9 := drawn_rng (ns := ns) (k := at') (many := 9) (by decide)
  have r2 := drawn_rng (ns := ns) (k := at' + 3) (many := 2) (by decide)
  unfold prgM
  by_cases c : drawnM ns (at' + 1) 4 = 0
  · rcases (by omega : drawnM ns (at' + 3) 2 = 0 ∨ drawnM ns (at' + 3) 2 = 1) with q | q
    · simp [d9, d4, dd, d2, c, q, lim, prgD, Row.d, Sm.d]
      exact ⟨rfl, rfl, rfl⟩
    · simp [d9, d4, dd, d2, c, q, lim, prgD, Row.d, Sm.d]
      exact ⟨rfl, rfl, rfl⟩
  · obtain ⟨m, hm⟩ := Int.eq_ofNat_of_zero_le r9.1
    have e := comp_rng (i := 6) (fn := eVar 2) (fe := eCall G_l_row (eCons (eVar 0) (eCons (eOp opAdd (eOp opAdd (eVar 1) (eC (.int 10))) (eOp opMul (eC (.int 40)) (eVar 6))) (eCons (eVar 2) eNil))))
      (ρ := [some (scrD ns), some (.int at'), some (.int (1 + m)), none, none, none, none]) (S := S) (n := 1 + m) (g := fun k => (rowM ns (at' + 10 + 40 * k) (1 + m)).d) (by simp) (by unfold lim; omega) (by
        intro j hj
        have e := row_law (S := S) hn (size := 1 + m) (at' := at' + 10 + 40 * j)
        simp at e
        simp [wipeD, e])
    have em : (1 + (m : Int)).toNat = 1 + m := by omega
    simp [d9, d4, c, hm, e, prgD]
    rw [em]; rfl
def asM (ns : List Int) (at' : Int) : List Int := (List.range (drawnM ns at' 4).toNat).map fun (k : Nat) => [0, 1, 5, 10006].getD (drawnM ns (at' + 1 + (k : Int)) 4).toNat 0
theorem asM_ok (ns : List Int) (at' : Int) : (∀ n ∈ asM ns at', Wo n) ∧ (asM ns at').length ≤ 3 := by
  have r4 := drawn_rng (ns := ns) (k := at') (many := 4) (by decide)
  unfold asM
  refine ⟨?_, by simp; omega⟩
  intro n hn
  obtain ⟨k, _, rfl⟩ := List.mem_map.mp hn
  exact getD_wo (by
      intro n hn
      simp only [List.mem_cons, List.not_mem_nil, or_false] at hn
      rcases hn with rfl | rfl | rfl | rfl <;> exact ⟨by decide, by decide⟩) _
theorem as_law {ns : List Int} (hn : ns.length ≤ 63) {S : Sto} {at' : Int} : G_l_asked [scrD ns, .int at'] S = .ok (asD (asM ns at')) S := by
  unfold G_l_asked F_l_asked
  rw [fnB2]
  have d4 := drawn_law (S := S) hn (k := at') (many := 4) (by decide)
  have r4 := drawn_rng (ns := ns) (k := at') (many := 4) (by decide)
  obtain ⟨m, hm⟩ := Int.eq_ofNat_of_zero_le r4.1
  unfold asM asD
  rw [hm] at d4 ⊢
  have ix : ∀ i : Int, 0 ≤ i ∧ i < 4 → atI [D.int 0, .int 1, .int 5, .int 10006] i = some (.int ([0, 1, 5, 10006].getD i.toNat 0)) := by
    intro i hi
    rcases four i hi with rfl | rfl | rfl | rfl <;> rfl
  have e := comp_rng (i := 2) (fn := eCall G_l_drawn (eCons (eVar 0) (eCons (eVar 1) (eCons (eC (.int 4)) eNil)))) (fe := eOp opIx (eLst (eCons (eC (.int 0)) (eCons (eC (.int 1)) (eCons (eC (.int 5)) (eCons (eC (.int 10006)) eNil))))) (eCall G_l_drawn (eCons (eVar 0) (eCons (eOp opAdd (eOp opAdd (eVar 1) (eC (.int 1))) (eVar 2)) (eCons (eC (.int 4)) eNil)))))
      (ρ := [some (scrD ns), some (.int at'), none]) (S := S) (n := m) (g := fun k => D.int ([0, 1, 5, 10006].getD (drawnM ns (at' + 1 + k) 4).toNat 0)) (by simp [d4]) (by unfold lim; omega) (by
        intro j hj
        have e := drawn_law (S := S) hn (k := at' + 1 + j) (many := 4) (by decide)
        have r := drawn_rng (ns := ns) (k := at' + 1 + j) (many := 4) (by decide)
        have r' := ix _ r
        simp [wipeD, e, lim, r'])
  simp [e]
end Bt
namespace Bt
open PySem PySem.Spec PyProof.Rows L2
theorem ne_same {S : Sto} {d : D} (h : d.good = true) : opNe S d d = some (.bl false) := by rw [b_goodN h h, eqv_refl h]; rfl
end Bt
namespace Bt
open PySem PySem.Spec PyProof.Rows L2
section
variable {P P' : Nat → FV → V → Prop}
theorem FsFrom.get {f : Str} {x : FV} : ∀ {fs : List (Str × FV)} {vs : List (Str × V)} {j : Nat}, FsFrom P j fs vs → getF f fs = some x → ∃ v, vs.lookup f = some v ∧ P (j + ixF f fs) x v
  | [], [], _, _, e => nomatch e
  | (k, y) :: fs, (k', v) :: vs, j, h, e => by
    have hk : k = k' := h.1.1
    subst hk
    unfold getF at e
    unfold ixF
    by_cases q : k = f
    · rw [if_pos q] at e ⊢
      cases e
      refine ⟨v, ?_, h.1.2⟩
      rw [List.lookup, beq_iff_eq.mpr q.symm]
    · rw [if_neg q] at e ⊢
      obtain ⟨u, h1, h2⟩ := FsFrom.get h.2 e
      refine ⟨u, ?_, by rwa [show j + (ixF f fs + 1) = j + 1 + ixF f fs by omega]⟩
      rw [List.lookup, beq_eq_false_iff_ne.mpr fun z => q z.symm]; exact h1
/-- a field is told anew, its value standing where it stood; the others are as they were -/
theorem FsFrom.swap {f : Str} {x : FV} : ∀ {fs : List (Str × FV)} {vs : List (Str × V)} {j : Nat}, FsFrom P j fs vs → (∀ i x y, j ≤ i → i ≠ j + ixF f fs → P i x y → P' i x y) → (∀ v, vs.lookup f = some v → P' (j + ixF f fs) x v) → (getF f fs).isSome = true → FsFrom P' j (setF f x fs) vs
  | [], [], _, _, _, _, h => nomatch h
  | (k, y) :: fs, (k', u) :: vs, j, h, m, e, hs => by
    have hk : k = k' := h.1.1
    subst hk
    unfold getF at hs
    unfold ixF at e m
    unfold setF
    by_cases q : k = f
    · rw [if_pos q] at e hs m
      rw [if_pos q]
      exact ⟨⟨rfl, e u (by rw [List.lookup, beq_iff_eq.mpr q.symm])⟩, h.2.map fun i x y hi => m i x y (by omega) (by omega)⟩
    · rw [if_neg q] at e hs m
      rw [if_neg q]
      refine ⟨⟨h.1.1, m j _ _ (Nat.le_refl _) (by omega) h.1.2⟩, FsFrom.swap h.2 (fun i x y hi hne => m i x y (by omega) (by omega)) (fun v hv => ?_) hs⟩
      have := e v (by rw [List.lookup, beq_eq_false_iff_ne.mpr fun z => q z.symm]; exact hv)
      rwa [show j + (ixF f fs + 1) = j + 1 + ixF f fs by omega] at this
end
section
variable {K : PySem.W.Frag} {g : G} {H : Hp} {n : Nat} {fs : List (Str × FV)} {vs : List (Str × V)}
/-- a field at its place does not mind what is written at another place of the instance -/
theorem FVAt.upd {j i : Nat} {x : FV} {y : V} {b : Addr} {o : HO} (h : FVAt K g H n j x y) (hb : g.own b = some (n, i)) (hi : i ≠ j + 1) : FVAt K g (upd H b o) n j x y := by
  have ne : ∀ a, g.own a = some (n, j + 1) → a ≠ b := fun a ha z => by subst z; rw [hb] at ha; cases ha; exact hi rfl
  cases x with
  | d z => exact h
  | l xs =>
    obtain ⟨a, us, r1, r2, r3, r4⟩ := h
    exact ⟨a, us, r1, r2, by rw [upd_ne (ne a r2)]; exact r3, r4⟩
  | k xs =>
    obtain ⟨a, us, r1, r2, r3, r4⟩ := h
    exact ⟨a, us, r1, r2, by rw [upd_ne (ne a r2)]; exact r3, r4⟩
end
theorem insAt_some {c : Str} {S : Sto} {d : D} {n : Nat} {fs : List (Str × FV)} (h : insAt c S d = some (n, fs)) : d = .obj n ∧ S[n]? = some (.inst c fs) := by
  cases d with
  | obj m =>
    have h' : (match S[m]? with | some (.inst c' fs) => if c' = c then some (m, fs) else none | _ => none) = some (n, fs) := h
    cases e : S[m]? with
    | none => rw [e] at h'; cases h'
    | some o =>
      rw [e] at h'
      cases o with
      | inst c' gs =>
        have h2 : (if c' = c then some (m, gs) else none) = some (n, fs) := h'
        by_cases q : c' = c
        · rw [if_pos q] at h2; cases h2; subst q; exact ⟨rfl, e⟩
        · rw [if_neg q] at h2; cases h2
      | _ => cases h'
  | _ => cases h
theorem rdAt_some {c : Str} {S : Sto} {d : D} {fs : List (Str × FV)} (h : rdAt c S d = some fs) : ∃ n, d = .obj n ∧ (S[n]? = some (.inst c fs) ∨ S[n]? = some (.lki c fs)) := by
  cases d with
  | obj m =>
    have h' : (match S[m]? with | some (.inst c' fs) => if c' = c then some fs else none | some (.lki c' fs) => if c' = c then some fs else none | _ => none) = some fs := h
    cases e : S[m]? with
    | none => rw [e] at h'; cases h'
    | some o =>
      rw [e] at h'
      cases o with
      | inst c' gs =>
        have h2 : (if c' = c then some gs else none) = some fs := h'
        by_cases q : c' = c
        · rw [if_pos q] at h2; cases h2; subst q; exact ⟨m, rfl, .inl e⟩
        · rw [if_neg q] at h2; cases h2
      | lki c' gs =>
        have h2 : (if c' = c then some gs else none) = some fs := h'
        by_cases q : c' = c
        · rw [if_pos q] at h2; cases h2; subst q; exact ⟨m, rfl, .inr e⟩
        · rw [if_neg q] at h2; cases h2
      | _ => cases h'
  | _ => cases h
/-- what a field that is read stands for -/
def FVR (K : PySem.W.Frag) (g : G) (H : Hp) : FV → V → Prop
  | .d x, v => RepG K g x v
  | .l _, _ => True
  | .k kvs, v => ∃ a ks, v = .ref a ∧ Rd H a (.dK ks) ∧ KReps K g kvs ks
section
variable {K : PySem.W.Frag} {g : G} {S : Sto} {H : Hp} {c : Str} {n : Nat} {fs : List (Str × FV)}
theorem World.rd (w : World K g S H) {d : D} (h : rdAt c S d = some fs) {v : V} (r : RepG K g d v) : ∃ a dx vs, v = .ref a ∧ H a = some (.ins (He.ga K c) dx vs) ∧ FsFrom (fun _ => FVR K g H) 0 fs vs := by
  obtain ⟨n, rfl, q⟩ := rdAt_some h
  rcases q with q | q
  · obtain ⟨a, dx, vs, h1, h2, h3, h4⟩ := w.at_ n _ q
    cases r with
    | obj e =>
      rw [h1] at e; cases e
      refine ⟨_, dx, vs, rfl, h3, (fvs_from.mp h4).map fun i x y _ hx => ?_⟩
      cases x with
      | d z => exact hx
      | l z => trivial
      | k z => obtain ⟨b, ks, r1, r2, r3, r4⟩ := hx; exact ⟨b, ks, r1, .inl r3, r4⟩
  · obtain ⟨a, dx, vs, h1, h2, h3, h4⟩ := w.at_ n _ q
    cases r with
    | obj e =>
      rw [h1] at e; cases e
      refine ⟨_, dx, vs, rfl, (w.pin _ _ h2).1, (FsFrom.of (P := fun _ => FVL K g) h3 h4).map fun i x y _ hx => ?_⟩
      cases x with
      | d z => exact hx
      | l z => trivial
      | k z => obtain ⟨b, ks, o, r1, r2, r3⟩ := hx; exact ⟨b, ks, r1, .inr ⟨o, (w.pin _ _ r2).1⟩, r3⟩
/-- a field is set -/
theorem World.setFld (w : World K g S H) (h : S[n]? = some (.inst c fs)) {v : V} (r : RepG K g (.obj n) v) {f : Str} {x : FV} {y : V} (hx : FVAt K g H n (ixF f fs) x y) :
    ∃ a dx vs, v = .ref a ∧ H a = some (.ins (He.ga K c) dx vs) ∧ vs.length = fs.length ∧ World K g (S.set n (.inst c (setF f x fs))) (upd H a (.ins (He.ga K c) dx (putF f y vs))) := by
  obtain ⟨a, dx, vs, e, h1, h2, h3, h4⟩ := w.ins h r
  refine ⟨a, dx, vs, e, h3, h4.to.1.symm, w.write h2 ⟨a, dx, _, h1, h2, upd_same, fvs_from.mpr ?_⟩⟩
  have hz : ∀ j : Nat, (0 : Nat) ≠ j + 1 := fun j => by omega
  exact (h4.map (P' := FVAt K g (upd H a (.ins (He.ga K c) dx (putF f y vs))) n) fun i x y _ q => q.upd h2 (hz i)).put (by rw [Nat.zero_add]; exact hx.upd h2 (hz _))
/-- the dict of a field is written -/
theorem World.putDict (w : World K g S H) (h : S[n]? = some (.inst c fs)) {v : V} (r : RepG K g (.obj n) v) {f : Str} {kvs kvs' : List (Key × D)} (hf : getF f fs = some (.k kvs)) :
    ∃ a dx vs b ks, v = .ref a ∧ H a = some (.ins (He.ga K c) dx vs) ∧ vs.lookup f = some (.ref b) ∧ H b = some (.dK ks) ∧ KReps K g kvs ks ∧
      ∀ ks', KReps K g kvs' ks' → World K g (S.set n (.inst c (setF f (.k kvs') fs))) (upd H b (.dK ks')) := by
  obtain ⟨a, dx, vs, e, h1, h2, h3, h4⟩ := w.ins h r
  obtain ⟨y, hy, b, ks, rfl, ob, hb, hk⟩ := h4.get hf
  rw [Nat.zero_add] at ob
  refine ⟨a, dx, vs, b, ks, e, h3, hy, hb, hk, fun ks' hk' => ?_⟩
  have ab : a ≠ b := by intro z; subst z; rw [h2] at ob; cases ob
  refine w.write ob ⟨a, dx, vs, h1, h2, by rw [upd_ne ab]; exact h3, fvs_from.mpr ?_⟩
  refine h4.swap (fun i x y _ hi q => q.upd ob (by omega)) (fun v hv => ?_) (by rw [hf]; rfl)
  rw [hy] at hv; cases hv
  rw [Nat.zero_add]
  exact ⟨b, ks', rfl, ob, upd_same, hk'⟩
/-- a held dict becomes the field's own -/
def G.give (g : G) (p : Addr) (n j : Nat) : G := { g with own := fun b => if b = p then some (n, j + 1) else g.own b, pin := fun b => if b = p then none else g.pin b }
theorem World.give (w : World K g S H) {p : Addr} {ks : List (Key × V)} {j : Nat} (hp : g.pin p = some (.dK ks)) : World K (g.give p n j) S H := by
  obtain ⟨q1, q2, q3⟩ := w.pin p _ hp
  have ne : ∀ {b q}, g.own b = some q → b ≠ p := fun {b q} h z => by subst z; rw [q3] at h; cases h
  refine ⟨w.sub, w.len, fun m x h => (w.at_ m x h).monoS ⟨fun _ _ h => h, fun _ _ h => h⟩ (fun b i hb => ⟨?_, rfl⟩) fun b o' h l => ?_, fun b q hb => ?_, fun b x hb => ?_⟩
  · show (if b = p then _ else _) = _
    rw [if_neg (ne hb)]; exact hb
  · show (if b = p then _ else _) = _
    rw [if_neg]; exact h
    intro z; subst z; rw [hp] at h; cases h; exact lko_dK l
  · have hb' : (if b = p then some (n, j + 1) else g.own b) = some q := hb
    by_cases e : b = p
    · subst e; exact ⟨q2, by rw [q1]; rfl⟩
    · rw [if_neg e] at hb'; exact w.free b q hb'
  · have hb' : (if b = p then none else g.pin b) = some x := hb
    by_cases e : b = p
    · rw [if_pos e] at hb'; cases hb'
    · rw [if_neg e] at hb'
      obtain ⟨r1, r2, r3⟩ := w.pin b x hb'
      refine ⟨r1, r2, ?_⟩
      show (if b = p then _ else _) = _
      rw [if_neg e]; exact r3
end
end Bt
namespace Bt
open PySem PySem.Spec PyProof.Rows L2
/-- C(..) -/
def eMake (c : Str) (F : Fn) (fa : Ex) : Ex := fun ρ S => (fa ρ S).bind fun t S1 => match t with
  | .tup l => (match F (.obj S1.length :: l) (S1 ++ [.inst c []]) with
    | .ok .non S2 => .ok (.obj S1.length) S2
    | _ => .bad)
  | _ => .bad
/-- a method of a class of the text -/
structure MCal (P : Program) (w : PySem.World) (K : PySem.W.Frag) (mg : Str → Option Value) (base : Heap) (c m : Str) (k : Nat) (F : Fn) : Prop where
  ex : ∃ f fd ps, Cls K (He.ga K c) ∧ Meth K (He.ga K c) m f ∧ Binds K fd ps [] ∧ FnOk P w K mg base (L2.CX P w) k f fd ps (spOf K F)
/-- a class of the text, by its __init__ -/
structure KCal (P : Program) (w : PySem.World) (K : PySem.W.Frag) (mg : Str → Option Value) (base : Heap) (c : Str) (k : Nat) (F : Fn) : Prop where
  ex : ∃ f fd ps, mg c = some (.ref (He.ga K c)) ∧ Mk K (He.ga K c) f ∧ Binds K fd ps [] ∧ FnOk P w K mg base (L2.CX P w) k f fd ps (spOf K F)
section
variable {X : Cx} {W : WX} {o v : Expr} {c f : Str} {pos pos' : Pos} {fo fv fa : Ex}
theorem je_fld (he : JE X W o fo) (cl : Cls X.K (He.ga X.K c)) (na : NoAttr X.K (He.ga X.K c) f) (hb : attributeBase o f X.env (eval o X.env) = eval o X.env := by rfl) : JE X W (.Attribute o f pos) (eFld c f fo) :=
  ⟨peImp (pe_fld he.run hb) fun σ H Q ⟨g, S, ρ, w, rs, q⟩ => ⟨g, S, ρ, w, rs, Post.of_bind q fun d S1 v g1 H1 _ e1 w1 r1 q1 => by
    cases er : rdAt c S1 d with
    | none => simp only [er] at q1; exact q1.elim
    | some fs =>
      simp only [er] at q1
      cases ef : getF f fs with
      | none => simp only [ef] at q1; exact q1.elim
      | some x =>
        cases x with
        | d x =>
          simp only [ef] at q1
          obtain ⟨a, dx, vs, ea, ha, hf⟩ := w1.rd er r1
          obtain ⟨y, hy, ry⟩ := hf.get ef
          exact ⟨a, _, dx, vs, y, ea, ha, cl, na, hy, q1.val w1 ry⟩
        | l x => simp only [ef] at q1; exact q1.elim
        | k x => simp only [ef] at q1; exact q1.elim⟩⟩
theorem js_fld (ho : JE X W o fo) (hv : JE X W v fv) (cl : Cls X.K (He.ga X.K c)) (na : NoAttr X.K (He.ga X.K c) f) (hs : swapsWith v (some (.Attribute o f pos')) pos.line X.env = pure false := by rfl) : JS X W (.Assign [.Attribute o f pos'] v pos) (sFldS c f fo fv) :=
  ⟨psImp (ps_fld ho.run hv.run hs) fun N σ H ⟨g, S, ρ, w, rs, q⟩ => ⟨g, S, ρ, w, rs, PostS.of_er q rs fun x S1 vx g1 H1 _ e1 w1 r1 q1 =>
    ⟨g1, S1, ρ, w1, rs.mono e1, PostS.of_er q1 (rs.mono e1) fun d S2 vd g2 H2 _ e2 w2 r2 q2 => by
      cases er : insAt c S2 d with
      | none => simp only [er] at q2; exact q2.elim
      | some nf =>
        obtain ⟨n, fs⟩ := nf
        simp only [er] at q2
        obtain ⟨rfl, hS⟩ := insAt_some er
        by_cases hl : fs.length < 1000
        · rw [if_pos hl] at q2
          obtain ⟨a, dx, vs, ea, ha, hlen, w3⟩ := w2.setFld hS r2 (f := f) (x := .d x) (y := vx) (e2.rep r1)
          exact ⟨a, _, dx, vs, ea, ha, cl, na, by rw [hlen]; exact hl, q2 σ g2 _ (GExt.refl _) w3 (rs.mono (e1.trans e2))⟩
        · rw [if_neg hl] at q2; exact q2.elim⟩⟩⟩
end
/-- o.m(e, ..), exceptions by slots -/
def tMethS' (C : Addr) (m : Str) (sp : Sp) (E : L2.St → XK) (ta : TE) (t : TA) : TE := fun σ H Q => ta σ H fun x H1 => ∃ a dx fs, x = .ref a ∧ H1 a = some (.ins C dx fs) ∧ fs.lookup m = none ∧
  t σ H1 fun vs H2 => sp (x :: vs) H2 Q (E σ)
section
variable {X : Cx} {CX : CXT} {k : Nat} {f C : Addr} {fd : FuncData} {ps : List Str} {sp : Sp} {E : L2.St → XK} {m : Str} {pos apos : Pos} {e o : Expr} {es : List Expr} {ta : TE} {t : TA}
theorem pe_methS' {pl : Sem Bool} (he : PE X o ta) (c : Cls X.K C) (hm : Meth X.K C m f) (F : FnOk X.prog X.w X.K X.mg X.base CX k f fd ps sp) (hr : Room k X.A) (hb : Binds X.K fd ps []) (hx : ∀ σ, PassesAt CX X σ (E σ)) (ha : PA X (e :: es) t)
    (hst : starEach (e :: es) X.env = (false, eval e X.env) :: starEach es X.env := by rfl) (hpl : (backTo pos (starEach es X.env)).any (·.1) = false := by rfl)
    (ht : eval (.Call (.Attribute o m apos) (e :: es) [] pos) X.env = (do
      let ov ← eval o X.env
      standAt apos.atName
      let (f, first) ← holding [ov] (getMethod ov m pl)
      callWith pos f first (backTo pos (starEach (e :: es) X.env)) (backToKw pos (keywordEach [] X.env))) := by rfl) :
    PE X (.Call (.Attribute o m apos) (e :: es) [] pos) (tMethS' C m sp E ta t) := by
  refine ⟨fun pins s σ H Q I h => ?_⟩
  refine PySem.W.methodCall_KW (pl := pl) (thn (he.run pins s σ H _ I h) fun u s1 ⟨x, H1, I1, rx, a, dx, fs, ex, ea, l, q⟩ => ?_) ht
  subst ex
  obtain rfl : u = Value.ref a := rx
  refine getmeth_ok I1 ea c hm l ?_
  refine PySem.W.callWith_K (first := [.ref a]) (h₀ := X.base) I.ok.mod.kin hm.kp (thn (ha.run pos pins s1 σ H1 _ I1 q) fun us s2 ⟨vs, H2, I2, r, q2⟩ => ⟨I2.kIn, ?_⟩) hst hpl
  exact run_fnS (us := .ref a :: us) (vs := .ref a :: vs) F hr hb (hx σ) I2 (.cons rfl r) q2
theorem pe_methS0' {pl : Sem Bool} (he : PE X o ta) (c : Cls X.K C) (hm : Meth X.K C m f) (F : FnOk X.prog X.w X.K X.mg X.base CX k f fd ps sp) (hr : Room k X.A) (hb : Binds X.K fd ps []) (hx : ∀ σ, PassesAt CX X σ (E σ))
    (ht : eval (.Call (.Attribute o m apos) [] [] pos) X.env = (do
      let ov ← eval o X.env
      standAt apos.atName
      let (f, first) ← holding [ov] (getMethod ov m pl)
      callWith pos f first (backTo pos (starEach [] X.env)) (backToKw pos (keywordEach [] X.env))) := by rfl) :
    PE X (.Call (.Attribute o m apos) [] [] pos) (tMethS' C m sp E ta tNil) := by
  refine ⟨fun pins s σ H Q I h => ?_⟩
  refine PySem.W.methodCall_KW (pl := pl) (thn (he.run pins s σ H _ I h) fun u s1 ⟨x, H1, I1, rx, a, dx, fs, ex, ea, l, q⟩ => ?_) ht
  subst ex
  obtain rfl : u = Value.ref a := rx
  refine getmeth_ok I1 ea c hm l ?_
  exact PySem.W.callWith_K0 (first := [.ref a]) I1.kIn hm.kp (run_fnS (us := [.ref a]) (vs := [.ref a]) F hr hb (hx σ) I1 (.cons rfl .nil) q)
end
section
variable {X : Cx} {W : WX} {o e : Expr} {es : List Expr} {c m : Str} {k : Nat} {F : Fn} {pos apos p : Pos} {fo fa : Ex}
theorem meth_imp {K : PySem.W.Frag} {W : WX} {C : Addr} {fo fa : Ex} {t : TA} (hC : C = He.ga K c) (ht : ∀ σ H Q, tA K W fa σ H Q → t σ H Q) : ∀ σ H Q, tE K W (eMCall c m F fo fa) σ H Q → tMethS' C m (spOf K F) (WE W) (tE K W fo) t σ H Q := fun σ H Q ⟨g, S, ρ, w, rs, q⟩ => ⟨g, S, ρ, w, rs, Post.of_bind q fun d S1 v g1 H1 _ e1 w1 r1 q1 => by
    cases er : rdAt c S1 d with
    | none => simp only [er] at q1; exact q1.elim
    | some fs =>
      simp only [er] at q1
      cases ef : getF m fs with
      | some x => simp only [ef] at q1; exact q1.elim
      | none =>
        simp only [ef] at q1
        obtain ⟨a, dx, vs, ea, ha, hf⟩ := w1.rd er r1
        subst hC
        refine ⟨a, dx, vs, ea, ha, hf.none ef, ht _ _ _ ⟨g1, S1, ρ, w1, rs.mono e1, ?_⟩⟩
        exact Post.of_args (k := fun l S2 => F (d :: l) S2) q1 fun l S2 us g2 H2 _ e2 w2 r2 q2 => ⟨g2, S2, d :: l, w2, .cons (e2.rep r1) r2, postF_of q2⟩⟩
theorem je_mcall (mc : MCal X.prog X.w X.K X.mg X.base c m k F) (hr : Room k X.A) (tk : Takes X W) (ho : JE X W o fo) (ha : JA X W (e :: es) fa) {pl : Sem Bool}
    (hst : starEach (e :: es) X.env = (false, eval e X.env) :: starEach es X.env := by rfl) (hpl : (backTo pos (starEach es X.env)).any (·.1) = false := by rfl)
    (ht : eval (.Call (.Attribute o m apos) (e :: es) [] pos) X.env = (do
      let ov ← eval o X.env
      standAt apos.atName
      let (f, first) ← holding [ov] (getMethod ov m pl)
      callWith pos f first (backTo pos (starEach (e :: es) X.env)) (backToKw pos (keywordEach [] X.env))) := by rfl) :
    JE X W (.Call (.Attribute o m apos) (e :: es) [] pos) (eMCall c m F fo fa) := by
  obtain ⟨f, fd, ps, h1, h2, h3, h4⟩ := mc.ex
  exact ⟨peImp (pe_methS' (pl := pl) (E := WE W) ho.run h1 h2 h4 hr h3 (fun σ => passAt tk σ) ha.run hst hpl ht) (meth_imp rfl fun _ _ _ x => x)⟩
theorem je_mcall0 (mc : MCal X.prog X.w X.K X.mg X.base c m k F) (hr : Room k X.A) (tk : Takes X W) (ho : JE X W o fo) {pl : Sem Bool}
    (ht : eval (.Call (.Attribute o m apos) [] [] pos) X.env = (do
      let ov ← eval o X.env
      standAt apos.atName
      let (f, first) ← holding [ov] (getMethod ov m pl)
      callWith pos f first (backTo pos (starEach [] X.env)) (backToKw pos (keywordEach [] X.env))) := by rfl) :
    JE X W (.Call (.Attribute o m apos) [] [] pos) (eMCall c m F fo eNil) := by
  obtain ⟨f, fd, ps, h1, h2, h3, h4⟩ := mc.ex
  exact ⟨peImp (pe_methS0' (pl := pl) (E := WE W) ho.run h1 h2 h4 hr h3 (fun σ => passAt tk σ) ht) (meth_imp rfl fun σ H Q ⟨g, S, ρ, w, rs, q⟩ => q [] g H (GExt.refl _) w .nil)⟩
/-- a new instance and its dict -/
theorem World.pushInst {K : PySem.W.Frag} {g : G} {S : Sto} {H : Hp} {C : Addr} (hC : C = He.ga K c) (w : World K g S H) {x dx : Addr} (hx : H x = none) (hd : H dx = none) (ne : dx ≠ x) :
    World K (g.obj x) (S ++ [.inst c []]) (upd (upd H dx (.own x)) x (.ins C dx [])) ∧ RepG K (g.obj x) (.obj S.length) (.ref x) ∧ GExt g (g.obj x) := by
  subst hC
  have e : (g.obj x).α[S.length]? = some x := by
    show (g.α ++ [x])[S.length]? = some x
    rw [← w.len]; exact getLast_app _ _
  -- the dict's place is no one's
  have w1 : World K g S (upd H dx (.own x)) := by
    refine ⟨fun a o h => ?_, w.len, fun n o h => (w.at_ n o h).mono (GExt.refl g) fun b j hb => ⟨hb, by rw [upd_ne (w.notown hd hb)]⟩, fun b q hb => ?_, fun b o hb => ?_⟩
    · rw [upd_ne (ne_of_none h (w.fresh hd))]; exact w.sub a o h
    · rw [upd_ne (w.notown hd hb)]; exact w.free b q hb
    · obtain ⟨h1, h2, h3⟩ := w.pin b o hb
      exact ⟨by rw [upd_ne (ne_of_none h1 hd)]; exact h1, h2, h3⟩
  have hx1 : upd H dx (.own x) x = none := by rw [upd_ne ne.symm]; exact hx
  refine ⟨w1.push hx1 ⟨x, dx, [], e, ?_, upd_same, ⟨rfl, fun j p q h => by simp at h⟩⟩, .obj e, gext_obj g x⟩
  show (if x = x then some (g.α.length, 0) else _) = _
  rw [if_pos rfl, w.len]
theorem je_make (kc : KCal X.prog X.w X.K X.mg X.base c k F) (hr : Room (k + 1) X.A) (ha : JA X W (e :: es) fa) (hg : Gl X c := by rfl) (hdb : (c == ("__debug__" : Str)) = false := by decide) (he : starEach (e :: es) X.env = (false, eval e X.env) :: starEach es X.env := by rfl) (hpl : (backTo pos (starEach es X.env)).any (·.1) = false := by rfl) :
    JE X W (.Call (.Name c p) (e :: es) [] pos) (eMake c F fa) := by
  obtain ⟨f, fd, ps, h1, h2, h3, h4⟩ := kc.ex
  refine ⟨peImp (pe_make (E := E0) h2 h4 hr hg h1 h3 .nil passL ha.run hdb he hpl) fun σ H Q ⟨g, S, ρ, w, rs, q⟩ => ⟨g, S, ρ, w, rs, Post.of_args (k := fun l S1 => match F (.obj S1.length :: l) (S1 ++ [.inst c []]) with | .ok .non S2 => .ok (.obj S1.length) S2 | _ => .bad) q fun l S1 us g1 H1 _ e1 w1 r1 q1 x dx hx hd ne => ?_⟩⟩
  obtain ⟨w2, r2, e2⟩ := w1.pushInst (c := c) rfl hx hd ne
  rw [List.append_nil]
  refine ⟨_, _, .obj S1.length :: l, w2, .cons r2 (e2.reps r1), ?_⟩
  cases eF : F (.obj S1.length :: l) (S1 ++ [.inst c []]) with
  | bad => rw [eF] at q1; exact q1.elim
  | exc k S2 => rw [eF] at q1; exact q1.elim
  | ok d S2 =>
    rw [eF] at q1
    cases d with
    | non =>
      intro v g3 H3 e3 w3 r3
      cases r3
      exact ⟨rfl, q1 _ g3 H3 (e2.trans e3) w3 (e3.rep r2)⟩
    | _ => exact q1.elim
end
end Bt
namespace Bt
open PySem PySem.Spec PyProof.Rows L2
/-- the dict of the field, to be read -/
def kRd (c f : Str) (i : Nat) (ρ : Env) (S : Sto) : Option (List (Key × D)) := match slotD ρ i with
  | some d => (match rdAt c S d with
    | some fs => (match getF f fs with
      | some (.k kvs) => some kvs
      | _ => none)
    | none => none)
  | none => none
/-- .., to be written -/
def kIn (c f : Str) (i : Nat) (ρ : Env) (S : Sto) : Option (Nat × List (Str × FV) × List (Key × D)) := match slotD ρ i with
  | some d => (match insAt c S d with
    | some (n, fs) => (match getF f fs with
      | some (.k kvs) => some (n, fs, kvs)
      | _ => none)
    | none => none)
  | none => none
theorem slotD_some {ρ : Env} {i : Nat} {d : D} (h : slotD ρ i = some d) : ρ[i]? = some (some d) := by
  unfold slotD at h
  cases e : ρ[i]? with
  | none => rw [e] at h; cases h
  | some o =>
    rw [e] at h
    cases o with
    | none => cases h
    | some d' => cases h; rfl
theorem kRd_some {c f : Str} {i : Nat} {ρ : Env} {S : Sto} {kvs : List (Key × D)} (h : kRd c f i ρ S = some kvs) : ∃ d fs, ρ[i]? = some (some d) ∧ rdAt c S d = some fs ∧ getF f fs = some (.k kvs) := by
  unfold kRd at h
  cases e : slotD ρ i with
  | none => rw [e] at h; cases h
  | some d =>
    rw [e] at h
    cases e2 : rdAt c S d with
    | none => simp only [e2] at h; cases h
    | some fs =>
      simp only [e2] at h
      cases e3 : getF f fs with
      | none => simp only [e3] at h; cases h
      | some x =>
        cases x with
        | k kvs' => simp only [e3] at h; cases h; exact ⟨d, fs, slotD_some e, e2, e3⟩
        | d x => simp only [e3] at h; cases h
        | l x => simp only [e3] at h; cases h
theorem kIn_some {c f : Str} {i : Nat} {ρ : Env} {S : Sto} {n : Nat} {fs : List (Str × FV)} {kvs : List (Key × D)} (h : kIn c f i ρ S = some (n, fs, kvs)) : ρ[i]? = some (some (.obj n)) ∧ S[n]? = some (.inst c fs) ∧ getF f fs = some (.k kvs) := by
  unfold kIn at h
  cases e : slotD ρ i with
  | none => rw [e] at h; cases h
  | some d =>
    rw [e] at h
    cases e2 : insAt c S d with
    | none => simp only [e2] at h; cases h
    | some nf =>
      obtain ⟨n', fs'⟩ := nf
      simp only [e2] at h
      cases e3 : getF f fs' with
      | none => simp only [e3] at h; cases h
      | some x =>
        cases x with
        | k kvs' =>
          simp only [e3] at h; cases h
          obtain ⟨rfl, hS⟩ := insAt_some e2
          exact ⟨slotD_some e, hS, e3⟩
        | d x => simp only [e3] at h; cases h
        | l x => simp only [e3] at h; cases h
/-- what the text's self.f reads -/
theorem kfld_read {K : PySem.W.Frag} {c f : Str} {i : Nat} {g : G} {S : Sto} {ρ : Env} {σ : L2.St} {H : Hp} {kvs : List (Key × D)} (w : World K g S H) (rs : RelSt K g σ ρ) (h : kRd c f i ρ S = some kvs) (cl : Cls K (He.ga K c)) (na : NoAttr K (He.ga K c) f)
    {Q : VK} (q : ∀ b ks, Rd H b (.dK ks) → KReps K g kvs ks → Q (.ref b) H) : tFld K (tVar i) f σ H Q := by
  obtain ⟨d, fs, h1, h2, h3⟩ := kRd_some h
  obtain ⟨v, hv, rv⟩ := rs.at_ i d h1
  obtain ⟨a, dx, vs, ea, ha, hf⟩ := w.rd h2 rv
  obtain ⟨y, hy, b, ks, rfl, hb, hk⟩ := hf.get h3
  exact ⟨v, hv, a, _, dx, vs, .ref b, ea, ha, cl, na, hy, q b ks hb hk⟩
theorem kfld_write {K : PySem.W.Frag} {c f : Str} {i n : Nat} {g : G} {S : Sto} {ρ : Env} {σ : L2.St} {H : Hp} {fs : List (Str × FV)} {kvs : List (Key × D)} (w : World K g S H) (rs : RelSt K g σ ρ) (h : kIn c f i ρ S = some (n, fs, kvs)) (cl : Cls K (He.ga K c)) (na : NoAttr K (He.ga K c) f)
    {Q : VK} (q : ∀ b ks, H b = some (.dK ks) → KReps K g kvs ks → (∀ kvs' ks', KReps K g kvs' ks' → World K g (S.set n (.inst c (setF f (.k kvs') fs))) (upd H b (.dK ks'))) → Q (.ref b) H) : tFld K (tVar i) f σ H Q := by
  obtain ⟨h1, h2, h3⟩ := kIn_some h
  obtain ⟨v, hv, rv⟩ := rs.at_ i _ h1
  obtain ⟨a, dx, vs, e, ha1, ha2, ha3, hf⟩ := w.ins h2 rv
  obtain ⟨y, hy, b, ks, rfl, ob, hb, hk⟩ := hf.get h3
  refine ⟨v, hv, a, _, dx, vs, .ref b, e, ha3, cl, na, hy, q b ks hb hk fun kvs' ks' hk' => ?_⟩
  obtain ⟨a', dx', vs', b', ks2, e', ha', hy', hb', hk2, go⟩ := w.putDict (kvs' := kvs') h2 rv h3
  rw [e] at e'; cases e'
  rw [ha3] at ha'; cases ha'
  rw [hy] at hy'; cases hy'
  exact go ks' hk'
/-- self.f[y], y in the j-th slot -/
def eKIx (c f : Str) (i j : Nat) : Ex := fun ρ S => match kRd c f i ρ S with
  | some kvs => (match slotD ρ j with
    | some y => (match keyD y with
      | some k => lift1 (valD kvs k) S
      | none => .bad)
    | none => .bad)
  | none => .bad
/-- len(self.f) -/
def eKLen (c f : Str) (i : Nat) : Ex := fun ρ S => match kIn c f i ρ S with
  | some (_, _, kvs) => .ok (.int (kvs.length : Nat)) S
  | none => .bad
/-- self.f[y] = v -/
def sKPut (c f : Str) (i j : Nat) (fv : Ex) : Sx := fun ρ S => (fv ρ S).toS ρ fun x S1 => match kIn c f i ρ S1 with
  | some (n, fs, kvs) => (match slotD ρ j with
    | some y => (match keyD y with
      | some k => if kvs.length < lim then .nx ρ (S1.set n (.inst c (setF f (.k (putD kvs k x)) fs))) else .bad
      | none => .bad)
    | none => .bad)
  | none => .bad
section
variable {X : Cx} {W : WX} {v : Expr} {c f x y : Str} {i j : Nat} {p p2 p3 pos apos cpos : Pos} {fv : Ex}
theorem je_kix (hu : X.A.units + 1 < cLine) (cl : Cls X.K (He.ga X.K c)) (na : NoAttr X.K (He.ga X.K c) f) (hN : X.N[i]? = some x := by rfl) (hN2 : X.N[j]? = some y := by rfl)
    (hv : Vis X.env.scope x := by first | exact Or.inl rfl | exact Or.inr (Or.inl rfl) | exact Or.inr (Or.inr rfl)) (hv2 : Vis X.env.scope y := by first | exact Or.inl rfl | exact Or.inr (Or.inl rfl) | exact Or.inr (Or.inr rfl))
    (hd : (x == ("__debug__" : Str)) = false := by decide) (hcd : (x == ("__classdict__" : Str)) = false := by decide) (hd2 : (y == ("__debug__" : Str)) = false := by decide) (hcd2 : (y == ("__classdict__" : Str)) = false := by decide)
    (hb : attributeBase (.Name x p) f X.env (eval (.Name x p) X.env) = eval (.Name x p) X.env := by rfl) (hs : NoSl (.Name y p2) := by exact fun _ _ => rfl) : JE X W (.Subscript (.Attribute (.Name x p) f p3) (.Name y p2) pos) (eKIx c f i j) :=
  ⟨peImp (pe_dget hu (pe_fld (pe_var hN hv hd hcd) hb) (pe_var hN2 hv2 hd2 hcd2) hs) fun σ H Q ⟨g, S, ρ, w, rs, q⟩ => by
    unfold eKIx at q
    cases e : kRd c f i ρ S with
    | none => simp only [e] at q; exact q.elim
    | some kvs =>
      simp only [e] at q
      cases e2 : slotD ρ j with
      | none => simp only [e2] at q; exact q.elim
      | some dy =>
        simp only [e2] at q
        cases e3 : keyD dy with
        | none => simp only [e3] at q; exact q.elim
        | some k =>
          simp only [e3] at q
          obtain ⟨d, hd, q2⟩ := q.lift
          refine kfld_read w rs e cl na fun b ks hb hk => ?_
          obtain ⟨vy, h1, h2⟩ := rs.at_ j dy (slotD_some e2)
          have hy := kD_rep e3 h2
          subst hy
          obtain ⟨u, h3, h4⟩ := (hk.val k).2 d hd
          exact ⟨_, h1, b, u, rfl, .inl ⟨ks, k, hb, rfl, h3.symm⟩, q2.val w h4⟩⟩
theorem je_klen (hm : X.mg "len" = none) (cl : Cls X.K (He.ga X.K c)) (na : NoAttr X.K (He.ga X.K c) f) (hN : X.N[i]? = some x := by rfl)
    (hv : Vis X.env.scope x := by first | exact Or.inl rfl | exact Or.inr (Or.inl rfl) | exact Or.inr (Or.inr rfl)) (hd : (x == ("__debug__" : Str)) = false := by decide) (hcd : (x == ("__classdict__" : Str)) = false := by decide)
    (hb : attributeBase (.Name x p) f X.env (eval (.Name x p) X.env) = eval (.Name x p) X.env := by rfl) (hg : Gl X "len" := by rfl)
    (he : starEach [.Attribute (.Name x p) f p3] X.env = (false, eval (.Attribute (.Name x p) f p3) X.env) :: starEach [] X.env := by rfl) :
    JE X W (.Call (.Name "len" p2) [.Attribute (.Name x p) f p3] [] pos) (eKLen c f i) :=
  ⟨peImp (pe_callB call_lenD hg hm (by decide +kernel) (pa_cons (pe_fld (pe_var hN hv hd hcd) hb) pa_nil he) (by decide) (by decide) he rfl) fun σ H Q ⟨g, S, ρ, w, rs, q⟩ => by
    unfold eKLen at q
    cases e : kIn c f i ρ S with
    | none => simp only [e] at q; exact q.elim
    | some t =>
      obtain ⟨n, fs, kvs⟩ := t
      simp only [e] at q
      refine kfld_write w rs e cl na fun b ks hb hk _ => ?_
      refine ⟨b, ks, rfl, hb, ?_⟩
      have hl : ks.length = kvs.length := (Paired.length hk).symm
      rw [hl]
      exact q.val w (.int _)⟩
theorem js_kput (hu : X.A.units + 1 < cLine) (cl : Cls X.K (He.ga X.K c)) (na : NoAttr X.K (He.ga X.K c) f) (hval : JE X W v fv) (hN : X.N[i]? = some x := by rfl) (hN2 : X.N[j]? = some y := by rfl)
    (hv : Vis X.env.scope x := by first | exact Or.inl rfl | exact Or.inr (Or.inl rfl) | exact Or.inr (Or.inr rfl)) (hv2 : Vis X.env.scope y := by first | exact Or.inl rfl | exact Or.inr (Or.inl rfl) | exact Or.inr (Or.inr rfl))
    (hd : (x == ("__debug__" : Str)) = false := by decide) (hcd : (x == ("__classdict__" : Str)) = false := by decide) (hd2 : (y == ("__debug__" : Str)) = false := by decide) (hcd2 : (y == ("__classdict__" : Str)) = false := by decide)
    (hb : attributeBase (.Name x p) f X.env (eval (.Name x p) X.env) = eval (.Name x p) X.env := by rfl)
    (ha : ∀ u, assign (.Subscript (.Attribute (.Name x p) f p3) (.Name y p2) apos) X.env u = (do
      let ov ← holding [u] (eval (.Attribute (.Name x p) f p3) X.env)
      let iv ← holding [u, ov] (eval (.Name y p2) X.env)
      standAt apos
      holding [u, ov, iv] (setItem ov iv u)
      release [u, ov, iv] []) := by intro _; rfl) (hs : swapsWithSole [.Subscript (.Attribute (.Name x p) f p3) (.Name y p2) apos] v pos.line X.env = pure false := by rfl) (hw : swappedStores [.Subscript (.Attribute (.Name x p) f p3) (.Name y p2) apos] v X.env = pure none := by rfl)
    (h1 : (assignEach [.Subscript (.Attribute (.Name x p) f p3) (.Name y p2) apos] X.env).map (·.2) = [assign (.Subscript (.Attribute (.Name x p) f p3) (.Name y p2) apos) X.env] := by rfl) : JS X W (.Assign [.Subscript (.Attribute (.Name x p) f p3) (.Name y p2) apos] v pos) (sKPut c f i j fv) :=
  ⟨psImp (ps_asg hval.run (pg_sub (pe_fld (pe_var hN hv hd hcd) hb) (pe_var hN2 hv2 hd2 hcd2) (set_dict hu) ha) hs hw h1) fun N σ H ⟨g, S, ρ, w, rs, q⟩ => ⟨g, S, ρ, w, rs, PostS.of_er q rs fun dv S1 vv g1 H1 _ e1 w1 r1 q1 => by
    have rs1 := rs.mono e1
    cases e : kIn c f i ρ S1 with
    | none => simp only [e] at q1; exact q1.elim
    | some t =>
      obtain ⟨n, fs, kvs⟩ := t
      simp only [e] at q1
      cases e2 : slotD ρ j with
      | none => simp only [e2] at q1; exact q1.elim
      | some dy =>
        simp only [e2] at q1
        cases e3 : keyD dy with
        | none => simp only [e3] at q1; exact q1.elim
        | some k =>
          simp only [e3] at q1
          by_cases hl : kvs.length < lim
          · rw [if_pos hl] at q1
            refine kfld_write w1 rs1 e cl na fun b ks hb hk go => ?_
            obtain ⟨vy, h1, h2⟩ := rs1.at_ j dy (slotD_some e2)
            have hy := kD_rep e3 h2
            subst hy
            have hlen : ks.length = kvs.length := (Paired.length hk).symm
            exact ⟨_, h1, b, _, rfl, .inl ⟨ks, k, hb, rfl, by rw [hlen]; exact Nat.lt_of_lt_of_le hl (lim_le (Nat.le_refl _)), rfl⟩, q1 σ g1 _ (GExt.refl _) (go _ _ (hk.put k r1)) rs1⟩
          · rw [if_neg hl] at q1; exact q1.elim⟩⟩
end
end Bt
namespace Bt
open PySem PySem.Spec PyProof.Rows L2
/-- self.f = {k: v, ..} -/
def sKDisp (c f : Str) (fo fp : Ex) : Sx := fun ρ S => (fp ρ S).toS ρ fun t S1 => match t with
  | .tup l => (match pairsD l with
    | some kvs => if kvs.length ≤ 15 then (fo ρ S1).toS ρ fun o S2 => (match insAt c S2 o with
      | some (n, fs) => if fs.length < 1000 then .nx ρ (S2.set n (.inst c (setF f (.k (mergeD [] kvs)) fs))) else .bad
      | none => .bad) else .bad
    | none => .bad)
  | _ => .bad
/-- the pairs of a list of pairs -/
def pairsL : List D → Option (List (Key × D))
  | [] => some []
  | .tup [k, v] :: r => (match keyD k with
    | some k' => (match pairsL r with
      | some l => some ((k', v) :: l)
      | none => none)
    | none => none)
  | _ => none
/-- self.f = dict(E), E a list of pairs -/
def sKDict (c f : Str) (fo fe : Ex) : Sx := fun ρ S => (fe ρ S).toS ρ fun t S1 => match t with
  | .lst l => (match pairsL l with
    | some kvs => (fo ρ S1).toS ρ fun o S2 => (match insAt c S2 o with
      | some (n, fs) => if fs.length < 1000 then .nx ρ (S2.set n (.inst c (setF f (.k (mergeD [] kvs)) fs))) else .bad
      | none => .bad)
    | none => .bad)
  | _ => .bad
theorem flatP_inj : ∀ a b : List (V × V), flatP a = flatP b → a = b := by
  intro a
  induction a with
  | nil => intro b h; cases b with | nil => rfl | cons => cases h
  | cons p r ih =>
    intro b h
    cases b with
    | nil => cases h
    | cons p2 r2 =>
      simp only [flatP, List.cons.injEq] at h
      obtain ⟨a1, a2, a3⟩ := h
      rw [ih _ a3, Prod.ext a1 a2]
theorem pairsL_reps {K : PySem.W.Frag} {g : G} {H : Hp} (sub : ∀ a o, g.F a = some o → H a = some o) : ∀ {l : List D} {kvs : List (Key × D)} {vs : List V}, pairsL l = some kvs → RepsG K g l vs → ∃ (ps : List Addr) (ks : List (Key × V)), vs = ps.map V.ref ∧ KReps K g kvs ks ∧ Paired (fun p kv => SqT K H p [kV kv.1, kv.2]) ps ks
  | [], _, _, e, r => by cases e; cases r; exact ⟨[], [], rfl, .nil, .nil⟩
  | d :: l, kvs, vs, e, r => by
    cases d with
    | tup kv =>
      match kv, e with
      | [k, v], e =>
        have e' : (match keyD k with | some k' => (match pairsL l with | some l => some ((k', v) :: l) | none => none) | none => none) = some kvs := e
        cases q : keyD k with
        | none => rw [q] at e'; cases e'
        | some k' =>
          rw [q] at e'
          cases q2 : pairsL l with
          | none => simp only [q2] at e'; cases e'
          | some kvs' =>
            simp only [q2] at e'; cases e'
            cases r with
            | cons r1 t =>
              obtain ⟨ps, ks, h1, h2, h3⟩ := pairsL_reps sub q2 t
              cases r1 with
              | @tup a xs _ s rr =>
                cases rr with
                | cons ra rb =>
                  cases rb with
                  | cons rb rn =>
                    cases rn
                    refine ⟨_ :: ps, (k', _) :: ks, by rw [h1]; rfl, .cons ⟨rfl, rb⟩ h2, .cons ?_ h3⟩
                    have := kD_rep q ra
                    subst this
                    exact sqtMono sub s
      | [], e => cases e
      | [_], e => cases e
      | _ :: _ :: _ :: _, e => cases e
    | _ => cases e
section
variable {X : Cx} {W : WX} {o : Expr} {c f : Str} {pos pos' pos2 p : Pos} {fo fp fe : Ex} {keys : List (Option Expr)} {values : List Expr} {e : Expr}
/-- a held dict is the field's from now on -/
theorem own_dict {K : PySem.W.Frag} {g : G} {S : Sto} {H : Hp} {n : Nat} {fs : List (Str × FV)} {v : V} {b : Addr} {ks : List (Key × V)} {kvs : List (Key × D)} (w : World K g S H) (hS : S[n]? = some (.inst c fs)) (r : RepG K g (.obj n) v) (hp : g.pin b = some (.dK ks)) (hk : KReps K g kvs ks) :
    ∃ a dx vs, v = .ref a ∧ H a = some (.ins (He.ga K c) dx vs) ∧ vs.length = fs.length ∧ World K (g.give b n (ixF f fs)) (S.set n (.inst c (setF f (.k kvs) fs))) (upd H a (.ins (He.ga K c) dx (putF f (.ref b) vs))) := by
  have w2 := w.give (n := n) (j := ixF f fs) hp
  have own : (g.give b n (ixF f fs)).own b = some (n, ixF f fs + 1) := by
    show (if b = b then _ else _) = _
    rw [if_pos rfl]
  obtain ⟨h1, h2, h3⟩ := w.pin _ _ hp
  have r2 : RepG K (g.give b n (ixF f fs)) (.obj n) v := r
  exact w2.setFld hS r2 (f := f) (x := .k kvs) (y := .ref b) ⟨b, ks, rfl, own, h1, hk⟩
theorem give_post {N : L2.Ends} {σ : L2.St} {g g2 : G} {S S1 : Sto} {H : Hp} {ρ : Env} {b : Addr} {ks : List (Key × V)} {kvs : List (Key × D)} (hb : H b = none) (w : World X.K g S H) (rs : RelSt X.K g σ ρ) (xx : GExt g g2) (pin : g2.pin b = some (.dK ks)) (mk : KReps X.K g2 kvs ks)
    (q : PostS X.K W g N ((fo ρ S1).toS ρ fun o S2 => (match insAt c S2 o with | some (n, fs) => if fs.length < 1000 then .nx ρ (S2.set n (.inst c (setF f (.k kvs) fs))) else .bad | none => .bad))) (cl : Cls X.K (He.ga X.K c)) (na : NoAttr X.K (He.ga X.K c) f) :
    Post X.K W σ g2 (fun x H2 => ∃ a C dx fs, x = .ref a ∧ H2 a = some (.ins C dx fs) ∧ Cls X.K C ∧ NoAttr X.K C f ∧ fs.length < 1000 ∧ N.nx σ (upd H2 a (.ins C dx (putF f (.ref b) fs)))) (fo ρ S1) := by
  cases eo : fo ρ S1 with
  | bad => rw [eo] at q; exact q.elim
  | exc k S2 => rw [eo] at q; exact fun g4 H4 e4 w4 => q _ g4 H4 (xx.trans e4) w4 (rs.mono (xx.trans e4))
  | ok d S2 =>
    rw [eo] at q
    intro vd g4 H4 e4 w4 r4
    simp only [ER.toS] at q
    cases er : insAt c S2 d with
    | none => simp only [er] at q; exact q.elim
    | some nf =>
      obtain ⟨n, fs⟩ := nf
      simp only [er] at q
      obtain ⟨rfl, hS⟩ := insAt_some er
      by_cases hlf : fs.length < 1000
      · rw [if_pos hlf] at q
        have pin4 := e4.p _ _ pin
        obtain ⟨a, dx, us, ea, ha, hlen, w5⟩ := own_dict (f := f) w4 hS r4 pin4 (mk.mono e4.sub)
        have g5 : GExt g (g4.give b n (ixF f fs)) := ⟨fun a o h => (xx.trans e4).f a o h, fun n a h => (xx.trans e4).a n a h, fun a o h => by
          show (if a = b then none else g4.pin a) = _
          rw [if_neg (ne_of_none (w.pin a o h).1 hb)]
          exact (xx.trans e4).p a o h⟩
        exact ⟨a, _, dx, us, ea, ha, cl, na, by rw [hlen]; exact hlf, q σ _ _ g5 w5 (rs.mono g5)⟩
      · rw [if_neg hlf] at q; exact q.elim
theorem js_kdisp (ho : JE X W o fo) (hp : JP X W pos2 keys values fp) (cl : Cls X.K (He.ga X.K c)) (na : NoAttr X.K (He.ga X.K c) f) (hall : keys.all (·.isSome) = true := by rfl) (hl : keys.length = values.length := by rfl) (h0 : keys ≠ [] := by exact fun z => nomatch z) (h15 : keys.length ≤ 15 := by decide)
    (hs : swapsWith (.Dict keys values pos2) (some (.Attribute o f pos')) pos.line X.env = pure false := by rfl) : JS X W (.Assign [.Attribute o f pos'] (.Dict keys values pos2) pos) (sKDisp c f fo fp) := by
  obtain ⟨trs, h1, h2⟩ := hp.ex
  refine ⟨psImp (ps_fld ho.run (pe_disp h1 hall hl h0 h15) hs) fun N σ H ⟨g, S, ρ, w, rs, q⟩ p hp => ?_⟩
  obtain ⟨w1, x1⟩ := w.hold (o := .dK []) hp
  have pin1 : (g.hold p (.dK [])).pin p = some (.dK []) := by
    show (if p = p then _ else _) = _
    rw [if_pos rfl]
  refine h2 _ _ _ ⟨_, S, ρ, w1, rs.mono x1, ?_⟩
  unfold sKDisp at q
  cases ef : fp ρ S with
  | bad => rw [ef] at q; exact q.elim
  | exc k S1 => rw [ef] at q; exact fun g2 H2 x2 w2 => q _ g2 H2 (x1.trans x2) w2 (rs.mono (x1.trans x2))
  | ok t S1 =>
    rw [ef] at q
    cases t with
    | tup l =>
      intro vs g2 H2 x2 w2 r2 ps hps
      simp only [ER.toS] at q
      cases ep : pairsD l with
      | none => simp only [ep] at q; exact q.elim
      | some kvs =>
        simp only [ep] at q
        by_cases hz : kvs.length ≤ 15
        · rw [if_pos hz] at q
          obtain ⟨ks, hk1, hk2⟩ := pairsD_reps ep r2
          have hps2 : ps = ks.map fun kv => (kV kv.1, kv.2) := flatP_inj _ _ (hps.trans hk2.symm)
          have pin2 := x2.p _ _ pin1
          obtain ⟨p1, p2, p3⟩ := w2.pin _ _ pin2
          have klen : ks.length = kvs.length := (Paired.length hk1).symm
          refine ⟨p1, ks, hps2, by rw [klen]; exact hz, ?_⟩
          have w3 := w2.rehold (u := .dK (mergeK [] ks)) pin2 lko_dK
          have xx : GExt g (g2.hold p (.dK (mergeK [] ks))) := ⟨fun a o h => (x1.trans x2).f a o h, fun n a h => (x1.trans x2).a n a h, fun a o h => by
            show (if a = p then _ else _) = _
            rw [if_neg (ne_of_none (w.pin a o h).1 hp)]
            exact (x1.trans x2).p a o h⟩
          have pin3 : (g2.hold p (.dK (mergeK [] ks))).pin p = some (.dK (mergeK [] ks)) := by
            show (if p = p then _ else _) = _
            rw [if_pos rfl]
          have mk : KReps X.K (g2.hold p (.dK (mergeK [] ks))) (mergeD [] kvs) (mergeK [] ks) := KReps.merge (g := g2.hold p (.dK (mergeK [] ks))) hk1 .nil
          refine ⟨_, S1, ρ, w3, rs.mono xx, give_post (f := f) hp w rs xx pin3 mk q cl na⟩
        · rw [if_neg hz] at q; exact q.elim
    | _ => exact q.elim
theorem js_kdict (ho : JE X W o fo) (hc : X.calm = true) (hm : X.mg "dict" = none) (he : JE X W e fe) (cl : Cls X.K (He.ga X.K c)) (na : NoAttr X.K (He.ga X.K c) f) (hg : Gl X "dict" := by rfl) (hst : starEach [e] X.env = (false, eval e X.env) :: starEach [] X.env := by rfl)
    (hs : swapsWith (.Call (.Name "dict" p) [e] [] pos2) (some (.Attribute o f pos')) pos.line X.env = pure false := by rfl) : JS X W (.Assign [.Attribute o f pos'] (.Call (.Name "dict" p) [e] [] pos2) pos) (sKDict c f fo fe) := by
  refine ⟨psImp (ps_fld ho.run (pe_callTy (call_dictP hc) hg hm (by decide +kernel) (pa_cons he.run pa_nil hst) (by decide) (by decide) hst rfl) hs) fun N σ H ⟨g, S, ρ, w, rs, q⟩ => ?_⟩
  unfold sKDict at q
  refine ⟨g, S, ρ, w, rs, PostS.of_er q rs fun t S1 vt g1 H1 _ e1 w1 r1 q1 => ?_⟩
  cases t with
  | lst l =>
    cases ep : pairsL l with
    | none => simp only [ep] at q1; exact q1.elim
    | some kvs =>
      simp only [ep] at q1
      cases r1 with
      | @lst a xs _ s rr =>
        obtain ⟨ps, ks, rfl, hk, hp⟩ := pairsL_reps w1.sub ep rr
        refine ⟨a, ps, ks, rfl, SqL.of (w1.sub _ _ s), hp, fun b hb => ?_⟩
        obtain ⟨w2, x2⟩ := w1.hold (o := .dK (mergeK [] ks)) hb
        have pin2 : (g1.hold b (.dK (mergeK [] ks))).pin b = some (.dK (mergeK [] ks)) := by
          show (if b = b then _ else _) = _
          rw [if_pos rfl]
        have mk : KReps X.K (g1.hold b (.dK (mergeK [] ks))) (mergeD [] kvs) (mergeK [] ks) := KReps.merge (g := g1.hold b (.dK (mergeK [] ks))) hk .nil
        exact ⟨_, S1, ρ, w2, rs.mono (e1.trans x2), give_post (f := f) hb w1 (rs.mono e1) x2 pin2 mk q1 cl na⟩
  | _ => exact q1.elim
end
end Bt
namespace Bt
open PySem PySem.Spec PyProof.Rows L2
def isDF : FV → Bool
  | .d _ => true
  | _ => false
def fkO : AObj → Nat
  | .fdict _ => 1
  | .flist _ => 2
  | _ => 0
/-- a frozen dict or list there now was there before -/
def fdOk : Sto → Sto → Bool
  | [], _ => true
  | a :: r, [] => (fkO a == 0) && fdOk r []
  | a :: r, b :: s => ((fkO a == 0) || (fkO a == fkO b)) && fdOk r s
theorem fdOk_refl : ∀ S : Sto, fdOk S S = true
  | [] => rfl
  | a :: r => by
    show (((fkO a == 0) || (fkO a == fkO a)) && fdOk r r) = true
    rw [fdOk_refl r]
    simp
theorem fdOk_get : ∀ {T S : Sto} {n : Nat} {x : AObj}, fdOk T S = true → T[n]? = some x → fkO x ≠ 0 → ∃ y, S[n]? = some y ∧ fkO x = fkO y
  | [], _, _, _, _, h, _ => by cases h
  | a :: r, [], n, x, h, e, hx => by
    have h' : ((fkO a == 0) && fdOk r []) = true := h
    obtain ⟨h1, h2⟩ := Bool.and_eq_true_iff.mp h'
    cases n with
    | zero =>
      rw [List.getElem?_cons_zero] at e; cases e
      exact absurd (by simpa using h1) hx
    | succ n =>
      obtain ⟨k2, q, _⟩ := fdOk_get (n := n) h2 (by simpa using e) hx
      cases q
  | a :: r, b :: s, n, x, h, e, hx => by
    have h' : (((fkO a == 0) || (fkO a == fkO b)) && fdOk r s) = true := h
    obtain ⟨h1, h2⟩ := Bool.and_eq_true_iff.mp h'
    cases n with
    | zero =>
      rw [List.getElem?_cons_zero] at e; cases e
      refine ⟨b, rfl, ?_⟩
      rcases Bool.or_eq_true_iff.mp h1 with z | z
      · exact absurd (by simpa using z) hx
      · simpa using z
    | succ n => exact fdOk_get (n := n) h2 (by simpa using e) hx
def eLock (c f : Str) (i : Nat) (fe : Ex) : Ex := fun ρ S => match kIn c f i ρ S with
  | some (n, fs, _) => if (setF f (.d .non) fs).all (fun p => isDF p.2) = true then (match fe ρ (S.set n (.lki c fs)) with
    | .ok d S2 => if (S2.set n (.inst c fs)).all noLk = true ∧ n < S2.length ∧ fdOk (S2.set n (.inst c fs)) S = true then .ok d (S2.set n (.inst c fs)) else .bad
    | _ => .bad) else .bad
  | none => .bad
def iKeysF (c f : Str) (i : Nat) : Ex := fun ρ S => match slotD ρ i with
  | some (.obj n) => (match S[n]? with
    | some (.lki c' fs) => if c' = c then (match getF f fs with
      | some (.k kvs) => .ok (.tup (kvs.map fun p => kD p.1)) S
      | _ => .bad) else .bad
    | _ => .bad)
  | _ => .bad
theorem FsFrom.lock {P P' : Nat → FV → V → Prop} {f : Str} {x : FV} : ∀ {fs : List (Str × FV)} {vs : List (Str × V)} {j : Nat}, FsFrom P j fs vs → (setF f (.d .non) fs).all (fun p => isDF p.2) = true → getF f fs = some x → (∀ i d v, P i (.d d) v → P' i (.d d) v) → (∀ v, vs.lookup f = some v → P' (j + ixF f fs) x v) → FsFrom P' j fs vs
  | [], [], _, _, _, _, _, _ => trivial
  | (k, y) :: fs, (k', u) :: vs, j, h, ha, hx, m, e => by
    have hk : k = k' := h.1.1
    subst hk
    have allD : ∀ {fs : List (Str × FV)} {vs : List (Str × V)} {j : Nat}, FsFrom P j fs vs → fs.all (fun p => isDF p.2) = true → FsFrom P' j fs vs := by
      intro fs
      induction fs with
      | nil => intro vs j h _; cases vs with | nil => trivial | cons => exact h.elim
      | cons p fs ih =>
        intro vs j h ha
        cases vs with
        | nil => exact h.elim
        | cons q vs =>
          simp only [List.all_cons, Bool.and_eq_true] at ha
          refine ⟨⟨h.1.1, ?_⟩, ih h.2 ha.2⟩
          have h12 := h.1.2
          cases hp : p.2 with
          | d z => rw [hp] at h12; exact m _ _ _ h12
          | l z => rw [hp] at ha; cases ha.1
          | k z => rw [hp] at ha; cases ha.1
    unfold setF at ha
    unfold getF at hx
    unfold ixF at e
    by_cases q : k = f
    · rw [if_pos q] at ha hx e
      cases hx
      simp only [List.all_cons, Bool.and_eq_true] at ha
      exact ⟨⟨rfl, e u (by rw [List.lookup, beq_iff_eq.mpr q.symm])⟩, allD h.2 ha.2⟩
    · rw [if_neg q] at ha hx e
      simp only [List.all_cons, Bool.and_eq_true] at ha
      refine ⟨⟨rfl, ?_⟩, FsFrom.lock h.2 ha.2 hx m fun v hv => ?_⟩
      · have h12 := h.1.2
        cases hp : y with
        | d z => rw [hp] at h12; exact m _ _ _ h12
        | l z => rw [hp] at ha; cases ha.1
        | k z => rw [hp] at ha; cases ha.1
      · have := e v (by rw [List.lookup, beq_eq_false_iff_ne.mpr fun z => q z.symm]; exact hv)
        rwa [show j + (ixF f fs + 1) = j + 1 + ixF f fs by omega] at this
theorem ObjAt.monoN {K : PySem.W.Frag} {g g' : G} {H H' : Hp} {n : Nat} {o : AObj} (x : ObjAt K g H n o) (e : GSub g g') (k : ∀ b j, g.own b = some (n, j) → g'.own b = some (n, j) ∧ H' b = H b) (hn : noLk o = true) (hf : fkO o = 0) : ObjAt K g' H' n o := by
  cases o with
  | list l =>
    obtain ⟨a, xs, h1, h2, h3, h4⟩ := x
    exact ⟨a, xs, e.a _ _ h1, (k a _ h2).1, (k a _ h2).2.trans h3, e.reps h4⟩
  | dict kvs =>
    obtain ⟨a, xs, h1, h2, h3, h4⟩ := x
    exact ⟨a, xs, e.a _ _ h1, (k a _ h2).1, (k a _ h2).2.trans h3, h4.mono e⟩
  | dead => trivial
  | inst c fs => exact InstAt.mono x e k
  | abs y =>
    rcases x with ⟨c, fs, h1, h2⟩ | ⟨a, h1, h2⟩
    · exact .inl ⟨c, fs, h1, InstAt.mono h2 e k⟩
    · exact .inr ⟨a, h1, e.a _ _ h2⟩
  | lki c fs => cases hn
  | fdict kvs => cases hf
  | flist l => cases hf
section
variable {K : PySem.W.Frag} {g : G} {S : Sto} {H : Hp} {c f : Str} {n : Nat} {fs : List (Str × FV)} {kvs : List (Key × D)}
def G.lock (g : G) (a b : Addr) (oa ob : HO) : G := { g with own := fun z => if z = a then none else if z = b then none else g.own z, pin := fun z => if z = a then some oa else if z = b then some ob else g.pin z }
def G.unlock (g : G) (a b : Addr) (n j : Nat) : G := { g with own := fun z => if z = a then some (n, 0) else if z = b then some (n, j + 1) else g.own z, pin := fun z => if z = a then none else if z = b then none else g.pin z }
theorem lock_world (w : World K g S H) (hS : S[n]? = some (.inst c fs)) (hf : getF f fs = some (.k kvs)) (hall : (setF f (.d .non) fs).all (fun p => isDF p.2) = true) :
    ∃ a b dx vs ks, g.α[n]? = some a ∧ H a = some (.ins (He.ga K c) dx vs) ∧ H b = some (.dK ks) ∧ ∀ od, GExt g (g.lock a b (.ins (He.ga K c) dx vs) (.frz od (.dK ks))) ∧ World K (g.lock a b (.ins (He.ga K c) dx vs) (.frz od (.dK ks))) (S.set n (.lki c fs)) (upd H b (.frz od (.dK ks))) ∧
      ∀ g2 S2 H2, GExt (g.lock a b (.ins (He.ga K c) dx vs) (.frz od (.dK ks))) g2 → World K g2 S2 H2 → (S2.set n (.inst c fs)).all noLk = true → n < S2.length → fdOk (S2.set n (.inst c fs)) S = true → H2 b = some (.frz od (.dK ks)) ∧ ∃ g3, GExt g g3 ∧ (∀ d v, RepG K g2 d v → RepG K g3 d v) ∧ World K g3 (S2.set n (.inst c fs)) (upd H2 b (.dK ks)) := by
  obtain ⟨a, dx, vs, h1, h2, h3, h4⟩ := w.at_ n _ hS
  have h4 := fvs_from.mp h4
  obtain ⟨y, hy, b, ks, rfl, ob, hb, hk⟩ := h4.get hf
  rw [Nat.zero_add] at ob
  have ab : a ≠ b := by intro z; subst z; rw [h2] at ob; cases ob
  have pa : g.pin a = none := by
    cases e : g.pin a with
    | none => rfl
    | some o => have := (w.pin a o e).2.2; rw [h2] at this; cases this
  have pb : g.pin b = none := by
    cases e : g.pin b with
    | none => rfl
    | some o => have := (w.pin b o e).2.2; rw [ob] at this; cases this
  have pne : ∀ z o, g.pin z = some o → z ≠ a ∧ z ≠ b := fun z o h => ⟨fun e => (by subst e; rw [pa] at h; cases h), fun e => (by subst e; rw [pb] at h; cases h)⟩
  refine ⟨a, b, dx, vs, ks, h1, h3, hb, fun od => ?_⟩
  have ex : GExt g (g.lock a b (.ins (He.ga K c) dx vs) (.frz od (.dK ks))) := ⟨fun _ _ h => h, fun _ _ h => h, fun z o h => by
    obtain ⟨n1, n2⟩ := pne z o h
    show (if z = a then _ else if z = b then _ else g.pin z) = _
    rw [if_neg n1, if_neg n2]; exact h⟩
  have pinA : (g.lock a b (.ins (He.ga K c) dx vs) (.frz od (.dK ks))).pin a = some (.ins (He.ga K c) dx vs) := by
    show (if a = a then _ else _) = _
    rw [if_pos rfl]
  have pinB : (g.lock a b (.ins (He.ga K c) dx vs) (.frz od (.dK ks))).pin b = some (.frz od (.dK ks)) := by
    show (if b = a then _ else if b = b then _ else _) = _
    rw [if_neg ab.symm, if_pos rfl]
  have ownL : ∀ z q, (g.lock a b (.ins (He.ga K c) dx vs) (.frz od (.dK ks))).own z = some q → z ≠ a ∧ z ≠ b ∧ g.own z = some q := fun z q h => by
    have h' : (if z = a then none else if z = b then none else g.own z) = some q := h
    by_cases e1 : z = a
    · rw [if_pos e1] at h'; cases h'
    · by_cases e2 : z = b
      · rw [if_neg e1, if_pos e2] at h'; cases h'
      · rw [if_neg e1, if_neg e2] at h'; exact ⟨e1, e2, h'⟩
  refine ⟨ex, ⟨fun z o h => ?_, by simp [G.lock, w.len], fun m x h => ?_, fun z q h => ?_, fun z o h => ?_⟩, fun g2 S2 H2 x2 w2 hno hn2 hfd => ?_⟩
  · rw [upd_ne (ne_of_none h (w.free b _ ob).1)]; exact w.sub z o h
  · by_cases e : m = n
    · subst e
      have hl : m < S.length := (List.getElem?_eq_some_iff.mp hS).1
      rw [List.getElem?_set_self hl] at h
      cases h
      obtain ⟨q1, q2⟩ := (h4.lock (P' := fun _ => FVL K (g.lock a b (.ins (He.ga K c) dx vs) (.frz od (.dK ks)))) hall hf (fun i d v hd => hd) fun v hv => by
        rw [hy] at hv; cases hv
        exact ⟨b, ks, od, rfl, pinB, hk⟩).to
      refine ⟨a, dx, vs, h1, pinA, q1, fun j p q hp hq => ?_⟩
      exact q2 j p q hp hq
    · rw [List.getElem?_set_ne (Ne.symm e)] at h
      refine (w.at_ m x h).mono ex fun z j hz => ?_
      have n1 : z ≠ a := by intro q; subst q; rw [h2] at hz; cases hz; exact e rfl
      have n2 : z ≠ b := by intro q; subst q; rw [ob] at hz; cases hz; exact e rfl
      refine ⟨?_, by rw [upd_ne n2]⟩
      show (if z = a then none else if z = b then none else g.own z) = _
      rw [if_neg n1, if_neg n2]; exact hz
  · obtain ⟨n1, n2, hz⟩ := ownL z q h
    exact ⟨(w.free z q hz).1, by rw [upd_ne n2]; exact (w.free z q hz).2⟩
  · have h' : (if z = a then some (.ins (He.ga K c) dx vs) else if z = b then some (.frz od (.dK ks)) else g.pin z) = some o := h
    by_cases e1 : z = a
    · subst e1
      rw [if_pos rfl] at h'; cases h'
      refine ⟨by rw [upd_ne ab]; exact h3, (w.free _ _ h2).1, ?_⟩
      show (if z = z then none else _) = none
      rw [if_pos rfl]
    · by_cases e2 : z = b
      · subst e2
        rw [if_neg e1, if_pos rfl] at h'; cases h'
        refine ⟨upd_same, (w.free _ _ ob).1, ?_⟩
        show (if z = a then none else if z = z then none else _) = none
        rw [if_neg e1, if_pos rfl]
      · rw [if_neg e1, if_neg e2] at h'
        obtain ⟨r1, r2, r3⟩ := w.pin z o h'
        refine ⟨by rw [upd_ne e2]; exact r1, r2, ?_⟩
        show (if z = a then none else if z = b then none else g.own z) = none
        rw [if_neg e1, if_neg e2]; exact r3
  · have pA2 := x2.p _ _ pinA
    have pB2 := x2.p _ _ pinB
    obtain ⟨a1, a2, a3⟩ := w2.pin _ _ pA2
    obtain ⟨b1, b2, b3⟩ := w2.pin _ _ pB2
    have gx : GExt g (g2.unlock a b n (ixF f fs)) := ⟨fun z o h => (ex.trans x2).f z o h, fun m z h => (ex.trans x2).a m z h, fun z o h => by
      obtain ⟨n1, n2⟩ := pne z o h
      show (if z = a then none else if z = b then none else g2.pin z) = _
      rw [if_neg n1, if_neg n2]; exact (ex.trans x2).p z o h⟩
    refine ⟨b1, g2.unlock a b n (ixF f fs), gx, fun d v r => r, ⟨fun z o h => ?_, by simp [G.unlock, w2.len], fun m x h => ?_, fun z q h => ?_, fun z o h => ?_⟩⟩
    · rw [upd_ne (ne_of_none h b2)]; exact w2.sub z o h
    · by_cases e : m = n
      · subst e
        rw [List.getElem?_set_self hn2] at h
        cases h
        have ownA : (g2.unlock a b m (ixF f fs)).own a = some (m, 0) := by
          show (if a = a then _ else _) = _
          rw [if_pos rfl]
        have ownB : (g2.unlock a b m (ixF f fs)).own b = some (m, ixF f fs + 1) := by
          show (if b = a then _ else if b = b then _ else _) = _
          rw [if_neg ab.symm, if_pos rfl]
        refine ⟨a, dx, vs, (ex.trans x2).a _ _ h1, ownA, by rw [upd_ne ab]; exact a1, fvs_from.mpr ?_⟩
        refine h4.lock (P' := FVAt K (g2.unlock a b m (ixF f fs)) (upd H2 b (.dK ks)) m) hall hf (fun i d v hd => gx.rep hd) fun v hv => ?_
        rw [hy] at hv; cases hv
        rw [Nat.zero_add]
        exact ⟨b, ks, rfl, ownB, upd_same, hk.mono gx.sub⟩
      · have hx : noLk x = true := List.all_eq_true.mp hno x (List.mem_of_getElem? h)
        have hb4 := h
        rw [List.getElem?_set_ne (Ne.symm e)] at h
        by_cases hfx : fkO x = 0
        rotate_left
        · obtain ⟨y, q2, q3⟩ := fdOk_get hfd hb4 hfx
          cases x with
          | fdict kvs' =>
            cases y with
            | fdict k2 =>
              obtain ⟨c0, ks0, od0, r1, r2, r3⟩ := w.at_ m _ q2
              obtain ⟨n1, n2⟩ := pne _ _ r2
              obtain ⟨c1, ks1, od1, s1, s2, s3⟩ := w2.at_ m _ h
              have := (ex.trans x2).a _ _ r1
              rw [s1] at this; cases this
              refine ⟨_, ks1, od1, s1, ?_, s3⟩
              show (if _ = a then none else if _ = b then none else g2.pin _) = _
              rw [if_neg n1, if_neg n2]; exact s2
            | _ => cases q3
          | flist l' =>
            cases y with
            | flist k2 =>
              obtain ⟨c0, ks0, od0, r1, r2, r3⟩ := w.at_ m _ q2
              obtain ⟨n1, n2⟩ := pne _ _ r2
              obtain ⟨c1, ks1, od1, s1, s2, s3⟩ := w2.at_ m _ h
              have := (ex.trans x2).a _ _ r1
              rw [s1] at this; cases this
              refine ⟨_, ks1, od1, s1, ?_, s3⟩
              show (if _ = a then none else if _ = b then none else g2.pin _) = _
              rw [if_neg n1, if_neg n2]; exact s2
            | _ => cases q3
          | _ => exact absurd rfl hfx
        refine (w2.at_ m x h).monoN ⟨fun _ _ h => h, fun _ _ h => h⟩ (fun z j hz => ?_) hx hfx
        have n1 : z ≠ a := by intro q; subst q; rw [a3] at hz; cases hz
        have n2 : z ≠ b := by intro q; subst q; rw [b3] at hz; cases hz
        refine ⟨?_, by rw [upd_ne n2]⟩
        show (if z = a then _ else if z = b then _ else g2.own z) = _
        rw [if_neg n1, if_neg n2]; exact hz
    · have h' : (if z = a then some (n, 0) else if z = b then some (n, ixF f fs + 1) else g2.own z) = some q := h
      by_cases e1 : z = a
      · subst e1; exact ⟨a2, by rw [upd_ne ab, a1]; rfl⟩
      · by_cases e2 : z = b
        · subst e2; exact ⟨b2, by rw [upd_same]; rfl⟩
        · rw [if_neg e1, if_neg e2] at h'
          rw [upd_ne e2]; exact w2.free z q h'
    · have h' : (if z = a then none else if z = b then none else g2.pin z) = some o := h
      by_cases e1 : z = a
      · rw [if_pos e1] at h'; cases h'
      · by_cases e2 : z = b
        · rw [if_neg e1, if_pos e2] at h'; cases h'
        · rw [if_neg e1, if_neg e2] at h'
          obtain ⟨r1, r2, r3⟩ := w2.pin z o h'
          refine ⟨by rw [upd_ne e2]; exact r1, r2, ?_⟩
          show (if z = a then _ else if z = b then _ else g2.own z) = none
          rw [if_neg e1, if_neg e2]; exact r3
end
section
variable {X : Cx} {W : WX} {e tg : Expr} {c f x : Str} {i : Nat} {p p3 : Pos} {fe : Ex}
theorem je_lock (c f : Str) (i : Nat) (h : JE X W e fe) : JE X W e (eLock c f i fe) := ⟨peImp (pe_lock h.run) fun σ H Q ⟨g, S, ρ, w, rs, q⟩ => by
  unfold eLock at q
  cases ek : kIn c f i ρ S with
  | none => simp only [ek] at q; exact q.elim
  | some t =>
    obtain ⟨n, fs, kvs⟩ := t
    simp only [ek] at q
    by_cases hall : (setF f (.d .non) fs).all (fun p => isDF p.2) = true
    · rw [if_pos hall] at q
      obtain ⟨h1, h2, h3⟩ := kIn_some ek
      obtain ⟨a, b, dx, vs, ks, q1, q2, q3, go⟩ := lock_world w h2 h3 hall
      refine ⟨b, .dK ks, q3, trivial, fun od => ?_⟩
      obtain ⟨ex, w2, back⟩ := go od
      refine ⟨_, _, ρ, w2, rs.mono ex, ?_⟩
      cases ef : fe ρ (S.set n (.lki c fs)) with
      | bad => simp only [ef] at q; exact q.elim
      | exc k S2 => simp only [ef] at q; exact q.elim
      | ok d S2 =>
        simp only [ef] at q
        by_cases hn : (S2.set n (.inst c fs)).all noLk = true ∧ n < S2.length ∧ fdOk (S2.set n (.inst c fs)) S = true
        · rw [if_pos hn] at q
          intro v g2 H2 x2 w3 r3
          obtain ⟨hb, g3, x3, r4, w4⟩ := back g2 S2 H2 x2 w3 hn.1 hn.2.1 hn.2.2
          exact ⟨hb, q v g3 _ x3 w4 (r4 _ _ r3)⟩
        · rw [if_neg hn] at q; exact q.elim
    · rw [if_neg hall] at q; exact q.elim⟩
theorem ji_keysF (cl : Cls X.K (He.ga X.K c)) (na : NoAttr X.K (He.ga X.K c) f) (hN : X.N[i]? = some x := by rfl)
    (hv : Vis X.env.scope x := by first | exact Or.inl rfl | exact Or.inr (Or.inl rfl) | exact Or.inr (Or.inr rfl)) (hd : (x == ("__debug__" : Str)) = false := by decide) (hcd : (x == ("__classdict__" : Str)) = false := by decide)
    (hb : attributeBase (.Name x p) f X.env (eval (.Name x p) X.env) = eval (.Name x p) X.env := by rfl) : JI X W tg (.Attribute (.Name x p) f p3) (iKeysF c f i) :=
  ⟨piImp (pi_keys (pe_fld (pe_var hN hv hd hcd) hb)) fun σ H R ⟨g, S, ρ, w, rs, q⟩ => by
    unfold iKeysF at q
    cases e1 : slotD ρ i with
    | none => simp only [e1] at q; exact q.elim
    | some d =>
      cases d with
      | obj n =>
        simp only [e1] at q
        cases e2 : S[n]? with
        | none => simp only [e2] at q; exact q.elim
        | some o =>
          cases o with
          | lki c' fs =>
            simp only [e2] at q
            by_cases ec : c' = c
            · subst ec
              rw [if_pos rfl] at q
              cases e3 : getF f fs with
              | none => simp only [e3] at q; exact q.elim
              | some y =>
                cases y with
                | k kvs =>
                  simp only [e3] at q
                  obtain ⟨v, hv, rv⟩ := rs.at_ i _ (slotD_some e1)
                  obtain ⟨a, dx, vs, h1, h2, h3, h4⟩ := w.at_ n _ e2
                  cases rv with
                  | obj e =>
                    rw [h1] at e; cases e
                    obtain ⟨y, hy, b, ks, od, rfl, pb, hk⟩ := (FsFrom.of (P := fun _ => FVL X.K g) (j := 0) h3 h4).get e3
                    refine ⟨.ref a, hv, a, _, dx, vs, .ref b, rfl, (w.pin _ _ h2).1, cl, na, hy, b, od, rfl, .inl ⟨ks, (w.pin _ _ pb).1, ?_⟩⟩
                    refine q _ g H (GExt.refl g) w ?_
                    intro g' S' H' j x' w'
                    have hp := (w'.pin _ _ (x'.p _ _ pb)).1
                    have hlen : kvs.length = ks.length := Paired.length hk
                    refine ⟨fun d hd => ?_, fun hn => ?_⟩
                    · rw [List.getElem?_map] at hd
                      cases ej : kvs[j]? with
                      | none => rw [ej] at hd; cases hd
                      | some pr =>
                        rw [ej] at hd; cases hd
                        have hj : j < ks.length := by rw [← hlen]; exact (List.getElem?_eq_some_iff.mp ej).1
                        refine ⟨⟨hp, hj⟩, fun z H'' ⟨y1, k, u, y2, y3⟩ => ?_⟩
                        subst y1; subst y3
                        have hkk : Prod.fst pr = k := by
                          have gen : ∀ {kvs : List (Key × D)} {ks : List (Key × V)}, KReps X.K g kvs ks → ∀ (j : Nat) (pr : Key × D) (k : Key) (u : V), kvs[j]? = some pr → ks[j]? = some (k, u) → pr.1 = k := by
                            intro kvs ks hk
                            unfold KReps at hk
                            induction hk with
                            | nil => intro j pr k u h; simp at h
                            | cons h t ih =>
                              intro j pr k u h5 h6
                              cases j with
                              | zero => simp at h5 h6; subst h5; rw [h.1, h6]
                              | succ j => exact ih j pr k u (by simpa using h5) (by simpa using h6)
                          exact gen hk j pr k u ej y2
                        refine ⟨g', GExt.refl _, w', ?_⟩
                        show RepG X.K g' (kD (Prod.fst pr)) (kV k)
                        rw [hkk]
                        cases k with
                        | inl z => exact .int z
                        | inr z => exact .str z
                    · rw [List.getElem?_map] at hn
                      have : kvs[j]? = none := by
                        cases q : kvs[j]? with
                        | none => rfl
                        | some z => rw [q] at hn; cases hn
                      exact ⟨hp, by rw [← hlen]; exact List.getElem?_eq_none_iff.mp this⟩
                | d z => simp only [e3] at q; exact q.elim
                | l z => simp only [e3] at q; exact q.elim
            · rw [if_neg ec] at q; exact q.elim
          | _ => simp only [e2] at q; exact q.elim
      | _ => simp only [e1] at q; exact q.elim⟩
end
end Bt
namespace Bt
open PySem PySem.Spec PyProof.Rows L2
structure MetAt (K : PySem.W.Frag) (c m qual : Str) (st : Stmt) : Prop where
  ex : ∃ fd, FunD K m qual (defArgs st) (defBody st) (defScope st) [] [] (He.ma K (He.ga K c) m) fd
  meth : Meth K (He.ga K c) m (He.ma K (He.ga K c) m)
  cls : Cls K (He.ga K c)
structure IniAt (K : PySem.W.Frag) (mg : Str → Option Value) (c qual : Str) (st : Stmt) : Prop where
  ex : ∃ fd, FunD K "__init__" qual (defArgs st) (defBody st) (defScope st) [] [] (He.ma K (He.ga K c) "__init__") fd
  mkr : Mk K (He.ga K c) (He.ma K (He.ga K c) "__init__")
  mg : mg c = some (.ref (He.ga K c))
section
variable {P : Program} {w : PySem.World} {K : PySem.W.Frag} {mg : Str → Option Value} {base : Heap} {c m qual : Str} {st : Stmt} {N ps : List Str} {k : Nat} {mm : Sx}
theorem mcal_mk (D : MetAt K c m qual st) (S : FnScope N ps (defScope st))
    (hbd : ∀ (kV doc pm : Value) (an : Option Addr) (cdv ct : Value) (us : List Value), us.length = ps.length → bindArgs (PySem.W.fnOf m qual (defArgs st) (defBody st) (defScope st) .none kV doc pm an cdv ct) ⟨us, []⟩ = pure (ps.zip us))
    (hb : ∀ (cdv : Value) (A : Around) (outer : List PySem.Env) (s : Shared) (H : Hp) (E : XK), Room k (A.deeper (envOfC qual (defScope st) s.heap.objs.size (He.ma K (He.ga K c) m) cdv)) →
      JSs (cxOf (L2.CX P w) P w K mg base N qual (defScope st) (He.ma K (He.ga K c) m) cdv A outer s H E) (fun cls d _ H => E cls d H) (defBody st) mm) :
    MCal P w K mg base c m (k + 1) (fnBody ps.length N.length mm) := by
  obtain ⟨fd, F⟩ := D.ex
  exact ⟨_, fd, ps, D.cls, D.meth, F.bindsN hbd, fn_ok F S hb⟩
theorem kcal_mk (D : IniAt K mg c qual st) (S : FnScope N ps (defScope st))
    (hbd : ∀ (kV doc pm : Value) (an : Option Addr) (cdv ct : Value) (us : List Value), us.length = ps.length → bindArgs (PySem.W.fnOf "__init__" qual (defArgs st) (defBody st) (defScope st) .none kV doc pm an cdv ct) ⟨us, []⟩ = pure (ps.zip us))
    (hb : ∀ (cdv : Value) (A : Around) (outer : List PySem.Env) (s : Shared) (H : Hp) (E : XK), Room k (A.deeper (envOfC qual (defScope st) s.heap.objs.size (He.ma K (He.ga K c) "__init__") cdv)) →
      JSs (cxOf (L2.CX P w) P w K mg base N qual (defScope st) (He.ma K (He.ga K c) "__init__") cdv A outer s H E) (fun cls d _ H => E cls d H) (defBody st) mm) :
    KCal P w K mg base c (k + 1) (fnBody ps.length N.length mm) := by
  obtain ⟨fd, F⟩ := D.ex
  exact ⟨_, fd, ps, D.mg, D.mkr, F.bindsN hbd, fn_ok F S hb⟩
end
structure ExcAt (K : PySem.W.Frag) (mg : Str → Option Value) (k : Exc) : Prop where
  mg : mg (excN k) = some (.ref (He.ga K (excN k)))
  ex : PySem.W.excIn K (He.ga K (excN k)) He.veBase "ValueError.__new__" = true ∧ PySem.W.keepIn K (.ref (He.ga K (excN k))) = true ∧ PySem.W.subIn K (.ref (He.ga K (excN k))) (.type "BaseException") = some true ∧ PySem.W.typeIn K (.ref (He.ga K (excN k))) = some (.type "type")
theorem js_raise {X : Cx} {W : WX} {k : Exc} {m : Str} {j : Nat} {p p2 pos pos' : Pos} (hc : X.calm = true) (tk : Takes X W) (ea : ExcAt X.K X.mg k) (hg : Gl X (excN k)) (hdb : (excN k == ("__debug__" : Str)) = false) :
    JS X W (.Raise (some (.Call (.Name (excN k) p) [.Constant (.str m) j p2] [] pos)) none pos') (sRaise k) :=
  ⟨psImp (ps_raise hc tk (pmk_own PySem.F.excBase_ValueError ea.ex.1 ea.mg ea.ex.2.1 (raises_own ea.ex.2.2.1 ea.ex.2.2.2) hg hdb)) fun N σ H ⟨g, S, ρ, w, rs, q⟩ => q σ g H (GExt.refl _) w rs⟩
end Bt
namespace Bt
open PySem PySem.Spec PyProof.Rows L2
abbrev c_MOST_MARKS : D := .int 8
noncomputable def F_Tape___init__ : Fn := fnBody 5 5
    (sSeq (sFldS "Tape" "program" (eVar 0) (eVar 1))
    (sSeq (sFldS "Tape" "asked" (eVar 0) (eCallB (f1 bList) (eCons (eVar 2) eNil)))
    (sSeq (sFldS "Tape" "every" (eVar 0) (eVar 3))
    (sSeq (sFldS "Tape" "most" (eVar 0) (eVar 4))
    (sSeq (sKDisp "Tape" "kept" (eVar 0) (ePair (eC (.int 0)) (eCall0 G_begun) eNil))
    (sSeq (sFldS "Tape" "far" (eVar 0) (eC (.int 0)))
    (sSeq (sFldS "Tape" "last" (eVar 0) (eC .non))
    (sFldS "Tape" "here" (eVar 0) (eC (.int 0))))))))))
noncomputable def G_Tape___init__ : Fn := F_Tape___init__
noncomputable def F_Tape_keep : Fn := fnBody 3 4
    (sSeq (sIf (eOp opGt (eVar 1) (eFld "Tape" "far" (eVar 0)))
    (sSeq (sFldS "Tape" "far" (eVar 0) (eVar 1))
    (sIf (eOp opEq (eOp opMod (eVar 1) (eFld "Tape" "every" (eVar 0))) (eC (.int 0)))
    (sKPut "Tape" "kept" 0 1 (eVar 2))
    sSkip))
    sSkip)
    (whileN (eOp opGt (eKLen "Tape" "kept" 0) (eC c_MOST_MARKS))
    (sSeq (sFldS "Tape" "every" (eVar 0) (eOp opMul (eC (.int 2)) (eFld "Tape" "every" (eVar 0))))
    (sKDict "Tape" "kept" (eVar 0) (eLock "Tape" "kept" 0 (eComp [3] (iKeysF "Tape" "kept" 0) (dN 3) (eOp opEq (eOp opMod (eVar 3) (eFld "Tape" "every" (eVar 0))) (eC (.int 0))) (eTup (eCons (eVar 3) (eCons (eKIx "Tape" "kept" 0 3) eNil))))))) 100000))
noncomputable def G_Tape_keep : Fn := F_Tape_keep
noncomputable def F_Tape_came : Fn := fnBody 2 5
    (sSeq (sSet 2 (eCallB (f1 bMaxL) (eCons (eLock "Tape" "kept" 0 (eComp [4] (iKeysF "Tape" "kept" 0) (dN 4) (eOp opLe (eVar 4) (eVar 1)) (eVar 4))) eNil)))
    (sSeq (sSet 3 (eKIx "Tape" "kept" 0 2))
    (sSeq (whileN (eAnd (eOp opLt (eVar 2) (eVar 1)) (eNot (eCall G_is_over (eCons (eFld "Tape" "program" (eVar 0)) (eCons (eVar 3) eNil)))))
    (sSeq (sSet 3 (eCall G_stepped (eCons (eFld "Tape" "program" (eVar 0)) (eCons (eFld "Tape" "asked" (eVar 0)) (eCons (eVar 3) eNil)))))
    (sSeq (sSet 2 (eOp opAdd (eVar 2) (eC (.int 1))))
    (sExpr (eMCall "Tape" "keep" G_Tape_keep (eVar 0) (eCons (eVar 2) (eCons (eVar 3) eNil)))))) 100000)
    (sRet (eTup (eCons (eVar 3) (eCons (eVar 2) eNil)))))))
noncomputable def G_Tape_came : Fn := F_Tape_came
noncomputable def F_Tape_at : Fn := fnBody 2 4
    (sSeq (sIf (eNot (eChain opLe opLe (eC (.int 0)) (eVar 1) (eFld "Tape" "most" (eVar 0))))
    (sRaise .moment)
    sSkip)
    (sSeq (sAsg (eMCall "Tape" "came" G_Tape_came (eVar 0) (eCons (eVar 1) eNil)) (dTup 2 (dCons (dN 2) (dCons (dN 3) dNil))))
    (sSeq (sIf (eOp opNe (eVar 3) (eVar 1))
    (sRaise .moment)
    sSkip)
    (sRet (eVar 2)))))
noncomputable def G_Tape_at : Fn := F_Tape_at
noncomputable def F_Tape_back : Fn := fnBody 2 3
    (sSeq (sSet 2 (eFld "Tape" "here" (eVar 0)))
    (sSeq (sFldS "Tape" "here" (eVar 0) (eCallB (bMax2) (eCons (eOp opSub (eFld "Tape" "here" (eVar 0)) (eVar 1)) (eCons (eC (.int 0)) eNil))))
    (sRet (eOp opSub (eVar 2) (eFld "Tape" "here" (eVar 0))))))
noncomputable def G_Tape_back : Fn := F_Tape_back
noncomputable def F_Tape_end : Fn := fnBody 1 1
    (sSeq (sIf (eIsN false (eFld "Tape" "last" (eVar 0)))
    (sFldS "Tape" "last" (eVar 0) (eOp opIx (eMCall "Tape" "came" G_Tape_came (eVar 0) (eCons (eFld "Tape" "most" (eVar 0)) eNil)) (eC (.int 1))))
    sSkip)
    (sRet (eFld "Tape" "last" (eVar 0))))
noncomputable def G_Tape_end : Fn := F_Tape_end
noncomputable def F_Tape_go : Fn := fnBody 2 3
    (sSeq (sSet 2 (eFld "Tape" "here" (eVar 0)))
    (sSeq (sFldS "Tape" "here" (eVar 0) (eCallB (bMin2) (eCons (eOp opAdd (eFld "Tape" "here" (eVar 0)) (eVar 1)) (eCons (eMCall "Tape" "end" G_Tape_end (eVar 0) eNil) eNil))))
    (sRet (eOp opSub (eFld "Tape" "here" (eVar 0)) (eVar 2)))))
noncomputable def G_Tape_go : Fn := F_Tape_go
noncomputable def F_Tape_moment : Fn := fnBody 1 1
    (sRet (eFld "Tape" "here" (eVar 0)))
noncomputable def G_Tape_moment : Fn := F_Tape_moment
noncomputable def F_Tape_state : Fn := fnBody 1 1
    (sRet (eMCall "Tape" "at" G_Tape_at (eVar 0) (eCons (eFld "Tape" "here" (eVar 0)) eNil)))
noncomputable def G_Tape_state : Fn := F_Tape_state
noncomputable def F_Tape_to : Fn := fnBody 2 2
    (sSeq (sExpr (eMCall "Tape" "at" G_Tape_at (eVar 0) (eCons (eVar 1) eNil)))
    (sFldS "Tape" "here" (eVar 0) (eVar 1)))
noncomputable def G_Tape_to : Fn := F_Tape_to
end Bt
namespace Bt
open PySem PySem.Spec PyProof.Rows L2
theorem endM_le {p : Prg} {as : List Int} : ∀ m, endM p as m ≤ m
  | 0 => Nat.le_refl _
  | m + 1 => by
    unfold endM
    split
    · exact Nat.le_refl _
    · have := endM_le (p := p) (as := as) m; omega
theorem endM_over {p : Prg} {as : List Int} : ∀ m, endM p as m = m ∨ over p (itM p as (endM p as m)) = true
  | 0 => .inl rfl
  | m + 1 => by
    unfold endM
    by_cases q : endM p as m = m ∧ over p (itM p as m) = false
    · rw [if_pos q]; exact .inl rfl
    · rw [if_neg q]
      rcases endM_over (p := p) (as := as) m with z | z
      · right
        rw [z]
        cases o : over p (itM p as m) with
        | true => rfl
        | false => exact absurd ⟨z, o⟩ q
      · exact .inr z
/-- what the last moment up to m is known by -/
theorem endM_is {p : Prg} {as : List Int} {m r : Nat} (h1 : r ≤ m) (h2 : ∀ i, i < r → over p (itM p as i) = false) (h3 : r = m ∨ over p (itM p as r) = true) : endM p as m = r := by
  rcases Nat.lt_trichotomy (endM p as m) r with z | z | z
  · rcases endM_over (p := p) (as := as) m with y | y
    · omega
    · rw [h2 _ z] at y; cases y
  · exact z
  · rcases h3 with y | y
    · have := endM_le (p := p) (as := as) m; omega
    · rw [endM_lt m r z] at y; cases y
theorem evF_ok {e : Nat} (he : 1 ≤ e) : ∀ f, 1 ≤ evF e f ∧ f / evF e f ≤ 7
  | 0 => ⟨he, by show 0 / e ≤ 7; rw [Nat.zero_div]; decide⟩
  | f + 1 => by
    obtain ⟨h1, h2⟩ := evF_ok he f
    unfold evF
    split
    · rename_i h
      refine ⟨by omega, ?_⟩
      have : (f + 1) / evF e f ≤ f / evF e f + 1 := by
        have h3 : f / evF e f * evF e f ≤ f := Nat.div_mul_le_self f _
        apply Nat.le_of_lt_succ
        apply (Nat.div_lt_iff_lt_mul (by omega)).mpr
        have := Nat.lt_div_mul_add (a := f) (b := evF e f) (by omega)
        rw [show (f / evF e f + 1).succ = f / evF e f + 1 + 1 from rfl, Nat.add_mul, Nat.add_mul]
        omega
      rw [Nat.mul_comm, ← Nat.div_div_eq_div_mul]
      omega
    · rename_i h
      exact ⟨h1, by omega⟩
end Bt
namespace Bt
open PySem PySem.Spec PyProof.Rows L2
section
variable {p as last : D} {ev most far here : Int} {kept : List (Key × D)}
theorem lock_fs : (setF "kept" (.d .non) (fsM p as ev most kept far last here)).all (fun q => isDF q.2) = true := by simp [setF, fsM, ofString_inj, isDF]
end
section
variable {S : Sto} {n : Nat} {fs : List (Str × FV)} {ρ : Env} {c f : Str}
theorem rd_set (h : n < S.length) : rdAt c (S.set n (.inst c fs)) (.obj n) = some fs := by
  unfold rdAt
  simp [h]
theorem rd_lk (h : n < S.length) : rdAt c (S.set n (.lki c fs)) (.obj n) = some fs := by
  unfold rdAt
  simp [h]
theorem in_set (h : n < S.length) : insAt c (S.set n (.inst c fs)) (.obj n) = some (n, fs) := by
  unfold insAt
  simp [h]
theorem kRd_of {i : Nat} {d : D} {kvs : List (Key × D)} (h1 : slotD ρ i = some d) (h2 : rdAt c S d = some fs) (h3 : getF f fs = some (.k kvs)) : kRd c f i ρ S = some kvs := by
  unfold kRd; rw [h1]; simp only [h2, h3]
theorem kIn_of {i : Nat} {d : D} {kvs : List (Key × D)} (h1 : slotD ρ i = some d) (h2 : insAt c S d = some (n, fs)) (h3 : getF f fs = some (.k kvs)) : kIn c f i ρ S = some (n, fs, kvs) := by
  unfold kIn; rw [h1]; simp only [h2, h3]
end
theorem while_0 {fc : Ex} {fb : Sx} {f : Nat} {ρ : Env} {S S1 : Sto} (h : 0 < f) (hc : fc ρ S = .ok (.bl false) S1) : whileN fc fb f ρ S = .nx ρ S1 := by
  obtain ⟨g, rfl⟩ : ∃ g, f = g + 1 := ⟨f - 1, by omega⟩
  unfold whileN
  rw [hc]; rfl
theorem while_1 {fc : Ex} {fb : Sx} {f : Nat} {ρ ρ2 : Env} {S S1 S2 : Sto} (h : 0 < f) (hc : fc ρ S = .ok (.bl true) S1) (hb : fb ρ S1 = .nx ρ2 S2) : whileN fc fb f ρ S = whileN fc fb (f - 1) ρ2 S2 := by
  obtain ⟨g, rfl⟩ : ∃ g, f = g + 1 := ⟨f - 1, by omega⟩
  rw [Nat.add_sub_cancel]
  show ((fc ρ S).toS ρ _) = _
  rw [hc]
  show (match fb ρ S1 with | .nx ρ2 S2 => whileN fc fb g ρ2 S2 | .ct ρ2 S2 => whileN fc fb g ρ2 S2 | .bk ρ2 S2 => .nx ρ2 S2 | .rt d S2 => .rt d S2 | .exc k ρ2 S2 => .exc k ρ2 S2 | .bad => .bad) = _
  rw [hb]
theorem kept_len {p : Prg} {as : List Int} {ev n : Nat} : (keptM p as ev n).length = n := by unfold keptM; simp
theorem kept_succ {p : Prg} {as : List Int} {ev n : Nat} : keptM p as ev (n + 1) = keptM p as ev n ++ [kvM p as (n * ev)] := by
  unfold keptM
  rw [List.range_succ, List.map_append]; rfl
theorem key_mem {p : Prg} {as : List Int} {ev n m : Nat} (hev : 1 ≤ ev) : ((keptM p as ev n).any fun kv => decide (kv.1 = .inl (m : Int))) = decide (m % ev = 0 ∧ m / ev < n) := by
  rw [Bool.eq_iff_iff]
  simp only [List.any_eq_true, decide_eq_true_eq]
  constructor
  · rintro ⟨kv, h1, h2⟩
    unfold keptM at h1
    obtain ⟨i, hi, rfl⟩ := List.mem_map.mp h1
    unfold kvM at h2
    have e : i * ev = m := by injection h2 with h2; exact Int.ofNat.inj h2
    subst e
    exact ⟨Nat.mul_mod_left _ _, by rw [Nat.mul_div_cancel _ hev]; exact List.mem_range.mp hi⟩
  · rintro ⟨h1, h2⟩
    refine ⟨kvM p as (m / ev * ev), List.mem_map.mpr ⟨m / ev, List.mem_range.mpr h2, rfl⟩, ?_⟩
    unfold kvM
    rw [Nat.div_mul_cancel (Nat.dvd_of_mod_eq_zero h1)]
/-- nothing new is kept -/
theorem keep_old {t : Tp} {S : Sto} {n : Nat} {m : Nat} {d : D} (h : TpOk t) (hn : n < S.length) (hm : m ≤ t.far) : G_Tape_keep [.obj n, .int m, d] (S.set n t.o) = .ok .non (S.set n t.o) := by
  unfold G_Tape_keep F_Tape_keep
  rw [fnB3]
  have r := rd_set (c := "Tape") (fs := t.fs) hn
  have i := in_set (c := "Tape") (fs := t.fs) hn
  have h8 := (evF_ok h.e0 t.far).2
  have gk := g_kept (p := prgD t.p) (as := asD t.as) (ev := t.ev) (most := t.most) (kept := keptM t.p t.as t.ev (t.far / t.ev + 1)) (far := t.far) (last := lastD t.last) (here := t.here)
  have hc : ∀ o3, (eOp opGt (eKLen "Tape" "kept" 0) (eC c_MOST_MARKS)) [some (.obj n), some (.int m), some d, o3] (S.set n t.o) = .ok (.bl false) (S.set n t.o) := by
    intro o3
    have hk := kIn_of (c := "Tape") (f := "kept") (i := 0) (ρ := [some (.obj n), some (.int m), some d, o3]) (S := S.set n t.o) rfl i gk
    unfold Tp.o at hk ⊢
    simp [eKLen, hk, kept_len, c_MOST_MARKS]
    unfold Tp.ev at *
    omega
  unfold Tp.o at hc ⊢
  have hf : ¬ ((t.far : Int) < (m : Int)) := by omega
  have gf : getF "far" t.fs = some (.d (.int t.far)) := g_far
  simp [r, gf, hf]
  rw [while_0 (by decide) (hc none)]
  rfl
end Bt
namespace Bt
open PySem PySem.Spec PyProof.Rows L2
theorem lock_eval {c f : Str} {i n : Nat} {ρ : Env} {S : Sto} {fs : List (Str × FV)} {kvs : List (Key × D)} {fe : Ex} {d : D} (hn : n < S.length) (hS : S.all noLk = true) (hi : slotD ρ i = some (.obj n)) (hf : getF f fs = some (.k kvs)) (ha : (setF f (.d .non) fs).all (fun q => isDF q.2) = true)
    (he : fe ρ (S.set n (.lki c fs)) = .ok d (S.set n (.lki c fs))) : eLock c f i fe ρ (S.set n (.inst c fs)) = .ok d (S.set n (.inst c fs)) := by
  unfold eLock
  rw [kIn_of hi (in_set hn) hf]
  simp only
  rw [if_pos ha, List.set_set, he]
  simp only
  rw [List.set_set, if_pos ⟨all_set hS rfl, by rw [List.length_set]; exact hn, fdOk_refl _⟩]
theorem keysF_eval {c f : Str} {i n : Nat} {ρ : Env} {S : Sto} {fs : List (Str × FV)} {kvs : List (Key × D)} (hn : n < S.length) (hi : slotD ρ i = some (.obj n)) (hf : getF f fs = some (.k kvs)) :
    iKeysF c f i ρ (S.set n (.lki c fs)) = .ok (.tup (kvs.map fun p => kD p.1)) (S.set n (.lki c fs)) := by
  unfold iKeysF
  rw [hi]
  simp [hn, hf]
theorem compL_fm {step : D → Sto → Option (Option D × Sto)} {h : D → Option D} {S : Sto} : ∀ (l acc : List D), (∀ d ∈ l, step d S = some (h d, S)) → acc.length + l.length ≤ lim → compL step l acc S = .ok (.lst (acc ++ l.filterMap h)) S
  | [], acc, _, _ => by simp [compL]
  | d :: l, acc, e, b => by
    have b' : acc.length + (l.length + 1) ≤ lim := b
    have e' := fun x hx => e x (List.mem_cons_of_mem _ hx)
    unfold compL
    rw [e d List.mem_cons_self]
    cases q : h d with
    | none =>
      simp only
      rw [compL_fm l acc e' (by omega), List.filterMap_cons_none q]
    | some y =>
      simp only
      rw [if_pos (by omega), compL_fm l (acc ++ [y]) e' (by simp; omega), List.filterMap_cons_some q, List.append_assoc]; rfl
theorem putD_new {kvs : List (Key × D)} {k : Key} {v : D} (h : (kvs.any fun kv => decide (kv.1 = k)) = false) : putD kvs k v = kvs ++ [(k, v)] := by
  unfold putD
  rw [h]; rfl
theorem mergeD_new : ∀ (more kvs : List (Key × D)), ((kvs ++ more).map (·.1)).Nodup → mergeD kvs more = kvs ++ more
  | [], kvs, _ => by simp [mergeD]
  | p :: more, kvs, h => by
    have e : putD kvs p.1 p.2 = kvs ++ [p] := by
      refine putD_new ?_
      cases q : (kvs.any fun kv => decide (kv.1 = p.1)) with
      | false => rfl
      | true =>
        obtain ⟨x, hx, hk⟩ := List.any_eq_true.mp q
        have hk' := of_decide_eq_true hk
        rw [List.map_append, List.map_cons] at h
        have := (List.nodup_append.mp h).2.2 x.1 (List.mem_map.mpr ⟨x, hx, rfl⟩) p.1 List.mem_cons_self
        exact absurd hk' this
    show mergeD (putD kvs p.1 p.2) more = _
    rw [e, mergeD_new more (kvs ++ [p]) (by rw [List.append_assoc]; exact h), List.append_assoc]; rfl
theorem kept_nodup {p : Prg} {as : List Int} {ev n : Nat} (h : 1 ≤ ev) : ((keptM p as ev n).map (·.1)).Nodup := by
  unfold keptM
  rw [List.map_map]
  refine List.Pairwise.map _ (fun a b hab => ?_) (List.nodup_range (n := n))
  intro e
  have e' : (Sum.inl ((a * ev : Nat) : Int) : Key) = Sum.inl ((b * ev : Nat) : Int) := e
  injection e' with e'
  have : a * ev = b * ev := Int.ofNat.inj e'
  exact hab (Nat.eq_of_mul_eq_mul_right h this)
theorem val_kept {p : Prg} {as : List Int} {ev n i : Nat} (h : 1 ≤ ev) : ∀ {n : Nat}, i < n → valD (keptM p as ev n) (.inl ((i * ev : Nat) : Int)) = some (itM p as (i * ev)).d := by
  have gen : ∀ (l : List (Key × D)) (k : Key) (v : D), (k, v) ∈ l → (l.map (·.1)).Nodup → valD l k = some v := by
    intro l
    induction l with
    | nil => intro k v hm; cases hm
    | cons a l ih =>
      intro k v hm hn
      unfold valD
      simp only [List.map_cons, List.nodup_cons] at hn
      rcases List.mem_cons.mp hm with q | q
      · rw [← q]; simp
      · rw [if_neg, ih k v q hn.2]
        intro e
        exact hn.1 (List.mem_map.mpr ⟨(k, v), q, e.symm⟩)
  intro n hi
  refine gen _ _ _ ?_ (kept_nodup h)
  unfold keptM
  exact List.mem_map.mpr ⟨i, List.mem_range.mpr hi, rfl⟩
/-- the dict made anew, marks twice as far apart -/
def halfH (p : Prg) (as : List Int) (ev : Nat) : D → Option D := fun d => match d with
  | .int x => if x % ((2 * ev : Nat) : Int) = 0 then some (D.tup [.int x, (itM p as x.toNat).d]) else none
  | _ => none
theorem half_list {p : Prg} {as : List Int} {ev : Nat} (h : 1 ≤ ev) : ((keptM p as ev 9).map fun q => kD q.1).filterMap (halfH p as ev) = (List.range 5).map fun i => D.tup [.int ((i * (2 * ev) : Nat) : Int), (itM p as (i * (2 * ev))).d] := by
  have md : ∀ i : Nat, ((i * ev : Nat) : Int) % ((2 * ev : Nat) : Int) = ((i % 2 * ev : Nat) : Int) := by
    intro i
    have : (i * ev) % (2 * ev) = i % 2 * ev := Nat.mul_mod_mul_right ev i 2
    rw [← this]; rfl
  have e1 : keptM p as ev 9 = [kvM p as (0 * ev), kvM p as (1 * ev), kvM p as (2 * ev), kvM p as (3 * ev), kvM p as (4 * ev), kvM p as (5 * ev), kvM p as (6 * ev), kvM p as (7 * ev), kvM p as (8 * ev)] := rfl
  have nz : ¬ ((1 * ev : Nat) : Int) = 0 := by omega
  have r5 : List.range 5 = [0, 1, 2, 3, 4] := rfl
  rw [e1, r5]
  simp only [List.map_cons, List.map_nil, kvM, kD, List.filterMap_cons, List.filterMap_nil, halfH, md]
  simp only [Nat.reduceMod, Nat.zero_mul, nz, if_false, Int.toNat_natCast, Int.natCast_zero, if_true]
  rw [show 1 * (2 * ev) = 2 * ev by omega, show 2 * (2 * ev) = 4 * ev by omega, show 3 * (2 * ev) = 6 * ev by omega, show 4 * (2 * ev) = 8 * ev by omega]
  rfl
theorem half_pairs {p : Prg} {as : List Int} {ev : Nat} : pairsL ((List.range 5).map fun i => D.tup [.int ((i * (2 * ev) : Nat) : Int), (itM p as (i * (2 * ev))).d]) = some (keptM p as (2 * ev) 5) := rfl
end Bt
namespace Bt
open PySem PySem.Spec PyProof.Rows L2
/-- one moment farther -/
def Tp.next (t : Tp) : Tp := { t with far := t.far + 1 }
theorem div_next {e f : Nat} (he : 1 ≤ e) : (f + 1) / e = if (f + 1) % e = 0 then f / e + 1 else f / e := by
  have h1 := Nat.div_add_mod f e
  have h2 := Nat.mod_lt f (show 0 < e by omega)
  have h3 : e * (f / e + 1) = e * (f / e) + e := Nat.mul_succ _ _
  by_cases q : f % e + 1 = e
  · have e1 : f + 1 = e * (f / e + 1) := by omega
    have e2 : (f + 1) % e = 0 := by rw [e1]; exact Nat.mul_mod_right _ _
    have e3 : (f + 1) / e = f / e + 1 := by rw [e1]; exact Nat.mul_div_cancel_left _ (by omega)
    rw [if_pos e2]; exact e3
  · have lt : f % e + 1 < e := by omega
    have e1 : f + 1 = (f % e + 1) + e * (f / e) := by omega
    have e2 : (f + 1) % e = f % e + 1 := by
      rw [e1, Nat.add_mul_mod_self_left]; exact Nat.mod_eq_of_lt lt
    have e3 : (f + 1) / e = f / e := by
      rw [e1, Nat.add_mul_div_left _ _ (show 0 < e by omega), Nat.div_eq_of_lt lt, Nat.zero_add]
    rw [if_neg (by rw [e2]; omega)]; exact e3
def kC : Ex := eOp opGt (eKLen "Tape" "kept" 0) (eC c_MOST_MARKS)
def kP : Ex := eTup (eCons (eVar 3) (eCons (eKIx "Tape" "kept" 0 3) eNil))
def kT : Ex := eOp opEq (eOp opMod (eVar 3) (eFld "Tape" "every" (eVar 0))) (eC (.int 0))
def kB : Sx := sSeq (sFldS "Tape" "every" (eVar 0) (eOp opMul (eC (.int 2)) (eFld "Tape" "every" (eVar 0))))
    (sKDict "Tape" "kept" (eVar 0) (eLock "Tape" "kept" 0 (eComp [3] (iKeysF "Tape" "kept" 0) (dN 3) kT kP)))
def kI : Sx := sIf (eOp opGt (eVar 1) (eFld "Tape" "far" (eVar 0)))
    (sSeq (sFldS "Tape" "far" (eVar 0) (eVar 1))
    (sIf (eOp opEq (eOp opMod (eVar 1) (eFld "Tape" "every" (eVar 0))) (eC (.int 0)))
    (sKPut "Tape" "kept" 0 1 (eVar 2))
    sSkip))
    sSkip
theorem keep_is : G_Tape_keep = fnBody 3 4 (sSeq kI (whileN kC kB 100000)) := rfl
section
variable {t : Tp} {S : Sto} {n : Nat}
/-- the tape's object by its parts -/
abbrev tpO (p as : D) (ev most : Int) (kept : List (Key × D)) (far : Int) (last : D) (here : Int) : AObj := .inst "Tape" (fsM p as ev most kept far last here)
theorem kC_ev {p as last a b : D} {ev most far here : Int} {kept : List (Key × D)} {o3 : Option D} (hn : n < S.length) : kC [some (.obj n), some a, some b, o3] (S.set n (tpO p as ev most kept far last here)) = .ok (.bl (decide (8 < kept.length))) (S.set n (tpO p as ev most kept far last here)) := by
  have hk := kIn_of (c := "Tape") (f := "kept") (i := 0) (ρ := [some (.obj n), some a, some b, o3]) (S := S.set n (tpO p as ev most kept far last here)) rfl (in_set hn) g_kept
  unfold kC
  simp only [s_op, eKLen, hk, ER.bind_ok, s_c, c_MOST_MARKS]
  show ER.ok (.bl (decide ((kept.length : Int) > 8))) _ = _
  rw [show decide ((kept.length : Int) > 8) = decide (8 < kept.length) from decide_eq_decide.mpr (by omega)]
theorem kB_ev {p : Prg} {as : List Int} {pd ad last a b : D} {ev : Nat} {most far here : Int} (hev : 1 ≤ ev) (hn : n < S.length) (hS : S.all noLk = true) :
    kB [some (.obj n), some a, some b, none] (S.set n (tpO pd ad ev most (keptM p as ev 9) far last here)) = .nx [some (.obj n), some a, some b, none] (S.set n (tpO pd ad ((2 * ev : Nat) : Int) most (keptM p as (2 * ev) 5) far last here)) := by
  have lock : eLock "Tape" "kept" 0 (eComp [3] (iKeysF "Tape" "kept" 0) (dN 3) kT kP) [some (.obj n), some a, some b, none] (S.set n (tpO pd ad ((2 * ev : Nat) : Int) most (keptM p as ev 9) far last here)) = .ok (.lst ((List.range 5).map fun i => D.tup [.int ((i * (2 * ev) : Nat) : Int), (itM p as (i * (2 * ev))).d])) (S.set n (tpO pd ad ((2 * ev : Nat) : Int) most (keptM p as ev 9) far last here)) := by
    refine lock_eval hn hS rfl g_kept lock_fs ?_
    have hr := rd_lk (c := "Tape") (S := S) (fs := fsM pd ad ((2 * ev : Nat) : Int) most (keptM p as ev 9) far last here) hn
    unfold eComp
    rw [keysF_eval hn rfl g_kept]
    simp only [ER.bind_ok]
    rw [compL_fm (h := halfH p as ev), half_list hev, List.nil_append]
    · intro d hd
      obtain ⟨q, hq, rfl⟩ := List.mem_map.mp hd
      unfold keptM at hq
      obtain ⟨i, hi, rfl⟩ := List.mem_map.mp hq
      have hv := val_kept (p := p) (as := as) (n := 0) hev (List.mem_range.mp hi)
      have pe : (0 : Int) < ((2 * ev : Nat) : Int) := by omega
      have hk := kRd_of (c := "Tape") (f := "kept") (i := 0) (ρ := [some (.obj n), some a, some b, some (.int ((i * ev : Nat) : Int))]) (d := .obj n) rfl hr g_kept
      unfold stepC
      show (match kT [some (.obj n), some a, some b, some (.int ((i * ev : Nat) : Int))] _ with | .ok (.bl true) S1 => _ | .ok (.bl false) S1 => _ | _ => _) = _
      have hT : kT [some (.obj n), some a, some b, some (.int ((i * ev : Nat) : Int))] (S.set n (.lki "Tape" (fsM pd ad ((2 * ev : Nat) : Int) most (keptM p as ev 9) far last here))) = .ok (.bl (decide (((i * ev : Nat) : Int) % ((2 * ev : Nat) : Int) = 0))) (S.set n (.lki "Tape" (fsM pd ad ((2 * ev : Nat) : Int) most (keptM p as ev 9) far last here))) := by
        unfold kT
        simp only [s_op, s_fld, s_var0, s_varS, ER.bind_ok, hr, g_ev, lift1_some, o_mod, if_pos pe, s_c, o_eqI]
      rw [hT]
      by_cases z : ((i * ev : Nat) : Int) % ((2 * ev : Nat) : Int) = 0
      · rw [decide_eq_true z]
        have hP : kP [some (.obj n), some a, some b, some (.int ((i * ev : Nat) : Int))] (S.set n (.lki "Tape" (fsM pd ad ((2 * ev : Nat) : Int) most (keptM p as ev 9) far last here))) = .ok (.tup [.int ((i * ev : Nat) : Int), (itM p as (i * ev)).d]) (S.set n (.lki "Tape" (fsM pd ad ((2 * ev : Nat) : Int) most (keptM p as ev 9) far last here))) := by
          unfold kP eKIx
          simp only [s_tup, s_cons, s_nil, s_var0, s_varS, ER.bind_ok, hk, sl_0, sl_S, keyD, hv, lift1_some]
          rfl
        show (match kP [some (.obj n), some a, some b, some (.int ((i * ev : Nat) : Int))] (S.set n (.lki "Tape" (fsM pd ad ((2 * ev : Nat) : Int) most (keptM p as ev 9) far last here))) with | .ok y S2 => some (some y, S2) | _ => none) = _
        rw [hP]
        show some (some (D.tup [.int ((i * ev : Nat) : Int), (itM p as (i * ev)).d]), _) = some ((if ((i * ev : Nat) : Int) % ((2 * ev : Nat) : Int) = 0 then some (D.tup [.int ((i * ev : Nat) : Int), (itM p as ((i * ev : Nat) : Int).toNat).d]) else none), _)
        rw [if_pos z, Int.toNat_natCast]
      · rw [decide_eq_false z]
        show some (none, _) = some ((if ((i * ev : Nat) : Int) % ((2 * ev : Nat) : Int) = 0 then some (D.tup [.int ((i * ev : Nat) : Int), (itM p as ((i * ev : Nat) : Int).toNat).d]) else none), _)
        rw [if_neg z]
    · rw [List.length_map, kept_len]; decide
  have hm : mergeD [] (keptM p as (2 * ev) 5) = keptM p as (2 * ev) 5 := mergeD_new _ [] (kept_nodup (by omega))
  have r1 := rd_set (c := "Tape") (S := S) (fs := fsM pd ad ev most (keptM p as ev 9) far last here) hn
  have i1 := in_set (c := "Tape") (S := S) (fs := fsM pd ad ev most (keptM p as ev 9) far last here) hn
  have i2 := in_set (c := "Tape") (S := S) (fs := fsM pd ad ((2 * ev : Nat) : Int) most (keptM p as ev 9) far last here) hn
  have m2 : (2 : Int) * (ev : Int) = ((2 * ev : Nat) : Int) := by omega
  unfold kB
  rw [s_seq]
  have h1 : sFldS "Tape" "every" (eVar 0) (eOp opMul (eC (.int 2)) (eFld "Tape" "every" (eVar 0))) [some (.obj n), some a, some b, none] (S.set n (tpO pd ad ev most (keptM p as ev 9) far last here)) = .nx [some (.obj n), some a, some b, none] (S.set n (tpO pd ad ((2 * ev : Nat) : Int) most (keptM p as ev 9) far last here)) := by
    simp only [s_fldS, s_op, s_c, s_fld, s_var0, ER.bind_ok, r1, g_ev, lift1_some, o_mul, ER.toS, i1, len_fs, s_ev, List.set_set, m2]
    rw [if_pos (Or.inl (by decide))]
    simp only [lift1_some, ER.toS, i1, len_fs, s_ev, List.set_set]
    rfl
  rw [h1]
  show sKDict "Tape" "kept" (eVar 0) _ _ _ = _
  unfold sKDict
  rw [lock]
  simp only [ER.toS, half_pairs, s_var0, i2, len_fs, s_kept, List.set_set, hm]
  rfl
theorem keep_new (h : TpOk t) (hn : n < S.length) (hS : S.all noLk = true) : G_Tape_keep [.obj n, .int ((t.far + 1 : Nat) : Int), (itM t.p t.as (t.far + 1)).d] (S.set n t.o) = .ok .non (S.set n t.next.o) := by
  rw [keep_is, fnB3]
  obtain ⟨hev, h8⟩ := evF_ok h.e0 t.far
  have hdiv := div_next (f := t.far) hev
  have evn : evF t.e0 (t.far + 1) = if 8 ≤ (t.far + 1) / evF t.e0 t.far then 2 * evF t.e0 t.far else evF t.e0 t.far := rfl
  unfold Tp.o Tp.fs Tp.next Tp.ev
  simp only
  rw [evn]
  generalize evF t.e0 t.far = ev at *
  have hf : (t.far : Int) < ((t.far + 1 : Nat) : Int) := by omega
  have rs := fun (fs : List (Str × FV)) => rd_set (c := "Tape") (S := S) (fs := fs) hn
  have is := fun (fs : List (Str × FV)) => in_set (c := "Tape") (S := S) (fs := fs) hn
  have emod : (((t.far + 1 : Nat) : Int) % (ev : Int) = 0) ↔ (t.far + 1) % ev = 0 := by
    rw [show ((t.far + 1 : Nat) : Int) % (ev : Int) = (((t.far + 1) % ev : Nat) : Int) from rfl]; omega
  have pev : (0 : Int) < (ev : Int) := by omega
  -- what the first statement leaves
  have first : kI [some (.obj n), some (.int ((t.far + 1 : Nat) : Int)), some (itM t.p t.as (t.far + 1)).d, none] (S.set n (tpO (prgD t.p) (asD t.as) ev t.most (keptM t.p t.as ev (t.far / ev + 1)) t.far (lastD t.last) t.here)) =
      .nx [some (.obj n), some (.int ((t.far + 1 : Nat) : Int)), some (itM t.p t.as (t.far + 1)).d, none] (S.set n (tpO (prgD t.p) (asD t.as) ev t.most (keptM t.p t.as ev ((t.far + 1) / ev + 1)) ((t.far + 1 : Nat) : Int) (lastD t.last) t.here)) := by
    unfold kI
    have hb : decide ((((t.far + 1 : Nat) : Int)) > (t.far : Int)) = true := decide_eq_true (by omega)
    simp only [s_seq, s_if, s_op, s_fld, s_fldS, s_var0, s_varS, ER.bind_ok, rs, is, g_far, g_ev, o_cmp, lift1_some, ER.toS, len_fs, s_far, List.set_set, s_c, hb]
    rw [if_pos (show 8 < 1000 by decide)]
    simp only [SR.seq, o_mod, if_pos pev, rs, is, g_ev, s_if, s_op, s_fld, s_var0, s_varS, ER.bind_ok, lift1_some, ER.toS, s_c, o_eqI]
    by_cases q : (t.far + 1) % ev = 0
    · rw [decide_eq_true (emod.mpr q)]
      rw [if_pos q] at hdiv
      have hany : ((keptM t.p t.as ev (t.far / ev + 1)).any fun kv => decide (kv.1 = .inl ((t.far + 1 : Nat) : Int))) = false := by
        rw [key_mem hev]; apply decide_eq_false; omega
      have hput := putD_new (v := (itM t.p t.as (t.far + 1)).d) hany
      have hkv : kvM t.p t.as ((t.far / ev + 1) * ev) = (.inl ((t.far + 1 : Nat) : Int), (itM t.p t.as (t.far + 1)).d) := by
        have : (t.far / ev + 1) * ev = t.far + 1 := by
          rw [← hdiv]; exact Nat.div_mul_cancel (Nat.dvd_of_mod_eq_zero q)
        rw [this]; rfl
      rw [← hkv, ← kept_succ] at hput
      have hkin := kIn_of (c := "Tape") (f := "kept") (i := 0) (ρ := [some (.obj n), some (.int ((t.far + 1 : Nat) : Int)), some (itM t.p t.as (t.far + 1)).d, none]) (S := S.set n (.inst "Tape" (fsM (prgD t.p) (asD t.as) ev t.most (keptM t.p t.as ev (t.far / ev + 1)) ((t.far + 1 : Nat) : Int) (lastD t.last) t.here))) rfl (is _) g_kept
      have hl : (keptM t.p t.as ev (t.far / ev + 1)).length < lim := by rw [kept_len]; unfold lim; omega
      unfold sKPut
      simp only [s_varS, s_var0, ER.toS, hkin, sl_S, sl_0, keyD]
      rw [if_pos hl, hput, List.set_set, s_kept, hdiv]
    · rw [decide_eq_false (fun z => q (emod.mp z))]
      rw [if_neg q] at hdiv
      rw [hdiv]
      rfl
  show ((sSeq kI (whileN kC kB 100000)) [some (.obj n), some (.int ((t.far + 1 : Nat) : Int)), some (itM t.p t.as (t.far + 1)).d, none] (S.set n (tpO (prgD t.p) (asD t.as) ev t.most (keptM t.p t.as ev (t.far / ev + 1)) t.far (lastD t.last) t.here))).toE = _
  rw [s_seq, first]
  show (whileN kC kB 100000 _ _).toE = _
  by_cases z : 8 ≤ (t.far + 1) / ev
  · have hd : (t.far + 1) / ev = 8 := by
      by_cases q : (t.far + 1) % ev = 0
      · rw [if_pos q] at hdiv; omega
      · rw [if_neg q] at hdiv; omega
    have hd2 : (t.far + 1) / (2 * ev) = 4 := by
      rw [Nat.mul_comm, ← Nat.div_div_eq_div_mul, hd]
    rw [if_pos z, hd, hd2]
    have hc := kC_ev (p := prgD t.p) (as := asD t.as) (last := lastD t.last) (a := .int ((t.far + 1 : Nat) : Int)) (b := (itM t.p t.as (t.far + 1)).d) (ev := ev) (most := t.most) (far := ((t.far + 1 : Nat) : Int)) (here := t.here) (kept := keptM t.p t.as ev 9) (o3 := none) hn
    rw [kept_len] at hc
    have hc2 := kC_ev (p := prgD t.p) (as := asD t.as) (last := lastD t.last) (a := .int ((t.far + 1 : Nat) : Int)) (b := (itM t.p t.as (t.far + 1)).d) (ev := ((2 * ev : Nat) : Int)) (most := t.most) (far := ((t.far + 1 : Nat) : Int)) (here := t.here) (kept := keptM t.p t.as (2 * ev) 5) (o3 := none) hn
    rw [kept_len] at hc2
    rw [while_1 (by decide) hc (kB_ev hev hn hS), while_0 (by decide) hc2]
    rfl
  · rw [if_neg z]
    have hc := kC_ev (p := prgD t.p) (as := asD t.as) (last := lastD t.last) (a := .int ((t.far + 1 : Nat) : Int)) (b := (itM t.p t.as (t.far + 1)).d) (ev := ev) (most := t.most) (far := ((t.far + 1 : Nat) : Int)) (here := t.here) (kept := keptM t.p t.as ev ((t.far + 1) / ev + 1)) (o3 := none) hn
    rw [kept_len, decide_eq_false (by omega)] at hc
    rw [while_0 (by decide) hc]
    rfl
end
end Bt
namespace Bt
open PySem PySem.Spec PyProof.Rows L2
theorem maxL_is {l : List Int} {a : Int} (h1 : a ∈ l) (h2 : ∀ x ∈ l, x ≤ a) : maxL l = a := by
  have hne : l ≠ [] := by intro e; rw [e] at h1; cases h1
  exact Int.le_antisymm (h2 _ (maxL_mem hne)) (maxL_ge h1)
def leH (m : Int) : D → Option D := fun d => match d with
  | .int x => if x ≤ m then some (.int x) else none
  | _ => none
theorem leH_map (m : Int) : ∀ l : List Int, (l.map D.int).filterMap (leH m) = (l.filter fun x => decide (x ≤ m)).map D.int
  | [] => rfl
  | a :: l => by
    have ih := leH_map m l
    by_cases q : a ≤ m
    · have e : leH m (.int a) = some (.int a) := if_pos q
      rw [List.map_cons, List.filterMap_cons_some e, ih, List.filter_cons_of_pos (by simpa using q), List.map_cons]
    · have e : leH m (.int a) = none := if_neg q
      rw [List.map_cons, List.filterMap_cons_none e, ih, List.filter_cons_of_neg (by simpa using q)]
def ksI (ev n : Nat) : List Int := (List.range n).map fun i => ((i * ev : Nat) : Int)
theorem keys_kept {p : Prg} {as : List Int} {ev n : Nat} : ((keptM p as ev n).map fun q => kD q.1) = (ksI ev n).map D.int := by
  unfold keptM ksI
  rw [List.map_map, List.map_map]; rfl
/-- the last mark up to a moment -/
def mkA (t : Tp) (m : Nat) : Nat := min (m / t.ev) (t.far / t.ev)
theorem max_keys {ev n m : Nat} (hev : 1 ≤ ev) (hn : 1 ≤ n) : maxL ((ksI ev n).filter fun x => decide (x ≤ (m : Int))) = ((min (m / ev) (n - 1) * ev : Nat) : Int) := by
  refine maxL_is ?_ ?_
  · refine List.mem_filter.mpr ⟨List.mem_map.mpr ⟨min (m / ev) (n - 1), List.mem_range.mpr (by omega), rfl⟩, decide_eq_true ?_⟩
    have h1 : min (m / ev) (n - 1) * ev ≤ m / ev * ev := Nat.mul_le_mul_right _ (Nat.min_le_left _ _)
    have h2 := Nat.div_mul_le_self m ev
    omega
  · intro x hx
    obtain ⟨h1, h2⟩ := List.mem_filter.mp hx
    obtain ⟨i, hi, rfl⟩ := List.mem_map.mp h1
    have h3 := of_decide_eq_true h2
    have h4 : i * ev ≤ m := by omega
    have h5 : i ≤ m / ev := (Nat.le_div_iff_mul_le (by omega)).mpr h4
    have h6 := List.mem_range.mp hi
    have : i * ev ≤ min (m / ev) (n - 1) * ev := Nat.mul_le_mul_right _ (by omega)
    omega
def cM : Ex := eLock "Tape" "kept" 0 (eComp [4] (iKeysF "Tape" "kept" 0) (dN 4) (eOp opLe (eVar 4) (eVar 1)) (eVar 4))
noncomputable def cC : Ex := eAnd (eOp opLt (eVar 2) (eVar 1)) (eNot (eCall G_is_over (eCons (eFld "Tape" "program" (eVar 0)) (eCons (eVar 3) eNil))))
noncomputable def cB : Sx := sSeq (sSet 3 (eCall G_stepped (eCons (eFld "Tape" "program" (eVar 0)) (eCons (eFld "Tape" "asked" (eVar 0)) (eCons (eVar 3) eNil)))))
    (sSeq (sSet 2 (eOp opAdd (eVar 2) (eC (.int 1))))
    (sExpr (eMCall "Tape" "keep" G_Tape_keep (eVar 0) (eCons (eVar 2) (eCons (eVar 3) eNil)))))
theorem came_is : G_Tape_came = fnBody 2 5 (sSeq (sSet 2 (eCallB (f1 bMaxL) (eCons cM eNil))) (sSeq (sSet 3 (eKIx "Tape" "kept" 0 2)) (sSeq (whileN cC cB 100000) (sRet (eTup (eCons (eVar 3) (eCons (eVar 2) eNil))))))) := rfl
theorem TpOk.next {t : Tp} (h : TpOk t) (ho : over t.p (itM t.p t.as t.far) = false) (hm : ((t.far + 1 : Nat) : Int) ≤ t.most) : TpOk t.next :=
  ⟨h.p, h.as, h.e0, fun j hj => by
    rcases Nat.lt_or_eq_of_le (Nat.lt_succ_iff.mp hj) with z | z
    · exact h.far j z
    · rw [z]; exact ho, h.m0, h.m1, hm, h.last, h.h0⟩
theorem cM_ev {t : Tp} {S : Sto} {n m : Nat} {a b c : Option D} (h : TpOk t) (hn : n < S.length) (hS : S.all noLk = true) : cM [some (.obj n), some (.int (m : Nat)), a, b, c] (S.set n t.o) = .ok (.lst (((ksI t.ev (t.far / t.ev + 1)).filter fun x => decide (x ≤ (m : Int))).map D.int)) (S.set n t.o) := by
  have h8 := (evF_ok h.e0 t.far).2
  refine lock_eval hn hS rfl g_kept lock_fs ?_
  unfold eComp
  have gk : getF "kept" t.fs = some (.k (keptM t.p t.as t.ev (t.far / t.ev + 1))) := g_kept
  rw [keysF_eval hn rfl gk]
  simp only [ER.bind_ok]
  rw [keys_kept, compL_fm (h := leH m), leH_map, List.nil_append]
  · intro d hd
    obtain ⟨x, _, rfl⟩ := List.mem_map.mp hd
    unfold stepC leH
    by_cases q : x ≤ (m : Int)
    · simp [dN, wipeD, q]
    · simp [dN, wipeD, q]
  · rw [List.length_map]; unfold ksI; rw [List.length_map, List.length_range]
    unfold Tp.ev lim
    simp; omega
theorem cC_ev {t : Tp} {S : Sto} {n m k : Nat} {c : Option D} (h : TpOk t) (hn : n < S.length) (hk : StOk t.p k (itM t.p t.as k)) :
    cC [some (.obj n), some (.int (m : Nat)), some (.int (k : Nat)), some (itM t.p t.as k).d, c] (S.set n t.o) = .ok (.bl (decide (k < m) && !over t.p (itM t.p t.as k))) (S.set n t.o) := by
  have r : rdAt "Tape" (S.set n t.o) (.obj n) = some t.fs := rd_set hn
  have g : getF "program" t.fs = some (.d (prgD t.p)) := g_prog
  have o := over_law (S := S.set n t.o) hk
  unfold cC
  by_cases q : k < m
  · have q' : (k : Int) < (m : Int) := by omega
    simp [q, r, g, o]
  · have q' : ¬ (k : Int) < (m : Int) := by omega
    simp [q]
theorem cB_ev {t : Tp} {S : Sto} {n m k : Nat} {c : Option D} (h : TpOk t) (hn : n < S.length) (hS : S.all noLk = true) (hk : StOk t.p k (itM t.p t.as k)) (ho : over t.p (itM t.p t.as k) = false) (hk2 : k < 10000) (hkf : k ≤ t.far) :
    cB [some (.obj n), some (.int (m : Nat)), some (.int (k : Nat)), some (itM t.p t.as k).d, c] (S.set n t.o) = .nx [some (.obj n), some (.int (m : Nat)), some (.int ((k + 1 : Nat) : Int)), some (itM t.p t.as (k + 1)).d, c] (S.set n (if k + 1 ≤ t.far then t.o else t.next.o)) := by
  have r : rdAt "Tape" (S.set n t.o) (.obj n) = some t.fs := rd_set hn
  have g1 : getF "program" t.fs = some (.d (prgD t.p)) := g_prog
  have g2 : getF "asked" t.fs = some (.d (asD t.as)) := g_ask
  have g3 : getF "keep" t.fs = none := g_mkeep
  have st := step_law (as := t.as) (S := S.set n t.o) h.p hk ho (by omega)
  have e1 : (k : Int) + 1 = ((k + 1 : Nat) : Int) := by omega
  unfold cB
  simp only [s_seq, s_set, s_call, s_cons, s_nil, s_fld, s_var0, s_varS, ER.bind_ok, r, g1, g2, st, ER.toS, List.set_cons_succ, List.set_cons_zero, SR.seq, s_op, s_c, o_addI, lift1_some, e1, s_expr, s_mcall, g3]
  show (G_Tape_keep [.obj n, .int ((k + 1 : Nat) : Int), (itM t.p t.as (k + 1)).d] (S.set n t.o)).toS _ _ = _
  by_cases q : k + 1 ≤ t.far
  · rw [if_pos q, keep_old h hn q]; rfl
  · rw [if_neg q]
    have : k = t.far := by omega
    subst this
    rw [keep_new h hn hS]; rfl
def Tp.at' (t : Tp) (r : Nat) : Tp := { t with far := max t.far r }
theorem came_loop {S : Sto} {n m : Nat} {c : Option D} (hn : n < S.length) (hS : S.all noLk = true) (hm2 : m < 10000) : ∀ (f k : Nat) (t : Tp), TpOk t → (m : Int) ≤ t.most → k ≤ t.far → k ≤ endM t.p t.as m → endM t.p t.as m - k < f →
    whileN cC cB f [some (.obj n), some (.int (m : Nat)), some (.int (k : Nat)), some (itM t.p t.as k).d, c] (S.set n t.o) = .nx [some (.obj n), some (.int (m : Nat)), some (.int ((endM t.p t.as m : Nat) : Int)), some (itM t.p t.as (endM t.p t.as m)).d, c] (S.set n (t.at' (endM t.p t.as m)).o) := by
  intro f
  induction f with
  | zero => intro k t _ _ _ _ hf; omega
  | succ f ih =>
    intro k t h hm hkf hkr hf
    have hno : ∀ j, j < k → over t.p (itM t.p t.as j) = false := fun j hj => endM_lt m j (by omega)
    have hk := itM_ok h.p h.as k hno
    have hle := endM_le (p := t.p) (as := t.as) m
    rcases Nat.lt_or_eq_of_le hkr with q | q
    · have ho := endM_lt m k q
      have hc := cC_ev (m := m) (c := c) (S := S) h hn hk
      rw [ho, decide_eq_true (by omega)] at hc
      have hb := cB_ev (m := m) (c := c) h hn hS hk ho (by omega) hkf
      rw [while_1 (by omega) hc hb, Nat.add_sub_cancel]
      by_cases z : k + 1 ≤ t.far
      · rw [if_pos z]
        exact ih (k + 1) t h hm z q (by omega)
      · rw [if_neg z]
        have e : k = t.far := by omega
        subst e
        have := ih (t.far + 1) t.next (h.next ho (by omega)) hm (Nat.le_refl _) q (by show endM t.p t.as m - (t.far + 1) < f; omega)
        rw [show (t.next.at' (endM t.next.p t.next.as m)) = t.at' (endM t.p t.as m) from by
          unfold Tp.at' Tp.next
          simp only
          rw [show max (t.far + 1) (endM t.p t.as m) = max t.far (endM t.p t.as m) by omega]] at this
        exact this
    · have hc := cC_ev (m := m) (c := c) (S := S) h hn hk
      have hfalse : (decide (k < m) && !over t.p (itM t.p t.as k)) = false := by
        rcases endM_over (p := t.p) (as := t.as) m with y | y
        · rw [decide_eq_false (by omega)]; rfl
        · rw [← q] at y; rw [y]; simp
      rw [hfalse] at hc
      rw [while_0 (by omega) hc, ← q]
      rw [show t.at' k = t from by
        unfold Tp.at'
        rw [Nat.max_eq_left hkf]]
theorem came_law {t : Tp} {S : Sto} {n m : Nat} (h : TpOk t) (hn : n < S.length) (hS : S.all noLk = true) (hm : (m : Int) ≤ t.most) :
    G_Tape_came [.obj n, .int (m : Nat)] (S.set n t.o) = .ok (.tup [(itM t.p t.as (endM t.p t.as m)).d, .int ((endM t.p t.as m : Nat) : Int)]) (S.set n (t.at' (endM t.p t.as m)).o) := by
  have hm1 := h.m1
  obtain ⟨hev, h8⟩ := evF_ok h.e0 t.far
  rw [came_is, fnB2]
  have hmx := max_keys (ev := t.ev) (n := t.far / t.ev + 1) (m := m) hev (Nat.le_add_left 1 _)
  have hcm := cM_ev (t := t) (S := S) (n := n) (m := m) (a := none) (b := none) (c := none) h hn hS
  generalize hl : (ksI t.ev (t.far / t.ev + 1)).filter (fun x => decide (x ≤ (m : Int))) = l at *
  rw [Nat.add_sub_cancel] at hmx
  have hA : mkA t m < t.far / t.ev + 1 := by unfold mkA; omega
  have hA2 : mkA t m * t.ev ≤ t.far := Nat.le_trans (Nat.mul_le_mul_right _ (Nat.min_le_right _ _)) (Nat.div_mul_le_self _ _)
  have hA3 : mkA t m * t.ev ≤ m := Nat.le_trans (Nat.mul_le_mul_right _ (Nat.min_le_left _ _)) (Nat.div_mul_le_self _ _)
  have hlne : l ≠ [] := by
    intro e
    rw [← hl] at e
    have : ((0 * t.ev : Nat) : Int) ∈ (ksI t.ev (t.far / t.ev + 1)).filter fun x => decide (x ≤ (m : Int)) :=
      List.mem_filter.mpr ⟨List.mem_map.mpr ⟨0, List.mem_range.mpr (Nat.succ_pos _), rfl⟩, decide_eq_true (by rw [Nat.zero_mul]; omega)⟩
    rw [e] at this; cases this
  have hbm : f1 bMaxL (S.set n t.o) [.lst (l.map D.int)] = some (.int ((mkA t m * t.ev : Nat) : Int)) := by
    show bMaxL _ _ = _
    unfold bMaxL onInts
    simp only [seqOf, intsOf_map, hmx]
    rw [if_pos (List.length_pos_iff.mpr hlne)]; rfl
  have hkx := kRd_of (c := "Tape") (f := "kept") (i := 0) (ρ := [some (.obj n), some (.int (m : Nat)), some (.int ((mkA t m * t.ev : Nat) : Int)), none, none]) (S := S.set n t.o) (d := .obj n) rfl (rd_set hn) g_kept
  have hval := val_kept (p := t.p) (as := t.as) (n := 0) (ev := t.ev) hev hA
  have hkr : mkA t m * t.ev ≤ endM t.p t.as m := by
    rcases endM_over (p := t.p) (as := t.as) m with y | y
    · omega
    · rcases Nat.lt_or_ge (endM t.p t.as m) (mkA t m * t.ev) with z | z
      · rw [h.far _ (by omega)] at y; cases y
      · exact z
  have lp := came_loop (c := none) hn hS (by omega) 100000 (mkA t m * t.ev) t h hm hA2 hkr (by have := endM_le (p := t.p) (as := t.as) m; omega)
  simp only [s_seq, s_set, s_callB, s_cons, s_nil, ER.bind_ok, List.cons_append, List.nil_append, List.replicate, hcm, hbm, lift1_some, ER.toS, SR.seq, List.set_cons_succ, List.set_cons_zero, eKIx, hkx, sl_S, sl_0, keyD, hval, lp, s_ret, s_tup, s_varS, s_var0, List.length_cons, List.length_nil]
  rfl
end Bt
namespace Bt
open PySem PySem.Spec PyProof.Rows L2
theorem endM_eq {p : Prg} {as : List Int} {m N : Nat} (h : m ≤ endM p as N) : endM p as m = m := endM_is (Nat.le_refl _) (fun i hi => endM_lt N i (by omega)) (.inl rfl)
theorem endM_ne {p : Prg} {as : List Int} {m N : Nat} (hm : m ≤ N) (h : endM p as N < m) : endM p as m = endM p as N := by
  refine endM_is (by omega) (fun i hi => endM_lt N i hi) ?_
  rcases endM_over (p := p) (as := as) N with y | y
  · omega
  · exact .inr y
theorem TpOk.at' {t : Tp} (h : TpOk t) {r : Nat} (hr : r ≤ t.E) : TpOk (t.at' r) := by
  have hle := endM_le (p := t.p) (as := t.as) t.most.toNat
  refine ⟨h.p, h.as, h.e0, fun j hj => ?_, h.m0, h.m1, ?_, h.last, h.h0⟩
  · rcases Nat.lt_or_ge j t.far with z | z
    · exact h.far j z
    · have hj' : j < max t.far r := hj
      exact endM_lt _ j (show j < t.E by omega)
  · show ((max t.far r : Nat) : Int) ≤ t.most
    have := h.f1; have := h.m0
    have hr' : r ≤ t.most.toNat := Nat.le_trans hr hle
    omega
section
variable {t : Tp} {S : Sto} {n : Nat}
theorem rdT (hn : n < S.length) : rdAt "Tape" (S.set n t.o) (.obj n) = some t.fs := rd_set hn
theorem inT (hn : n < S.length) : insAt "Tape" (S.set n t.o) (.obj n) = some (n, t.fs) := in_set hn
theorem tg_prog : getF "program" t.fs = some (.d (prgD t.p)) := g_prog
theorem tg_ask : getF "asked" t.fs = some (.d (asD t.as)) := g_ask
theorem tg_most : getF "most" t.fs = some (.d (.int t.most)) := g_most
theorem tg_last : getF "last" t.fs = some (.d (lastD t.last)) := g_last
theorem tg_here : getF "here" t.fs = some (.d (.int t.here)) := g_here
theorem tg_came : getF "came" t.fs = none := g_mcame
theorem tg_at : getF "at" t.fs = none := g_mat
theorem tg_end : getF "end" t.fs = none := g_mend
theorem tg_moment : getF "moment" t.fs = none := g_mmoment
theorem tg_state : getF "state" t.fs = none := g_mstate
theorem tg_to : getF "to" t.fs = none := g_mto
theorem tg_go : getF "go" t.fs = none := g_mgo
theorem tg_back : getF "back" t.fs = none := g_mback
theorem ts_here {x : Int} : setF "here" (.d (.int x)) t.fs = ({ t with here := x } : Tp).fs := s_here
theorem ts_last {x : Nat} : setF "last" (.d (.int (x : Nat))) t.fs = ({ t with last := some x } : Tp).fs := s_last
theorem tl_fs : t.fs.length = 8 := rfl
theorem at_ok {m : Nat} (h : TpOk t) (hn : n < S.length) (hS : S.all noLk = true) (hm : m ≤ t.E) : G_Tape_at [.obj n, .int (m : Nat)] (S.set n t.o) = .ok (itM t.p t.as m).d (S.set n (t.at' m).o) := by
  have hle := endM_le (p := t.p) (as := t.as) t.most.toNat
  have hm' : (m : Int) ≤ t.most := by
    have := h.m0
    have : m ≤ t.most.toNat := Nat.le_trans hm hle
    omega
  have e := endM_eq hm
  have c := came_law (n := n) h hn hS hm'
  rw [e] at c
  unfold G_Tape_at F_Tape_at
  rw [fnB2]
  have hm0 : (0 : Int) ≤ (m : Int) := by omega
  simp [rdT hn, tg_most, tg_came, hm', c, sAsg, dTup, dCons, dN, dNil]
theorem at_no {m : Int} (h : TpOk t) (hn : n < S.length) (hS : S.all noLk = true) (hm : ¬ (0 ≤ m ∧ m ≤ t.E)) : ∃ r, r ≤ t.E ∧ G_Tape_at [.obj n, .int m] (S.set n t.o) = .exc .moment (S.set n (t.at' r).o) := by
  have z0 : t.at' 0 = t := by
    unfold Tp.at'
    rw [Nat.max_eq_left (Nat.zero_le _)]
  unfold G_Tape_at F_Tape_at
  rw [fnB2]
  by_cases q0 : 0 ≤ m
  · by_cases q1 : m ≤ t.most
    · obtain ⟨k, rfl⟩ := Int.eq_ofNat_of_zero_le q0
      have hk : t.E < k := by omega
      have e := endM_ne (p := t.p) (as := t.as) (m := k) (N := t.most.toNat) (by omega) hk
      have c := came_law (n := n) (m := k) h hn hS q1
      rw [e] at c
      refine ⟨t.E, Nat.le_refl _, ?_⟩
      have ne : ¬ (t.E : Int) = (k : Int) := by omega
      simp [rdT hn, tg_most, tg_came, q1, c, sAsg, dTup, dCons, dN, dNil]
      rw [decide_eq_false ne]
      simp
    · refine ⟨0, Nat.zero_le _, ?_⟩
      rw [z0]
      simp [rdT hn, tg_most, q0, q1]
  · refine ⟨0, Nat.zero_le _, ?_⟩
    rw [z0]
    simp [rdT hn, tg_most, q0]
def Tp.end' (t : Tp) : Tp := match t.last with
  | some _ => t
  | none => { t.at' t.E with last := some t.E }
theorem end_law (h : TpOk t) (hn : n < S.length) (hS : S.all noLk = true) : G_Tape_end [.obj n] (S.set n t.o) = .ok (.int (t.E : Nat)) (S.set n t.end'.o) := by
  have hm : ((t.most.toNat : Nat) : Int) = t.most := by have := h.m0; omega
  unfold G_Tape_end F_Tape_end Tp.end'
  rw [fnB1]
  cases q : t.last with
  | some l =>
    have e := h.last l q
    simp [rdT hn, tg_last, q, lastD]
    rw [e]
  | none =>
    have c := came_law (n := n) (m := t.most.toNat) h hn hS (by omega)
    rw [hm] at c
    have w1 : ∀ u : Tp, rdAt "Tape" (S.set n (.inst "Tape" u.fs)) (.obj n) = some u.fs := fun u => rd_set hn
    simp [rdT hn, inT hn, tg_last, tg_most, tg_came, q, lastD, c, tl_fs, ts_last, w1]
    rfl
theorem TpOk.end' (h : TpOk t) : TpOk t.end' := by
  unfold Tp.end'
  cases q : t.last with
  | some l => exact h
  | none =>
    have h2 := h.at' (Nat.le_refl t.E)
    exact ⟨h2.p, h2.as, h2.e0, h2.far, h2.m0, h2.m1, h2.f1, fun l hl => (by injection hl with hl; rw [← hl]; rfl), h2.h0⟩
theorem moment_law (hn : n < S.length) : G_Tape_moment [.obj n] (S.set n t.o) = .ok (.int t.here) (S.set n t.o) := by
  unfold G_Tape_moment F_Tape_moment
  rw [fnB1]
  simp [rdT hn, tg_here]
theorem state_law (h : TpOk t) (hn : n < S.length) (hS : S.all noLk = true) : G_Tape_state [.obj n] (S.set n t.o) = .ok (itM t.p t.as t.here.toNat).d (S.set n (t.at' t.here.toNat).o) := by
  have h0 := h.h0
  have a := at_ok (n := n) (m := t.here.toNat) h hn hS (by show t.here.toNat ≤ endM _ _ _; omega)
  rw [show ((t.here.toNat : Nat) : Int) = t.here by omega] at a
  unfold G_Tape_state F_Tape_state
  rw [fnB1]
  simp [rdT hn, tg_here, tg_at, a]
theorem to_law {m : Nat} (h : TpOk t) (hn : n < S.length) (hS : S.all noLk = true) (hm : m ≤ t.E) : G_Tape_to [.obj n, .int (m : Nat)] (S.set n t.o) = .ok .non (S.set n ({ t.at' m with here := (m : Int) } : Tp).o) := by
  have a := at_ok (n := n) (m := m) h hn hS hm
  unfold G_Tape_to F_Tape_to
  rw [fnB2]
  simp [rdT hn, tg_at, a, inT hn, tl_fs, ts_here]
  rfl
theorem end_E : t.end'.E = t.E := by unfold Tp.end' Tp.E; cases t.last <;> rfl
theorem end_here : t.end'.here = t.here := by unfold Tp.end'; cases t.last <;> rfl
theorem end_p : t.end'.p = t.p := by unfold Tp.end'; cases t.last <;> rfl
theorem end_as : t.end'.as = t.as := by unfold Tp.end'; cases t.last <;> rfl
theorem end_most : t.end'.most = t.most := by unfold Tp.end'; cases t.last <;> rfl
theorem end_e0 : t.end'.e0 = t.e0 := by unfold Tp.end'; cases t.last <;> rfl
theorem go_law {k : Int} (h : TpOk t) (hn : n < S.length) (hS : S.all noLk = true) : G_Tape_go [.obj n, .int k] (S.set n t.o) = .ok (.int (min (t.here + k) t.E - t.here)) (S.set n ({ t.end' with here := min (t.here + k) t.E } : Tp).o) := by
  have e := end_law (n := n) h hn hS
  unfold G_Tape_go F_Tape_go
  rw [fnB2]
  have w1 : ∀ u : Tp, rdAt "Tape" (S.set n (.inst "Tape" u.fs)) (.obj n) = some u.fs := fun u => rd_set hn
  simp [rdT hn, tg_here, tg_end, e, inT hn, tl_fs, ts_here, bMin2, w1]
  rfl
theorem back_law {k : Int} (hn : n < S.length) : G_Tape_back [.obj n, .int k] (S.set n t.o) = .ok (.int (t.here - max (t.here - k) 0)) (S.set n ({ t with here := max (t.here - k) 0 } : Tp).o) := by
  unfold G_Tape_back F_Tape_back
  rw [fnB2]
  have w1 : ∀ u : Tp, rdAt "Tape" (S.set n (.inst "Tape" u.fs)) (.obj n) = some u.fs := fun u => rd_set hn
  simp [rdT hn, tg_here, inT hn, tl_fs, ts_here, bMax2, w1]
  rfl
end
/-- a new tape -/
def tp0 (p : Prg) (as : List Int) (e : Nat) (most : Int) : Tp := ⟨p, as, e, most, 0, none, 0⟩
theorem tp0_ok {p : Prg} {as : List Int} {e : Nat} {most : Int} (hp : PrgOk p) (ha : ∀ n ∈ as, Wo n) (he : 1 ≤ e) (hm : 0 ≤ most ∧ most < 10000) : TpOk (tp0 p as e most) :=
  ⟨hp, ha, he, fun j hj => absurd hj (Nat.not_lt_zero _), hm.1, hm.2, hm.1, fun l h => (by cases h), ⟨Int.le_refl _, by show (0 : Int) ≤ _; omega⟩⟩
theorem in_end {c : Str} {S : Sto} {fs : List (Str × FV)} : insAt c (S ++ [.inst c fs]) (.obj S.length) = some (S.length, fs) := by
  unfold insAt; simp
theorem init_law {p : Prg} {as : List Int} {e : Nat} {most : Int} {S : Sto} : G_Tape___init__ [.obj S.length, prgD p, asD as, .int (e : Nat), .int most] (S ++ [.inst "Tape" []]) = .ok .non (S ++ [(tp0 p as e most).o]) := by
  have b1 : ∀ S : Sto, bList S (asD as) = some (asD as) := fun _ => rfl
  have b2 : ∀ (ρ : Env) (S : Sto), eCall0 G_begun ρ S = .ok sta0.d S := fun ρ S => by unfold eCall0; rw [begun_ok]
  have k0 : mergeD [] [((.inl 0 : Key), sta0.d)] = keptM p as e (0 / e + 1) := by
    rw [Nat.zero_div]
    show [((.inl 0 : Key), sta0.d)] = [kvM p as (0 * e)]
    rw [Nat.zero_mul]; rfl
  unfold G_Tape___init__ F_Tape___init__
  show ((sSeq _ _) ([some _, some _, some _, some _, some _] ++ List.replicate (5 - 5) none) _).toE = _
  simp [in_end, setF, ofString_inj, b1, b2, sKDisp, ePair, pairsD, keyD, k0, set_end]
  unfold Tp.o Tp.fs fsM tp0 Tp.ev evF lastD
  simp
end Bt
namespace Bt
open PySem PySem.Spec PyProof.Rows L2
theorem Like.refl {t : Tp} (h : TpOk t) : Like t t := ⟨rfl, rfl, rfl, rfl, h⟩
theorem set_get {S : Sto} {n : Nat} {o : AObj} (h : S[n]? = some o) : S.set n o = S ∧ n < S.length := by
  have hn := (List.getElem?_eq_some_iff.mp h).1
  have e := (List.getElem?_eq_some_iff.mp h).2
  refine ⟨?_, hn⟩
  rw [← e]; exact List.set_getElem_self hn
section
variable {t u : Tp} {S : Sto} {n : Nat}
theorem at_ex {m : Nat} (hS : S[n]? = some u.o) (hk : S.all noLk = true) (L : Like t u) (hm : m ≤ t.E) : ∃ u', Like t u' ∧ u'.here = u.here ∧ G_Tape_at [.obj n, .int (m : Nat)] S = .ok (itM t.p t.as m).d (S.set n u'.o) := by
  obtain ⟨e, hn⟩ := set_get hS
  have a := at_ok (n := n) (m := m) L.ok hn hk (by rw [L.E]; exact hm)
  rw [e, L.p, L.as] at a
  exact ⟨u.at' m, ⟨L.p, L.as, L.e0, L.most, L.ok.at' (by rw [L.E]; exact hm)⟩, rfl, a⟩
theorem at_noex {m : Int} (hS : S[n]? = some u.o) (hk : S.all noLk = true) (L : Like t u) (hm : ¬ (0 ≤ m ∧ m ≤ t.E)) : ∃ u', Like t u' ∧ u'.here = u.here ∧ G_Tape_at [.obj n, .int m] S = .exc .moment (S.set n u'.o) := by
  obtain ⟨e, hn⟩ := set_get hS
  obtain ⟨r, hr, a⟩ := at_no (n := n) (m := m) L.ok hn hk (by rw [L.E]; exact hm)
  rw [e] at a
  exact ⟨u.at' r, ⟨L.p, L.as, L.e0, L.most, L.ok.at' hr⟩, rfl, a⟩
theorem end_ex (hS : S[n]? = some u.o) (hk : S.all noLk = true) (L : Like t u) : ∃ u', Like t u' ∧ u'.here = u.here ∧ G_Tape_end [.obj n] S = .ok (.int (t.E : Nat)) (S.set n u'.o) := by
  obtain ⟨e, hn⟩ := set_get hS
  have a := end_law (n := n) L.ok hn hk
  rw [e, L.E] at a
  exact ⟨u.end', ⟨end_p.trans L.p, end_as.trans L.as, end_e0.trans L.e0, end_most.trans L.most, L.ok.end'⟩, end_here, a⟩
theorem moment_ex (hS : S[n]? = some u.o) : G_Tape_moment [.obj n] S = .ok (.int u.here) S := by
  obtain ⟨e, hn⟩ := set_get hS
  have a := moment_law (t := u) (n := n) hn
  rwa [e] at a
theorem state_ex (hS : S[n]? = some u.o) (hk : S.all noLk = true) (L : Like t u) : ∃ u', Like t u' ∧ u'.here = u.here ∧ G_Tape_state [.obj n] S = .ok (itM t.p t.as u.here.toNat).d (S.set n u'.o) := by
  obtain ⟨e, hn⟩ := set_get hS
  have h0 := L.ok.h0
  have a := state_law (n := n) L.ok hn hk
  rw [e, L.p, L.as] at a
  exact ⟨u.at' u.here.toNat, ⟨L.p, L.as, L.e0, L.most, L.ok.at' (by show u.here.toNat ≤ endM _ _ _; omega)⟩, rfl, a⟩
theorem to_ex {m : Nat} (hS : S[n]? = some u.o) (hk : S.all noLk = true) (L : Like t u) (hm : m ≤ t.E) : ∃ u', Like t u' ∧ u'.here = (m : Int) ∧ G_Tape_to [.obj n, .int (m : Nat)] S = .ok .non (S.set n u'.o) := by
  obtain ⟨e, hn⟩ := set_get hS
  have hm' : m ≤ u.E := by rw [L.E]; exact hm
  have a := to_law (n := n) (m := m) L.ok hn hk hm'
  rw [e] at a
  refine ⟨{ u.at' m with here := (m : Int) }, ⟨L.p, L.as, L.e0, L.most, (L.ok.at' hm').here (x := (m : Int)) ⟨by omega, ?_⟩⟩, rfl, a⟩
  show (m : Int) ≤ ((u.E : Nat) : Int)
  omega
theorem go_ex {k : Int} (hS : S[n]? = some u.o) (hk : S.all noLk = true) (L : Like t u) (h0 : 0 ≤ k) : ∃ u', Like t u' ∧ u'.here = min (u.here + k) t.E ∧ G_Tape_go [.obj n, .int k] S = .ok (.int (min (u.here + k) t.E - u.here)) (S.set n u'.o) := by
  obtain ⟨e, hn⟩ := set_get hS
  have a := go_law (n := n) (k := k) L.ok hn hk
  have hh := L.ok.h0
  rw [e, L.E] at a
  refine ⟨{ u.end' with here := min (u.here + k) t.E }, ⟨end_p.trans L.p, end_as.trans L.as, end_e0.trans L.e0, end_most.trans L.most, L.ok.end'.here (x := min (u.here + k) t.E) ⟨by omega, ?_⟩⟩, rfl, a⟩
  rw [end_E, L.E]; exact Int.min_le_right _ _
theorem back_ex {k : Int} (hS : S[n]? = some u.o) (L : Like t u) (h0 : 0 ≤ k) : ∃ u', Like t u' ∧ u'.here = max (u.here - k) 0 ∧ G_Tape_back [.obj n, .int k] S = .ok (.int (u.here - max (u.here - k) 0)) (S.set n u'.o) := by
  obtain ⟨e, hn⟩ := set_get hS
  have a := back_law (t := u) (n := n) (k := k) hn
  have hh := L.ok.h0
  rw [e] at a
  refine ⟨{ u with here := max (u.here - k) 0 }, ⟨L.p, L.as, L.e0, L.most, L.ok.here (x := max (u.here - k) 0) ⟨Int.le_max_right _ _, ?_⟩⟩, rfl, a⟩
  show max (u.here - k) 0 ≤ ((endM u.p u.as u.most.toNat : Nat) : Int)
  omega
end
end Bt
namespace Bt
open PySem PySem.Spec PyProof.Rows L2
theorem sq_nx {ρ : Env} {S : Sto} {f : Sx} : (SR.nx ρ S).seq f = f ρ S := rfl
theorem range1_ev {fe : Ex} {ρ : Env} {S S1 : Sto} {n : Nat} (h : fe ρ S = .ok (.int (n : Nat)) S1) (hl : n ≤ lim) : iRange1 fe ρ S = .ok (.tup (rngD 0 n)) S1 := by
  have hl' : (n : Int) ≤ (lim : Int) := Int.ofNat_le.mpr hl
  unfold iRange1
  rw [h]
  simp only [ER.bind_ok]
  rw [if_pos ⟨by omega, hl'⟩]; rfl
theorem range2_ev {fe fe2 : Ex} {ρ : Env} {S S1 S2 : Sto} {a b : Nat} (h : fe ρ S = .ok (.int (a : Nat)) S1) (h2 : fe2 ρ S1 = .ok (.int (b : Nat)) S2) (ha : a ≤ lim) (hb : b ≤ lim) : iRange2 fe fe2 ρ S = .ok (.tup (rngD (a : Nat) (b - a))) S2 := by
  have ha' : (a : Int) ≤ (lim : Int) := Int.ofNat_le.mpr ha
  have hb' : (b : Int) ≤ (lim : Int) := Int.ofNat_le.mpr hb
  unfold iRange2
  rw [h]
  simp only [ER.bind_ok]
  rw [h2]
  simp only [ER.bind_ok]
  rw [if_pos ⟨⟨by omega, ha'⟩, ⟨by omega, hb'⟩⟩, show ((b : Int) - (a : Int)).toNat = b - a by omega]
end Bt
namespace Bt
open PySem PySem.Spec PyProof.Rows L2
theorem Ch.refl {t : Tp} {n : Nat} {S : Sto} (w : W t n S) : Ch n S S := by
  obtain ⟨u, h, _⟩ := w.ex
  exact ⟨u, (set_get h).1.symm⟩
theorem Ch.get {n m : Nat} {S S' : Sto} (h : Ch n S S') (hm : m ≠ n) : S'[m]? = S[m]? := by
  obtain ⟨u, rfl⟩ := h.ex
  rw [List.getElem?_set_ne (Ne.symm hm)]
section
variable {t : Tp} {S : Sto} {n : Nat}
theorem W.rd (w : W t n S) : ∃ u : Tp, rdAt "Tape" S (.obj n) = some u.fs ∧ u.p = t.p ∧ u.as = t.as := by
  obtain ⟨u, h, L⟩ := w.ex
  obtain ⟨e, hn⟩ := set_get h
  have := rdT (t := u) hn
  rw [e] at this
  exact ⟨u, this, L.p, L.as⟩
end
end Bt
namespace Bt
open PySem PySem.Spec PyProof.Rows L2
theorem je_rev {X : Cx} {W : WX} {e : Expr} {fe : Ex} {k : Nat} {p1 p2 p3 pos : Pos} (h : JE X W e fe) : JE X W (.Subscript e (.Slice none none (some (.UnaryOp .USub (.Constant (.int 1) k p1) p2)) p3) pos) (eRev fe) :=
  ⟨peImp (pe_revL h.run) fun σ H Q ⟨g, S, ρ, w, rs, q⟩ => ⟨g, S, ρ, w, rs, Post.of_bind q fun d S1 v g1 H1 _ e1 w1 r1 q1 => by
    cases d with
    | lst l =>
      cases r1 with
      | @lst a xs _ s r =>
        refine ⟨a, xs, rfl, SqL.of (w1.sub _ _ s), fun p hp => ?_⟩
        obtain ⟨w2, e2⟩ := w1.add (o := .lst xs.reverse) hp
        exact (q1.ext e2).val w2 (.lst upd_same (e2.reps (Reps.reverse r)))
    | scr l =>
      cases r1 with
      | @scr a xs _ s r =>
        refine ⟨a, xs, rfl, sqlMono w1.sub s, fun p hp => ?_⟩
        obtain ⟨w2, e2⟩ := w1.add (o := .lst xs.reverse) hp
        exact (q1.ext e2).val w2 (.lst upd_same (e2.reps (Reps.reverse r)))
    | _ => exact q1.elim⟩⟩
def pureO : AObj → Bool
  | .list l => D.pures l
  | .dict kvs => kvs.all fun p => D.pure p.2
  | .dead => true
  | .inst _ fs => fs.all fun p => p.2.pure
  | .abs _ => false
  | .lki _ _ => false
  | .fdict kvs => kvs.all fun p => D.pure p.2
  | .flist l => D.pures l
end Bt
namespace Bt
open PySem PySem.Spec PyProof.Rows L2
noncomputable def F_is_name : Fn := fnBody 1 1
    (sRet (eAnd (eIsT .str (eVar 0)) (eAnd (eOp opEq (eCallB (f1 bLen) (eCons (eVar 0) eNil)) (eC (.int 1))) (eOp opIn (eVar 0) (eC c_NAMES)))))
noncomputable def G_is_name : Fn := F_is_name
noncomputable def F_is_thing : Fn := fnBody 1 1
    (sSeq (sIf (eAnd (eIsT .int (eVar 0)) (eNot (eIsT .bool (eVar 0))))
    (sRet (eChain opLe opLt (eC (.int 0)) (eVar 0) (eC c_CELLS)))
    sSkip)
    (sRet (eCall G_is_name (eCons (eVar 0) eNil))))
noncomputable def G_is_thing : Fn := F_is_thing
noncomputable def F_worth_of : Fn := fnBody 2 2
    (sRet (eIf (eIsT .int (eVar 1)) (eOp opIx (eOp opIx (eVar 0) (eC (.int 2))) (eVar 1)) (eOp opIx (eOp opIx (eVar 0) (eC (.int 1))) (eMeth isStrD mSIdx (eC c_NAMES) (eVar 1)))))
noncomputable def G_worth_of : Fn := F_worth_of
noncomputable def F_need_thing : Fn := fnBody 1 1
    (sIf (eNot (eCall G_is_thing (eCons (eVar 0) eNil)))
    (sRaise .thing)
    sSkip)
noncomputable def G_need_thing : Fn := F_need_thing
noncomputable def F_changes : Fn := fnBody 2 5
    (sSeq (sExpr (eCall G_need_thing (eCons (eVar 1) eNil)))
    (sSeq (sSet 2 (eComp [3] (iRange1 (eOp opAdd (eMCall "Tape" "end" G_Tape_end (eVar 0) eNil) (eC (.int 1)))) (dN 3) eYes (eCall G_worth_of (eCons (eMCall "Tape" "at" G_Tape_at (eVar 0) (eCons (eVar 3) eNil)) (eCons (eVar 1) eNil)))))
    (sRet (eComp [4] (iRange2 (eC (.int 1)) (eCallB (f1 bLen) (eCons (eVar 2) eNil))) (dN 4) (eOp opNe (eOp opIx (eVar 2) (eVar 4)) (eOp opIx (eVar 2) (eOp opSub (eVar 4) (eC (.int 1))))) (eVar 4)))))
noncomputable def G_changes : Fn := F_changes
noncomputable def F_last_change : Fn := fnBody 3 5
    (sSeq (sExpr (eMCall "Tape" "at" G_Tape_at (eVar 0) (eCons (eVar 1) eNil)))
    (sSeq (sSet 3 (eComp [4] (iLst (eCall G_changes (eCons (eVar 0) (eCons (eVar 2) eNil)))) (dN 4) (eOp opLe (eVar 4) (eVar 1)) (eVar 4)))
    (sRet (eIf (eOp opNe (eVar 3) (eLst eNil)) (eOp opIx (eVar 3) (eUn opNeg (eC (.int 1)))) (eC .non)))))
noncomputable def G_last_change : Fn := F_last_change
noncomputable def F_thing_written : Fn := fnBody 2 3
    (sSeq (sExpr (eMCall "Tape" "at" G_Tape_at (eVar 0) (eCons (eVar 1) eNil)))
    (sSeq (sSet 2 (eCall G_written_by (eCons (eFld "Tape" "program" (eVar 0)) (eCons (eFld "Tape" "asked" (eVar 0)) (eCons (eMCall "Tape" "at" G_Tape_at (eVar 0) (eCons (eOp opSub (eVar 1) (eC (.int 1))) eNil)) eNil)))))
    (sRet (eIf (eIsN false (eVar 2)) (eC .non) (eOp opIx (eVar 2) (eC (.int 0)))))))
noncomputable def G_thing_written : Fn := F_thing_written
noncomputable def F_depth : Fn := fnBody 2 2
    (sRet (eCallB (f1 bLen) (eCons (eOp opIx (eMCall "Tape" "at" G_Tape_at (eVar 0) (eCons (eVar 1) eNil)) (eC (.int 3))) eNil)))
noncomputable def G_depth : Fn := F_depth
noncomputable def F_over : Fn := fnBody 2 5
    (sSeq (sSet 2 (eCall G_depth (eCons (eVar 0) (eCons (eVar 1) eNil))))
    (sSeq (sSet 3 (eComp [4] (iRange2 (eOp opAdd (eVar 1) (eC (.int 1))) (eOp opAdd (eMCall "Tape" "end" G_Tape_end (eVar 0) eNil) (eC (.int 1)))) (dN 4) (eOp opLe (eCall G_depth (eCons (eVar 0) (eCons (eVar 4) eNil))) (eVar 2)) (eVar 4)))
    (sRet (eIf (eOp opNe (eVar 3) (eLst eNil)) (eOp opIx (eVar 3) (eC (.int 0))) (eMCall "Tape" "end" G_Tape_end (eVar 0) eNil)))))
noncomputable def G_over : Fn := F_over
noncomputable def F_out : Fn := fnBody 2 5
    (sSeq (sSet 2 (eCall G_depth (eCons (eVar 0) (eCons (eVar 1) eNil))))
    (sSeq (sSet 3 (eComp [4] (iRange2 (eOp opAdd (eVar 1) (eC (.int 1))) (eOp opAdd (eMCall "Tape" "end" G_Tape_end (eVar 0) eNil) (eC (.int 1)))) (dN 4) (eOp opLt (eCall G_depth (eCons (eVar 0) (eCons (eVar 4) eNil))) (eVar 2)) (eVar 4)))
    (sRet (eIf (eOp opNe (eVar 3) (eLst eNil)) (eOp opIx (eVar 3) (eC (.int 0))) (eMCall "Tape" "end" G_Tape_end (eVar 0) eNil)))))
noncomputable def G_out : Fn := F_out
noncomputable def F_back_over : Fn := fnBody 2 5
    (sSeq (sSet 2 (eCall G_depth (eCons (eVar 0) (eCons (eVar 1) eNil))))
    (sSeq (sSet 3 (eComp [4] (iRange1 (eVar 1)) (dN 4) (eOp opLe (eCall G_depth (eCons (eVar 0) (eCons (eVar 4) eNil))) (eVar 2)) (eVar 4)))
    (sRet (eIf (eOp opNe (eVar 3) (eLst eNil)) (eOp opIx (eVar 3) (eUn opNeg (eC (.int 1)))) (eC (.int 0))))))
noncomputable def G_back_over : Fn := F_back_over
noncomputable def F_back_out : Fn := fnBody 2 5
    (sSeq (sSet 2 (eCall G_depth (eCons (eVar 0) (eCons (eVar 1) eNil))))
    (sSeq (sSet 3 (eComp [4] (iRange1 (eVar 1)) (dN 4) (eOp opLt (eCall G_depth (eCons (eVar 0) (eCons (eVar 4) eNil))) (eVar 2)) (eVar 4)))
    (sRet (eIf (eOp opNe (eVar 3) (eLst eNil)) (eOp opIx (eVar 3) (eUn opNeg (eC (.int 1)))) (eC (.int 0))))))
noncomputable def G_back_out : Fn := F_back_out
noncomputable def F_sum_at : Fn := fnBody 3 3
    (sRet (eCall G_reckoned (eCons (eVar 2) (eCons (eMCall "Tape" "at" G_Tape_at (eVar 0) (eCons (eVar 1) eNil)) eNil))))
noncomputable def G_sum_at : Fn := F_sum_at
noncomputable def F_next_so : Fn := fnBody 3 3
    (sSeq (sExpr (eMCall "Tape" "at" G_Tape_at (eVar 0) (eCons (eVar 1) eNil)))
    (sSeq (whileN (eOp opLe (eVar 1) (eMCall "Tape" "end" G_Tape_end (eVar 0) eNil))
    (sSeq (sIf (eOp opNe (eCall G_sum_at (eCons (eVar 0) (eCons (eVar 1) (eCons (eVar 2) eNil)))) (eC (.int 0)))
    (sRet (eVar 1))
    sSkip)
    (sSet 1 (eOp opAdd (eVar 1) (eC (.int 1))))) 100000)
    (sRet (eC .non))))
noncomputable def G_next_so : Fn := F_next_so
noncomputable def F_reads_of (rec : Fn) : Fn := fnBody 2 4
    (sSeq (sSet 2 (eOp opIx (eVar 0) (eC (.int 0))))
    (sSeq (sIf (eOp opEq (eVar 2) (eC (.str "num")))
    (sRet (eLst eNil))
    sSkip)
    (sSeq (sIf (eOp opEq (eVar 2) (eC (.str "name")))
    (sRet (eLst (eCons (eOp opIx (eVar 0) (eC (.int 1))) eNil)))
    sSkip)
    (sSeq (sSet 3 (eCall rec (eCons (eOp opIx (eVar 0) (eC (.int 1))) (eCons (eVar 1) eNil))))
    (sSeq (sIf (eOp opEq (eVar 2) (eC (.str "cell")))
    (sRet (eOp opAdd (eVar 3) (eLst (eCons (eOp opMod (eCall G_reckoned (eCons (eOp opIx (eVar 0) (eC (.int 1))) (eCons (eVar 1) eNil))) (eC c_CELLS)) eNil))))
    sSkip)
    (sRet (eOp opAdd (eVar 3) (eCall rec (eCons (eOp opIx (eVar 0) (eC (.int 2))) (eCons (eVar 1) eNil))))))))))
noncomputable def G_reads_of : Fn := recN F_reads_of 20
noncomputable def F_step_reads : Fn := fnBody 2 4
    (sSeq (sSet 2 (eMCall "Tape" "at" G_Tape_at (eVar 0) (eCons (eOp opSub (eVar 1) (eC (.int 1))) eNil)))
    (sSeq (sSet 3 (eOp opIx (eFld "Tape" "program" (eVar 0)) (eOp opIx (eVar 2) (eC (.int 0)))))
    (sSeq (sIf (eOp opEq (eOp opIx (eVar 3) (eC (.int 0))) (eC (.str "set")))
    (sRet (eCall G_reads_of (eCons (eOp opIx (eVar 3) (eC (.int 2))) (eCons (eVar 2) eNil))))
    sSkip)
    (sRet (eIf (eOp opEq (eOp opIx (eVar 3) (eC (.int 0))) (eC (.str "put"))) (eOp opAdd (eCall G_reads_of (eCons (eOp opIx (eVar 3) (eC (.int 1))) (eCons (eVar 2) eNil))) (eCall G_reads_of (eCons (eOp opIx (eVar 3) (eC (.int 2))) (eCons (eVar 2) eNil)))) (eLst eNil))))))
noncomputable def G_step_reads : Fn := F_step_reads
end Bt
namespace Bt
open PySem PySem.Spec PyProof.Rows L2
theorem is_name_law (i : Fin 6) (S : Sto) : G_is_name [.str (nmS i)] S = .ok (.bl true) S := by
  unfold G_is_name F_is_name
  rw [fnB1]
  have h1 : bLen S (.str (nmS i)) = some (.int 1) := by
    match i with
    | 0 => rfl
    | 1 => rfl
    | 2 => rfl
    | 3 => rfl
    | 4 => rfl
    | 5 => rfl
  have h2 : opIn S (.str (nmS i)) c_NAMES = some (.bl true) := by
    match i with
    | 0 => rfl
    | 1 => rfl
    | 2 => rfl
    | 3 => rfl
    | 4 => rfl
    | 5 => rfl
  simp [isTy, h1, h2]
theorem is_thing_law {t : Th} (ht : t.ok) (S : Sto) : G_is_thing [t.d] S = .ok (.bl true) S := by
  unfold G_is_thing F_is_thing
  rw [fnB1]
  cases t with
  | nm i => simp [Th.d, isTy, is_name_law]
  | cl j =>
    have hj : (j : Int) < 4 := by have : j < 4 := ht; omega
    simp [Th.d, isTy, c_CELLS, hj]
theorem need_thing_law {t : Th} (ht : t.ok) (S : Sto) : G_need_thing [t.d] S = .ok .non S := by
  unfold G_need_thing F_need_thing
  rw [fnB1]
  simp [is_thing_law ht]
theorem worth_of_law {s : Sta} {t : Th} (hs : s.ok) (ht : t.ok) (S : Sto) : G_worth_of [s.d, t.d] S = .ok (.int (s.get t)) S := by
  unfold G_worth_of F_worth_of
  rw [fnB2]
  cases t with
  | nm i => simp [Th.d, isTy, c_NAMES, nm_idx, atI_nat', at_nm hs.nl i, Sta.get]
  | cl j =>
    have h : j < s.cl.length := by rw [hs.cl]; exact ht
    simp [Th.d, isTy, atI_nat', Sta.get, h]
section
variable {t : Tp} {S : Sto} {n : Nat}
/-- the worth of a thing at a moment -/
def wtM (t : Tp) (x : Th) (m : Nat) : Int := (itM t.p t.as m).get x
end
end Bt
namespace Bt
open PySem PySem.Spec PyProof.Rows L2
theorem nmS_inj {i j : Fin 6} : nmS i = nmS j ↔ i = j := by
  constructor
  · intro h
    have := ofString_inj.mp h
    revert this
    revert i j
    decide
  · intro h; rw [h]
theorem th_good {x : Th} : x.d.good = true := by
  cases x with
  | nm i => exact (gd_nm (n := 0)).good
  | cl j => rfl
theorem eq_th {S : Sto} {x y : Th} : opEq S x.d y.d = some (.bl (decide (x = y))) := by
  rw [b_good th_good th_good]
  cases x with
  | nm i =>
    cases y with
    | nm j => simp [Th.d, nmS_inj]
    | cl j => simp [Th.d]
  | cl i =>
    cases y with
    | nm j => simp [Th.d]
    | cl j => simp [Th.d, Int.natCast_inj]
def thD : Option Th → D
  | none => .non
  | some x => x.d
section
variable {t : Tp} {S : Sto} {n : Nat}
/-- what the step to a moment wrote -/
def wM (t : Tp) (m : Nat) : Option Th := (wrs t.as (itM t.p t.as (m - 1)) (rowAt t.p (itM t.p t.as (m - 1)))).map (·.1)
end
end Bt
namespace Bt
open PySem PySem.Spec PyProof.Rows L2
section
variable {t : Tp} {S : Sto} {n : Nat}
/-- all moments at which a thing has another worth than right before -/
def chgM (t : Tp) (x : Th) : List Nat := ((List.range t.E).map (· + 1)).filter fun a => decide (wtM t x a ≠ wtM t x (a - 1))
abbrev natsD (l : List Nat) : List D := l.map fun (n : Nat) => D.int n
end
end Bt
namespace Bt
open PySem PySem.Spec PyProof.Rows L2
section
variable {t : Tp} {S : Sto} {n : Nat}
theorem nats_gd {l : List Nat} : (D.lst (natsD l)).good = true := (gd_lst (n := 0) fun d hd => by
  obtain ⟨i, _, rfl⟩ := List.mem_map.mp hd; exact gd_int).good
theorem chg_len {x : Th} : (chgM t x).length ≤ t.E := by
  unfold chgM
  refine Nat.le_trans (List.length_filter_le _ _) ?_
  simp
/-- the last change up to a moment -/
def lastC (t : Tp) (x : Th) (m : Nat) : Option Nat := ((chgM t x).filter fun a => decide (a ≤ m)).getLast?
def natO : Option Nat → D
  | none => .non
  | some k => .int (k : Nat)
end
end Bt
namespace Bt
open PySem PySem.Spec PyProof.Rows L2
theorem RelS.push {S T : Sto} (r : RelS S T) {c a : AObj} (h : RelO c a) : RelS (S ++ [c]) (T ++ [a]) := by
  refine ⟨by simp [r.len], fun n b hb => ?_⟩
  rcases Nat.lt_or_ge n T.length with q | q
  · rw [List.getElem?_append_left q] at hb
    rw [List.getElem?_append_left (by rw [r.len]; exact q)]
    exact r.at_ n b hb
  · rw [List.getElem?_append_right q] at hb
    rw [List.getElem?_append_right (by rw [r.len]; exact q), r.len]
    cases e : n - T.length with
    | zero => rw [e] at hb; cases hb; exact ⟨c, rfl, h⟩
    | succ k => rw [e] at hb; simp at hb
theorem RelS.plain {S T : Sto} (r : RelS S T) {n : Nat} {a : AObj} (h : T[n]? = some a) (hp : plainO a = true) : S[n]? = some a := by
  obtain ⟨c, h1, h2⟩ := r.at_ n a h
  cases h2 with
  | tape => cases hp
  | same => exact h1
abbrev SimE (f g : Ex) : Prop := ∀ ρ S T, RelS S T → RelE (f ρ S) (g ρ T)
abbrev SimF (F A : Fn) : Prop := ∀ l S T, RelS S T → RelE (F l S) (A l T)
abbrev SimO (F : Sto → D → D → Option D) : Prop := ∀ S T x y d, RelS S T → F T x y = some d → F S x y = some d
abbrev SimU (F : Sto → D → Option D) : Prop := ∀ S T x d, RelS S T → F T x = some d → F S x = some d
abbrev SimL (F : Sto → List D → Option D) : Prop := ∀ S T x d, RelS S T → F T x = some d → F S x = some d
abbrev SimB (F : Sto → D → Bool) : Prop := ∀ S T x, RelS S T → F T x = true → F S x = true
abbrev SimM (F : Sto → D → D → ER) : Prop := ∀ S T x y, RelS S T → RelE (F S x y) (F T x y)
theorem RelE.lift {o o' : Option D} {S T : Sto} (r : RelS S T) (h : ∀ d, o' = some d → o = some d) : RelE (lift1 o S) (lift1 o' T) := by
  cases o' with
  | none => trivial
  | some d => rw [h d rfl]; exact ⟨S, rfl, r⟩
theorem rel_seqOf {S T : Sto} (r : RelS S T) {d : D} {l : List D} (h : seqOf T d = some l) : seqOf S d = some l := by
  cases d with
  | obj n =>
    unfold seqOf at h ⊢
    dsimp only at h ⊢
    cases e : T[n]? with
    | none => simp only [e] at h; cases h
    | some o =>
      cases o with
      | list l' => rw [r.plain e rfl]; simp only [e] at h; exact h
      | _ => simp only [e] at h; cases h
  | _ => exact h
theorem so_opAdd : SimO opAdd := fun _ _ _ _ _ _ h => h
theorem so_opSub : SimO opSub := fun _ _ _ _ _ _ h => h
theorem so_opMul : SimO opMul := fun _ _ _ _ _ _ h => h
theorem so_opEq : SimO opEq := fun _ _ _ _ _ _ h => h
theorem so_opNe : SimO opNe := fun _ _ _ _ _ _ h => h
theorem so_opLt : SimO opLt := fun _ _ _ _ _ _ h => h
theorem so_opLe : SimO opLe := fun _ _ _ _ _ _ h => h
theorem so_opGt : SimO opGt := fun _ _ _ _ _ _ h => h
theorem so_opNeg : SimU opNeg := fun _ _ _ _ _ h => h
theorem so_bStr : SimU bStr := fun _ _ _ _ _ h => h
theorem so_bMax2 : SimL bMax2 := fun _ _ _ _ _ h => h
theorem so_bMin2 : SimL bMin2 := fun _ _ _ _ _ h => h
theorem so_f1 {F : Sto → D → Option D} (h : SimU F) : SimL (f1 F) := fun S T x d r e => by
  match x, e with
  | [x], e => exact h S T x d r e
theorem rel_seqM {S T : Sto} (r : RelS S T) {x : D} {k : List D → Option D} {d : D} (e : (match seqOf T x with | some l => k l | none => none) = some d) : (match seqOf S x with | some l => k l | none => none) = some d := by
  cases q : seqOf T x with
  | none => rw [q] at e; cases e
  | some l => rw [q] at e; rw [rel_seqOf r q]; exact e
theorem so_opIx : SimO opIx := fun S T x y d r e => by
  cases y with
  | int i =>
    cases x with
    | tup l => exact e
    | str s => exact e
    | lst l => exact e
    | scr l => exact e
    | obj n => exact rel_seqM (k := fun l => atI l i) r e
    | _ => cases e
  | _ => cases e
theorem so_opInB {neg : Bool} : SimO (opInB neg) := fun S T x y d r e => by
  cases y with
  | tup l => exact e
  | str z => exact e
  | lst l => exact e
  | scr l => exact e
  | obj n => exact rel_seqM (k := fun l => if x.good && (D.lst l).good then some (.bl (if neg then !memD x l else memD x l)) else none) r e
  | _ => cases e
theorem so_opIn : SimO opIn := so_opInB
theorem so_opNotIn : SimO opNotIn := so_opInB
theorem so_bLen : SimU bLen := fun S T x d r e => by
  cases x with
  | obj n => exact rel_seqM (k := fun l => some (.int l.length)) r e
  | _ => exact e
theorem so_isSeqD : SimB isSeqD := fun S T x r h => by
  unfold isSeqD at h ⊢
  cases q : seqOf T x with
  | none => rw [q] at h; cases h
  | some l => rw [rel_seqOf r q]; rfl
theorem so_mApp : SimM mApp := fun S T x y r => by
  cases x with
  | obj n =>
    unfold mApp
    dsimp only
    cases e : T[n]? with
    | none => simp only [e]; trivial
    | some o =>
      cases o with
      | list l =>
        rw [r.plain e rfl]
        simp only
        split
        · exact ⟨_, rfl, r.set (.same rfl)⟩
        · trivial
      | _ => simp only [e]; trivial
  | _ => trivial
theorem sim_eC {d : D} : SimE (eC d) (eC d) := fun ρ S T r => ⟨S, rfl, r⟩
theorem sim_eVar {i : Nat} : SimE (eVar i) (eVar i) := fun ρ S T r => by
  unfold eVar
  split
  · exact ⟨S, rfl, r⟩
  · trivial
theorem sim_eNil : SimE eNil eNil := fun ρ S T r => ⟨S, rfl, r⟩
theorem sim_eNo : SimE eNo eNo := fun ρ S T r => ⟨S, rfl, r⟩
theorem sim_eYes : SimE eYes eYes := fun ρ S T r => ⟨S, rfl, r⟩
section
variable {f f' g g' h h' : Ex} {A A' B B' : Sx} {F F' : Fn}
theorem sim_eOp {o : Sto → D → D → Option D} (ho : SimO o) (hf : SimE f f') (hg : SimE g g') : SimE (eOp o f g) (eOp o f' g') := fun ρ S T r =>
  (hf ρ S T r).bind fun x S1 T1 r1 => (hg ρ S1 T1 r1).bind fun y S2 T2 r2 => RelE.lift r2 fun d => ho S2 T2 x y d r2
theorem sim_eUn {o : Sto → D → Option D} (ho : SimU o) (hf : SimE f f') : SimE (eUn o f) (eUn o f') := fun ρ S T r =>
  (hf ρ S T r).bind fun x S1 T1 r1 => RelE.lift r1 fun d => ho S1 T1 x d r1
theorem sim_eAnd (hf : SimE f f') (hg : SimE g g') : SimE (eAnd f g) (eAnd f' g') := fun ρ S T r =>
  (hf ρ S T r).bind fun x S1 T1 r1 => by
    cases x with
    | bl b => cases b with
      | true => exact hg ρ S1 T1 r1
      | false => exact ⟨S1, rfl, r1⟩
    | _ => trivial
theorem sim_eOr (hf : SimE f f') (hg : SimE g g') : SimE (eOr f g) (eOr f' g') := fun ρ S T r =>
  (hf ρ S T r).bind fun x S1 T1 r1 => by
    cases x with
    | bl b => cases b with
      | false => exact hg ρ S1 T1 r1
      | true => exact ⟨S1, rfl, r1⟩
    | _ => trivial
theorem sim_eNot (hf : SimE f f') : SimE (eNot f) (eNot f') := fun ρ S T r =>
  (hf ρ S T r).bind fun x S1 T1 r1 => by
    cases x with
    | bl b => exact ⟨S1, rfl, r1⟩
    | _ => trivial
theorem sim_eIf (hc : SimE h h') (hf : SimE f f') (hg : SimE g g') : SimE (eIf h f g) (eIf h' f' g') := fun ρ S T r =>
  (hc ρ S T r).bind fun x S1 T1 r1 => by
    cases x with
    | bl b => cases b with
      | true => exact hf ρ S1 T1 r1
      | false => exact hg ρ S1 T1 r1
    | _ => trivial
theorem sim_eTup (hf : SimE f f') : SimE (eTup f) (eTup f') := fun ρ S T r =>
  (hf ρ S T r).bind fun x S1 T1 r1 => by
    cases x with
    | tup l => exact (by
      by_cases q : l.length ≤ lim
      · simp only [if_pos q]; exact ⟨S1, rfl, r1⟩
      · simp only [if_neg q]; trivial)
    | _ => trivial
theorem sim_eLst (hf : SimE f f') : SimE (eLst f) (eLst f') := fun ρ S T r =>
  (hf ρ S T r).bind fun x S1 T1 r1 => by
    cases x with
    | tup l => exact (by
      by_cases q : l.length ≤ lim
      · simp only [if_pos q]; exact ⟨S1, rfl, r1⟩
      · simp only [if_neg q]; trivial)
    | _ => trivial
theorem sim_eNew (hf : SimE f f') : SimE (eNew f) (eNew f') := fun ρ S T r =>
  (hf ρ S T r).bind fun x S1 T1 r1 => by
    cases x with
    | tup l => exact (by
      by_cases q : l.length ≤ lim
      · simp only [if_pos q]; exact ⟨_, by rw [r1.len], r1.push (.same rfl)⟩
      · simp only [if_neg q]; trivial)
    | _ => trivial
theorem sim_eCons (hf : SimE f f') (hg : SimE g g') : SimE (eCons f g) (eCons f' g') := fun ρ S T r =>
  (hf ρ S T r).bind fun x S1 T1 r1 => (hg ρ S1 T1 r1).bind fun y S2 T2 r2 => by
    cases y with
    | tup l => exact ⟨S2, rfl, r2⟩
    | _ => trivial
theorem sim_eRev (hf : SimE f f') : SimE (eRev f) (eRev f') := fun ρ S T r =>
  (hf ρ S T r).bind fun x S1 T1 r1 => by
    cases x with
    | lst l => exact ⟨S1, rfl, r1⟩
    | scr l => exact ⟨S1, rfl, r1⟩
    | _ => trivial
theorem sim_eInt (hf : SimE f f') : SimE (eInt f) (eInt f') := fun ρ S T r =>
  (hf ρ S T r).bind fun x S1 T1 r1 => by
    cases x with
    | int l => exact ⟨S1, rfl, r1⟩
    | _ => trivial
theorem rel_part {d : D} {k k' : Option Int → ER} (h : ∀ o, RelE (k o) (k' o)) : RelE (partD d k) (partD d k') := by
  unfold partD
  cases d with
  | non => exact h _
  | int i => exact h _
  | _ => trivial
theorem sim_eSl (hf : SimE f f') (hg : SimE g g') (hh : SimE h h') : SimE (eSl f g h) (eSl f' g' h') := fun ρ S T r =>
  (hf ρ S T r).bind fun x S1 T1 r1 => (hg ρ S1 T1 r1).bind fun y S2 T2 r2 => rel_part fun o => (hh ρ S2 T2 r2).bind fun z S3 T3 r3 => rel_part fun o' => RelE.lift r3 fun d h => h
theorem sim_eIsN {neg : Bool} (hf : SimE f f') : SimE (eIsN neg f) (eIsN neg f') := fun ρ S T r =>
  (hf ρ S T r).bind fun x S1 T1 r1 => by
    cases x <;> exact ⟨S1, rfl, r1⟩
theorem sim_eChain {o o' : Sto → D → D → Option D} (ho : SimO o) (ho' : SimO o') (hf : SimE f f') (hg : SimE g g') (hh : SimE h h') : SimE (eChain o o' f g h) (eChain o o' f' g' h') := fun ρ S T r =>
  (hf ρ S T r).bind fun x S1 T1 r1 => (hg ρ S1 T1 r1).bind fun y S2 T2 r2 => (RelE.lift r2 fun d => ho S2 T2 x y d r2).bind fun z S3 T3 r3 => by
    cases z with
    | bl b => cases b with
      | true => exact (hh ρ S3 T3 r3).bind fun u S4 T4 r4 => RelE.lift r4 fun d => ho' S4 T4 y u d r4
      | false => exact ⟨S3, rfl, r3⟩
    | _ => trivial
theorem sim_eCall (hF : SimF F F') (hf : SimE f f') : SimE (eCall F f) (eCall F' f') := fun ρ S T r =>
  (hf ρ S T r).bind fun x S1 T1 r1 => by
    cases x with
    | tup l => exact hF l S1 T1 r1
    | _ => trivial
theorem sim_eCallB {o : Sto → List D → Option D} (ho : SimL o) (hf : SimE f f') : SimE (eCallB o f) (eCallB o f') := fun ρ S T r =>
  (hf ρ S T r).bind fun x S1 T1 r1 => by
    cases x with
    | tup l => exact RelE.lift r1 fun d => ho S1 T1 l d r1
    | _ => trivial
theorem sim_eMeth {chk : Sto → D → Bool} {o : Sto → D → D → ER} (hc : SimB chk) (ho : SimM o) (hf : SimE f f') (hg : SimE g g') : SimE (eMeth chk o f g) (eMeth chk o f' g') := fun ρ S T r =>
  (hf ρ S T r).bind fun x S1 T1 r1 => by
    cases q : chk T1 x with
    | false => trivial
    | true =>
      rw [hc S1 T1 x r1 q]
      exact (hg ρ S1 T1 r1).bind fun y S2 T2 r2 => ho S2 T2 x y r2
theorem rel_rd {c : Str} {S T : Sto} (r : RelS S T) {d : D} {fs : List (Str × FV)} (h : rdAt c T d = some fs) : rdAt c S d = some fs := by
  cases d with
  | obj n =>
    unfold rdAt at h ⊢
    dsimp only at h ⊢
    cases e : T[n]? with
    | none => simp only [e] at h; cases h
    | some o =>
      cases o with
      | inst c' fs' => rw [r.plain e rfl]; simp only [e] at h; exact h
      | lki c' fs' =>
        obtain ⟨x, h1, h2⟩ := r.at_ n _ e
        cases h2 with
        | same z => cases z
      | _ => simp only [e] at h; cases h
  | _ => exact h
theorem rel_in {c : Str} {S T : Sto} (r : RelS S T) {d : D} {q : Nat × List (Str × FV)} (h : insAt c T d = some q) : insAt c S d = some q := by
  cases d with
  | obj n =>
    unfold insAt at h ⊢
    dsimp only at h ⊢
    cases e : T[n]? with
    | none => simp only [e] at h; cases h
    | some o =>
      cases o with
      | inst c' fs' => rw [r.plain e rfl]; simp only [e] at h; exact h
      | _ => simp only [e] at h; cases h
  | _ => exact h
theorem sim_eFld {c x : Str} (hf : SimE f f') : SimE (eFld c x f) (eFld c x f') := fun ρ S T r =>
  (hf ρ S T r).bind fun d S1 T1 r1 => by
    cases q : rdAt c T1 d with
    | none => trivial
    | some fs =>
      rw [rel_rd r1 q]
      simp only
      cases getF x fs with
      | none => trivial
      | some v => cases v with
        | d y => exact ⟨S1, rfl, r1⟩
        | _ => trivial
theorem sim_eMCall {c m : Str} (hF : SimF F F') (hf : SimE f f') (hg : SimE g g') : SimE (eMCall c m F f g) (eMCall c m F' f' g') := fun ρ S T r =>
  (hf ρ S T r).bind fun d S1 T1 r1 => by
    cases q : rdAt c T1 d with
    | none => trivial
    | some fs =>
      rw [rel_rd r1 q]
      simp only
      cases getF m fs with
      | some v => trivial
      | none =>
        exact (hg ρ S1 T1 r1).bind fun t S2 T2 r2 => by
          cases t with
          | tup l => exact hF _ S2 T2 r2
          | _ => trivial
theorem sim_eMake {c : Str} (hF : SimF F F') (hf : SimE f f') : SimE (eMake c F f) (eMake c F' f') := fun ρ S T r =>
  (hf ρ S T r).bind fun d S1 T1 r1 => by
    cases d with
    | tup l =>
      have h := hF (.obj T1.length :: l) (S1 ++ [.inst c []]) (T1 ++ [.inst c []]) (r1.push (.same rfl))
      simp only
      rw [r1.len]
      cases e : F' (.obj T1.length :: l) (T1 ++ [.inst c []]) with
      | ok d T2 =>
        rw [e] at h
        obtain ⟨S2, e2, r2⟩ := h
        rw [e2]
        cases d with
        | non => exact ⟨S2, rfl, r2⟩
        | _ => trivial
      | exc k T2 => trivial
      | bad => trivial
    | _ => trivial
theorem sim_iLst (hf : SimE f f') : SimE (iLst f) (iLst f') := fun ρ S T r =>
  (hf ρ S T r).bind fun x S1 T1 r1 => by
    cases x with
    | lst l => exact ⟨S1, rfl, r1⟩
    | scr l => exact ⟨S1, rfl, r1⟩
    | _ => trivial
theorem sim_iRange1 (hf : SimE f f') : SimE (iRange1 f) (iRange1 f') := fun ρ S T r =>
  (hf ρ S T r).bind fun x S1 T1 r1 => by
    cases x with
    | int j => exact (by
      by_cases q : -(lim : Int) ≤ j ∧ j ≤ lim
      · simp only [if_pos q]; exact ⟨S1, rfl, r1⟩
      · simp only [if_neg q]; trivial)
    | _ => trivial
theorem sim_iRange2 (hf : SimE f f') (hg : SimE g g') : SimE (iRange2 f g) (iRange2 f' g') := fun ρ S T r =>
  (hf ρ S T r).bind fun x S1 T1 r1 => (hg ρ S1 T1 r1).bind fun y S2 T2 r2 => by
    cases x with
    | int i =>
      cases y with
      | int j => exact (by
        by_cases q : (-(lim : Int) ≤ i ∧ i ≤ lim) ∧ (-(lim : Int) ≤ j ∧ j ≤ lim)
        · simp only [if_pos q]; exact ⟨S2, rfl, r2⟩
        · simp only [if_neg q]; trivial)
      | _ => trivial
    | _ => trivial
def RelC (x : Option (Option D × Sto)) : Option (Option D × Sto) → Prop
  | some (o, T) => ∃ S, x = some (o, S) ∧ RelS S T
  | none => True
theorem rel_compL {step step' : D → Sto → Option (Option D × Sto)} (h : ∀ d S T, RelS S T → RelC (step d S) (step' d T)) : ∀ (l acc : List D) (S T : Sto), RelS S T → RelE (compL step l acc S) (compL step' l acc T)
  | [], acc, S, T, r => ⟨S, rfl, r⟩
  | d :: l, acc, S, T, r => by
    have q := h d S T r
    unfold compL
    cases e : step' d T with
    | none => trivial
    | some p =>
      obtain ⟨o, T1⟩ := p
      rw [e] at q
      obtain ⟨S1, e1, r1⟩ := q
      rw [e1]
      cases o with
      | none => exact rel_compL h l acc S1 T1 r1
      | some y =>
        simp only
        by_cases z : acc.length < lim
        · rw [if_pos z, if_pos z]; exact rel_compL h l _ S1 T1 r1
        · rw [if_neg z, if_neg z]; trivial
theorem rel_stepC {tg : D → Env → Option Env} (hc : SimE f f') (he : SimE g g') {ρ : Env} (d : D) (S T : Sto) (r : RelS S T) : RelC (stepC tg f g ρ d S) (stepC tg f' g' ρ d T) := by
  unfold stepC
  cases tg d ρ with
  | none => trivial
  | some ρ1 =>
    simp only
    have q := hc ρ1 S T r
    cases e : f' ρ1 T with
    | ok x T1 =>
      rw [e] at q
      obtain ⟨S1, e1, r1⟩ := q
      rw [e1]
      cases x with
      | bl b =>
        cases b with
        | false => exact ⟨S1, rfl, r1⟩
        | true =>
          simp only
          have q2 := he ρ1 S1 T1 r1
          cases e2 : g' ρ1 T1 with
          | ok y T2 =>
            rw [e2] at q2
            obtain ⟨S2, e3, r2⟩ := q2
            rw [e3]
            exact ⟨S2, rfl, r2⟩
          | exc k T2 => trivial
          | bad => trivial
      | _ => trivial
    | exc k T1 => trivial
    | bad => trivial
theorem sim_eComp {vs : List Nat} {tg : D → Env → Option Env} (hi : SimE f f') (hc : SimE g g') (he : SimE h h') : SimE (eComp vs f tg g h) (eComp vs f' tg g' h') := fun ρ S T r =>
  (hi ρ S T r).bind fun x S1 T1 r1 => by
    cases x with
    | tup l => exact rel_compL (rel_stepC hc he) l [] S1 T1 r1
    | _ => trivial
theorem sim_sSkip : SimS sSkip sSkip := fun ρ S T r => ⟨S, rfl, r⟩
theorem sim_sRaise {k : Exc} : SimS (sRaise k) (sRaise k) := fun ρ S T r => ⟨S, rfl, r⟩
theorem sim_sSeq (ha : SimS A A') (hb : SimS B B') : SimS (sSeq A B) (sSeq A' B') := fun ρ S T r => (ha ρ S T r).seq hb
theorem sim_sSet {i : Nat} (hf : SimE f f') : SimS (sSet i f) (sSet i f') := fun ρ S T r => (hf ρ S T r).toS fun d S1 T1 r1 => ⟨S1, rfl, r1⟩
theorem sim_sExpr (hf : SimE f f') : SimS (sExpr f) (sExpr f') := fun ρ S T r => (hf ρ S T r).toS fun d S1 T1 r1 => ⟨S1, rfl, r1⟩
theorem sim_sRet (hf : SimE f f') : SimS (sRet f) (sRet f') := fun ρ S T r => (hf ρ S T r).toS fun d S1 T1 r1 => ⟨S1, rfl, r1⟩
theorem sim_sIf (hf : SimE f f') (ha : SimS A A') (hb : SimS B B') : SimS (sIf f A B) (sIf f' A' B') := fun ρ S T r => (hf ρ S T r).toS fun d S1 T1 r1 => by
  cases d with
  | bl b => cases b with
    | true => exact ha ρ S1 T1 r1
    | false => exact hb ρ S1 T1 r1
  | _ => trivial
def loopR (x : SR) (k : Env → Sto → SR) : SR := match x with
  | .nx ρ2 S2 => k ρ2 S2
  | .ct ρ2 S2 => k ρ2 S2
  | .bk ρ2 S2 => .nx ρ2 S2
  | .rt d S2 => .rt d S2
  | .exc e ρ2 S2 => .exc e ρ2 S2
  | .bad => .bad
theorem rel_loop {x y : SR} {k k' : Env → Sto → SR} (h : RelR x y) (hk : SimS k k') : RelR (loopR x k) (loopR y k') := by
  cases y with
  | nx ρ T => obtain ⟨S, rfl, r⟩ := h; exact hk ρ S T r
  | ct ρ T => obtain ⟨S, rfl, r⟩ := h; exact hk ρ S T r
  | rt ρ T => obtain ⟨S, rfl, r⟩ := h; exact ⟨S, rfl, r⟩
  | bk ρ T => obtain ⟨S, rfl, r⟩ := h; exact ⟨S, rfl, r⟩
  | exc k ρ T => obtain ⟨S, rfl, r⟩ := h; exact ⟨S, rfl, r⟩
  | bad => trivial
theorem sim_whileN (hf : SimE f f') (hb : SimS A A') : ∀ {n : Nat}, SimS (whileN f A n) (whileN f' A' n)
  | 0 => fun ρ S T r => trivial
  | n + 1 => fun ρ S T r => (hf ρ S T r).toS fun d S1 T1 r1 => by
    cases d with
    | bl b => cases b with
      | true => exact (rel_loop (hb ρ S1 T1 r1) (sim_whileN hf hb) : RelR (loopR (A ρ S1) (whileN f A n)) (loopR (A' ρ T1) (whileN f' A' n)))
      | false => exact ⟨S1, rfl, r1⟩
    | _ => trivial
theorem sim_forL {tg : D → Env → Option Env} (hb : SimS A A') : ∀ l, SimS (forL tg A l) (forL tg A' l)
  | [] => fun ρ S T r => ⟨S, rfl, r⟩
  | d :: l => fun ρ S T r => by
    unfold forL
    cases tg d ρ with
    | none => trivial
    | some ρ1 => exact (rel_loop (hb ρ1 S T r) (sim_forL hb l) : RelR (loopR (A ρ1 S) (forL tg A l)) (loopR (A' ρ1 T) (forL tg A' l)))
theorem sim_sFor {tg : D → Env → Option Env} (hi : SimE f f') (hb : SimS A A') : SimS (sFor f tg A) (sFor f' tg A') := fun ρ S T r => (hi ρ S T r).toS fun d S1 T1 r1 => by
  cases d with
  | tup l => exact sim_forL hb l ρ S1 T1 r1
  | _ => trivial
theorem sim_sIce {i : Nat} (ha : SimS A A') : SimS (sIce i A) (sIce i A') := fun ρ S T r => by
  unfold sIce
  cases ρ[i]? with
  | none => trivial
  | some o =>
    cases o with
    | none => trivial
    | some d =>
      cases d with
      | obj n =>
        simp only
        cases e : T[n]? with
        | none => trivial
        | some x =>
          cases x with
          | list l =>
            rw [r.plain e rfl]
            exact ha _ _ _ (r.set (.same rfl))
          | _ => trivial
      | _ => trivial
theorem sim_sFldS {c x : Str} (hf : SimE f f') (hg : SimE g g') : SimS (sFldS c x f g) (sFldS c x f' g') := fun ρ S T r => (hg ρ S T r).toS fun v S1 T1 r1 => (hf ρ S1 T1 r1).toS fun o S2 T2 r2 => by
  cases q : insAt c T2 o with
  | none => trivial
  | some p =>
    obtain ⟨n, fs⟩ := p
    rw [rel_in r2 q]
    simp only
    by_cases z : fs.length < 1000
    · rw [if_pos z, if_pos z]; exact ⟨_, rfl, r2.set (.same rfl)⟩
    · rw [if_neg z, if_neg z]; trivial
theorem sim_fnBody {n N : Nat} (ha : SimS A A') : SimF (fnBody n N A) (fnBody n N A') := fun l S T r => by
  unfold fnBody
  by_cases q : l.length = n
  · rw [if_pos q, if_pos q]; exact (ha _ S T r).toE
  · rw [if_neg q, if_neg q]; trivial
end
end Bt
namespace Bt
open PySem PySem.Spec PyProof.Rows L2
theorem Sm.d_inj : ∀ {a b : Sm}, a.d = b.d → a = b := by
  intro a
  induction a with
  | num n => intro b h; cases b <;> simp [Sm.d, ofString_inj] at h; rw [h]
  | name i => intro b h; cases b <;> simp [Sm.d, ofString_inj] at h; rw [nmS_inj.mp h]
  | cell a ih => intro b h; cases b <;> simp [Sm.d, ofString_inj] at h; rw [ih h]
  | add a b ih ih2 => intro b h; cases b <;> simp [Sm.d, ofString_inj] at h; rw [ih h.1, ih2 h.2]
  | sub a b ih ih2 => intro b h; cases b <;> simp [Sm.d, ofString_inj] at h; rw [ih h.1, ih2 h.2]
  | mul a b ih ih2 => intro b h; cases b <;> simp [Sm.d, ofString_inj] at h; rw [ih h.1, ih2 h.2]
  | less a b ih ih2 => intro b h; cases b <;> simp [Sm.d, ofString_inj] at h; rw [ih h.1, ih2 h.2]
theorem Row.d_inj {a b : Row} (h : a.d = b.d) : a = b := by
  cases a <;> cases b <;> simp [Row.d, ofString_inj, Int.natCast_inj] at h
  · rw [nmS_inj.mp h.1, Sm.d_inj h.2]
  · rw [Sm.d_inj h.1, Sm.d_inj h.2]
  · rw [nmS_inj.mp h]
  · rw [Sm.d_inj h]
  · rw [h]
  · rw [Sm.d_inj h.1, h.2]
  · rw [h]
  · rfl
  · rfl
theorem map_inj' {α β : Type} {f : α → β} (hf : ∀ a b, f a = f b → a = b) : ∀ {l m : List α}, l.map f = m.map f → l = m
  | [], [], _ => rfl
  | [], _ :: _, h => by cases h
  | _ :: _, [], h => by cases h
  | a :: l, b :: m, h => by
    injection h with h1 h2
    rw [hf _ _ h1, map_inj' hf h2]
theorem prgD_inj {p q : Prg} (h : prgD p = prgD q) : p = q := map_inj' (fun _ _ => Row.d_inj) (D.tup.inj h)
theorem asD_inj {p q : List Int} (h : asD p = asD q) : p = q := map_inj' (fun _ _ e => D.int.inj e) (D.lst.inj h)
theorem pures_map {α : Type} {f : α → D} (h : ∀ a, (f a).pure = true) : ∀ l : List α, D.pures (l.map f) = true
  | [] => rfl
  | a :: l => by
    show ((f a).pure && D.pures (l.map f)) = true
    rw [h a, pures_map h l]; rfl
theorem Sm.pure : ∀ a : Sm, a.d.pure = true := by
  intro a
  induction a with
  | num n => rfl
  | name i => rfl
  | cell a ih => show (true && (a.d.pure && true)) = true; rw [ih]; rfl
  | add a b ih ih2 => show (true && (a.d.pure && (b.d.pure && true))) = true; rw [ih, ih2]; rfl
  | sub a b ih ih2 => show (true && (a.d.pure && (b.d.pure && true))) = true; rw [ih, ih2]; rfl
  | mul a b ih ih2 => show (true && (a.d.pure && (b.d.pure && true))) = true; rw [ih, ih2]; rfl
  | less a b ih ih2 => show (true && (a.d.pure && (b.d.pure && true))) = true; rw [ih, ih2]; rfl
theorem Row.pure (r : Row) : r.d.pure = true := by
  cases r with
  | set i a => show (true && (true && (a.d.pure && true))) = true; rw [a.pure]; rfl
  | put a b => show (true && (a.d.pure && (b.d.pure && true))) = true; rw [a.pure, b.pure]; rfl
  | ask i => rfl
  | say a => show (true && (a.d.pure && true)) = true; rw [a.pure]; rfl
  | jump p => rfl
  | «unless» a p => show (true && (a.d.pure && (true && true))) = true; rw [a.pure]; rfl
  | call p => rfl
  | back => rfl
  | stop => rfl
theorem prg_pure (p : Prg) : (prgD p).pure = true := pures_map Row.pure p
theorem as_pure (p : List Int) : (asD p).pure = true := pures_map (fun _ => rfl) p
theorem Sta.pure (s : Sta) : s.d.pure = true := by
  show (true && (D.pures _ && (D.pures _ && (D.pures _ && (true && (D.pures _ && true)))))) = true
  rw [pures_map (fun _ => rfl), pures_map (fun _ => rfl), pures_map (fun _ => rfl), pures_map (fun _ => rfl)]; rfl
theorem tp_pure (u : Tp) : pureO u.o = true := by
  have hk : (keptM u.p u.as u.ev (u.far / u.ev + 1)).all (fun p => D.pure p.2) = true := by
    unfold keptM
    rw [List.all_map, List.all_eq_true]
    intro i _
    exact (itM u.p u.as _).pure
  show ((prgD u.p).pure && ((asD u.as).pure && (true && (true && (_ && (true && ((lastD u.last).pure && (true && true)))))))) = true
  rw [prg_pure, as_pure]
  show (true && (true && (true && (true && ((keptM u.p u.as u.ev (u.far / u.ev + 1)).all (fun p => D.pure p.2) && (true && ((lastD u.last).pure && (true && true)))))))) = true
  rw [hk]
  cases u.last <;> rfl
theorem tpAt_some {T : Sto} {o : D} {t : TapeI} (h : tpAt T o = some t) : ∃ n, o = .obj n ∧ T[n]? = some (.abs (.tape t)) := by
  cases o with
  | obj n =>
    refine ⟨n, rfl, ?_⟩
    unfold tpAt at h
    cases e : T[n]? with
    | none => simp only [e] at h; cases h
    | some a =>
      cases a with
      | abs x =>
        cases x with
        | tape _ => simp only [e] at h; injection h with h; rw [h]
        | err _ => simp only [e] at h; cases h
      | _ => simp only [e] at h; cases h
  | _ => cases h
def taI (t : TapeI) (h : Nat) : AObj := .abs (.tape { t with here := h })
def onT (k : Nat → TapeI → List D → Sto → ER) : Fn := fun l T => match l with
  | .obj n :: r => (match T[n]? with
    | some (.abs (.tape t)) => k n t r T
    | _ => .bad)
  | _ => .bad
def A_Tape_at : Fn := onT fun _ t r T => match r with
  | [.int m] => if 0 ≤ m ∧ m ≤ (endI t : Int) then .ok (itM t.prog t.asked m.toNat).d T else .exc .moment T
  | _ => .bad
def A_Tape_end : Fn := onT fun _ t r T => match r with
  | [] => .ok (.int (endI t : Nat)) T
  | _ => .bad
def A_Tape_moment : Fn := onT fun _ t r T => match r with
  | [] => .ok (.int (t.here : Nat)) T
  | _ => .bad
def A_Tape_state : Fn := onT fun _ t r T => match r with
  | [] => .ok (itM t.prog t.asked t.here).d T
  | _ => .bad
def A_Tape_to : Fn := onT fun n t r T => match r with
  | [.int m] => if 0 ≤ m ∧ m ≤ (endI t : Int) then .ok .non (T.set n (taI t m.toNat)) else .exc .moment T
  | _ => .bad
def A_Tape_go : Fn := onT fun n t r T => match r with
  | [.int m] => if 0 ≤ m then .ok (.int (((min (t.here + m.toNat) (endI t) : Nat) : Int) - (t.here : Nat))) (T.set n (taI t (min (t.here + m.toNat) (endI t)))) else .bad
  | _ => .bad
def A_Tape_back : Fn := onT fun n t r T => match r with
  | [.int m] => if 0 ≤ m then .ok (.int ((t.here : Nat) - ((t.here - m.toNat : Nat) : Int))) (T.set n (taI t (t.here - m.toNat))) else .bad
  | _ => .bad
theorem sim_on {G : Fn} {k : Nat → TapeI → List D → Sto → ER} (h : ∀ n t r S T (u : Tp), RelS S T → T[n]? = some (.abs (.tape t)) → S[n]? = some u.o → TpOk u → u.p = t.prog → u.as = t.asked → u.most = (t.most : Nat) → u.here = (t.here : Nat) → RelE (G (.obj n :: r) S) (k n t r T)) : SimF G (onT k) := fun l S T r => by
  unfold onT
  match l with
  | [] => trivial
  | x :: l =>
    cases x with
    | obj n =>
      simp only
      cases e : T[n]? with
      | none => trivial
      | some a =>
        cases a with
        | abs y =>
          cases y with
          | tape t =>
            obtain ⟨u, h1, h2, h3, h4, h5, h6⟩ := r.tape e
            exact h n t l S T u r e h1 h2 h3 h4 h5 h6
          | err _ => trivial
        | _ => trivial
    | _ => trivial
theorem endI_of {u : Tp} {t : TapeI} (h3 : u.p = t.prog) (h4 : u.as = t.asked) (h5 : u.most = (t.most : Nat)) : u.E = endI t := by
  show endM u.p u.as u.most.toNat = endM t.prog t.asked t.most
  rw [h3, h4, h5, Int.toNat_natCast]
theorem set_self {T : Sto} {n : Nat} {a : AObj} (h : T[n]? = some a) : T.set n a = T := (set_get h).1
theorem RelS.stay {S T : Sto} (r : RelS S T) {n : Nat} {t : TapeI} (h : T[n]? = some (.abs (.tape t))) {u : Tp} (h2 : TpOk u) (h3 : u.p = t.prog) (h4 : u.as = t.asked) (h5 : u.most = (t.most : Nat)) (h6 : u.here = (t.here : Nat)) : RelS (S.set n u.o) T := by
  have := r.set (n := n) (RelO.tape h2 h3 h4 h5 h6)
  rwa [set_self h] at this
theorem RelS.move {S T : Sto} (r : RelS S T) {n : Nat} {t : TapeI} {u : Tp} {m : Nat} (h2 : TpOk u) (h3 : u.p = t.prog) (h4 : u.as = t.asked) (h5 : u.most = (t.most : Nat)) (h6 : u.here = (m : Nat)) : RelS (S.set n u.o) (T.set n (taI t m)) := r.set (RelO.tape h2 h3 h4 h5 h6)
theorem G_to_noex {u : Tp} {S : Sto} {n : Nat} {m : Int} (hS : S[n]? = some u.o) (hk : S.all noLk = true) (L : TpOk u) (hm : ¬ (0 ≤ m ∧ m ≤ u.E)) : ∃ u', Like u u' ∧ u'.here = u.here ∧ G_Tape_to [.obj n, .int m] S = .exc .moment (S.set n u'.o) := by
  obtain ⟨u', h1, h2, h3⟩ := at_noex hS hk (Like.refl L) hm
  refine ⟨u', h1, h2, ?_⟩
  obtain ⟨e, hn⟩ := set_get hS
  have rd := rdT (t := u) hn
  rw [e] at rd
  unfold G_Tape_to F_Tape_to
  rw [fnB2]
  simp [rd, tg_at, h3]
theorem sim_Tape_at : SimF G_Tape_at A_Tape_at := sim_on fun n t r S T u R hT hS h2 h3 h4 h5 h6 => by
  match r with
  | [.int m] =>
    simp only
    by_cases q : 0 ≤ m ∧ m ≤ (endI t : Int)
    · rw [if_pos q]
      obtain ⟨k, rfl⟩ := Int.eq_ofNat_of_zero_le q.1
      obtain ⟨v, L, hv, e⟩ := at_ex (m := k) hS R.nl (Like.refl h2) (by rw [endI_of h3 h4 h5]; omega)
      rw [e, Int.toNat_natCast, ← h3, ← h4]
      exact ⟨_, rfl, R.stay hT L.ok (L.p.trans h3) (L.as.trans h4) (L.most.trans h5) (hv.trans h6)⟩
    · rw [if_neg q]
      obtain ⟨v, L, hv, e⟩ := at_noex (m := m) hS R.nl (Like.refl h2) (by rw [endI_of h3 h4 h5]; exact q)
      rw [e]
      exact ⟨_, rfl, R.stay hT L.ok (L.p.trans h3) (L.as.trans h4) (L.most.trans h5) (hv.trans h6)⟩
  | [] => trivial
  | .non :: _ => trivial
  | .bl _ :: _ => trivial
  | .str _ :: _ => trivial
  | .tup _ :: _ => trivial
  | .lst _ :: _ => trivial
  | .scr _ :: _ => trivial
  | .obj _ :: _ => trivial
  | .int _ :: _ :: _ => trivial
theorem sim_Tape_to : SimF G_Tape_to A_Tape_to := sim_on fun n t r S T u R hT hS h2 h3 h4 h5 h6 => by
  match r with
  | [.int m] =>
    simp only
    by_cases q : 0 ≤ m ∧ m ≤ (endI t : Int)
    · rw [if_pos q]
      obtain ⟨k, rfl⟩ := Int.eq_ofNat_of_zero_le q.1
      obtain ⟨v, L, hv, e⟩ := to_ex (m := k) hS R.nl (Like.refl h2) (by rw [endI_of h3 h4 h5]; omega)
      rw [e, Int.toNat_natCast]
      exact ⟨_, rfl, R.move L.ok (L.p.trans h3) (L.as.trans h4) (L.most.trans h5) hv⟩
    · rw [if_neg q]
      obtain ⟨v, L, hv, e⟩ := G_to_noex (m := m) hS R.nl h2 (by rw [endI_of h3 h4 h5]; exact q)
      rw [e]
      exact ⟨_, rfl, R.stay hT L.ok (L.p.trans h3) (L.as.trans h4) (L.most.trans h5) (hv.trans h6)⟩
  | [] => trivial
  | .non :: _ => trivial
  | .bl _ :: _ => trivial
  | .str _ :: _ => trivial
  | .tup _ :: _ => trivial
  | .lst _ :: _ => trivial
  | .scr _ :: _ => trivial
  | .obj _ :: _ => trivial
  | .int _ :: _ :: _ => trivial
theorem sim_Tape_end : SimF G_Tape_end A_Tape_end := sim_on fun n t r S T u R hT hS h2 h3 h4 h5 h6 => by
  match r with
  | [] =>
    obtain ⟨v, L, hv, e⟩ := end_ex hS R.nl (Like.refl h2)
    rw [e, endI_of h3 h4 h5]
    exact ⟨_, rfl, R.stay hT L.ok (L.p.trans h3) (L.as.trans h4) (L.most.trans h5) (hv.trans h6)⟩
  | _ :: _ => trivial
theorem sim_Tape_moment : SimF G_Tape_moment A_Tape_moment := sim_on fun n t r S T u R hT hS h2 h3 h4 h5 h6 => by
  match r with
  | [] =>
    rw [moment_ex hS, h6]
    exact ⟨_, rfl, R⟩
  | _ :: _ => trivial
theorem sim_Tape_state : SimF G_Tape_state A_Tape_state := sim_on fun n t r S T u R hT hS h2 h3 h4 h5 h6 => by
  match r with
  | [] =>
    obtain ⟨v, L, hv, e⟩ := state_ex hS R.nl (Like.refl h2)
    rw [e, h3, h4, h6, Int.toNat_natCast]
    exact ⟨_, rfl, R.stay hT L.ok (L.p.trans h3) (L.as.trans h4) (L.most.trans h5) (hv.trans h6)⟩
  | _ :: _ => trivial
theorem sim_Tape_go : SimF G_Tape_go A_Tape_go := sim_on fun n t r S T u R hT hS h2 h3 h4 h5 h6 => by
  match r with
  | [.int m] =>
    simp only
    by_cases q : 0 ≤ m
    · rw [if_pos q]
      obtain ⟨v, L, hv, e⟩ := go_ex (k := m) hS R.nl (Like.refl h2) q
      rw [endI_of h3 h4 h5, h6] at hv e
      have z : min ((t.here : Int) + m) (endI t : Int) = ((min (t.here + m.toNat) (endI t) : Nat) : Int) := by omega
      rw [z] at hv e
      rw [e]
      exact ⟨_, rfl, R.move L.ok (L.p.trans h3) (L.as.trans h4) (L.most.trans h5) hv⟩
    · rw [if_neg q]; trivial
  | [] => trivial
  | .non :: _ => trivial
  | .bl _ :: _ => trivial
  | .str _ :: _ => trivial
  | .tup _ :: _ => trivial
  | .lst _ :: _ => trivial
  | .scr _ :: _ => trivial
  | .obj _ :: _ => trivial
  | .int _ :: _ :: _ => trivial
theorem sim_Tape_back : SimF G_Tape_back A_Tape_back := sim_on fun n t r S T u R hT hS h2 h3 h4 h5 h6 => by
  match r with
  | [.int m] =>
    simp only
    by_cases q : 0 ≤ m
    · rw [if_pos q]
      obtain ⟨v, L, hv, e⟩ := back_ex (k := m) hS (Like.refl h2) q
      rw [h6] at hv e
      have z : max ((t.here : Int) - m) 0 = ((t.here - m.toNat : Nat) : Int) := by omega
      rw [z] at hv e
      rw [e]
      exact ⟨_, rfl, R.move L.ok (L.p.trans h3) (L.as.trans h4) (L.most.trans h5) hv⟩
    · rw [if_neg q]; trivial
  | [] => trivial
  | .non :: _ => trivial
  | .bl _ :: _ => trivial
  | .str _ :: _ => trivial
  | .tup _ :: _ => trivial
  | .lst _ :: _ => trivial
  | .scr _ :: _ => trivial
  | .obj _ :: _ => trivial
  | .int _ :: _ :: _ => trivial
section
variable {f f' g g' : Ex} {F A : Fn}
theorem rel_rdT {S T : Sto} (r : RelS S T) {o : D} {t : TapeI} (h : tpAt T o = some t) : ∃ u : Tp, rdAt "Tape" S o = some u.fs ∧ u.p = t.prog ∧ u.as = t.asked := by
  obtain ⟨n, rfl, e⟩ := tpAt_some h
  obtain ⟨u, h1, h2, h3, h4, h5, h6⟩ := r.tape e
  obtain ⟨e2, hn⟩ := set_get h1
  have := rdT (t := u) hn
  rw [e2] at this
  exact ⟨u, this, h3, h4⟩
theorem sim_eT {m : Str} (hm : ∀ u : Tp, getF m u.fs = none) (hF : SimF F A) (hf : SimE f f') (hg : SimE g g') : SimE (eMCall "Tape" m F f g) (eT A f' g') := fun ρ S T r =>
  (hf ρ S T r).bind fun d S1 T1 r1 => by
    cases q : tpAt T1 d with
    | none => trivial
    | some t =>
      obtain ⟨u, h1, _, _⟩ := rel_rdT r1 q
      rw [h1]
      simp only [hm]
      exact (hg ρ S1 T1 r1).bind fun t S2 T2 r2 => by
        cases t with
        | tup l => exact hF _ S2 T2 r2
        | _ => trivial
theorem sim_eTProg (hf : SimE f f') : SimE (eFld "Tape" "program" f) (eTProg f') := fun ρ S T r =>
  (hf ρ S T r).bind fun d S1 T1 r1 => by
    cases q : tpAt T1 d with
    | none => trivial
    | some t =>
      obtain ⟨u, h1, h2, _⟩ := rel_rdT r1 q
      rw [h1]
      simp only [tg_prog, h2]
      exact ⟨S1, rfl, r1⟩
theorem sim_eTAsk (hf : SimE f f') : SimE (eFld "Tape" "asked" f) (eTAsk f') := fun ρ S T r =>
  (hf ρ S T r).bind fun d S1 T1 r1 => by
    cases q : tpAt T1 d with
    | none => trivial
    | some t =>
      obtain ⟨u, h1, _, h2⟩ := rel_rdT r1 q
      rw [h1]
      simp only [tg_ask, h2]
      exact ⟨S1, rfl, r1⟩
/-- Tape(..) -/
def MkOk (p a : D) (e m : Int) (t : Tp) : Prop := TpOk t ∧ p = prgD t.p ∧ a = asD t.as ∧ t.most = m ∧ t.here = 0 ∧ 1 ≤ e
open Classical in
noncomputable def eTMake (fa : Ex) : Ex := fun ρ T => (fa ρ T).bind fun x T1 => match x with
  | .tup [p, a, .int e, .int m] => if h : ∃ t : Tp, MkOk p a e m t then .ok (.obj T1.length) (T1 ++ [taO (choose h)]) else .bad
  | _ => .bad
theorem sim_eTMake (hf : SimE f f') : SimE (eMake "Tape" G_Tape___init__ f) (eTMake f') := fun ρ S T r =>
  (hf ρ S T r).bind fun d S1 T1 r1 => by
    match d with
    | .tup [p, a, .int e, .int m] =>
      simp only
      by_cases h : ∃ t : Tp, MkOk p a e m t
      · rw [dif_pos h]
        have hc := Classical.choose_spec h
        generalize Classical.choose h = t at hc
        obtain ⟨h1, rfl, rfl, rfl, h5, h6⟩ := hc
        obtain ⟨k, rfl⟩ := Int.eq_ofNat_of_zero_le (show 0 ≤ e by omega)
        have hi := init_law (p := t.p) (as := t.as) (e := k) (most := t.most) (S := S1)
        rw [hi]
        refine ⟨_, by rw [r1.len], r1.push (RelO.tape (tp0_ok h1.p h1.as (by omega) ⟨h1.m0, h1.m1⟩) rfl rfl ?_ ?_)⟩
        · have := h1.m0
          show t.most = ((t.most.toNat : Nat) : Int); omega
        · show (0 : Int) = ((t.here.toNat : Nat) : Int); rw [h5]; rfl
      · rw [dif_neg h]; trivial
    | .non => trivial
    | .bl _ => trivial
    | .int _ => trivial
    | .str _ => trivial
    | .lst _ => trivial
    | .scr _ => trivial
    | .obj _ => trivial
    | .tup [] => trivial
    | .tup [_] => trivial
    | .tup [_, _] => trivial
    | .tup [_, _, x] => cases x <;> trivial
    | .tup (_ :: _ :: .int _ :: .non :: _) => trivial
    | .tup (_ :: _ :: .int _ :: .bl _ :: _) => trivial
    | .tup (_ :: _ :: .int _ :: .str _ :: _) => trivial
    | .tup (_ :: _ :: .int _ :: .tup _ :: _) => trivial
    | .tup (_ :: _ :: .int _ :: .lst _ :: _) => trivial
    | .tup (_ :: _ :: .int _ :: .scr _ :: _) => trivial
    | .tup (_ :: _ :: .int _ :: .obj _ :: _) => trivial
    | .tup (_ :: _ :: .int _ :: .int _ :: _ :: _) => trivial
    | .tup (_ :: _ :: .non :: _ :: _) => trivial
    | .tup (_ :: _ :: .bl _ :: _ :: _) => trivial
    | .tup (_ :: _ :: .str _ :: _ :: _) => trivial
    | .tup (_ :: _ :: .tup _ :: _ :: _) => trivial
    | .tup (_ :: _ :: .lst _ :: _ :: _) => trivial
    | .tup (_ :: _ :: .scr _ :: _ :: _) => trivial
    | .tup (_ :: _ :: .obj _ :: _ :: _) => trivial
theorem make_t {fa : Ex} {ρ : Env} {T T1 : Sto} {p : Prg} {as : List Int} {e : Int} {m : Nat} (hf : fa ρ T = .ok (.tup [prgD p, asD as, .int e, .int (m : Nat)]) T1) (hp : PrgOk p) (ha : ∀ n ∈ as, Wo n) (he : 1 ≤ e) (hm : m < 10000) : eTMake fa ρ T = .ok (.obj T1.length) (T1 ++ [taO (tp0 p as 1 m)]) := by
  unfold eTMake
  rw [hf]
  simp only [ER.bind_ok]
  have h : ∃ t : Tp, MkOk (prgD p) (asD as) e (m : Nat) t := ⟨tp0 p as 1 m, tp0_ok hp ha (Nat.le_refl 1) ⟨by omega, by omega⟩, rfl, rfl, rfl, rfl, he⟩
  rw [dif_pos h]
  have hc := Classical.choose_spec h
  generalize Classical.choose h = t at hc
  obtain ⟨h1, h2, h3, h4, h5, h6⟩ := hc
  have z : taO t = taO (tp0 p as 1 m) := by
    unfold taO
    rw [← prgD_inj h2, ← asD_inj h3, h4, h5]; rfl
  rw [z]
end
structure Hid {α : Type} (a : α) : Type where
  val : α
  eq : val = a
theorem hid_ex {α : Type} (a : α) : Nonempty (Hid a) := ⟨⟨a, rfl⟩⟩
noncomputable def hide {α : Type} (a : α) : α := (Classical.choice (hid_ex a)).val
theorem hide_eq {α : Type} {a : α} : hide a = a := (Classical.choice (hid_ex a)).eq
open Classical in
noncomputable def spec (F : Fn) : Fn := fun l T =>
  if h : ∃ d, ∀ S, F l S = .ok d S then .ok (choose h) T else
  if h : ∃ k, ∀ S, F l S = .exc k S then .exc (choose h) T else .bad
theorem spec_ok {F : Fn} {l : List D} {d : D} {T : Sto} (h : ∀ S, F l S = .ok d S) : spec F l T = .ok d T := by
  have h' : ∃ d, ∀ S, F l S = .ok d S := ⟨d, h⟩
  unfold spec
  rw [dif_pos h']
  have hc := Classical.choose_spec h' []
  rw [h []] at hc
  injection hc with hc
  rw [← hc]
theorem spec_exc {F : Fn} {l : List D} {k : Exc} {T : Sto} (h : ∀ S, F l S = .exc k S) : spec F l T = .exc k T := by
  have h0 : ¬ ∃ d, ∀ S, F l S = .ok d S := by
    rintro ⟨d, hd⟩
    have := hd []
    rw [h []] at this
    cases this
  have h' : ∃ k, ∀ S, F l S = .exc k S := ⟨k, h⟩
  unfold spec
  rw [dif_neg h0, dif_pos h']
  have hc := Classical.choose_spec h' []
  rw [h []] at hc
  injection hc with hc
  rw [← hc]
theorem sim_spec {F : Fn} : SimF F (spec F) := fun l S T r => by
  unfold spec
  by_cases h : ∃ d, ∀ S, F l S = .ok d S
  · rw [dif_pos h, Classical.choose_spec h S]; exact ⟨S, rfl, r⟩
  · rw [dif_neg h]
    by_cases h2 : ∃ k, ∀ S, F l S = .exc k S
    · rw [dif_pos h2, Classical.choose_spec h2 S]; exact ⟨S, rfl, r⟩
    · rw [dif_neg h2]; trivial
def pureA : AObj → Bool
  | .abs _ => true
  | o => pureO o
theorem pure_of {c a : AObj} (h : RelO c a) (hp : pureA a = true) : pureO c = true := by
  cases h with
  | tape => exact tp_pure _
  | same q => cases c <;> first | exact hp | cases q
theorem RelS.pure {S T : Sto} (r : RelS S T) (h : T.all pureA = true) : S.all pureO = true := by
  rw [List.all_eq_true] at h ⊢
  intro c hc
  obtain ⟨n, hn, rfl⟩ := List.getElem_of_mem hc
  have hT : n < T.length := by rw [← r.len]; exact hn
  obtain ⟨c', h1, h2⟩ := r.at_ n T[n] (List.getElem?_eq_getElem hT)
  rw [List.getElem?_eq_getElem hn] at h1
  cases h1
  exact pure_of h2 (h _ (List.getElem_mem hT))
section
variable {t : Tp} {T : Sto} {n : Nat} {fo fa : Ex} {ρ : Env}
theorem tpAt_t (h : T[n]? = some (taO t)) : tpAt T (.obj n) = some ⟨t.p, t.as, 0, t.most.toNat, t.here.toNat, none⟩ := by
  unfold tpAt; simp only [h]; rfl
theorem onT_t {k : Nat → TapeI → List D → Sto → ER} {r : List D} (h : T[n]? = some (taO t)) : onT k (.obj n :: r) T = k n ⟨t.p, t.as, 0, t.most.toNat, t.here.toNat, none⟩ r T := by
  unfold onT; simp only [h]; rfl
theorem a_at {m : Nat} (h : T[n]? = some (taO t)) (hm : m ≤ t.E) : A_Tape_at [.obj n, .int (m : Nat)] T = .ok (itM t.p t.as m).d T := by
  unfold A_Tape_at
  rw [onT_t h]
  simp only
  rw [if_pos ⟨by omega, by rw [endI_t]; omega⟩, Int.toNat_natCast]
theorem a_end (h : T[n]? = some (taO t)) : A_Tape_end [.obj n] T = .ok (.int (t.E : Nat)) T := by
  unfold A_Tape_end
  rw [onT_t h]
  simp only
  rw [endI_t]
theorem a_moment (h : T[n]? = some (taO t)) : A_Tape_moment [.obj n] T = .ok (.int (t.here.toNat : Nat)) T := by
  unfold A_Tape_moment
  rw [onT_t h]
theorem a_state (h : T[n]? = some (taO t)) : A_Tape_state [.obj n] T = .ok (itM t.p t.as t.here.toNat).d T := by
  unfold A_Tape_state
  rw [onT_t h]
end
end Bt
namespace Bt
open PySem PySem.Spec PyProof.Rows L2
noncomputable def A_l_drawn : Fn := spec G_l_drawn
theorem sim_l_drawn : SimF G_l_drawn A_l_drawn := sim_spec
noncomputable def A_l_sum : Fn := spec G_l_sum
theorem sim_l_sum : SimF G_l_sum A_l_sum := sim_spec
noncomputable def A_l_program : Fn := spec G_l_program
theorem sim_l_program : SimF G_l_program A_l_program := sim_spec
noncomputable def A_l_asked : Fn := spec G_l_asked
theorem sim_l_asked : SimF G_l_asked A_l_asked := sim_spec
noncomputable def A_reckoned : Fn := spec G_reckoned
theorem sim_reckoned : SimF G_reckoned A_reckoned := sim_spec
noncomputable def A_written_by : Fn := spec G_written_by
theorem sim_written_by : SimF G_written_by A_written_by := sim_spec
noncomputable def A_worth_of : Fn := spec G_worth_of
theorem sim_worth_of : SimF G_worth_of A_worth_of := sim_spec
noncomputable def A_need_thing : Fn := spec G_need_thing
theorem sim_need_thing : SimF G_need_thing A_need_thing := sim_spec
noncomputable def A_changes : Fn := hide (fnBody 2 5
    (sSeq (sExpr (eCall A_need_thing (eCons (eVar 1) eNil)))
    (sSeq (sSet 2 (eComp [3] (iRange1 (eOp opAdd (eT A_Tape_end (eVar 0) eNil) (eC (.int 1)))) (dN 3) eYes (eCall A_worth_of (eCons (eT A_Tape_at (eVar 0) (eCons (eVar 3) eNil)) (eCons (eVar 1) eNil))))) (sRet (eComp [4] (iRange2 (eC (.int 1)) (eCallB (f1 bLen) (eCons (eVar 2) eNil))) (dN 4) (eOp opNe (eOp opIx (eVar 2) (eVar 4)) (eOp opIx (eVar 2) (eOp opSub (eVar 4) (eC (.int 1))))) (eVar 4))))))
theorem sim_changes : SimF G_changes A_changes := by
  unfold A_changes
  rw [hide_eq]
  exact sim_fnBody (sim_sSeq (sim_sExpr (sim_eCall sim_need_thing (sim_eCons sim_eVar sim_eNil))) (sim_sSeq (sim_sSet (sim_eComp (sim_iRange1 (sim_eOp so_opAdd (sim_eT (fun _ => tg_end) sim_Tape_end sim_eVar sim_eNil) sim_eC)) sim_eYes (sim_eCall sim_worth_of (sim_eCons (sim_eT (fun _ => tg_at) sim_Tape_at sim_eVar (sim_eCons sim_eVar sim_eNil)) (sim_eCons sim_eVar sim_eNil))))) (sim_sRet (sim_eComp (sim_iRange2 sim_eC (sim_eCallB (so_f1 so_bLen) (sim_eCons sim_eVar sim_eNil))) (sim_eOp so_opNe (sim_eOp so_opIx sim_eVar sim_eVar) (sim_eOp so_opIx sim_eVar (sim_eOp so_opSub sim_eVar sim_eC))) sim_eVar))))
noncomputable def A_last_change : Fn := hide (fnBody 3 5
    (sSeq (sExpr (eT A_Tape_at (eVar 0) (eCons (eVar 1) eNil)))
    (sSeq (sSet 3 (eComp [4] (iLst (eCall A_changes (eCons (eVar 0) (eCons (eVar 2) eNil)))) (dN 4) (eOp opLe (eVar 4) (eVar 1)) (eVar 4))) (sRet (eIf (eOp opNe (eVar 3) (eLst eNil)) (eOp opIx (eVar 3) (eUn opNeg (eC (.int 1)))) (eC .non))))))
theorem sim_last_change : SimF G_last_change A_last_change := by
  unfold A_last_change
  rw [hide_eq]
  exact sim_fnBody (sim_sSeq (sim_sExpr (sim_eT (fun _ => tg_at) sim_Tape_at sim_eVar (sim_eCons sim_eVar sim_eNil))) (sim_sSeq (sim_sSet (sim_eComp (sim_iLst (sim_eCall sim_changes (sim_eCons sim_eVar (sim_eCons sim_eVar sim_eNil)))) (sim_eOp so_opLe sim_eVar sim_eVar) sim_eVar)) (sim_sRet (sim_eIf (sim_eOp so_opNe sim_eVar (sim_eLst sim_eNil)) (sim_eOp so_opIx sim_eVar (sim_eUn so_opNeg sim_eC)) sim_eC))))
noncomputable def A_sum_at : Fn := hide (fnBody 3 3
    (sRet (eCall A_reckoned (eCons (eVar 2) (eCons (eT A_Tape_at (eVar 0) (eCons (eVar 1) eNil)) eNil)))))
theorem sim_sum_at : SimF G_sum_at A_sum_at := by
  unfold A_sum_at
  rw [hide_eq]
  exact sim_fnBody (sim_sRet (sim_eCall sim_reckoned (sim_eCons sim_eVar (sim_eCons (sim_eT (fun _ => tg_at) sim_Tape_at sim_eVar (sim_eCons sim_eVar sim_eNil)) sim_eNil))))
noncomputable def A_next_so : Fn := hide (fnBody 3 3
    (sSeq (sExpr (eT A_Tape_at (eVar 0) (eCons (eVar 1) eNil)))
    (sSeq (whileN (eOp opLe (eVar 1) (eT A_Tape_end (eVar 0) eNil))
    (sSeq
    (sIf (eOp opNe (eCall A_sum_at (eCons (eVar 0) (eCons (eVar 1) (eCons (eVar 2) eNil)))) (eC (.int 0))) (sRet (eVar 1)) sSkip) (sSet 1 (eOp opAdd (eVar 1) (eC (.int 1))))) 100000) (sRet (eC .non)))))
theorem sim_next_so : SimF G_next_so A_next_so := by
  unfold A_next_so
  rw [hide_eq]
  exact sim_fnBody (sim_sSeq (sim_sExpr (sim_eT (fun _ => tg_at) sim_Tape_at sim_eVar (sim_eCons sim_eVar sim_eNil))) (sim_sSeq (sim_whileN (sim_eOp so_opLe sim_eVar (sim_eT (fun _ => tg_end) sim_Tape_end sim_eVar sim_eNil)) (sim_sSeq (sim_sIf (sim_eOp so_opNe (sim_eCall sim_sum_at (sim_eCons sim_eVar (sim_eCons sim_eVar (sim_eCons sim_eVar sim_eNil)))) sim_eC) (sim_sRet sim_eVar) sim_sSkip) (sim_sSet (sim_eOp so_opAdd sim_eVar sim_eC)))) (sim_sRet sim_eC)))
noncomputable def A_thing_written : Fn := hide (fnBody 2 3
    (sSeq (sExpr (eT A_Tape_at (eVar 0) (eCons (eVar 1) eNil)))
    (sSeq (sSet 2 (eCall A_written_by (eCons (eTProg (eVar 0)) (eCons (eTAsk (eVar 0)) (eCons (eT A_Tape_at (eVar 0) (eCons (eOp opSub (eVar 1) (eC (.int 1))) eNil)) eNil))))) (sRet (eIf (eIsN false (eVar 2)) (eC .non) (eOp opIx (eVar 2) (eC (.int 0))))))))
theorem sim_thing_written : SimF G_thing_written A_thing_written := by
  unfold A_thing_written
  rw [hide_eq]
  exact sim_fnBody (sim_sSeq (sim_sExpr (sim_eT (fun _ => tg_at) sim_Tape_at sim_eVar (sim_eCons sim_eVar sim_eNil))) (sim_sSeq (sim_sSet (sim_eCall sim_written_by (sim_eCons (sim_eTProg sim_eVar) (sim_eCons (sim_eTAsk sim_eVar) (sim_eCons (sim_eT (fun _ => tg_at) sim_Tape_at sim_eVar (sim_eCons (sim_eOp so_opSub sim_eVar sim_eC) sim_eNil)) sim_eNil))))) (sim_sRet (sim_eIf (sim_eIsN sim_eVar) sim_eC (sim_eOp so_opIx sim_eVar sim_eC)))))
noncomputable def A_depth : Fn := hide (fnBody 2 2
    (sRet (eCallB (f1 bLen) (eCons (eOp opIx (eT A_Tape_at (eVar 0) (eCons (eVar 1) eNil)) (eC (.int 3))) eNil))))
theorem sim_depth : SimF G_depth A_depth := by
  unfold A_depth
  rw [hide_eq]
  exact sim_fnBody (sim_sRet (sim_eCallB (so_f1 so_bLen) (sim_eCons (sim_eOp so_opIx (sim_eT (fun _ => tg_at) sim_Tape_at sim_eVar (sim_eCons sim_eVar sim_eNil)) sim_eC) sim_eNil)))
noncomputable def A_over : Fn := hide (fnBody 2 5
    (sSeq (sSet 2 (eCall A_depth (eCons (eVar 0) (eCons (eVar 1) eNil))))
    (sSeq (sSet 3 (eComp [4] (iRange2 (eOp opAdd (eVar 1) (eC (.int 1))) (eOp opAdd (eT A_Tape_end (eVar 0) eNil) (eC (.int 1)))) (dN 4) (eOp opLe (eCall A_depth (eCons (eVar 0) (eCons (eVar 4) eNil))) (eVar 2)) (eVar 4))) (sRet (eIf (eOp opNe (eVar 3) (eLst eNil)) (eOp opIx (eVar 3) (eC (.int 0))) (eT A_Tape_end (eVar 0) eNil))))))
theorem sim_over : SimF G_over A_over := by
  unfold A_over
  rw [hide_eq]
  exact sim_fnBody (sim_sSeq (sim_sSet (sim_eCall sim_depth (sim_eCons sim_eVar (sim_eCons sim_eVar sim_eNil)))) (sim_sSeq (sim_sSet (sim_eComp (sim_iRange2 (sim_eOp so_opAdd sim_eVar sim_eC) (sim_eOp so_opAdd (sim_eT (fun _ => tg_end) sim_Tape_end sim_eVar sim_eNil) sim_eC)) (sim_eOp so_opLe (sim_eCall sim_depth (sim_eCons sim_eVar (sim_eCons sim_eVar sim_eNil))) sim_eVar) sim_eVar)) (sim_sRet (sim_eIf (sim_eOp so_opNe sim_eVar (sim_eLst sim_eNil)) (sim_eOp so_opIx sim_eVar sim_eC) (sim_eT (fun _ => tg_end) sim_Tape_end sim_eVar sim_eNil)))))
noncomputable def A_out : Fn := hide (fnBody 2 5
    (sSeq (sSet 2 (eCall A_depth (eCons (eVar 0) (eCons (eVar 1) eNil))))
    (sSeq (sSet 3 (eComp [4] (iRange2 (eOp opAdd (eVar 1) (eC (.int 1))) (eOp opAdd (eT A_Tape_end (eVar 0) eNil) (eC (.int 1)))) (dN 4) (eOp opLt (eCall A_depth (eCons (eVar 0) (eCons (eVar 4) eNil))) (eVar 2)) (eVar 4))) (sRet (eIf (eOp opNe (eVar 3) (eLst eNil)) (eOp opIx (eVar 3) (eC (.int 0))) (eT A_Tape_end (eVar 0) eNil))))))
theorem sim_out : SimF G_out A_out := by
  unfold A_out
  rw [hide_eq]
  exact sim_fnBody (sim_sSeq (sim_sSet (sim_eCall sim_depth (sim_eCons sim_eVar (sim_eCons sim_eVar sim_eNil)))) (sim_sSeq (sim_sSet (sim_eComp (sim_iRange2 (sim_eOp so_opAdd sim_eVar sim_eC) (sim_eOp so_opAdd (sim_eT (fun _ => tg_end) sim_Tape_end sim_eVar sim_eNil) sim_eC)) (sim_eOp so_opLt (sim_eCall sim_depth (sim_eCons sim_eVar (sim_eCons sim_eVar sim_eNil))) sim_eVar) sim_eVar)) (sim_sRet (sim_eIf (sim_eOp so_opNe sim_eVar (sim_eLst sim_eNil)) (sim_eOp so_opIx sim_eVar sim_eC) (sim_eT (fun _ => tg_end) sim_Tape_end sim_eVar sim_eNil)))))
noncomputable def A_back_over : Fn := hide (fnBody 2 5
    (sSeq (sSet 2 (eCall A_depth (eCons (eVar 0) (eCons (eVar 1) eNil))))
    (sSeq (sSet 3 (eComp [4] (iRange1 (eVar 1)) (dN 4) (eOp opLe (eCall A_depth (eCons (eVar 0) (eCons (eVar 4) eNil))) (eVar 2)) (eVar 4))) (sRet (eIf (eOp opNe (eVar 3) (eLst eNil)) (eOp opIx (eVar 3) (eUn opNeg (eC (.int 1)))) (eC (.int 0)))))))
theorem sim_back_over : SimF G_back_over A_back_over := by
  unfold A_back_over
  rw [hide_eq]
  exact sim_fnBody (sim_sSeq (sim_sSet (sim_eCall sim_depth (sim_eCons sim_eVar (sim_eCons sim_eVar sim_eNil)))) (sim_sSeq (sim_sSet (sim_eComp (sim_iRange1 sim_eVar) (sim_eOp so_opLe (sim_eCall sim_depth (sim_eCons sim_eVar (sim_eCons sim_eVar sim_eNil))) sim_eVar) sim_eVar)) (sim_sRet (sim_eIf (sim_eOp so_opNe sim_eVar (sim_eLst sim_eNil)) (sim_eOp so_opIx sim_eVar (sim_eUn so_opNeg sim_eC)) sim_eC))))
noncomputable def A_back_out : Fn := hide (fnBody 2 5
    (sSeq (sSet 2 (eCall A_depth (eCons (eVar 0) (eCons (eVar 1) eNil))))
    (sSeq (sSet 3 (eComp [4] (iRange1 (eVar 1)) (dN 4) (eOp opLt (eCall A_depth (eCons (eVar 0) (eCons (eVar 4) eNil))) (eVar 2)) (eVar 4))) (sRet (eIf (eOp opNe (eVar 3) (eLst eNil)) (eOp opIx (eVar 3) (eUn opNeg (eC (.int 1)))) (eC (.int 0)))))))
theorem sim_back_out : SimF G_back_out A_back_out := by
  unfold A_back_out
  rw [hide_eq]
  exact sim_fnBody (sim_sSeq (sim_sSet (sim_eCall sim_depth (sim_eCons sim_eVar (sim_eCons sim_eVar sim_eNil)))) (sim_sSeq (sim_sSet (sim_eComp (sim_iRange1 sim_eVar) (sim_eOp so_opLt (sim_eCall sim_depth (sim_eCons sim_eVar (sim_eCons sim_eVar sim_eNil))) sim_eVar) sim_eVar)) (sim_sRet (sim_eIf (sim_eOp so_opNe sim_eVar (sim_eLst sim_eNil)) (sim_eOp so_opIx sim_eVar (sim_eUn so_opNeg sim_eC)) sim_eC))))
noncomputable def A_reads_of : Fn := spec G_reads_of
theorem sim_reads_of : SimF G_reads_of A_reads_of := sim_spec
noncomputable def A_step_reads : Fn := hide (fnBody 2 4
    (sSeq (sSet 2 (eT A_Tape_at (eVar 0) (eCons (eOp opSub (eVar 1) (eC (.int 1))) eNil)))
    (sSeq (sSet 3 (eOp opIx (eTProg (eVar 0)) (eOp opIx (eVar 2) (eC (.int 0)))))
    (sSeq
    (sIf (eOp opEq (eOp opIx (eVar 3) (eC (.int 0))) (eC (.str "set"))) (sRet (eCall A_reads_of (eCons (eOp opIx (eVar 3) (eC (.int 2))) (eCons (eVar 2) eNil)))) sSkip) (sRet (eIf (eOp opEq (eOp opIx (eVar 3) (eC (.int 0))) (eC (.str "put"))) (eOp opAdd (eCall A_reads_of (eCons (eOp opIx (eVar 3) (eC (.int 1))) (eCons (eVar 2) eNil))) (eCall A_reads_of (eCons (eOp opIx (eVar 3) (eC (.int 2))) (eCons (eVar 2) eNil)))) (eLst eNil)))))))
theorem sim_step_reads : SimF G_step_reads A_step_reads := by
  unfold A_step_reads
  rw [hide_eq]
  exact sim_fnBody (sim_sSeq (sim_sSet (sim_eT (fun _ => tg_at) sim_Tape_at sim_eVar (sim_eCons (sim_eOp so_opSub sim_eVar sim_eC) sim_eNil))) (sim_sSeq (sim_sSet (sim_eOp so_opIx (sim_eTProg sim_eVar) (sim_eOp so_opIx sim_eVar sim_eC))) (sim_sSeq (sim_sIf (sim_eOp so_opEq (sim_eOp so_opIx sim_eVar sim_eC) sim_eC) (sim_sRet (sim_eCall sim_reads_of (sim_eCons (sim_eOp so_opIx sim_eVar sim_eC) (sim_eCons sim_eVar sim_eNil)))) sim_sSkip) (sim_sRet (sim_eIf (sim_eOp so_opEq (sim_eOp so_opIx sim_eVar sim_eC) sim_eC) (sim_eOp so_opAdd (sim_eCall sim_reads_of (sim_eCons (sim_eOp so_opIx sim_eVar sim_eC) (sim_eCons sim_eVar sim_eNil))) (sim_eCall sim_reads_of (sim_eCons (sim_eOp so_opIx sim_eVar sim_eC) (sim_eCons sim_eVar sim_eNil)))) (sim_eLst sim_eNil))))))
end Bt
namespace Bt
open PySem PySem.Spec PyProof.Rows L2
theorem o_ltI {S : Sto} {i j : Int} : opLt S (.int i) (.int j) = some (.bl (decide (i < j))) := rfl
theorem o_gtI {S : Sto} {i j : Int} : opGt S (.int i) (.int j) = some (.bl (decide (j < i))) := rfl
theorem o_geI {S : Sto} {i j : Int} : opGe S (.int i) (.int j) = some (.bl (decide (j ≤ i))) := rfl
theorem s_yes {ρ : Env} {S : Sto} : eYes ρ S = .ok (.bl true) S := rfl
theorem s_call0 {F : Fn} {ρ : Env} {S : Sto} : eCall0 F ρ S = match F [] S with | .ok d S1 => .ok d S1 | _ => .bad := rfl
/-- not by rfl: else the kernel unfolds what is called -/
theorem u_call {F : Fn} {fa : Ex} {ρ : Env} {S : Sto} : eCall F fa ρ S = (fa ρ S).bind fun t S1 => match t with | .tup l => F l S1 | _ => .bad := Eq.trans s_call rfl
theorem u_call0 {F : Fn} {ρ : Env} {S : Sto} : eCall0 F ρ S = match F [] S with | .ok d S1 => .ok d S1 | _ => .bad := Eq.trans s_call0 rfl
theorem u_eT {F : Fn} {fo fa : Ex} {ρ : Env} {T : Sto} : eT F fo fa ρ T = (fo ρ T).bind fun o T1 => match tpAt T1 o with
  | some _ => (fa ρ T1).bind fun t T2 => (match t with
    | .tup l => F (o :: l) T2
    | _ => .bad)
  | none => .bad := Eq.trans s_eT rfl
theorem u_callB {F : Sto → List D → Option D} {fa : Ex} {ρ : Env} {S : Sto} : eCallB F fa ρ S = (fa ρ S).bind fun t S1 => match t with | .tup l => lift1 (F S1 l) S1 | _ => .bad := Eq.trans s_callB rfl
theorem u_op {F : Sto → D → D → Option D} {fa fb : Ex} {ρ : Env} {S : Sto} : eOp F fa fb ρ S = (fa ρ S).bind fun x S1 => (fb ρ S1).bind fun y S2 => lift1 (F S2 x y) S2 := Eq.trans s_op rfl
theorem u_cons {fa fr : Ex} {ρ : Env} {S : Sto} : eCons fa fr ρ S = (fa ρ S).bind fun x S1 => (fr ρ S1).bind fun t S2 => match t with | .tup l => .ok (.tup (x :: l)) S2 | _ => .bad := Eq.trans s_cons rfl
section
variable {Q : SR → Prop} {ρ ρ1 : Env} {S S1 : Sto} {g a b : Sx} {fe fc fi : Ex} {d : D} {i : Nat} {tg : D → Env → Option Env}
theorem q_set (h : fe ρ S = .ok d S1) (k : Q (g (ρ.set i (some d)) S1)) : Q (sSeq (sSet i fe) g ρ S) := by
  show Q (SR.seq (ER.toS (fe ρ S) ρ _) g); rw [h]; exact k
theorem q_set1 (h : fe ρ S = .ok d S1) (k : Q (.nx (ρ.set i (some d)) S1)) : Q (sSet i fe ρ S) := by
  show Q (ER.toS (fe ρ S) ρ _); rw [h]; exact k
theorem q_expr (h : fe ρ S = .ok d S1) (k : Q (g ρ S1)) : Q (sSeq (sExpr fe) g ρ S) := by
  show Q (SR.seq (ER.toS (fe ρ S) ρ _) g); rw [h]; exact k
theorem q_ret (h : fe ρ S = .ok d S1) (k : Q (.rt d S1)) : Q (sRet fe ρ S) := by
  show Q (ER.toS (fe ρ S) ρ _); rw [h]; exact k
theorem q_if0 (h : fc ρ S = .ok (.bl false) S1) (k : Q (g ρ S1)) : Q (sSeq (sIf fc a sSkip) g ρ S) := by
  show Q (SR.seq (ER.toS (fc ρ S) ρ _) g); rw [h]; exact k
theorem q_ifF (h : fc ρ S = .ok (.bl false) S1) (k : Q (sSeq b g ρ S1)) : Q (sSeq (sIf fc a b) g ρ S) := by
  show Q (SR.seq (ER.toS (fc ρ S) ρ _) g); rw [h]; exact k
theorem q_ifT (h : fc ρ S = .ok (.bl true) S1) (k : Q (sSeq a g ρ S1)) : Q (sSeq (sIf fc a b) g ρ S) := by
  show Q (SR.seq (ER.toS (fc ρ S) ρ _) g); rw [h]; exact k
theorem q_ifF1 (h : fc ρ S = .ok (.bl false) S1) (k : Q (b ρ S1)) : Q (sIf fc a b ρ S) := by
  show Q (ER.toS (fc ρ S) ρ _); rw [h]; exact k
theorem q_assoc {c : Sx} (k : Q (sSeq a (sSeq b c) ρ S)) : Q (sSeq (sSeq a b) c ρ S) := by
  have e : sSeq (sSeq a b) c ρ S = sSeq a (sSeq b c) ρ S := by
    show ((a ρ S).seq b).seq c = (a ρ S).seq (sSeq b c)
    cases a ρ S <;> rfl
  rw [e]; exact k
theorem q_seqRet (h : fe ρ S = .ok d S1) (k : Q (.rt d S1)) : Q (sSeq (sRet fe) g ρ S) := by
  show Q (SR.seq (ER.toS (fe ρ S) ρ _) g); rw [h]; exact k
/-- a loop over a list of such things, what holds told by the place -/
def NxP (P : Env → Sto → Prop) (r : SR) : Prop := ∃ ρ S, (r = .nx ρ S ∨ r = .ct ρ S) ∧ P ρ S
theorem nx_p {P : Env → Sto → Prop} (h : P ρ S) : NxP P (.nx ρ S) := ⟨ρ, S, .inl rfl, h⟩
theorem forL_P {α : Type} {f : α → D} (P : Nat → Env → Sto → Prop) (xs : List α) : ∀ (k i : Nat) (ρ : Env) (S : Sto), i + k = xs.length → (∀ j x, xs[j]? = some x → ∀ ρ S, P j ρ S → ∃ ρ1, tg (f x) ρ = some ρ1 ∧ NxP (P (j + 1)) (b ρ1 S)) → P i ρ S → ∃ ρ' S', forL tg b ((xs.drop i).map f) ρ S = .nx ρ' S' ∧ P xs.length ρ' S'
  | 0, i, ρ, S, hi, _, h => by
    have e : i = xs.length := by omega
    subst e
    refine ⟨ρ, S, ?_, h⟩
    rw [List.drop_of_length_le (Nat.le_refl _)]; rfl
  | k + 1, i, ρ, S, hi, e, h => by
    have hlt : i < xs.length := by omega
    obtain ⟨ρ1, e1, ρ2, S2, e2, h2⟩ := e i xs[i] (List.getElem?_eq_getElem hlt) ρ S h
    obtain ⟨ρ', S', e3, h3⟩ := forL_P P xs k (i + 1) ρ2 S2 (by omega) e h2
    refine ⟨ρ', S', ?_, h3⟩
    rw [List.drop_eq_getElem_cons hlt, List.map_cons]
    unfold forL
    rw [e1]; simp only
    rcases e2 with e2 | e2 <;> rw [e2] <;> exact e3
theorem q_for {α : Type} {f : α → D} {xs : List α} (P : Nat → Env → Sto → Prop) (hi : fi ρ S = .ok (.tup (xs.map f)) S1) (h0 : P 0 ρ S1)
    (hb : ∀ j x, xs[j]? = some x → ∀ ρ S, P j ρ S → ∃ ρ1, tg (f x) ρ = some ρ1 ∧ NxP (P (j + 1)) (b ρ1 S)) (hr : ∀ ρ S, P xs.length ρ S → Q (g ρ S)) : Q (sSeq (sFor fi tg b) g ρ S) := by
  obtain ⟨ρ', S', e, h⟩ := forL_P P xs xs.length 0 ρ S1 (by omega) hb h0
  rw [List.drop_zero] at e
  show Q (SR.seq (ER.toS (fi ρ S) ρ _) g)
  rw [hi]
  show Q (SR.seq (forL tg b (xs.map f) ρ S1) g)
  rw [e]
  exact hr ρ' S' h
/-- comprehensions -/
theorem compL_gen {α : Type} {f : α → D} {p : α → Bool} {gg : α → D} {vs : List Nat} : ∀ (xs : List α) (acc : List D), (∀ x ∈ xs, ∃ ρ1, tg (f x) (wipeD ρ vs) = some ρ1 ∧ fc ρ1 S = .ok (.bl (p x)) S ∧ (p x = true → fe ρ1 S = .ok (gg x) S)) → acc.length + xs.length ≤ lim → compL (stepC tg fc fe (wipeD ρ vs)) (xs.map f) acc S = .ok (.lst (acc ++ (xs.filter p).map gg)) S
  | [], acc, _, _ => by simp [compL]
  | x :: xs, acc, e, hl => by
    obtain ⟨ρ1, e1, e2, e3⟩ := e x List.mem_cons_self
    have hl' : acc.length + (xs.length + 1) ≤ lim := hl
    rw [List.map_cons]
    unfold compL
    by_cases q : p x = true
    · have es : stepC tg fc fe (wipeD ρ vs) (f x) S = some (some (gg x), S) := by
        unfold stepC; simp only [e1, e2, q, e3 q]
      rw [es]
      simp only
      rw [if_pos (by omega), compL_gen xs (acc ++ [gg x]) (fun y hy => e y (List.mem_cons_of_mem _ hy)) (by simp; omega), List.filter_cons_of_pos q, List.map_cons, List.append_assoc]
      rfl
    · have es : stepC tg fc fe (wipeD ρ vs) (f x) S = some (none, S) := by
        unfold stepC; simp only [e1, e2, Bool.eq_false_iff.mpr q]
      rw [es]
      simp only
      rw [compL_gen xs acc (fun y hy => e y (List.mem_cons_of_mem _ hy)) (by omega), List.filter_cons_of_neg q]
theorem comp_gen {α : Type} {f : α → D} {xs : List α} (p : α → Bool) (gg : α → D) {vs : List Nat} (hi : fi ρ S = .ok (.tup (xs.map f)) S1) (he : ∀ x ∈ xs, ∃ ρ1, tg (f x) (wipeD ρ vs) = some ρ1 ∧ fc ρ1 S1 = .ok (.bl (p x)) S1 ∧ (p x = true → fe ρ1 S1 = .ok (gg x) S1)) (hl : xs.length ≤ lim) : eComp vs fi tg fc fe ρ S = .ok (.lst ((xs.filter p).map gg)) S1 := by
  unfold eComp
  rw [hi]
  simp only [ER.bind_ok]
  rw [compL_gen xs [] he (by simpa using hl), List.nil_append]
theorem comp_all {α : Type} {f : α → D} {xs : List α} (gg : α → D) {vs : List Nat} (hi : fi ρ S = .ok (.tup (xs.map f)) S1) (he : ∀ x ∈ xs, ∃ ρ1, tg (f x) (wipeD ρ vs) = some ρ1 ∧ fe ρ1 S1 = .ok (gg x) S1) (hl : xs.length ≤ lim) : eComp vs fi tg eYes fe ρ S = .ok (.lst (xs.map gg)) S1 := by
  have := comp_gen (fc := eYes) (fun _ => true) gg hi (fun x hx => by
    obtain ⟨ρ1, h1, h2⟩ := he x hx
    exact ⟨ρ1, h1, rfl, fun _ => h2⟩) hl
  rw [this]
  congr 3
  exact List.filter_eq_self.mpr fun _ _ => rfl
end
theorem rng_nats {n : Nat} : rngD 0 n = natsD (List.range n) := by
  unfold rngD natsD
  apply List.map_congr_left
  intro a _
  rw [Int.zero_add]
theorem rng_nats2 {a k : Nat} : rngD (a : Nat) k = natsD (List.range' a k) := by
  unfold rngD natsD
  rw [List.range'_eq_map_range, List.map_map]
  apply List.map_congr_left
  intro i _
  show D.int ((a : Int) + (i : Int)) = D.int ((a + i : Nat) : Int)
  rw [Int.natCast_add]
section
variable {ρ : Env} {S S1 S2 : Sto} {fe fe2 : Ex}
theorem rg1 {n : Nat} (h : fe ρ S = .ok (.int (n : Nat)) S1) (hl : n ≤ 1000000) : iRange1 fe ρ S = .ok (.tup (natsD (List.range n))) S1 := by
  rw [range1_ev h hl, rng_nats]
theorem rg2 {a b : Nat} (h : fe ρ S = .ok (.int (a : Nat)) S1) (h2 : fe2 ρ S1 = .ok (.int (b : Nat)) S2) (ha : a ≤ 1000000) (hb : b ≤ 1000000) : iRange2 fe fe2 ρ S = .ok (.tup (natsD (List.range' a (b - a)))) S2 := by
  rw [range2_ev h h2 ha hb, rng_nats2]
theorem il {l : List D} (h : fe ρ S = .ok (.lst l) S1) : iLst fe ρ S = .ok (.tup l) S1 := by
  unfold iLst; rw [h]; rfl
end
theorem eqvs_natsD (l m : List Nat) : eqvs (natsD l) (natsD m) = decide (l = m) := eqvs_nats l m
theorem ne_nats {S : Sto} {l m : List Nat} : opNe S (.lst (natsD l)) (.lst (natsD m)) = some (.bl (!decide (l = m))) := by
  rw [b_goodN nats_gd nats_gd, eqv_lst, eqvs_natsD]
theorem ne_natsN {S : Sto} {l : List Nat} : opNe S (.lst (natsD l)) (.lst []) = some (.bl (!decide (l = []))) := ne_nats (m := [])
theorem nats_len {l : List Nat} : (natsD l).length = l.length := List.length_map _
theorem nats_last {l : List Nat} {k : Nat} (h : l.getLast? = some k) : atI (natsD l) (-1) = some (.int (k : Nat)) := by
  rw [at_last]; unfold natsD; rw [List.getLast?_map, h]; rfl
theorem nats_head {l : List Nat} {k : Nat} (h : l.head? = some k) : atI (natsD l) 0 = some (.int (k : Nat)) := by
  cases l with
  | nil => cases h
  | cons a l => cases h; exact atI_0
theorem a_st {t : Tp} {T : Sto} {n m : Nat} (h : T[n]? = some (taO t)) (hm : m ≤ t.E) : A_Tape_at [.obj n, .int (m : Nat)] T = .ok (t.st m).d T := a_at h hm
/-- the defs that look at states alone -/
theorem a_reckoned {s : Sta} (hs : s.ok) {T : Sto} {a : Sm} (ha : a.ok) (hd : a.dep < 20) : A_reckoned [a.d, s.d] T = .ok (.int (a.ev s)) T := spec_ok fun S => reckoned_ok hs ha hd
theorem a_written_by {p : Prg} {k : Nat} {s : Sta} {as : List Int} {T : Sto} (hp : PrgOk p) (h : StOk p k s) (hr : s.row < p.length) : A_written_by [prgD p, asD as, s.d] T = .ok (wrD (wrs as s (rowAt p s))) T := spec_ok fun S => written_law hp h hr
theorem a_need_thing {t : Th} (ht : t.ok) {T : Sto} : A_need_thing [t.d] T = .ok .non T := spec_ok fun S => need_thing_law ht S
theorem a_worth_of {s : Sta} {t : Th} (hs : s.ok) (ht : t.ok) {T : Sto} : A_worth_of [s.d, t.d] T = .ok (.int (s.get t)) T := spec_ok fun S => worth_of_law hs ht S
theorem a_l_drawn {ns : List Int} (hn : ns.length ≤ 63) {k many : Int} (hm : 0 < many) {T : Sto} : A_l_drawn [scrD ns, .int k, .int many] T = .ok (.int (drawnM ns k many)) T := spec_ok fun S => drawn_law hn hm
theorem a_l_sum {ns : List Int} (hn : ns.length ≤ 63) {T : Sto} {n : Nat} {at' : Int} (h : n < 5) : A_l_sum [scrD ns, .int at', .int (n : Nat)] T = .ok (sumM ns n at').d T := spec_ok fun S => sum_law hn h
theorem a_l_program {ns : List Int} (hn : ns.length ≤ 63) {T : Sto} {at' : Int} : A_l_program [scrD ns, .int at'] T = .ok (prgD (prgM ns at')) T := spec_ok fun S => prg_law hn
theorem a_l_asked {ns : List Int} (hn : ns.length ≤ 63) {T : Sto} {at' : Int} : A_l_asked [scrD ns, .int at'] T = .ok (asD (asM ns at')) T := spec_ok fun S => as_law hn
/-- the end of a law -/
def Good (r : SR) : Prop := ∃ S', r.toE = .ok (.bl true) S'
theorem law_of {F A : Fn} (h : SimF F A) (k : ∀ ns : List Int, ns.length ≤ 63 → ∃ T, A [scrD ns] [] = .ok (.bl true) T) : ∀ ns : List Int, ns.length ≤ 63 → ∃ S, F [.scr (ns.map D.int)] [] = .ok (.bl true) S := by
  intro ns hn
  obtain ⟨T, e⟩ := k ns hn
  have := h [scrD ns] [] [] .nil
  rw [e] at this
  obtain ⟨S, e2, _⟩ := this
  exact ⟨S, e2⟩
theorem law_good {N : Nat} {f : Sx} {ns : List Int} (h : Good (f ([some (scrD ns)] ++ List.replicate (N - 1) none) [])) : ∃ T, fnBody 1 N f [scrD ns] [] = .ok (.bl true) T := by
  rw [fnB1]; exact h
end Bt
namespace Bt
open PySem PySem.Spec PyProof.Rows L2
section
variable {t : Tp} {T S : Sto} {n : Nat} {ρ : Env}
def hdO (l : List Nat) (d : D) : D := match l.head? with
  | some k => .int (k : Nat)
  | none => d
def laO (l : List Nat) (d : D) : D := match l.getLast? with
  | some k => .int (k : Nat)
  | none => d
theorem x_hd {i : Nat} {l : List Nat} {d : D} {fx : Ex} (hv : eVar i ρ T = .ok (.lst (natsD l)) T) (hx : fx ρ T = .ok d T) : eIf (eOp opNe (eVar i) (eLst eNil)) (eOp opIx (eVar i) (eC (.int 0))) fx ρ T = .ok (hdO l d) T := by
  simp only [s_var0, s_varS, s_c, u_op, s_un, s_nil, u_cons, s_and, s_or, s_not, s_ife, s_chain, u_call, u_call0, u_callB, s_tup, s_lst, s_sl, s_no, s_int, s_meth, s_isN, s_isT, s_rev, u_eT, s_eTProg, s_eTAsk, s_yes, ER.bind_ok, ER.bind_exc, ER.toS, l1_some, o_addI, o_sub, o_neg, o_ixT, o_ixL, o_ltI, o_gtI, o_geI, o_leI, o_eqI, o_neI, b_f1, b_lenT, b_lenL, partD_non, partD_int, t_non, t_int, t_bl, t_str, t_tup, t_lst, isStr_s, sta_0, sta_1, sta_2, sta_3, sta_4, sta_5, List.set_cons_zero, List.set_cons_succ, wipeD, List.length_cons, List.length_nil, lim, Nat.reduceAdd, Nat.reduceLeDiff, if_true, Bool.not_true, Bool.not_false, hv, ne_natsN]
  cases l with
  | nil => simp only [decide_true, Bool.not_true]; exact hx
  | cons a l => simp only [decide_false, Bool.not_false, reduceCtorEq]; rw [nats_head (k := a) rfl]; rfl
theorem x_la {i : Nat} {l : List Nat} {d : D} {fx : Ex} (hv : eVar i ρ T = .ok (.lst (natsD l)) T) (hx : fx ρ T = .ok d T) : eIf (eOp opNe (eVar i) (eLst eNil)) (eOp opIx (eVar i) (eUn opNeg (eC (.int 1)))) fx ρ T = .ok (laO l d) T := by
  simp only [s_var0, s_varS, s_c, u_op, s_un, s_nil, u_cons, s_and, s_or, s_not, s_ife, s_chain, u_call, u_call0, u_callB, s_tup, s_lst, s_sl, s_no, s_int, s_meth, s_isN, s_isT, s_rev, u_eT, s_eTProg, s_eTAsk, s_yes, ER.bind_ok, ER.bind_exc, ER.toS, l1_some, o_addI, o_sub, o_neg, o_ixT, o_ixL, o_ltI, o_gtI, o_geI, o_leI, o_eqI, o_neI, b_f1, b_lenT, b_lenL, partD_non, partD_int, t_non, t_int, t_bl, t_str, t_tup, t_lst, isStr_s, sta_0, sta_1, sta_2, sta_3, sta_4, sta_5, List.set_cons_zero, List.set_cons_succ, wipeD, List.length_cons, List.length_nil, lim, Nat.reduceAdd, Nat.reduceLeDiff, if_true, Bool.not_true, Bool.not_false, hv, ne_natsN]
  cases l with
  | nil => simp only [decide_true, Bool.not_true]; exact hx
  | cons a l =>
    simp only [decide_false, Bool.not_false, reduceCtorEq]
    have e : (a :: l).getLast? = some ((a :: l).getLast (by simp)) := List.getLast?_eq_some_getLast (by simp)
    rw [nats_last e]
    unfold laO
    rw [e]; rfl
def dpM (t : Tp) (m : Nat) : Nat := (t.st m).calls.length
def fromTo (a b : Nat) : List Nat := List.range' a (b - a)
theorem mem_fromTo {a b x : Nat} : x ∈ fromTo a b ↔ a ≤ x ∧ x < b := by
  unfold fromTo
  rw [List.mem_range'_1]
  omega
def aheadLe (t : Tp) (m : Nat) : List Nat := (fromTo (m + 1) (t.E + 1)).filter fun j => decide (dpM t j ≤ dpM t m)
def aheadLt (t : Tp) (m : Nat) : List Nat := (fromTo (m + 1) (t.E + 1)).filter fun j => decide (dpM t j < dpM t m)
def backLe (t : Tp) (m : Nat) : List Nat := (List.range m).filter fun j => decide (dpM t j ≤ dpM t m)
def backLt (t : Tp) (m : Nat) : List Nat := (List.range m).filter fun j => decide (dpM t j < dpM t m)
def overM (t : Tp) (m : Nat) : Nat := (aheadLe t m).head?.getD t.E
def outM (t : Tp) (m : Nat) : Nat := (aheadLt t m).head?.getD t.E
def boverM (t : Tp) (m : Nat) : Nat := (backLe t m).getLast?.getD 0
def boutM (t : Tp) (m : Nat) : Nat := (backLt t m).getLast?.getD 0
theorem hdO_or {l : List Nat} {d : Nat} : hdO l (.int (d : Nat)) = .int (l.head?.getD d : Nat) := by unfold hdO; cases l.head? <;> rfl
theorem laO_or {l : List Nat} {d : Nat} : laO l (.int (d : Nat)) = .int (l.getLast?.getD d : Nat) := by unfold laO; cases l.getLast? <;> rfl
theorem laO_non {l : List Nat} : laO l .non = natO l.getLast? := by unfold laO natO; cases l.getLast? <;> rfl
theorem a_depth {m : Nat} (h : T[n]? = some (taO t)) (hm : m ≤ t.E) : A_depth [.obj n, .int (m : Nat)] T = .ok (.int (dpM t m : Nat)) T := by
  unfold A_depth
  rw [hide_eq, fnB2]
  simp only [Nat.reduceSub, List.reduceReplicate, List.cons_append, List.nil_append]
  simp only [s_var0, s_varS, s_c, u_op, s_un, s_nil, u_cons, s_and, s_or, s_not, s_ife, s_chain, u_call, u_call0, u_callB, s_tup, s_lst, s_sl, s_no, s_int, s_meth, s_isN, s_isT, s_rev, u_eT, s_eTProg, s_eTAsk, s_yes, ER.bind_ok, ER.bind_exc, ER.toS, l1_some, o_addI, o_sub, o_neg, o_ixT, o_ixL, o_ltI, o_gtI, o_geI, o_leI, o_eqI, o_neI, b_f1, b_lenT, b_lenL, partD_non, partD_int, t_non, t_int, t_bl, t_str, t_tup, t_lst, isStr_s, sta_0, sta_1, sta_2, sta_3, sta_4, sta_5, List.set_cons_zero, List.set_cons_succ, wipeD, List.length_cons, List.length_nil, lim, Nat.reduceAdd, Nat.reduceLeDiff, if_true, Bool.not_true, Bool.not_false, s_ret, tpAt_t h, a_at h hm, List.length_map]
  rfl
theorem ahead_comp {p : Nat → Nat → Bool} {F : Sto → D → D → Option D} (hF : ∀ S (a b : Nat), F S (.int (a : Nat)) (.int (b : Nat)) = some (.bl (p a b))) {m : Nat} (h : T[n]? = some (taO t)) (R : RunOk t) (hm : m ≤ t.E) :
    eComp [4] (iRange2 (eOp opAdd (eVar 1) (eC (.int 1))) (eOp opAdd (eT A_Tape_end (eVar 0) eNil) (eC (.int 1)))) (dN 4) (eOp F (eCall A_depth (eCons (eVar 0) (eCons (eVar 4) eNil))) (eVar 2)) (eVar 4) [some (.obj n), some (.int (m : Nat)), some (.int (dpM t m : Nat)), none, none] T = .ok (.lst (natsD ((fromTo (m + 1) (t.E + 1)).filter fun j => p (dpM t j) (dpM t m)))) T := by
  have hN := R.N
  have hr : iRange2 (eOp opAdd (eVar 1) (eC (.int 1))) (eOp opAdd (eT A_Tape_end (eVar 0) eNil) (eC (.int 1))) [some (.obj n), some (.int (m : Nat)), some (.int (dpM t m : Nat)), none, none] T = .ok (.tup (natsD (fromTo (m + 1) (t.E + 1)))) T :=
    rg2 (a := m + 1) (b := t.E + 1) (by simp only [s_var0, s_varS, s_c, u_op, s_un, s_nil, u_cons, s_and, s_or, s_not, s_ife, s_chain, u_call, u_call0, u_callB, s_tup, s_lst, s_sl, s_no, s_int, s_meth, s_isN, s_isT, s_rev, u_eT, s_eTProg, s_eTAsk, s_yes, ER.bind_ok, ER.bind_exc, ER.toS, l1_some, o_addI, o_sub, o_neg, o_ixT, o_ixL, o_ltI, o_gtI, o_geI, o_leI, o_eqI, o_neI, b_f1, b_lenT, b_lenL, partD_non, partD_int, t_non, t_int, t_bl, t_str, t_tup, t_lst, isStr_s, sta_0, sta_1, sta_2, sta_3, sta_4, sta_5, List.set_cons_zero, List.set_cons_succ, wipeD, List.length_cons, List.length_nil, lim, Nat.reduceAdd, Nat.reduceLeDiff, if_true, Bool.not_true, Bool.not_false]; rfl) (by simp only [s_var0, s_varS, s_c, u_op, s_un, s_nil, u_cons, s_and, s_or, s_not, s_ife, s_chain, u_call, u_call0, u_callB, s_tup, s_lst, s_sl, s_no, s_int, s_meth, s_isN, s_isT, s_rev, u_eT, s_eTProg, s_eTAsk, s_yes, ER.bind_ok, ER.bind_exc, ER.toS, l1_some, o_addI, o_sub, o_neg, o_ixT, o_ixL, o_ltI, o_gtI, o_geI, o_leI, o_eqI, o_neI, b_f1, b_lenT, b_lenL, partD_non, partD_int, t_non, t_int, t_bl, t_str, t_tup, t_lst, isStr_s, sta_0, sta_1, sta_2, sta_3, sta_4, sta_5, List.set_cons_zero, List.set_cons_succ, wipeD, List.length_cons, List.length_nil, lim, Nat.reduceAdd, Nat.reduceLeDiff, if_true, Bool.not_true, Bool.not_false, tpAt_t h, a_end h]; rfl) (by omega) (by omega)
  refine comp_gen (fun j => p (dpM t j) (dpM t m)) (fun (j : Nat) => D.int j) hr (fun j hj => ⟨_, rfl, ?_, fun _ => ?_⟩) (by unfold fromTo; rw [List.length_range']; show _ ≤ 1000000; omega)
  · have := mem_fromTo.mp hj
    simp only [s_var0, s_varS, s_c, u_op, s_un, s_nil, u_cons, s_and, s_or, s_not, s_ife, s_chain, u_call, u_call0, u_callB, s_tup, s_lst, s_sl, s_no, s_int, s_meth, s_isN, s_isT, s_rev, u_eT, s_eTProg, s_eTAsk, s_yes, ER.bind_ok, ER.bind_exc, ER.toS, l1_some, o_addI, o_sub, o_neg, o_ixT, o_ixL, o_ltI, o_gtI, o_geI, o_leI, o_eqI, o_neI, b_f1, b_lenT, b_lenL, partD_non, partD_int, t_non, t_int, t_bl, t_str, t_tup, t_lst, isStr_s, sta_0, sta_1, sta_2, sta_3, sta_4, sta_5, List.set_cons_zero, List.set_cons_succ, wipeD, List.length_cons, List.length_nil, lim, Nat.reduceAdd, Nat.reduceLeDiff, if_true, Bool.not_true, Bool.not_false, a_depth h (m := j) (by omega), hF]
  · rfl
theorem back_comp {p : Nat → Nat → Bool} {F : Sto → D → D → Option D} (hF : ∀ S (a b : Nat), F S (.int (a : Nat)) (.int (b : Nat)) = some (.bl (p a b))) {m : Nat} (h : T[n]? = some (taO t)) (R : RunOk t) (hm : m ≤ t.E) :
    eComp [4] (iRange1 (eVar 1)) (dN 4) (eOp F (eCall A_depth (eCons (eVar 0) (eCons (eVar 4) eNil))) (eVar 2)) (eVar 4) [some (.obj n), some (.int (m : Nat)), some (.int (dpM t m : Nat)), none, none] T = .ok (.lst (natsD ((List.range m).filter fun j => p (dpM t j) (dpM t m)))) T := by
  have hN := R.N
  have hr : iRange1 (eVar 1) [some (.obj n), some (.int (m : Nat)), some (.int (dpM t m : Nat)), none, none] T = .ok (.tup (natsD (List.range m))) T :=
    rg1 (by simp only [s_var0, s_varS, s_c, u_op, s_un, s_nil, u_cons, s_and, s_or, s_not, s_ife, s_chain, u_call, u_call0, u_callB, s_tup, s_lst, s_sl, s_no, s_int, s_meth, s_isN, s_isT, s_rev, u_eT, s_eTProg, s_eTAsk, s_yes, ER.bind_ok, ER.bind_exc, ER.toS, l1_some, o_addI, o_sub, o_neg, o_ixT, o_ixL, o_ltI, o_gtI, o_geI, o_leI, o_eqI, o_neI, b_f1, b_lenT, b_lenL, partD_non, partD_int, t_non, t_int, t_bl, t_str, t_tup, t_lst, isStr_s, sta_0, sta_1, sta_2, sta_3, sta_4, sta_5, List.set_cons_zero, List.set_cons_succ, wipeD, List.length_cons, List.length_nil, lim, Nat.reduceAdd, Nat.reduceLeDiff, if_true, Bool.not_true, Bool.not_false]) (by omega)
  refine comp_gen (fun j => p (dpM t j) (dpM t m)) (fun (j : Nat) => D.int j) hr (fun j hj => ⟨_, rfl, ?_, fun _ => ?_⟩) (by rw [List.length_range]; show _ ≤ 1000000; omega)
  · have := List.mem_range.mp hj
    simp only [s_var0, s_varS, s_c, u_op, s_un, s_nil, u_cons, s_and, s_or, s_not, s_ife, s_chain, u_call, u_call0, u_callB, s_tup, s_lst, s_sl, s_no, s_int, s_meth, s_isN, s_isT, s_rev, u_eT, s_eTProg, s_eTAsk, s_yes, ER.bind_ok, ER.bind_exc, ER.toS, l1_some, o_addI, o_sub, o_neg, o_ixT, o_ixL, o_ltI, o_gtI, o_geI, o_leI, o_eqI, o_neI, b_f1, b_lenT, b_lenL, partD_non, partD_int, t_non, t_int, t_bl, t_str, t_tup, t_lst, isStr_s, sta_0, sta_1, sta_2, sta_3, sta_4, sta_5, List.set_cons_zero, List.set_cons_succ, wipeD, List.length_cons, List.length_nil, lim, Nat.reduceAdd, Nat.reduceLeDiff, if_true, Bool.not_true, Bool.not_false, a_depth h (m := j) (by omega), hF]
  · rfl
theorem hLe (S : Sto) (a b : Nat) : opLe S (.int (a : Nat)) (.int (b : Nat)) = some (.bl (decide (a ≤ b))) := by rw [o_leI]; simp only [Int.ofNat_le]
theorem hLt (S : Sto) (a b : Nat) : opLt S (.int (a : Nat)) (.int (b : Nat)) = some (.bl (decide (a < b))) := by rw [o_ltI]; simp only [Int.ofNat_lt]
theorem a_over {m : Nat} (h : T[n]? = some (taO t)) (R : RunOk t) (hm : m ≤ t.E) : A_over [.obj n, .int (m : Nat)] T = .ok (.int (overM t m : Nat)) T := by
  unfold A_over
  rw [hide_eq, fnB2]
  simp only [Nat.reduceSub, List.reduceReplicate, List.cons_append, List.nil_append]
  refine q_set (Q := fun r => r.toE = _) (d := .int (dpM t m : Nat)) (S1 := T) (by simp only [s_var0, s_varS, s_c, u_op, s_un, s_nil, u_cons, s_and, s_or, s_not, s_ife, s_chain, u_call, u_call0, u_callB, s_tup, s_lst, s_sl, s_no, s_int, s_meth, s_isN, s_isT, s_rev, u_eT, s_eTProg, s_eTAsk, s_yes, ER.bind_ok, ER.bind_exc, ER.toS, l1_some, o_addI, o_sub, o_neg, o_ixT, o_ixL, o_ltI, o_gtI, o_geI, o_leI, o_eqI, o_neI, b_f1, b_lenT, b_lenL, partD_non, partD_int, t_non, t_int, t_bl, t_str, t_tup, t_lst, isStr_s, sta_0, sta_1, sta_2, sta_3, sta_4, sta_5, List.set_cons_zero, List.set_cons_succ, wipeD, List.length_cons, List.length_nil, lim, Nat.reduceAdd, Nat.reduceLeDiff, if_true, Bool.not_true, Bool.not_false, a_depth h hm]) ?_
  refine q_set (Q := fun r => r.toE = _) (ahead_comp hLe h R hm) ?_
  refine q_ret (Q := fun r => r.toE = _) (x_hd rfl (by simp only [s_var0, s_varS, s_c, u_op, s_un, s_nil, u_cons, s_and, s_or, s_not, s_ife, s_chain, u_call, u_call0, u_callB, s_tup, s_lst, s_sl, s_no, s_int, s_meth, s_isN, s_isT, s_rev, u_eT, s_eTProg, s_eTAsk, s_yes, ER.bind_ok, ER.bind_exc, ER.toS, l1_some, o_addI, o_sub, o_neg, o_ixT, o_ixL, o_ltI, o_gtI, o_geI, o_leI, o_eqI, o_neI, b_f1, b_lenT, b_lenL, partD_non, partD_int, t_non, t_int, t_bl, t_str, t_tup, t_lst, isStr_s, sta_0, sta_1, sta_2, sta_3, sta_4, sta_5, List.set_cons_zero, List.set_cons_succ, wipeD, List.length_cons, List.length_nil, lim, Nat.reduceAdd, Nat.reduceLeDiff, if_true, Bool.not_true, Bool.not_false, tpAt_t h, a_end h]; rfl)) ?_
  rw [hdO_or]; rfl
theorem a_out {m : Nat} (h : T[n]? = some (taO t)) (R : RunOk t) (hm : m ≤ t.E) : A_out [.obj n, .int (m : Nat)] T = .ok (.int (outM t m : Nat)) T := by
  unfold A_out
  rw [hide_eq, fnB2]
  simp only [Nat.reduceSub, List.reduceReplicate, List.cons_append, List.nil_append]
  refine q_set (Q := fun r => r.toE = _) (d := .int (dpM t m : Nat)) (S1 := T) (by simp only [s_var0, s_varS, s_c, u_op, s_un, s_nil, u_cons, s_and, s_or, s_not, s_ife, s_chain, u_call, u_call0, u_callB, s_tup, s_lst, s_sl, s_no, s_int, s_meth, s_isN, s_isT, s_rev, u_eT, s_eTProg, s_eTAsk, s_yes, ER.bind_ok, ER.bind_exc, ER.toS, l1_some, o_addI, o_sub, o_neg, o_ixT, o_ixL, o_ltI, o_gtI, o_geI, o_leI, o_eqI, o_neI, b_f1, b_lenT, b_lenL, partD_non, partD_int, t_non, t_int, t_bl, t_str, t_tup, t_lst, isStr_s, sta_0, sta_1, sta_2, sta_3, sta_4, sta_5, List.set_cons_zero, List.set_cons_succ, wipeD, List.length_cons, List.length_nil, lim, Nat.reduceAdd, Nat.reduceLeDiff, if_true, Bool.not_true, Bool.not_false, a_depth h hm]) ?_
  refine q_set (Q := fun r => r.toE = _) (ahead_comp hLt h R hm) ?_
  refine q_ret (Q := fun r => r.toE = _) (x_hd rfl (by simp only [s_var0, s_varS, s_c, u_op, s_un, s_nil, u_cons, s_and, s_or, s_not, s_ife, s_chain, u_call, u_call0, u_callB, s_tup, s_lst, s_sl, s_no, s_int, s_meth, s_isN, s_isT, s_rev, u_eT, s_eTProg, s_eTAsk, s_yes, ER.bind_ok, ER.bind_exc, ER.toS, l1_some, o_addI, o_sub, o_neg, o_ixT, o_ixL, o_ltI, o_gtI, o_geI, o_leI, o_eqI, o_neI, b_f1, b_lenT, b_lenL, partD_non, partD_int, t_non, t_int, t_bl, t_str, t_tup, t_lst, isStr_s, sta_0, sta_1, sta_2, sta_3, sta_4, sta_5, List.set_cons_zero, List.set_cons_succ, wipeD, List.length_cons, List.length_nil, lim, Nat.reduceAdd, Nat.reduceLeDiff, if_true, Bool.not_true, Bool.not_false, tpAt_t h, a_end h]; rfl)) ?_
  rw [hdO_or]; rfl
theorem a_back_over {m : Nat} (h : T[n]? = some (taO t)) (R : RunOk t) (hm : m ≤ t.E) : A_back_over [.obj n, .int (m : Nat)] T = .ok (.int (boverM t m : Nat)) T := by
  unfold A_back_over
  rw [hide_eq, fnB2]
  simp only [Nat.reduceSub, List.reduceReplicate, List.cons_append, List.nil_append]
  refine q_set (Q := fun r => r.toE = _) (d := .int (dpM t m : Nat)) (S1 := T) (by simp only [s_var0, s_varS, s_c, u_op, s_un, s_nil, u_cons, s_and, s_or, s_not, s_ife, s_chain, u_call, u_call0, u_callB, s_tup, s_lst, s_sl, s_no, s_int, s_meth, s_isN, s_isT, s_rev, u_eT, s_eTProg, s_eTAsk, s_yes, ER.bind_ok, ER.bind_exc, ER.toS, l1_some, o_addI, o_sub, o_neg, o_ixT, o_ixL, o_ltI, o_gtI, o_geI, o_leI, o_eqI, o_neI, b_f1, b_lenT, b_lenL, partD_non, partD_int, t_non, t_int, t_bl, t_str, t_tup, t_lst, isStr_s, sta_0, sta_1, sta_2, sta_3, sta_4, sta_5, List.set_cons_zero, List.set_cons_succ, wipeD, List.length_cons, List.length_nil, lim, Nat.reduceAdd, Nat.reduceLeDiff, if_true, Bool.not_true, Bool.not_false, a_depth h hm]) ?_
  refine q_set (Q := fun r => r.toE = _) (back_comp hLe h R hm) ?_
  refine q_ret (Q := fun r => r.toE = _) (x_la (d := .int ((0 : Nat) : Int)) rfl rfl) ?_
  rw [laO_or]; rfl
theorem a_back_out {m : Nat} (h : T[n]? = some (taO t)) (R : RunOk t) (hm : m ≤ t.E) : A_back_out [.obj n, .int (m : Nat)] T = .ok (.int (boutM t m : Nat)) T := by
  unfold A_back_out
  rw [hide_eq, fnB2]
  simp only [Nat.reduceSub, List.reduceReplicate, List.cons_append, List.nil_append]
  refine q_set (Q := fun r => r.toE = _) (d := .int (dpM t m : Nat)) (S1 := T) (by simp only [s_var0, s_varS, s_c, u_op, s_un, s_nil, u_cons, s_and, s_or, s_not, s_ife, s_chain, u_call, u_call0, u_callB, s_tup, s_lst, s_sl, s_no, s_int, s_meth, s_isN, s_isT, s_rev, u_eT, s_eTProg, s_eTAsk, s_yes, ER.bind_ok, ER.bind_exc, ER.toS, l1_some, o_addI, o_sub, o_neg, o_ixT, o_ixL, o_ltI, o_gtI, o_geI, o_leI, o_eqI, o_neI, b_f1, b_lenT, b_lenL, partD_non, partD_int, t_non, t_int, t_bl, t_str, t_tup, t_lst, isStr_s, sta_0, sta_1, sta_2, sta_3, sta_4, sta_5, List.set_cons_zero, List.set_cons_succ, wipeD, List.length_cons, List.length_nil, lim, Nat.reduceAdd, Nat.reduceLeDiff, if_true, Bool.not_true, Bool.not_false, a_depth h hm]) ?_
  refine q_set (Q := fun r => r.toE = _) (back_comp hLt h R hm) ?_
  refine q_ret (Q := fun r => r.toE = _) (x_la (d := .int ((0 : Nat) : Int)) rfl rfl) ?_
  rw [laO_or]; rfl
end
end Bt
namespace Bt
open PySem PySem.Spec PyProof.Rows L2
section
variable {t : Tp} {T S : Sto} {n : Nat} {ρ : Env}
theorem to_range {m : Nat} (h : T[n]? = some (taO t)) (R : RunOk t) (hv : eVar 0 ρ T = .ok (.obj n) T) : iRange1 (eOp opAdd (eT A_Tape_end (eVar 0) eNil) (eC (.int 1))) ρ T = .ok (.tup (natsD (List.range (t.E + 1)))) T := by
  have hN := R.N
  exact rg1 (n := t.E + 1) (by simp only [s_var0, s_varS, s_c, u_op, s_un, s_nil, u_cons, s_and, s_or, s_not, s_ife, s_chain, u_call, u_call0, u_callB, s_tup, s_lst, s_sl, s_no, s_int, s_meth, s_isN, s_isT, s_rev, u_eT, s_eTProg, s_eTAsk, s_yes, ER.bind_ok, ER.bind_exc, ER.toS, l1_some, o_addI, o_sub, o_neg, o_ixT, o_ixL, o_ltI, o_gtI, o_geI, o_leI, o_eqI, o_neI, b_f1, b_lenT, b_lenL, partD_non, partD_int, t_non, t_int, t_bl, t_str, t_tup, t_lst, isStr_s, sta_0, sta_1, sta_2, sta_3, sta_4, sta_5, List.set_cons_zero, List.set_cons_succ, wipeD, List.length_cons, List.length_nil, lim, Nat.reduceAdd, Nat.reduceLeDiff, if_true, Bool.not_true, Bool.not_false, hv, tpAt_t h, a_end h]; rfl) (by omega)
theorem rl {k : Nat} (h : k < 10001) : (List.range k).length ≤ lim := by rw [List.length_range]; show _ ≤ 1000000; omega
/-- a sum, good for all defs -/
structure SmOk (a : Sm) : Prop where
  ok : a.ok
  dep : a.dep < 20
def smM (t : Tp) (a : Sm) (m : Nat) : Int := a.ev (t.st m)
theorem a_sum_at {m : Nat} {a : Sm} (h : T[n]? = some (taO t)) (R : RunOk t) (hm : m ≤ t.E) (ha : SmOk a) : A_sum_at [.obj n, .int (m : Nat), a.d] T = .ok (.int (smM t a m)) T := by
  unfold A_sum_at
  rw [hide_eq, fnB3]
  simp only [Nat.reduceSub, List.reduceReplicate, List.cons_append, List.nil_append]
  simp only [s_var0, s_varS, s_c, u_op, s_un, s_nil, u_cons, s_and, s_or, s_not, s_ife, s_chain, u_call, u_call0, u_callB, s_tup, s_lst, s_sl, s_no, s_int, s_meth, s_isN, s_isT, s_rev, u_eT, s_eTProg, s_eTAsk, s_yes, ER.bind_ok, ER.bind_exc, ER.toS, l1_some, o_addI, o_sub, o_neg, o_ixT, o_ixL, o_ltI, o_gtI, o_geI, o_leI, o_eqI, o_neI, b_f1, b_lenT, b_lenL, partD_non, partD_int, t_non, t_int, t_bl, t_str, t_tup, t_lst, isStr_s, sta_0, sta_1, sta_2, sta_3, sta_4, sta_5, List.set_cons_zero, List.set_cons_succ, wipeD, List.length_cons, List.length_nil, lim, Nat.reduceAdd, Nat.reduceLeDiff, if_true, Bool.not_true, Bool.not_false, s_ret, tpAt_t h, a_at h hm, a_reckoned (R.so hm) ha.ok ha.dep]
  rfl
theorem map_range_at {α : Type} {f : Nat → α} {k i : Nat} (h : i < k) : ((List.range k).map f)[i]? = some (f i) := by
  rw [List.getElem?_map, List.getElem?_range h]; rfl
theorem chg_eq (t : Tp) (x : Th) : chgM t x = (fromTo 1 (t.E + 1)).filter fun a => decide (wtM t x a ≠ wtM t x (a - 1)) := by
  unfold chgM fromTo
  congr 1
  rw [List.range'_eq_map_range]
  apply List.map_congr_left
  intro a _
  omega
theorem a_changes {x : Th} (h : T[n]? = some (taO t)) (R : RunOk t) (hx : x.ok) : A_changes [.obj n, x.d] T = .ok (.lst (natsD (chgM t x))) T := by
  have hN := R.N
  unfold A_changes
  rw [hide_eq, fnB2]
  simp only [Nat.reduceSub, List.reduceReplicate, List.cons_append, List.nil_append]
  refine q_expr (Q := fun r => r.toE = _) (d := .non) (S1 := T) (by simp only [s_var0, s_varS, s_c, u_op, s_un, s_nil, u_cons, s_and, s_or, s_not, s_ife, s_chain, u_call, u_call0, u_callB, s_tup, s_lst, s_sl, s_no, s_int, s_meth, s_isN, s_isT, s_rev, u_eT, s_eTProg, s_eTAsk, s_yes, ER.bind_ok, ER.bind_exc, ER.toS, l1_some, o_addI, o_sub, o_neg, o_ixT, o_ixL, o_ltI, o_gtI, o_geI, o_leI, o_eqI, o_neI, b_f1, b_lenT, b_lenL, partD_non, partD_int, t_non, t_int, t_bl, t_str, t_tup, t_lst, isStr_s, sta_0, sta_1, sta_2, sta_3, sta_4, sta_5, List.set_cons_zero, List.set_cons_succ, wipeD, List.length_cons, List.length_nil, lim, Nat.reduceAdd, Nat.reduceLeDiff, if_true, Bool.not_true, Bool.not_false, a_need_thing hx]) ?_
  refine q_set (Q := fun r => r.toE = _) (comp_all (f := fun (j : Nat) => D.int j) (fun j => D.int (wtM t x j)) (to_range (m := 0) h R rfl) (fun j hj => ⟨_, rfl, ?_⟩) (rl (by omega))) ?_
  · have := List.mem_range.mp hj
    simp only [s_var0, s_varS, s_c, u_op, s_un, s_nil, u_cons, s_and, s_or, s_not, s_ife, s_chain, u_call, u_call0, u_callB, s_tup, s_lst, s_sl, s_no, s_int, s_meth, s_isN, s_isT, s_rev, u_eT, s_eTProg, s_eTAsk, s_yes, ER.bind_ok, ER.bind_exc, ER.toS, l1_some, o_addI, o_sub, o_neg, o_ixT, o_ixL, o_ltI, o_gtI, o_geI, o_leI, o_eqI, o_neI, b_f1, b_lenT, b_lenL, partD_non, partD_int, t_non, t_int, t_bl, t_str, t_tup, t_lst, isStr_s, sta_0, sta_1, sta_2, sta_3, sta_4, sta_5, List.set_cons_zero, List.set_cons_succ, wipeD, List.length_cons, List.length_nil, lim, Nat.reduceAdd, Nat.reduceLeDiff, if_true, Bool.not_true, Bool.not_false, tpAt_t h, a_at h (m := j) (by omega), a_worth_of (R.so (m := j) (by omega)) hx]
    rfl
  have e0 : ∀ j, j ≤ t.E → atI ((List.range (t.E + 1)).map fun j => D.int (wtM t x j)) (j : Nat) = some (.int (wtM t x j)) := fun j hj => by
    rw [atI_nat', map_range_at (by omega)]
  refine q_ret (Q := fun r => r.toE = _) (S1 := T) (comp_gen (f := fun (j : Nat) => D.int j) (xs := fromTo 1 (t.E + 1)) (fun a => decide (wtM t x a ≠ wtM t x (a - 1))) (fun (j : Nat) => D.int j) (rg2 (a := 1) (b := t.E + 1) rfl ?_ (by omega) (by omega)) (fun j hj => ⟨_, rfl, ?_, fun _ => rfl⟩) ?_) ?_
  · simp only [s_var0, s_varS, s_c, u_op, s_un, s_nil, u_cons, s_and, s_or, s_not, s_ife, s_chain, u_call, u_call0, u_callB, s_tup, s_lst, s_sl, s_no, s_int, s_meth, s_isN, s_isT, s_rev, u_eT, s_eTProg, s_eTAsk, s_yes, ER.bind_ok, ER.bind_exc, ER.toS, l1_some, o_addI, o_sub, o_neg, o_ixT, o_ixL, o_ltI, o_gtI, o_geI, o_leI, o_eqI, o_neI, b_f1, b_lenT, b_lenL, partD_non, partD_int, t_non, t_int, t_bl, t_str, t_tup, t_lst, isStr_s, sta_0, sta_1, sta_2, sta_3, sta_4, sta_5, List.set_cons_zero, List.set_cons_succ, wipeD, List.length_cons, List.length_nil, lim, Nat.reduceAdd, Nat.reduceLeDiff, if_true, Bool.not_true, Bool.not_false, List.length_map, List.length_range]
  · have hj' := mem_fromTo.mp hj
    have ej : (j : Int) - 1 = ((j - 1 : Nat) : Int) := by omega
    simp only [s_var0, s_varS, s_c, u_op, s_un, s_nil, u_cons, s_and, s_or, s_not, s_ife, s_chain, u_call, u_call0, u_callB, s_tup, s_lst, s_sl, s_no, s_int, s_meth, s_isN, s_isT, s_rev, u_eT, s_eTProg, s_eTAsk, s_yes, ER.bind_ok, ER.bind_exc, ER.toS, l1_some, o_addI, o_sub, o_neg, o_ixT, o_ixL, o_ltI, o_gtI, o_geI, o_leI, o_eqI, o_neI, b_f1, b_lenT, b_lenL, partD_non, partD_int, t_non, t_int, t_bl, t_str, t_tup, t_lst, isStr_s, sta_0, sta_1, sta_2, sta_3, sta_4, sta_5, List.set_cons_zero, List.set_cons_succ, wipeD, List.length_cons, List.length_nil, lim, Nat.reduceAdd, Nat.reduceLeDiff, if_true, Bool.not_true, Bool.not_false, e0 j (by omega), ej, e0 (j - 1) (by omega)]
    by_cases q : wtM t x j = wtM t x (j - 1) <;> simp [q]
  · unfold fromTo; rw [List.length_range']; show _ ≤ 1000000; omega
  · rw [chg_eq]; rfl
theorem chg_lim {x : Th} (R : RunOk t) : (chgM t x).length ≤ lim := by
  have := chg_len (t := t) (x := x)
  have := R.N
  show _ ≤ 1000000; omega
theorem a_last_change {m : Nat} {x : Th} (h : T[n]? = some (taO t)) (R : RunOk t) (hm : m ≤ t.E) (hx : x.ok) : A_last_change [.obj n, .int (m : Nat), x.d] T = .ok (natO (lastC t x m)) T := by
  unfold A_last_change
  rw [hide_eq, fnB3]
  simp only [Nat.reduceSub, List.reduceReplicate, List.cons_append, List.nil_append]
  refine q_expr (Q := fun r => r.toE = _) (d := (t.st m).d) (S1 := T) (by simp only [s_var0, s_varS, s_c, u_op, s_un, s_nil, u_cons, s_and, s_or, s_not, s_ife, s_chain, u_call, u_call0, u_callB, s_tup, s_lst, s_sl, s_no, s_int, s_meth, s_isN, s_isT, s_rev, u_eT, s_eTProg, s_eTAsk, s_yes, ER.bind_ok, ER.bind_exc, ER.toS, l1_some, o_addI, o_sub, o_neg, o_ixT, o_ixL, o_ltI, o_gtI, o_geI, o_leI, o_eqI, o_neI, b_f1, b_lenT, b_lenL, partD_non, partD_int, t_non, t_int, t_bl, t_str, t_tup, t_lst, isStr_s, sta_0, sta_1, sta_2, sta_3, sta_4, sta_5, List.set_cons_zero, List.set_cons_succ, wipeD, List.length_cons, List.length_nil, lim, Nat.reduceAdd, Nat.reduceLeDiff, if_true, Bool.not_true, Bool.not_false, tpAt_t h, a_at h hm]) ?_
  refine q_set (Q := fun r => r.toE = _) (S1 := T) (comp_gen (f := fun (j : Nat) => D.int j) (fun a => decide (a ≤ m)) (fun (j : Nat) => D.int j) (il (l := natsD (chgM t x)) (by simp only [s_var0, s_varS, s_c, u_op, s_un, s_nil, u_cons, s_and, s_or, s_not, s_ife, s_chain, u_call, u_call0, u_callB, s_tup, s_lst, s_sl, s_no, s_int, s_meth, s_isN, s_isT, s_rev, u_eT, s_eTProg, s_eTAsk, s_yes, ER.bind_ok, ER.bind_exc, ER.toS, l1_some, o_addI, o_sub, o_neg, o_ixT, o_ixL, o_ltI, o_gtI, o_geI, o_leI, o_eqI, o_neI, b_f1, b_lenT, b_lenL, partD_non, partD_int, t_non, t_int, t_bl, t_str, t_tup, t_lst, isStr_s, sta_0, sta_1, sta_2, sta_3, sta_4, sta_5, List.set_cons_zero, List.set_cons_succ, wipeD, List.length_cons, List.length_nil, lim, Nat.reduceAdd, Nat.reduceLeDiff, if_true, Bool.not_true, Bool.not_false, a_changes h R hx])) (fun j hj => ⟨_, rfl, by simp only [s_var0, s_varS, s_c, u_op, s_un, s_nil, u_cons, s_and, s_or, s_not, s_ife, s_chain, u_call, u_call0, u_callB, s_tup, s_lst, s_sl, s_no, s_int, s_meth, s_isN, s_isT, s_rev, u_eT, s_eTProg, s_eTAsk, s_yes, ER.bind_ok, ER.bind_exc, ER.toS, l1_some, o_addI, o_sub, o_neg, o_ixT, o_ixL, o_ltI, o_gtI, o_geI, o_leI, o_eqI, o_neI, b_f1, b_lenT, b_lenL, partD_non, partD_int, t_non, t_int, t_bl, t_str, t_tup, t_lst, isStr_s, sta_0, sta_1, sta_2, sta_3, sta_4, sta_5, List.set_cons_zero, List.set_cons_succ, wipeD, List.length_cons, List.length_nil, lim, Nat.reduceAdd, Nat.reduceLeDiff, if_true, Bool.not_true, Bool.not_false, Int.ofNat_le], fun _ => rfl⟩) (chg_lim R)) ?_
  refine q_ret (Q := fun r => r.toE = _) (x_la (d := .non) rfl rfl) ?_
  rw [laO_non]; rfl
theorem while_out {fc : Ex} {fb : Sx} {f : Nat} {S1 : Sto} (hf : 0 < f) (h : fc ρ S = .ok (.bl false) S1) : whileN fc fb f ρ S = .nx ρ S1 := by
  obtain ⟨f, rfl⟩ : ∃ k, f = k + 1 := ⟨f - 1, by omega⟩
  unfold whileN; rw [h]; rfl
theorem while_in {fc : Ex} {fb : Sx} {f : Nat} {S1 : Sto} (h : fc ρ S = .ok (.bl true) S1) : whileN fc fb (f + 1) ρ S = loopR (fb ρ S1) (whileN fc fb f) := by
  show (ER.toS (fc ρ S) ρ _) = _
  rw [h]; rfl
end
end Bt
namespace Bt
open PySem PySem.Spec PyProof.Rows L2
section
variable {t : Tp} {T S : Sto} {n : Nat} {ρ : Env}
def wrM (t : Tp) (m : Nat) : Option (Th × Int) := wrs t.as (t.st (m - 1)) (rowAt t.p (t.st (m - 1)))
theorem wM_eq {m : Nat} : wM t m = (wrM t m).map (·.1) := rfl
theorem a_wr {m : Nat} (R : RunOk t) (h1 : 1 ≤ m) (hm : m ≤ t.E) : A_written_by [prgD t.p, asD t.as, (t.st (m - 1)).d] T = .ok (wrD (wrM t m)) T :=
  a_written_by R.p (R.stok (m := m - 1) (by omega)) (R.row (by omega))
theorem a_thing_written {m : Nat} (h : T[n]? = some (taO t)) (R : RunOk t) (h1 : 1 ≤ m) (hm : m ≤ t.E) : A_thing_written [.obj n, .int (m : Nat)] T = .ok (thD (wM t m)) T := by
  have em : (m : Int) - 1 = ((m - 1 : Nat) : Int) := by omega
  unfold A_thing_written
  rw [hide_eq, fnB2]
  simp only [Nat.reduceSub, List.reduceReplicate, List.cons_append, List.nil_append]
  refine q_expr (Q := fun r => r.toE = _) (d := (t.st m).d) (S1 := T) (by simp only [s_var0, s_varS, s_c, u_op, s_un, s_nil, u_cons, s_and, s_or, s_not, s_ife, s_chain, u_call, u_call0, u_callB, s_tup, s_lst, s_sl, s_no, s_int, s_meth, s_isN, s_isT, s_rev, u_eT, s_eTProg, s_eTAsk, s_yes, ER.bind_ok, ER.bind_exc, ER.toS, l1_some, o_addI, o_sub, o_neg, o_ixT, o_ixL, o_ltI, o_gtI, o_geI, o_leI, o_eqI, o_neI, b_f1, b_lenT, b_lenL, partD_non, partD_int, t_non, t_int, t_bl, t_str, t_tup, t_lst, isStr_s, sta_0, sta_1, sta_2, sta_3, sta_4, sta_5, List.set_cons_zero, List.set_cons_succ, wipeD, List.length_cons, List.length_nil, lim, Nat.reduceAdd, Nat.reduceLeDiff, if_true, Bool.not_true, Bool.not_false, tpAt_t h, a_st h hm]) ?_
  refine q_set (Q := fun r => r.toE = _) (d := wrD (wrM t m)) (S1 := T) (by simp only [s_var0, s_varS, s_c, u_op, s_un, s_nil, u_cons, s_and, s_or, s_not, s_ife, s_chain, u_call, u_call0, u_callB, s_tup, s_lst, s_sl, s_no, s_int, s_meth, s_isN, s_isT, s_rev, u_eT, s_eTProg, s_eTAsk, s_yes, ER.bind_ok, ER.bind_exc, ER.toS, l1_some, o_addI, o_sub, o_neg, o_ixT, o_ixL, o_ltI, o_gtI, o_geI, o_leI, o_eqI, o_neI, b_f1, b_lenT, b_lenL, partD_non, partD_int, t_non, t_int, t_bl, t_str, t_tup, t_lst, isStr_s, sta_0, sta_1, sta_2, sta_3, sta_4, sta_5, List.set_cons_zero, List.set_cons_succ, wipeD, List.length_cons, List.length_nil, lim, Nat.reduceAdd, Nat.reduceLeDiff, if_true, Bool.not_true, Bool.not_false, tpAt_t h, em, a_st h (m := m - 1) (by omega), a_wr R h1 hm]) ?_
  rw [wM_eq]
  cases wrM t m with
  | none => exact q_ret (Q := fun r => r.toE = _) (d := .non) (S1 := T) rfl rfl
  | some xk => exact q_ret (Q := fun r => r.toE = _) (d := xk.1.d) (S1 := T) rfl rfl
theorem app_obj {T R : Sto} {l : List D} {d : D} (h : l.length < lim) : mApp (T ++ [.list l]) (.obj T.length) d = .ok .non (T ++ [.list (l ++ [d])]) := m_appO h
theorem get_app {T : Sto} {n : Nat} {o : AObj} (h : T[n]? = some o) (R : Sto) : (T ++ R)[n]? = some o := by
  rw [List.getElem?_append_left (List.getElem?_eq_some_iff.mp h).1]; exact h
end
end Bt
namespace Bt
open PySem PySem.Spec PyProof.Rows L2
section
variable {t : Tp} {T S : Sto} {n : Nat} {ρ : Env}
def rdM (s : Sta) : Sm → List Th
  | .num _ => []
  | .name i => [.nm i]
  | .cell a => rdM s a ++ [.cl (a.ev s % 4).toNat]
  | .add a b => rdM s a ++ rdM s b
  | .sub a b => rdM s a ++ rdM s b
  | .mul a b => rdM s a ++ rdM s b
  | .less a b => rdM s a ++ rdM s b
abbrev thsD (l : List Th) : List D := l.map Th.d
theorem rd_len (s : Sta) : ∀ a : Sm, (rdM s a).length ≤ 2 ^ a.dep := by
  have two : ∀ {x y p q : Nat}, x ≤ 2 ^ p → y ≤ 2 ^ q → x + y ≤ 2 ^ (max p q + 1) := by
    intro x y p q hx hy
    have h1 : (2 : Nat) ^ p ≤ 2 ^ (max p q) := Nat.pow_le_pow_right (by decide) (Nat.le_max_left _ _)
    have h2 : (2 : Nat) ^ q ≤ 2 ^ (max p q) := Nat.pow_le_pow_right (by decide) (Nat.le_max_right _ _)
    rw [Nat.pow_succ]; omega
  intro a
  induction a with
  | num n => exact Nat.zero_le _
  | name i => exact Nat.le_refl _
  | cell a ih =>
    show (rdM s a ++ [_]).length ≤ 2 ^ (a.dep + 1)
    rw [List.length_append, Nat.pow_succ]
    have : 1 ≤ 2 ^ a.dep := Nat.one_le_two_pow
    simp only [List.length_cons, List.length_nil]; omega
  | add a b ih ih2 => show (rdM s a ++ rdM s b).length ≤ _; rw [List.length_append]; exact two ih ih2
  | sub a b ih ih2 => show (rdM s a ++ rdM s b).length ≤ _; rw [List.length_append]; exact two ih ih2
  | mul a b ih ih2 => show (rdM s a ++ rdM s b).length ≤ _; rw [List.length_append]; exact two ih ih2
  | less a b ih ih2 => show (rdM s a ++ rdM s b).length ≤ _; rw [List.length_append]; exact two ih ih2
theorem rd_lim (s : Sta) {a : Sm} (h : a.dep < 19) : (rdM s a).length ≤ 262144 := Nat.le_trans (rd_len s a) (Nat.pow_le_pow_right (n := 2) (by decide) (show a.dep ≤ 18 by omega))
theorem ths_add {S : Sto} {l m : List Th} (h : l.length + m.length ≤ 1000000) : opAdd S (.lst (thsD l)) (.lst (thsD m)) = some (.lst (thsD (l ++ m))) := by
  rw [o_addL, if_pos (by rw [List.length_map, List.length_map]; exact h)]
  unfold thsD; rw [List.map_append]
theorem cl_mod {s : Sta} {a : Sm} (h : Wo (a.ev s)) : Th.d (.cl (a.ev s % 4).toNat) = .int (a.ev s % 4) := by
  show D.int _ = _
  rw [Int.toNat_of_nonneg (Int.emod_nonneg _ (by decide))]
theorem reads_1 (s : Sta) (hs : s.ok) (S : Sto) (G : Fn) (a : Sm) (ha : a.ok) (hd : a.dep < 19)
    (h : ∀ b : Sm, b.ok → b.dep < a.dep → G [b.d, s.d] S = .ok (.lst (thsD (rdM s b))) S) : F_reads_of G [a.d, s.d] S = .ok (.lst (thsD (rdM s a))) S := by
  have two : ∀ {x y : Sm}, x.dep < 19 → y.dep < 19 → (rdM s x).length + (rdM s y).length ≤ 1000000 := fun hx hy => by
    have := rd_lim s hx; have := rd_lim s hy; omega
  unfold F_reads_of
  rw [fnB2]
  cases a with
  | num k => simp [Sm.d, rdM, lim]
  | name i => simp [Sm.d, rdM, lim, Th.d]
  | cell a =>
    have hda : a.dep + 1 < 19 := hd
    have e := h a ha (Nat.lt_succ_self _)
    have r := reckoned_ok hs (S := S) (a := a) ha (by omega)
    have w := cl_mod (a := a) (Sm.ev_wo hs ha)
    have l := rd_lim s (a := a) (by omega)
    have l2 : (rdM s a).length + 1 ≤ 1000000 := by omega
    simp [Sm.d, e, r, c_CELLS, lim, rdM, w, l2]
  | add a b =>
    have hab : max a.dep b.dep + 1 < 19 := hd
    have e1 := h a ha.1 (Nat.lt_succ_of_le (Nat.le_max_left _ _))
    have e2 := h b ha.2 (Nat.lt_succ_of_le (Nat.le_max_right _ _))
    have l := two (x := a) (y := b) (by omega) (by omega)
    simp [Sm.d, e1, e2, lim, rdM, l]
  | sub a b =>
    have hab : max a.dep b.dep + 1 < 19 := hd
    have e1 := h a ha.1 (Nat.lt_succ_of_le (Nat.le_max_left _ _))
    have e2 := h b ha.2 (Nat.lt_succ_of_le (Nat.le_max_right _ _))
    have l := two (x := a) (y := b) (by omega) (by omega)
    simp [Sm.d, e1, e2, lim, rdM, l]
  | mul a b =>
    have hab : max a.dep b.dep + 1 < 19 := hd
    have e1 := h a ha.1 (Nat.lt_succ_of_le (Nat.le_max_left _ _))
    have e2 := h b ha.2 (Nat.lt_succ_of_le (Nat.le_max_right _ _))
    have l := two (x := a) (y := b) (by omega) (by omega)
    simp [Sm.d, e1, e2, lim, rdM, l]
  | less a b =>
    have hab : max a.dep b.dep + 1 < 19 := hd
    have e1 := h a ha.1 (Nat.lt_succ_of_le (Nat.le_max_left _ _))
    have e2 := h b ha.2 (Nat.lt_succ_of_le (Nat.le_max_right _ _))
    have l := two (x := a) (y := b) (by omega) (by omega)
    simp [Sm.d, e1, e2, lim, rdM, l]
theorem reads_n (s : Sta) (hs : s.ok) (S : Sto) : ∀ (n : Nat) (a : Sm), a.ok → a.dep < 19 → a.dep < n → recN F_reads_of n [a.d, s.d] S = .ok (.lst (thsD (rdM s a))) S := by
  intro n
  induction n with
  | zero => intro a _ _ h; omega
  | succ n ih =>
    intro a ha hd hn
    exact reads_1 s hs S _ a ha hd fun b hb hl => ih b hb (by omega) (by omega)
theorem a_reads_of {s : Sta} (hs : s.ok) {a : Sm} (ha : a.ok) (hd : a.dep < 19) : A_reads_of [a.d, s.d] T = .ok (.lst (thsD (rdM s a))) T := spec_ok fun S => reads_n s hs S 20 a ha hd (by omega)
/-- what the row of a step reads -/
def rowRd (s : Sta) : Row → List Th
  | .set _ a => rdM s a
  | .put a b => rdM s a ++ rdM s b
  | _ => []
def srM (t : Tp) (m : Nat) : List Th := rowRd (t.st (m - 1)) (rowAt t.p (t.st (m - 1)))
theorem sr_len {t : Tp} {m : Nat} (R : RunOk t) : (srM t m).length ≤ 1024 := by
  unfold srM
  have hk := rowAt_ok R.p (t.st (m - 1))
  have one : ∀ {a : Sm}, a.dep < 9 → (rdM (t.st (m - 1)) a).length ≤ 256 := fun h => Nat.le_trans (rd_len _ _) (Nat.pow_le_pow_right (n := 2) (by decide) (show _ ≤ 8 by omega))
  generalize rowAt t.p (t.st (m - 1)) = r at hk
  cases r with
  | set i a => exact Nat.le_trans (one hk.2) (by decide)
  | put a b =>
    show (rdM _ a ++ rdM _ b).length ≤ 1024
    rw [List.length_append]
    have := one hk.1.2; have := one hk.2.2; omega
  | _ => exact Nat.zero_le _
theorem a_step_reads {m : Nat} (h : T[n]? = some (taO t)) (R : RunOk t) (h1 : 1 ≤ m) (hm : m ≤ t.E) : A_step_reads [.obj n, .int (m : Nat)] T = .ok (.lst (thsD (srM t m))) T := by
  have em : (m : Int) - 1 = ((m - 1 : Nat) : Int) := by omega
  unfold A_step_reads
  rw [hide_eq, fnB2]
  simp only [Nat.reduceSub, List.reduceReplicate, List.cons_append, List.nil_append]
  refine q_set (Q := fun r => r.toE = _) (d := (t.st (m - 1)).d) (S1 := T) (by simp only [s_var0, s_varS, s_c, u_op, s_un, s_nil, u_cons, s_and, s_or, s_not, s_ife, s_chain, u_call, u_call0, u_callB, s_tup, s_lst, s_sl, s_no, s_int, s_meth, s_isN, s_isT, s_rev, u_eT, s_eTProg, s_eTAsk, s_yes, ER.bind_ok, ER.bind_exc, ER.toS, l1_some, o_addI, o_sub, o_neg, o_ixT, o_ixL, o_ltI, o_gtI, o_geI, o_leI, o_eqI, o_neI, b_f1, b_lenT, b_lenL, partD_non, partD_int, t_non, t_int, t_bl, t_str, t_tup, t_lst, isStr_s, sta_0, sta_1, sta_2, sta_3, sta_4, sta_5, List.set_cons_zero, List.set_cons_succ, wipeD, List.length_cons, List.length_nil, lim, Nat.reduceAdd, Nat.reduceLeDiff, if_true, Bool.not_true, Bool.not_false, tpAt_t h, em, a_st h (m := m - 1) (by omega)]) ?_
  refine q_set (Q := fun r => r.toE = _) (d := (rowAt t.p (t.st (m - 1))).d) (S1 := T) (by simp only [s_var0, s_varS, s_c, u_op, s_un, s_nil, u_cons, s_and, s_or, s_not, s_ife, s_chain, u_call, u_call0, u_callB, s_tup, s_lst, s_sl, s_no, s_int, s_meth, s_isN, s_isT, s_rev, u_eT, s_eTProg, s_eTAsk, s_yes, ER.bind_ok, ER.bind_exc, ER.toS, l1_some, o_addI, o_sub, o_neg, o_ixT, o_ixL, o_ltI, o_gtI, o_geI, o_leI, o_eqI, o_neI, b_f1, b_lenT, b_lenL, partD_non, partD_int, t_non, t_int, t_bl, t_str, t_tup, t_lst, isStr_s, sta_0, sta_1, sta_2, sta_3, sta_4, sta_5, List.set_cons_zero, List.set_cons_succ, wipeD, List.length_cons, List.length_nil, lim, Nat.reduceAdd, Nat.reduceLeDiff, if_true, Bool.not_true, Bool.not_false, tpAt_t h, row_ix (R.row (m := m - 1) (by omega))]) ?_
  have hk := rowAt_ok R.p (t.st (m - 1))
  have hs := R.so (m := m - 1) (by omega)
  unfold srM
  generalize rowAt t.p (t.st (m - 1)) = r at hk
  generalize t.st (m - 1) = s at hs
  have one : ∀ {a : Sm}, a.dep < 9 → (rdM s a).length ≤ 256 := fun h => Nat.le_trans (rd_len _ _) (Nat.pow_le_pow_right (n := 2) (by decide) (show _ ≤ 8 by omega))
  cases r with
  | set i a => simp [Row.d, rowRd, a_reads_of hs hk.1 (show a.dep < 19 by have := hk.2; omega)]
  | put a b =>
    have l : (rdM s a).length + (rdM s b).length ≤ 1000000 := by have := one hk.1.2; have := one hk.2.2; omega
    simp [Row.d, rowRd, a_reads_of hs hk.1.1 (show a.dep < 19 by have := hk.1.2; omega), a_reads_of hs hk.2.1 (show b.dep < 19 by have := hk.2.2; omega), lim, l]
  | _ => simp [Row.d, rowRd, lim]
def rsM (t : Tp) : Nat → List Th → List Nat
  | 0, _ => []
  | m + 1, w => if w = [] then [] else match wM t (m + 1) with
    | some x => if x ∈ w then (m + 1) :: rsM t m (w.filter (fun y => decide (y ≠ x)) ++ srM t (m + 1)) else rsM t m w
    | none => rsM t m w
def reasonsM (t : Tp) (a : Sm) (m : Nat) : List Nat := (rsM t m (rdM (t.st m) a)).reverse
theorem th_gd {x : Th} {n : Nat} : x.d.gd n := by
  cases x with
  | nm i => exact gd_nm
  | cl j => exact gd_int
theorem ths_gd {l : List Th} : (D.lst (thsD l)).good = true := (gd_lst (n := 0) fun d hd => by
  obtain ⟨i, _, rfl⟩ := List.mem_map.mp hd; exact th_gd).good
theorem eqv_th {x y : Th} : D.eqv x.d y.d = decide (x = y) := by
  have := eq_th (S := []) (x := x) (y := y)
  rw [b_good th_good th_good] at this
  injection this with this; injection this
theorem ne_th {S : Sto} {x y : Th} : opNe S x.d y.d = some (.bl (!decide (x = y))) := by rw [b_goodN th_good th_good, eqv_th]
theorem memD_ths (x : Th) (l : List Th) : memD x.d (thsD l) = decide (x ∈ l) := by
  unfold memD thsD
  rw [List.any_map, Bool.eq_iff_iff, List.any_eq_true]
  simp only [Function.comp, eqv_th, decide_eq_true_eq]
  constructor
  · rintro ⟨y, hy, rfl⟩; exact hy
  · intro hx; exact ⟨x, hx, rfl⟩
theorem in_ths {S : Sto} {x : Th} {l : List Th} : opIn S x.d (.lst (thsD l)) = some (.bl (decide (x ∈ l))) := by
  show (if x.d.good && (D.lst (thsD l)).good then _ else _) = _
  rw [ths_gd, th_good]
  show some (D.bl (memD x.d (thsD l))) = _
  rw [memD_ths]
theorem ne_thsN {S : Sto} {l : List Th} : opNe S (.lst (thsD l)) (.lst []) = some (.bl (!decide (l = []))) := by
  rw [b_goodN ths_gd rfl, eqv_lst]
  cases l <;> simp
theorem isN_th {neg : Bool} {fa : Ex} {x : Th} (h : fa ρ S = .ok x.d S) : eIsN neg fa ρ S = .ok (.bl neg) S := by
  rw [s_isN, h]; cases x <;> rfl
noncomputable def rsC : Ex := eAnd (eOp opGt (eVar 1) (eC (.int 0))) (eOp opNe (eVar 3) (eLst eNil))
noncomputable def rsB : Sx := (sSeq (sSet 5 (eCall A_thing_written (eCons (eVar 0) (eCons (eVar 1) eNil))))
    (sSeq
    (sIf (eAnd (eIsN true (eVar 5)) (eOp opIn (eVar 5) (eVar 3)))
    (sSeq (sExpr (eMeth isSeqD mApp (eVar 4) (eVar 1))) (sSet 3 (eOp opAdd (eComp [6] (iLst (eVar 3)) (dN 6) (eOp opNe (eVar 6) (eVar 5)) (eVar 6)) (eCall A_step_reads (eCons (eVar 0) (eCons (eVar 1) eNil)))))) sSkip) (sSet 1 (eOp opSub (eVar 1) (eC (.int 1))))))
theorem rs_loop {ad : D} (h : T[n]? = some (taO t)) (R : RunOk t) : ∀ (m f : Nat) (w : List Th) (l : List Nat) (o5 : Option D), m ≤ t.E → m < f → l.length + m ≤ 10000 → w.length + 1024 * m ≤ 900000 → ∃ m' w' o5', whileN rsC rsB f [some (.obj n), some (.int (m : Nat)), some ad, some (.lst (thsD w)), some (.obj T.length), o5, none] (T ++ [.list (natsD l)]) = .nx [some (.obj n), some (.int (m' : Nat)), some ad, some (.lst (thsD w')), some (.obj T.length), o5', none] (T ++ [.list (natsD (l ++ rsM t m w))])
  | 0, f, w, l, o5, _, hf, _, _ => by
    refine ⟨0, w, o5, ?_⟩
    rw [while_out hf (S1 := T ++ [.list (natsD l)]) (by unfold rsC; simp only [s_var0, s_varS, s_c, u_op, s_un, s_nil, u_cons, s_and, s_or, s_not, s_ife, s_chain, u_call, u_call0, u_callB, s_tup, s_lst, s_sl, s_no, s_int, s_meth, s_isN, s_isT, s_rev, u_eT, s_eTProg, s_eTAsk, s_yes, ER.bind_ok, ER.bind_exc, ER.toS, l1_some, o_addI, o_sub, o_neg, o_ixT, o_ixL, o_ltI, o_gtI, o_geI, o_leI, o_eqI, o_neI, b_f1, b_lenT, b_lenL, partD_non, partD_int, t_non, t_int, t_bl, t_str, t_tup, t_lst, isStr_s, sta_0, sta_1, sta_2, sta_3, sta_4, sta_5, List.set_cons_zero, List.set_cons_succ, wipeD, List.length_cons, List.length_nil, lim, Nat.reduceAdd, Nat.reduceLeDiff, if_true, Bool.not_true, Bool.not_false]; rfl)]
    simp [rsM]
  | m + 1, f, w, l, o5, hm, hf, hl, hw => by
    obtain ⟨f, rfl⟩ : ∃ k, f = k + 1 := ⟨f - 1, by omega⟩
    have e1 : ((m + 1 : Nat) : Int) - 1 = (m : Int) := by omega
    have h' := get_app h [.list (natsD l)]
    by_cases q0 : w = []
    · subst q0
      refine ⟨m + 1, [], o5, ?_⟩
      rw [while_out (by omega) (S1 := T ++ [.list (natsD l)]) (by unfold rsC; simp only [s_var0, s_varS, s_c, u_op, s_un, s_nil, u_cons, s_and, s_or, s_not, s_ife, s_chain, u_call, u_call0, u_callB, s_tup, s_lst, s_sl, s_no, s_int, s_meth, s_isN, s_isT, s_rev, u_eT, s_eTProg, s_eTAsk, s_yes, ER.bind_ok, ER.bind_exc, ER.toS, l1_some, o_addI, o_sub, o_neg, o_ixT, o_ixL, o_ltI, o_gtI, o_geI, o_leI, o_eqI, o_neI, b_f1, b_lenT, b_lenL, partD_non, partD_int, t_non, t_int, t_bl, t_str, t_tup, t_lst, isStr_s, sta_0, sta_1, sta_2, sta_3, sta_4, sta_5, List.set_cons_zero, List.set_cons_succ, wipeD, List.length_cons, List.length_nil, lim, Nat.reduceAdd, Nat.reduceLeDiff, if_true, Bool.not_true, Bool.not_false, ne_thsN]; rw [decide_eq_true (by omega)]; rfl)]
      simp [rsM]
    rw [while_in (S1 := T ++ [.list (natsD l)]) (by unfold rsC; simp only [s_var0, s_varS, s_c, u_op, s_un, s_nil, u_cons, s_and, s_or, s_not, s_ife, s_chain, u_call, u_call0, u_callB, s_tup, s_lst, s_sl, s_no, s_int, s_meth, s_isN, s_isT, s_rev, u_eT, s_eTProg, s_eTAsk, s_yes, ER.bind_ok, ER.bind_exc, ER.toS, l1_some, o_addI, o_sub, o_neg, o_ixT, o_ixL, o_ltI, o_gtI, o_geI, o_leI, o_eqI, o_neI, b_f1, b_lenT, b_lenL, partD_non, partD_int, t_non, t_int, t_bl, t_str, t_tup, t_lst, isStr_s, sta_0, sta_1, sta_2, sta_3, sta_4, sta_5, List.set_cons_zero, List.set_cons_succ, wipeD, List.length_cons, List.length_nil, lim, Nat.reduceAdd, Nat.reduceLeDiff, if_true, Bool.not_true, Bool.not_false, ne_thsN]; rw [decide_eq_true (by omega), decide_eq_false q0]; rfl)]
    have ev := a_thing_written h' R (m := m + 1) (by omega) hm
    have es := a_step_reads h' R (m := m + 1) (by omega) hm
    unfold rsM
    rw [if_neg q0]
    cases ew : wM t (m + 1) with
    | none =>
      rw [ew] at ev
      have e2 : rsB [some (.obj n), some (.int ((m + 1 : Nat) : Int)), some ad, some (.lst (thsD w)), some (.obj T.length), o5, none] (T ++ [.list (natsD l)]) = .nx [some (.obj n), some (.int (m : Nat)), some ad, some (.lst (thsD w)), some (.obj T.length), some .non, none] (T ++ [.list (natsD l)]) := by
        unfold rsB
        refine q_set (Q := fun r => r = _) (d := .non) (S1 := T ++ [.list (natsD l)]) (by simp only [s_var0, s_varS, s_c, u_op, s_un, s_nil, u_cons, s_and, s_or, s_not, s_ife, s_chain, u_call, u_call0, u_callB, s_tup, s_lst, s_sl, s_no, s_int, s_meth, s_isN, s_isT, s_rev, u_eT, s_eTProg, s_eTAsk, s_yes, ER.bind_ok, ER.bind_exc, ER.toS, l1_some, o_addI, o_sub, o_neg, o_ixT, o_ixL, o_ltI, o_gtI, o_geI, o_leI, o_eqI, o_neI, b_f1, b_lenT, b_lenL, partD_non, partD_int, t_non, t_int, t_bl, t_str, t_tup, t_lst, isStr_s, sta_0, sta_1, sta_2, sta_3, sta_4, sta_5, List.set_cons_zero, List.set_cons_succ, wipeD, List.length_cons, List.length_nil, lim, Nat.reduceAdd, Nat.reduceLeDiff, if_true, Bool.not_true, Bool.not_false, ev, thD]) ?_
        refine q_if0 (Q := fun r => r = _) (S1 := T ++ [.list (natsD l)]) (by simp only [s_var0, s_varS, s_c, u_op, s_un, s_nil, u_cons, s_and, s_or, s_not, s_ife, s_chain, u_call, u_call0, u_callB, s_tup, s_lst, s_sl, s_no, s_int, s_meth, s_isN, s_isT, s_rev, u_eT, s_eTProg, s_eTAsk, s_yes, ER.bind_ok, ER.bind_exc, ER.toS, l1_some, o_addI, o_sub, o_neg, o_ixT, o_ixL, o_ltI, o_gtI, o_geI, o_leI, o_eqI, o_neI, b_f1, b_lenT, b_lenL, partD_non, partD_int, t_non, t_int, t_bl, t_str, t_tup, t_lst, isStr_s, sta_0, sta_1, sta_2, sta_3, sta_4, sta_5, List.set_cons_zero, List.set_cons_succ, wipeD, List.length_cons, List.length_nil, lim, Nat.reduceAdd, Nat.reduceLeDiff, if_true, Bool.not_true, Bool.not_false]) ?_
        exact q_set1 (Q := fun r => r = _) (d := .int (m : Int)) (S1 := T ++ [.list (natsD l)]) (by simp only [s_var0, s_varS, s_c, u_op, s_un, s_nil, u_cons, s_and, s_or, s_not, s_ife, s_chain, u_call, u_call0, u_callB, s_tup, s_lst, s_sl, s_no, s_int, s_meth, s_isN, s_isT, s_rev, u_eT, s_eTProg, s_eTAsk, s_yes, ER.bind_ok, ER.bind_exc, ER.toS, l1_some, o_addI, o_sub, o_neg, o_ixT, o_ixL, o_ltI, o_gtI, o_geI, o_leI, o_eqI, o_neI, b_f1, b_lenT, b_lenL, partD_non, partD_int, t_non, t_int, t_bl, t_str, t_tup, t_lst, isStr_s, sta_0, sta_1, sta_2, sta_3, sta_4, sta_5, List.set_cons_zero, List.set_cons_succ, wipeD, List.length_cons, List.length_nil, lim, Nat.reduceAdd, Nat.reduceLeDiff, if_true, Bool.not_true, Bool.not_false, e1]) rfl
      rw [e2]
      exact rs_loop h R m f w l _ (by omega) (by omega) (by omega) (by omega)
    | some x =>
      rw [ew] at ev
      simp only
      by_cases q : x ∈ w
      · rw [if_pos q]
        have lsr := sr_len (t := t) (m := m + 1) R
        have lfl : (w.filter fun y => decide (y ≠ x)).length ≤ w.length := List.length_filter_le _ _
        have e2 : rsB [some (.obj n), some (.int ((m + 1 : Nat) : Int)), some ad, some (.lst (thsD w)), some (.obj T.length), o5, none] (T ++ [.list (natsD l)]) = .nx [some (.obj n), some (.int (m : Nat)), some ad, some (.lst (thsD (w.filter (fun y => decide (y ≠ x)) ++ srM t (m + 1)))), some (.obj T.length), some x.d, none] (T ++ [.list (natsD (l ++ [m + 1]))]) := by
          unfold rsB
          refine q_set (Q := fun r => r = _) (d := x.d) (S1 := T ++ [.list (natsD l)]) (by simp only [s_var0, s_varS, s_c, u_op, s_un, s_nil, u_cons, s_and, s_or, s_not, s_ife, s_chain, u_call, u_call0, u_callB, s_tup, s_lst, s_sl, s_no, s_int, s_meth, s_isN, s_isT, s_rev, u_eT, s_eTProg, s_eTAsk, s_yes, ER.bind_ok, ER.bind_exc, ER.toS, l1_some, o_addI, o_sub, o_neg, o_ixT, o_ixL, o_ltI, o_gtI, o_geI, o_leI, o_eqI, o_neI, b_f1, b_lenT, b_lenL, partD_non, partD_int, t_non, t_int, t_bl, t_str, t_tup, t_lst, isStr_s, sta_0, sta_1, sta_2, sta_3, sta_4, sta_5, List.set_cons_zero, List.set_cons_succ, wipeD, List.length_cons, List.length_nil, lim, Nat.reduceAdd, Nat.reduceLeDiff, if_true, Bool.not_true, Bool.not_false, ev, thD]) ?_
          refine q_ifT (Q := fun r => r = _) (S1 := T ++ [.list (natsD l)]) ?_ ?_
          · have e5 := isN_th (neg := true) (fa := eVar 5) (x := x) (ρ := [some (.obj n), some (.int ((m + 1 : Nat) : Int)), some ad, some (.lst (thsD w)), some (.obj T.length), some x.d, none]) (S := T ++ [.list (natsD l)]) rfl
            simp only [List.set_cons_zero, List.set_cons_succ]
            simp only [s_and, e5, ER.bind_ok, s_op, s_varS, s_var0, in_ths, l1_some, q, decide_true]
          refine q_assoc (Q := fun r => r = _) ?_
          have e3 : mApp (T ++ [.list (natsD l)]) (.obj T.length) (.int ((m + 1 : Nat) : Int)) = .ok .non (T ++ [.list (natsD (l ++ [m + 1]))]) := by
            rw [app_obj (R := []) (by rw [nats_len]; show l.length < 1000000; omega)]
            unfold natsD; rw [List.map_append]; rfl
          refine q_expr (Q := fun r => r = _) (d := .non) (S1 := T ++ [.list (natsD (l ++ [m + 1]))]) ?_ ?_
          · simp only [List.set_cons_zero, List.set_cons_succ]
            simp only [s_meth, s_var0, s_varS, ER.bind_ok, isSeqO, e3]
          have es' := a_step_reads (get_app h [.list (natsD (l ++ [m + 1]))]) R (m := m + 1) (by omega) hm
          have ec := comp_gen (fi := iLst (eVar 3)) (fc := eOp opNe (eVar 6) (eVar 5)) (fe := eVar 6) (tg := dN 6) (vs := [6]) (ρ := [some (.obj n), some (.int ((m + 1 : Nat) : Int)), some ad, some (.lst (thsD w)), some (.obj T.length), some x.d, none]) (S := T ++ [.list (natsD (l ++ [m + 1]))]) (S1 := T ++ [.list (natsD (l ++ [m + 1]))]) (f := Th.d) (xs := w) (fun y => decide (y ≠ x)) Th.d (il rfl) (fun y hy => ⟨_, rfl, by
            simp only [s_var0, s_varS, s_c, u_op, s_un, s_nil, u_cons, s_and, s_or, s_not, s_ife, s_chain, u_call, u_call0, u_callB, s_tup, s_lst, s_sl, s_no, s_int, s_meth, s_isN, s_isT, s_rev, u_eT, s_eTProg, s_eTAsk, s_yes, ER.bind_ok, ER.bind_exc, ER.toS, l1_some, o_addI, o_sub, o_neg, o_ixT, o_ixL, o_ltI, o_gtI, o_geI, o_leI, o_eqI, o_neI, b_f1, b_lenT, b_lenL, partD_non, partD_int, t_non, t_int, t_bl, t_str, t_tup, t_lst, isStr_s, sta_0, sta_1, sta_2, sta_3, sta_4, sta_5, List.set_cons_zero, List.set_cons_succ, wipeD, List.length_cons, List.length_nil, lim, Nat.reduceAdd, Nat.reduceLeDiff, if_true, Bool.not_true, Bool.not_false, ne_th]
            by_cases z : y = x <;> simp [z], fun _ => rfl⟩) (by show _ ≤ 1000000; omega)
          refine q_set (Q := fun r => r = _) (d := .lst (thsD (w.filter (fun y => decide (y ≠ x)) ++ srM t (m + 1)))) (S1 := T ++ [.list (natsD (l ++ [m + 1]))]) ?_ ?_
          · simp only [List.set_cons_zero, List.set_cons_succ]
            simp only [s_op, ec, ER.bind_ok, s_call, s_cons, s_nil, s_var0, s_varS, es']
            rw [ths_add (by omega)]; rfl
          exact q_set1 (Q := fun r => r = _) (d := .int (m : Int)) (S1 := T ++ [.list (natsD (l ++ [m + 1]))]) (by simp only [s_var0, s_varS, s_c, u_op, s_un, s_nil, u_cons, s_and, s_or, s_not, s_ife, s_chain, u_call, u_call0, u_callB, s_tup, s_lst, s_sl, s_no, s_int, s_meth, s_isN, s_isT, s_rev, u_eT, s_eTProg, s_eTAsk, s_yes, ER.bind_ok, ER.bind_exc, ER.toS, l1_some, o_addI, o_sub, o_neg, o_ixT, o_ixL, o_ltI, o_gtI, o_geI, o_leI, o_eqI, o_neI, b_f1, b_lenT, b_lenL, partD_non, partD_int, t_non, t_int, t_bl, t_str, t_tup, t_lst, isStr_s, sta_0, sta_1, sta_2, sta_3, sta_4, sta_5, List.set_cons_zero, List.set_cons_succ, wipeD, List.length_cons, List.length_nil, lim, Nat.reduceAdd, Nat.reduceLeDiff, if_true, Bool.not_true, Bool.not_false, e1]) rfl
        rw [e2]
        obtain ⟨m', w', o', e⟩ := rs_loop h R m f (w.filter (fun y => decide (y ≠ x)) ++ srM t (m + 1)) (l ++ [m + 1]) (some x.d) (by omega) (by omega) (by simp; omega) (by rw [List.length_append]; omega)
        refine ⟨m', w', o', ?_⟩
        show whileN rsC rsB f _ _ = _
        rw [e, List.append_assoc]; rfl
      · rw [if_neg q]
        have e2 : rsB [some (.obj n), some (.int ((m + 1 : Nat) : Int)), some ad, some (.lst (thsD w)), some (.obj T.length), o5, none] (T ++ [.list (natsD l)]) = .nx [some (.obj n), some (.int (m : Nat)), some ad, some (.lst (thsD w)), some (.obj T.length), some x.d, none] (T ++ [.list (natsD l)]) := by
          unfold rsB
          refine q_set (Q := fun r => r = _) (d := x.d) (S1 := T ++ [.list (natsD l)]) (by simp only [s_var0, s_varS, s_c, u_op, s_un, s_nil, u_cons, s_and, s_or, s_not, s_ife, s_chain, u_call, u_call0, u_callB, s_tup, s_lst, s_sl, s_no, s_int, s_meth, s_isN, s_isT, s_rev, u_eT, s_eTProg, s_eTAsk, s_yes, ER.bind_ok, ER.bind_exc, ER.toS, l1_some, o_addI, o_sub, o_neg, o_ixT, o_ixL, o_ltI, o_gtI, o_geI, o_leI, o_eqI, o_neI, b_f1, b_lenT, b_lenL, partD_non, partD_int, t_non, t_int, t_bl, t_str, t_tup, t_lst, isStr_s, sta_0, sta_1, sta_2, sta_3, sta_4, sta_5, List.set_cons_zero, List.set_cons_succ, wipeD, List.length_cons, List.length_nil, lim, Nat.reduceAdd, Nat.reduceLeDiff, if_true, Bool.not_true, Bool.not_false, ev, thD]) ?_
          refine q_if0 (Q := fun r => r = _) (S1 := T ++ [.list (natsD l)]) ?_ ?_
          · have e5 := isN_th (neg := true) (fa := eVar 5) (x := x) (ρ := [some (.obj n), some (.int ((m + 1 : Nat) : Int)), some ad, some (.lst (thsD w)), some (.obj T.length), some x.d, none]) (S := T ++ [.list (natsD l)]) rfl
            simp only [List.set_cons_zero, List.set_cons_succ]
            simp only [s_and, e5, ER.bind_ok, s_op, s_varS, s_var0, in_ths, l1_some, q, decide_false]
          exact q_set1 (Q := fun r => r = _) (d := .int (m : Int)) (S1 := T ++ [.list (natsD l)]) (by simp only [s_var0, s_varS, s_c, u_op, s_un, s_nil, u_cons, s_and, s_or, s_not, s_ife, s_chain, u_call, u_call0, u_callB, s_tup, s_lst, s_sl, s_no, s_int, s_meth, s_isN, s_isT, s_rev, u_eT, s_eTProg, s_eTAsk, s_yes, ER.bind_ok, ER.bind_exc, ER.toS, l1_some, o_addI, o_sub, o_neg, o_ixT, o_ixL, o_ltI, o_gtI, o_geI, o_leI, o_eqI, o_neI, b_f1, b_lenT, b_lenL, partD_non, partD_int, t_non, t_int, t_bl, t_str, t_tup, t_lst, isStr_s, sta_0, sta_1, sta_2, sta_3, sta_4, sta_5, List.set_cons_zero, List.set_cons_succ, wipeD, List.length_cons, List.length_nil, lim, Nat.reduceAdd, Nat.reduceLeDiff, if_true, Bool.not_true, Bool.not_false, e1]) rfl
        rw [e2]
        exact rs_loop h R m f w l _ (by omega) (by omega) (by omega) (by omega)
theorem nats_rev {l : List Nat} : (natsD l).reverse = natsD l.reverse := by unfold natsD; rw [List.map_reverse]
end
end Bt
namespace Bt
open PySem PySem.Spec PyProof.Rows L2
theorem head_range' {p : Nat → Bool} : ∀ (k a : Nat), match ((List.range' a k).filter p).head? with
    | some x => a ≤ x ∧ x < a + k ∧ p x = true ∧ ∀ j, a ≤ j → j < x → p j = false
    | none => ∀ j, a ≤ j → j < a + k → p j = false
  | 0, a => by intro j h1 h2; omega
  | k + 1, a => by
    rw [List.range'_succ]
    by_cases q : p a = true
    · rw [List.filter_cons_of_pos q]
      exact ⟨Nat.le_refl _, by omega, q, fun j h1 h2 => by omega⟩
    · rw [List.filter_cons_of_neg q]
      have ih := head_range' (p := p) k (a + 1)
      have qf : p a = false := by simpa using q
      cases e : ((List.range' (a + 1) k).filter p).head? with
      | some x =>
        rw [e] at ih
        obtain ⟨h1, h2, h3, h4⟩ := ih
        refine ⟨by omega, by omega, h3, fun j g1 g2 => ?_⟩
        by_cases z : j = a
        · rw [z]; exact qf
        · exact h4 j (by omega) g2
      | none =>
        rw [e] at ih
        intro j g1 g2
        by_cases z : j = a
        · rw [z]; exact qf
        · exact ih j (by omega) (by omega)
theorem head_fromTo {p : Nat → Bool} (a b : Nat) : match ((fromTo a b).filter p).head? with
    | some x => a ≤ x ∧ x < b ∧ p x = true ∧ ∀ j, a ≤ j → j < x → p j = false
    | none => ∀ j, a ≤ j → j < b → p j = false := by
  have h := head_range' (p := p) (b - a) a
  unfold fromTo
  cases e : ((List.range' a (b - a)).filter p).head? with
  | some x =>
    rw [e] at h
    obtain ⟨h1, h2, h3, h4⟩ := h
    exact ⟨h1, by omega, h3, h4⟩
  | none =>
    rw [e] at h
    intro j h1 h2
    exact h j h1 (by omega)
theorem last_range {p : Nat → Bool} : ∀ (m : Nat), match ((List.range m).filter p).getLast? with
    | some x => x < m ∧ p x = true ∧ ∀ j, x < j → j < m → p j = false
    | none => ∀ j, j < m → p j = false
  | 0 => by intro j h; omega
  | m + 1 => by
    rw [List.range_succ, List.filter_append]
    by_cases q : p m = true
    · have e : List.filter p [m] = [m] := by simp [q]
      rw [e, List.getLast?_concat]
      exact ⟨Nat.lt_succ_self _, q, fun j h1 h2 => by omega⟩
    · have e : List.filter p [m] = [] := by simp [q]
      rw [e, List.append_nil]
      have qf : p m = false := by simpa using q
      have ih := last_range (p := p) m
      cases e : ((List.range m).filter p).getLast? with
      | some x =>
        rw [e] at ih
        obtain ⟨h1, h2, h3⟩ := ih
        refine ⟨by omega, h2, fun j g1 g2 => ?_⟩
        by_cases z : j = m
        · rw [z]; exact qf
        · exact h3 j g1 (by omega)
      | none =>
        rw [e] at ih
        intro j g
        by_cases z : j = m
        · rw [z]; exact qf
        · exact ih j (by omega)
section
variable {t : Tp}
theorem over_spec (t : Tp) (m : Nat) : (overM t m = t.E ∧ ∀ j, m < j → j ≤ t.E → dpM t m < dpM t j) ∨ (m < overM t m ∧ overM t m ≤ t.E ∧ dpM t (overM t m) ≤ dpM t m ∧ ∀ j, m < j → j < overM t m → dpM t m < dpM t j) := by
  have h := head_fromTo (p := fun j => decide (dpM t j ≤ dpM t m)) (m + 1) (t.E + 1)
  unfold overM aheadLe
  cases e : ((fromTo (m + 1) (t.E + 1)).filter fun j => decide (dpM t j ≤ dpM t m)).head? with
  | some x =>
    rw [e] at h
    obtain ⟨h1, h2, h3, h4⟩ := h
    exact .inr ⟨h1, Nat.le_of_lt_succ h2, of_decide_eq_true h3, fun j g1 g2 => Nat.lt_of_not_le (of_decide_eq_false (h4 j g1 g2))⟩
  | none =>
    rw [e] at h
    exact .inl ⟨rfl, fun j g1 g2 => Nat.lt_of_not_le (of_decide_eq_false (h j g1 (by omega)))⟩
theorem out_spec (t : Tp) (m : Nat) : (outM t m = t.E ∧ ∀ j, m < j → j ≤ t.E → dpM t m ≤ dpM t j) ∨ (m < outM t m ∧ outM t m ≤ t.E ∧ dpM t (outM t m) < dpM t m ∧ ∀ j, m < j → j < outM t m → dpM t m ≤ dpM t j) := by
  have h := head_fromTo (p := fun j => decide (dpM t j < dpM t m)) (m + 1) (t.E + 1)
  unfold outM aheadLt
  cases e : ((fromTo (m + 1) (t.E + 1)).filter fun j => decide (dpM t j < dpM t m)).head? with
  | some x =>
    rw [e] at h
    obtain ⟨h1, h2, h3, h4⟩ := h
    exact .inr ⟨h1, Nat.le_of_lt_succ h2, of_decide_eq_true h3, fun j g1 g2 => Nat.le_of_not_lt (of_decide_eq_false (h4 j g1 g2))⟩
  | none =>
    rw [e] at h
    exact .inl ⟨rfl, fun j g1 g2 => Nat.le_of_not_lt (of_decide_eq_false (h j g1 (by omega)))⟩
theorem bover_spec (t : Tp) (m : Nat) : (boverM t m = 0 ∧ ∀ j, j < m → dpM t m < dpM t j) ∨ (boverM t m < m ∧ dpM t (boverM t m) ≤ dpM t m ∧ ∀ j, boverM t m < j → j < m → dpM t m < dpM t j) := by
  have h := last_range (p := fun j => decide (dpM t j ≤ dpM t m)) m
  unfold boverM backLe
  cases e : ((List.range m).filter fun j => decide (dpM t j ≤ dpM t m)).getLast? with
  | some x =>
    rw [e] at h
    obtain ⟨h1, h2, h3⟩ := h
    exact .inr ⟨h1, of_decide_eq_true h2, fun j g1 g2 => Nat.lt_of_not_le (of_decide_eq_false (h3 j g1 g2))⟩
  | none =>
    rw [e] at h
    exact .inl ⟨rfl, fun j g1 => Nat.lt_of_not_le (of_decide_eq_false (h j g1))⟩
theorem bout_spec (t : Tp) (m : Nat) : (boutM t m = 0 ∧ ∀ j, j < m → dpM t m ≤ dpM t j) ∨ (boutM t m < m ∧ dpM t (boutM t m) < dpM t m ∧ ∀ j, boutM t m < j → j < m → dpM t m ≤ dpM t j) := by
  have h := last_range (p := fun j => decide (dpM t j < dpM t m)) m
  unfold boutM backLt
  cases e : ((List.range m).filter fun j => decide (dpM t j < dpM t m)).getLast? with
  | some x =>
    rw [e] at h
    obtain ⟨h1, h2, h3⟩ := h
    exact .inr ⟨h1, of_decide_eq_true h2, fun j g1 g2 => Nat.le_of_not_lt (of_decide_eq_false (h3 j g1 g2))⟩
  | none =>
    rw [e] at h
    exact .inl ⟨rfl, fun j g1 => Nat.le_of_not_lt (of_decide_eq_false (h j g1))⟩
/-- a row by its word -/
def Row.w : Row → String
  | .set _ _ => "set" | .put _ _ => "put" | .ask _ => "ask" | .say _ => "say" | .jump _ => "jump" | .unless _ _ => "unless" | .call _ => "call" | .back => "back" | .stop => "stop"
end
end Bt
namespace Bt
open PySem PySem.Spec PyProof.Rows L2
def andK (x : D) (S : Sto) (r : ER) : ER := match x with
  | .bl b => (match b with | true => r | false => .ok (.bl false) S)
  | _ => .bad
def ifK (x : D) (r1 r2 : ER) : ER := match x with
  | .bl b => (match b with | true => r1 | false => r2)
  | _ => .bad
section
variable {S : Sto} {x y : Bool} {r r1 r2 : ER} {a b : D} {ρ : Env} {fa fb fc : Ex}
theorem andK_t : andK (.bl true) S r = r := rfl
theorem t_and : eAnd fa fb ρ S = (fa ρ S).bind fun x S1 => andK x S1 (fb ρ S1) := rfl
theorem t_ife : eIf fc fa fb ρ S = (fc ρ S).bind fun x S1 => ifK x (fa ρ S1) (fb ρ S1) := rfl
theorem t_chain {F F' : Sto → D → D → Option D} : eChain F F' fa fb fc ρ S = (fa ρ S).bind fun x S1 => (fb ρ S1).bind fun y S2 => (lift1 (F S2 x y) S2).bind fun z S3 => andK z S3 ((fc ρ S3).bind fun u S4 => lift1 (F' S4 y u) S4) := rfl
theorem x_and (ha : fa ρ S = .ok (.bl x) S) (hb : x = true → fb ρ S = .ok (.bl y) S) : eAnd fa fb ρ S = .ok (.bl (x && y)) S := by
  rw [t_and, ha]
  cases x with
  | true => simp only [ER.bind_ok, andK_t, hb rfl, Bool.true_and]
  | false => rfl
variable {Q : SR → Prop} {S1 : Sto} {g s1 s2 : Sx} {bb : Bool}
theorem q_ifB (h : fc ρ S = .ok (.bl bb) S1) (hb : bb = false) (k : Q (g ρ S1)) : Q (sSeq (sIf fc s1 sSkip) g ρ S) := by
  subst hb; exact q_if0 h k
theorem q_ifBT (h : fc ρ S = .ok (.bl bb) S1) (hb : bb = true) (k : Q (sSeq s1 g ρ S1)) : Q (sSeq (sIf fc s1 s2) g ρ S) := by
  subst hb; exact q_ifT h k
theorem q_ifB1 (h : fc ρ S = .ok (.bl bb) S1) (hb : bb = false) (k : Q (s2 ρ S1)) : Q (sIf fc s1 s2 ρ S) := by
  subst hb; exact q_ifF1 h k
end
end Bt
namespace Bt
open PySem PySem.Spec PyProof.Rows L2
theorem runOk_tp0 {p : Prg} {as : List Int} {m : Nat} (hp : PrgOk p) (ha : ∀ n ∈ as, Wo n) (hm : m < 10000) : RunOk (tp0 p as 1 m) ∧ (tp0 p as 1 m).E ≤ m := by
  have h : (tp0 p as 1 m).E ≤ m := endM_le _
  exact ⟨⟨hp, ha, by omega⟩, h⟩
theorem rg_get {m j x : Nat} (h : (List.range m)[j]? = some x) : x = j ∧ j < m := by
  have hj : j < m := by
    have := (List.getElem?_eq_some_iff.mp h).1
    rwa [List.length_range] at this
  rw [List.getElem?_range hj] at h
  cases h; exact ⟨rfl, hj⟩
end Bt
namespace Bt
open PySem PySem.Spec PyProof.Rows L2
def blsOf : List D → Option (List Bool)
  | [] => some []
  | .bl b :: r => (match blsOf r with
    | some l => some (b :: l)
    | none => none)
  | _ => none
end Bt
namespace Bt
open PySem PySem.Spec PyProof.Rows L2
theorem glob_tup {K : PySem.W.Frag} {mg : Str → Option Value} {x : Str} {l : List D} {m : List He.Dv} (h : mg x = some (.ref (He.ga K x))) (c : He.tupB K x m = true) (r : DvR K l m) : GlobC K mg x (.tup l) :=
  ⟨_, .ref (He.ga K x), h, rfl, fun g => .tup (He.tupB_ok c g.F) r.reps⟩
end Bt
namespace Bt
open PySem PySem.Spec PyProof.Rows L2
section
variable {K : PySem.W.Frag} {mg : Str → Option Value} (T : RefOk K mg)
include T
theorem RefOk.m (e : Exc) : PySem.W.exmOne K (excV K e) (.ref (He.ga K "TapeError")) = some true := (T.all e).2.1
end
end Bt
namespace Bt
open PySem PySem.Spec PyProof.Rows L2
section
variable {ρ ρ1 : Env} {S S1 : Sto} {g a b : Sx} {fe fc fi : Ex} {d : D} {i : Nat} {tg : D → Env → Option Env} {bb : Bool} {r : SR} {q : ER} {P : Env → Sto → Prop}
theorem e_set (h : fe ρ S = .ok d S1) (k : g (ρ.set i (some d)) S1 = r) : (sSeq (sSet i fe) g ρ S) = r := q_set (Q := fun x => x = r) h k
theorem e_expr (h : fe ρ S = .ok d S1) (k : g ρ S1 = r) : (sSeq (sExpr fe) g ρ S) = r := q_expr (Q := fun x => x = r) h k
theorem e_if (h : fc ρ S = .ok (.bl bb) S1) (hb : bb = false) (k : g ρ S1 = r) : (sSeq (sIf fc a sSkip) g ρ S) = r := q_ifB (Q := fun x => x = r) h hb k
theorem e_if1 (h : fc ρ S = .ok (.bl bb) S1) (hb : bb = false) (k : b ρ S1 = r) : (sIf fc a b ρ S) = r := q_ifB1 (Q := fun x => x = r) h hb k
theorem f_set (h : fe ρ S = .ok d S1) (k : (g (ρ.set i (some d)) S1).toE = q) : (sSeq (sSet i fe) g ρ S).toE = q := q_set (Q := fun x => x.toE = q) h k
theorem f_expr (h : fe ρ S = .ok d S1) (k : (g ρ S1).toE = q) : (sSeq (sExpr fe) g ρ S).toE = q := q_expr (Q := fun x => x.toE = q) h k
theorem f_ret (h : fe ρ S = .ok d S1) (k : (SR.rt d S1).toE = q) : (sRet fe ρ S).toE = q := q_ret (Q := fun x => x.toE = q) h k
theorem f_if (h : fc ρ S = .ok (.bl bb) S1) (hb : bb = false) (k : (g ρ S1).toE = q) : (sSeq (sIf fc a sSkip) g ρ S).toE = q := q_ifB (Q := fun x => x.toE = q) h hb k
theorem f_ifT (h : fc ρ S = .ok (.bl bb) S1) (hb : bb = true) (k : (sSeq a g ρ S1).toE = q) : (sSeq (sIf fc a b) g ρ S).toE = q := q_ifBT (Q := fun x => x.toE = q) h hb k
theorem f_assoc {c : Sx} (k : (sSeq a (sSeq b c) ρ S).toE = q) : (sSeq (sSeq a b) c ρ S).toE = q := q_assoc (Q := fun x => x.toE = q) k
theorem f_for {α : Type} {f : α → D} {xs : List α} (P : Nat → Env → Sto → Prop) (hi : fi ρ S = .ok (.tup (xs.map f)) S1) (h0 : P 0 ρ S1) (hb : ∀ j x, xs[j]? = some x → ∀ ρ S, P j ρ S → ∃ ρ1, tg (f x) ρ = some ρ1 ∧ NxP (P (j + 1)) (b ρ1 S)) (hr : ∀ ρ S, P xs.length ρ S → (g ρ S).toE = q) : (sSeq (sFor fi tg b) g ρ S).toE = q := q_for (Q := fun x => x.toE = q) P hi h0 hb hr
theorem n_set1 (h : fe ρ S = .ok d S1) (k : NxP P (SR.nx (ρ.set i (some d)) S1)) : NxP P (sSet i fe ρ S) := q_set1 (Q := NxP P) h k
theorem g_set (h : fe ρ S = .ok d S1) (k : Good (g (ρ.set i (some d)) S1)) : Good (sSeq (sSet i fe) g ρ S) := q_set (Q := Good) h k
theorem g_ret (h : fe ρ S = .ok d S1) (k : Good (SR.rt d S1)) : Good (sRet fe ρ S) := q_ret (Q := Good) h k
theorem g_if (h : fc ρ S = .ok (.bl bb) S1) (hb : bb = false) (k : Good (g ρ S1)) : Good (sSeq (sIf fc a sSkip) g ρ S) := q_ifB (Q := Good) h hb k
theorem g_for {α : Type} {f : α → D} {xs : List α} (P : Nat → Env → Sto → Prop) (hi : fi ρ S = .ok (.tup (xs.map f)) S1) (h0 : P 0 ρ S1) (hb : ∀ j x, xs[j]? = some x → ∀ ρ S, P j ρ S → ∃ ρ1, tg (f x) ρ = some ρ1 ∧ NxP (P (j + 1)) (b ρ1 S)) (hr : ∀ ρ S, P xs.length ρ S → Good (g ρ S)) : Good (sSeq (sFor fi tg b) g ρ S) := q_for (Q := Good) P hi h0 hb hr
end
end Bt
namespace Bt
open PySem PySem.Spec PyProof.Rows L2
/-- the dict that a value names, frozen or not -/
def ldAt (S : Sto) : D → Option (List (Key × D))
  | .obj n => (match S[n]? with
    | some (.dict kvs) => some kvs
    | some (.fdict kvs) => some kvs
    | _ => none)
  | _ => none
theorem ldAt_some {S : Sto} {d : D} {kvs : List (Key × D)} (h : ldAt S d = some kvs) : ∃ n, d = .obj n ∧ (S[n]? = some (.dict kvs) ∨ S[n]? = some (.fdict kvs)) := by
  cases d with
  | obj n =>
    refine ⟨n, rfl, ?_⟩
    have h' : (match S[n]? with | some (.dict kvs) => some kvs | some (.fdict kvs) => some kvs | _ => none) = some kvs := h
    cases e : S[n]? with
    | none => rw [e] at h'; cases h'
    | some o =>
      rw [e] at h'
      cases o with
      | dict k => cases h'; exact .inl rfl
      | fdict k => cases h'; exact .inr rfl
      | _ => cases h'
  | _ => cases h
theorem ldAt_rd {K : PySem.W.Frag} {g : G} {S : Sto} {H : Hp} {d : D} {v : V} {kvs : List (Key × D)} (w : World K g S H) (h : ldAt S d = some kvs) (r : RepG K g d v) : ∃ a ks, v = .ref a ∧ Rd H a (.dK ks) ∧ KReps K g kvs ks := by
  obtain ⟨n, rfl, h | h⟩ := ldAt_some h
  · obtain ⟨a, ks, h1, h2, h3, h4⟩ := w.at_ n _ h
    cases r with
    | obj e => rw [h1] at e; cases e; exact ⟨_, ks, rfl, .inl h3, h4⟩
  · obtain ⟨a, ks, od, h1, h2, h3⟩ := w.at_ n _ h
    cases r with
    | obj e => rw [h1] at e; cases e; exact ⟨_, ks, rfl, .inr ⟨od, (w.pin _ _ h2).1⟩, h3⟩
def eLDNew : Ex := fun _ S => .ok (.obj S.length) (S ++ [.dict []])
def eLDIx (fd fk : Ex) : Ex := fun ρ S => (fd ρ S).bind fun d S1 => (fk ρ S1).bind fun k S2 => match ldAt S2 d with
  | some kvs => (match keyD k with
    | some key => lift1 (valD kvs key) S2
    | none => .bad)
  | none => .bad
def eLDIn (neg : Bool) (fk fd : Ex) : Ex := fun ρ S => (fk ρ S).bind fun k S1 => (fd ρ S1).bind fun d S2 => match ldAt S2 d with
  | some kvs => (match keyD k with
    | some key => .ok (.bl (if neg then !(valD kvs key).isSome else (valD kvs key).isSome)) S2
    | none => .bad)
  | none => .bad
def sLDPut (fd fk fv : Ex) : Sx := fun ρ S => (fv ρ S).toS ρ fun x S1 => (fd ρ S1).toS ρ fun d S2 => (fk ρ S2).toS ρ fun k S3 => match d with
  | .obj n => (match S3[n]? with
    | some (.dict kvs) => (match keyD k with
      | some key => if kvs.length < lim then .nx ρ (S3.set n (.dict (putD kvs key x))) else .bad
      | none => .bad)
    | _ => .bad)
  | _ => .bad
section
variable {X : Cx} {W : WX} {pos pos' apos cpos : Pos} {o i e f value tg : Expr} {fd fk fx fv fe : Ex} {sts : List Stmt} {fs : Sx} {x : Str}
theorem je_ldnew : JE X W (.Dict [] [] pos) eLDNew := ⟨peImp pe_dnewK fun σ H Q ⟨g, S, ρ, w, rs, q⟩ p hp => by
  obtain ⟨w2, r2⟩ := w.pushDict (kvs := []) (ks := []) hp .nil
  exact Post.valE (d := .obj S.length) (S := S ++ [.dict []]) q (gext_obj g p) w2 r2⟩
theorem je_ldix (hu : X.A.units + 1 < cLine) (ho : JE X W o fd) (hi : JE X W i fk) (hs : NoSl i := by exact fun _ _ => rfl) : JE X W (.Subscript o i pos) (eLDIx fd fk) :=
  ⟨peImp (pe_dget hu ho.run hi.run hs) fun σ H Q ⟨g, S, ρ, w, rs, q⟩ => by
    unfold eLDIx at q
    refine ⟨g, S, ρ, w, rs, q.of_bind fun dd S1 x g1 H1 _ e1 w1 r1 q1 => ?_⟩
    refine ⟨g1, S1, ρ, w1, rs.mono e1, q1.of_bind fun dk S2 y g2 H2 _ e2 w2 r2 q2 => ?_⟩
    cases e : ldAt S2 dd with
    | none => simp only [e] at q2; exact q2.elim
    | some kvs =>
      simp only [e] at q2
      cases e3 : keyD dk with
      | none => simp only [e3] at q2; exact q2.elim
      | some k =>
        simp only [e3] at q2
        obtain ⟨d, hd, q3⟩ := q2.lift
        obtain ⟨a, ks, rfl, hr, hk⟩ := ldAt_rd w2 e (e2.rep r1)
        have hy := kD_rep e3 r2
        subst hy
        obtain ⟨u, h3, h4⟩ := (hk.val k).2 d hd
        exact ⟨a, u, rfl, .inl ⟨ks, k, hr, rfl, h3.symm⟩, q3.val w2 h4⟩⟩
theorem ldin_of {neg : Bool} {K : PySem.W.Frag} : ∀ σ H Q, tE K W (eLDIn neg fk fd) σ H Q → (if neg then tDNotIn (tE K W fk) (tE K W fd) σ H Q else tDIn (tE K W fk) (tE K W fd) σ H Q) := fun σ H Q ⟨g, S, ρ, w, rs, q⟩ => by
  have main : tE K W fk σ H fun y H1 => tE K W fd σ H1 fun x H2 => ∃ a o, x = .ref a ∧ DGet H2 a y o ∧ Q (.bl (if neg then !o.isSome else o.isSome)) H2 := by
    unfold eLDIn at q
    refine ⟨g, S, ρ, w, rs, q.of_bind fun dk S1 y g1 H1 _ e1 w1 r1 q1 => ?_⟩
    refine ⟨g1, S1, ρ, w1, rs.mono e1, q1.of_bind fun dd S2 x g2 H2 _ e2 w2 r2 q2 => ?_⟩
    cases e : ldAt S2 dd with
    | none => simp only [e] at q2; exact q2.elim
    | some kvs =>
      simp only [e] at q2
      cases e3 : keyD dk with
      | none => simp only [e3] at q2; exact q2.elim
      | some k =>
        simp only [e3] at q2
        obtain ⟨a, ks, rfl, hr, hk⟩ := ldAt_rd w2 e r2
        have hy := kD_rep e3 (e2.rep r1)
        subst hy
        refine ⟨a, valV ks k, rfl, .inl ⟨ks, k, hr, rfl, rfl⟩, ?_⟩
        have hs : (valV ks k).isSome = (valD kvs k).isSome := by
          cases hv : valD kvs k with
          | none => rw [(hk.val k).1 hv]; rfl
          | some d =>
            obtain ⟨u, h3, h4⟩ := (hk.val k).2 d hv
            rw [h3]; rfl
        rw [hs]
        exact Post.val (S := S2) q2 w2 (.bl _)
  cases neg with
  | true => exact main
  | false => exact main
theorem blT {K : PySem.W.Frag} {f : Ex} {σ : L2.St} {H : Hp} {Q : Bool → Hp → Prop} (h : tT K W f σ H Q) : tE K W f σ H fun x H' => ∃ b, x = .bl b ∧ Q b H' := by
  obtain ⟨g, S, ρ, w, rs, q⟩ := h
  refine ⟨g, S, ρ, w, rs, ?_⟩
  cases e : f ρ S with
  | bad => rw [e] at q; exact q
  | exc k S' => rw [e] at q; exact q
  | ok d S' =>
    rw [e] at q
    cases d with
    | bl b => intro v g' H' e w r; cases r; exact ⟨b, rfl, q g' H' e w⟩
    | _ => exact q.elim
theorem jt_ldin (hu : X.A.units + 1 < cLine) (hi : JE X W i fk) (ho : JE X W o fd) (hm : behindInMarks .In o = false := by rfl) : JT X W (.Compare i [.In] [o] pos) (eLDIn false fk fd) := ⟨ptImp (pt_cmp (pc_din hu hi.run ho.run) hm) fun σ H Q h => ldin_of (neg := false) σ H _ (blT h)⟩
theorem js_ldput (hu : X.A.units + 1 < cLine) (ho : JE X W o fd) (hi : JE X W i fk) (hv : JE X W value fv) (hs : swapsWith value (some (.Subscript o i pos')) pos.line X.env = pure false := by rfl) : JS X W (.Assign [.Subscript o i pos'] value pos) (sLDPut fd fk fv) :=
  ⟨psImp (ps_dput hu ho.run hi.run hv.run hs) fun N σ H ⟨g, S, ρ, w, rs, q⟩ => by
    unfold sLDPut at q
    refine ⟨g, S, ρ, w, rs, PostS.of_er q rs fun dx S1 v g1 H1 _ e1 w1 r1 q1 => ?_⟩
    refine ⟨g1, S1, ρ, w1, rs.mono e1, PostS.of_er q1 (rs.mono e1) fun dd S2 x g2 H2 _ e2 w2 r2 q2 => ?_⟩
    refine ⟨g2, S2, ρ, w2, (rs.mono e1).mono e2, PostS.of_er q2 ((rs.mono e1).mono e2) fun dk S3 y g3 H3 _ e3 w3 r3 q3 => ?_⟩
    cases dd with
    | obj n =>
      simp only at q3
      cases e : S3[n]? with
      | none => simp only [e] at q3; exact q3.elim
      | some u =>
        cases u with
        | dict kvs =>
          simp only [e] at q3
          cases e4 : keyD dk with
          | none => simp only [e4] at q3; exact q3.elim
          | some k =>
            simp only [e4] at q3
            by_cases hl : kvs.length < lim
            · rw [if_pos hl] at q3
              obtain ⟨a, ks, h1, h2, h3, h4⟩ := w3.at_ n _ e
              cases e3.rep r2 with
              | obj ea =>
                rw [h1] at ea; cases ea
                have hy := kD_rep e4 r3
                subst hy
                have hlen : ks.length = kvs.length := (Paired.length h4).symm
                refine ⟨_, _, rfl, DPut.k h3 (by rw [hlen]; exact Nat.lt_of_lt_of_le hl (by decide)), ?_⟩
                exact q3 _ g3 _ (GExt.refl _) (w3.write h2 ⟨_, _, h1, h2, upd_same, h4.put k (e3.rep (e2.rep r1))⟩) (((rs.mono e1).mono e2).mono e3)
            · rw [if_neg hl] at q3; exact q3.elim
        | _ => simp only [e] at q3; exact q3.elim
    | _ => exact q3.elim⟩
end
end Bt
namespace Bt
open PySem PySem.Spec PyProof.Rows L2
theorem rel_ldAt {S T : Sto} (r : RelS S T) {d : D} {kvs : List (Key × D)} (h : ldAt T d = some kvs) : ldAt S d = some kvs := by
  obtain ⟨n, rfl, h | h⟩ := ldAt_some h
  · have := r.plain h rfl
    unfold ldAt; simp only [this]
  · have := r.plain h rfl
    unfold ldAt; simp only [this]
section
variable {f f' g g' h h' : Ex} {A A' : Sx}
theorem sim_eLDNew : SimE eLDNew eLDNew := fun ρ S T r => ⟨_, by unfold eLDNew; rw [r.len], r.push (.same rfl)⟩
theorem sim_eLDIx (hf : SimE f f') (hg : SimE g g') : SimE (eLDIx f g) (eLDIx f' g') := fun ρ S T r =>
  (hf ρ S T r).bind fun d S1 T1 r1 => (hg ρ S1 T1 r1).bind fun k S2 T2 r2 => by
    cases e : ldAt T2 d with
    | none => trivial
    | some kvs =>
      rw [rel_ldAt r2 e]
      simp only
      cases keyD k with
      | none => trivial
      | some key =>
        simp only
        cases valD kvs key with
        | none => trivial
        | some v => exact ⟨S2, rfl, r2⟩
theorem sim_eLDIn {neg : Bool} (hf : SimE f f') (hg : SimE g g') : SimE (eLDIn neg f g) (eLDIn neg f' g') := fun ρ S T r =>
  (hf ρ S T r).bind fun k S1 T1 r1 => (hg ρ S1 T1 r1).bind fun d S2 T2 r2 => by
    cases e : ldAt T2 d with
    | none => trivial
    | some kvs =>
      rw [rel_ldAt r2 e]
      simp only
      cases keyD k with
      | none => trivial
      | some key => exact ⟨S2, rfl, r2⟩
theorem sim_sLDPut (hf : SimE f f') (hg : SimE g g') (hh : SimE h h') : SimS (sLDPut f g h) (sLDPut f' g' h') := fun ρ S T r => (hh ρ S T r).toS fun v S1 T1 r1 => (hf ρ S1 T1 r1).toS fun o S2 T2 r2 => (hg ρ S2 T2 r2).toS fun k S3 T3 r3 => by
  cases o with
  | obj n =>
    simp only
    cases e : T3[n]? with
    | none => trivial
    | some x =>
      cases x with
      | dict kvs =>
        rw [r3.plain e rfl]
        simp only
        cases keyD k with
        | none => trivial
        | some key =>
          simp only
          by_cases q : kvs.length < lim
          · rw [if_pos q, if_pos q]; exact ⟨_, rfl, r3.set (.same rfl)⟩
          · rw [if_neg q, if_neg q]; trivial
      | _ => trivial
  | _ => trivial
end
section
variable {ρ : Env} {S S1 S2 S3 : Sto} {fd fk fv fx fe : Ex} {kvs : List (Key × D)} {n : Nat} {k d x : D} {key : Key}
theorem x_ldix (hd : fd ρ S = .ok d S1) (hk : fk ρ S1 = .ok k S2) (h : ldAt S2 d = some kvs) (hy : keyD k = some key) (hv : valD kvs key = some x) : eLDIx fd fk ρ S = .ok x S2 := by
  unfold eLDIx
  rw [hd]; simp only [ER.bind_ok]
  rw [hk]; simp only [ER.bind_ok]
  rw [h]; simp only
  rw [hy]; simp only
  rw [hv]; rfl
theorem x_ldin {neg : Bool} (hk : fk ρ S = .ok k S1) (hd : fd ρ S1 = .ok d S2) (h : ldAt S2 d = some kvs) (hy : keyD k = some key) : eLDIn neg fk fd ρ S = .ok (.bl (if neg then !(valD kvs key).isSome else (valD kvs key).isSome)) S2 := by
  unfold eLDIn
  rw [hk]; simp only [ER.bind_ok]
  rw [hd]; simp only [ER.bind_ok]
  rw [h]; simp only
  rw [hy]
theorem x_ldput (hv : fv ρ S = .ok x S1) (hd : fd ρ S1 = .ok (.obj n) S2) (hk : fk ρ S2 = .ok k S3) (h : S3[n]? = some (.dict kvs)) (hy : keyD k = some key) (hl : kvs.length < 1000000) : sLDPut fd fk fv ρ S = .nx ρ (S3.set n (.dict (putD kvs key x))) := by
  unfold sLDPut
  rw [hv]; simp only [ER.toS_ok]
  rw [hd]; simp only [ER.toS_ok]
  rw [hk]; simp only [ER.toS_ok]
  rw [h]; simp only
  rw [hy]; simp only
  rw [if_pos (show kvs.length < lim from hl)]
end
end Bt
namespace Bt
open PySem PySem.Spec PyProof.Rows L2
def signs (x : Str) : List Str := x.cps.toList.map fun c => ⟨#[c]⟩
end Bt
namespace Bt
open PySem PySem.Spec PyProof.Rows L2
def bAll : Sto → D → Option D := fun _ d => match d with
  | .lst l => (match blsOf l with
    | some bs => some (.bl (bs.all id))
    | none => none)
  | _ => none
theorem bls_repsG {K : PySem.W.Frag} {g : G} : ∀ {l : List D} {bs : List Bool} {xs : List V}, blsOf l = some bs → RepsG K g l xs → xs = bs.map V.bl
  | [], bs, xs, h, r => by cases h; cases r; rfl
  | d :: l, bs, xs, h, r => by
    cases d with
    | bl b =>
      have h' : (match blsOf l with | some m => some (b :: m) | none => none) = some bs := h
      cases q : blsOf l with
      | none => rw [q] at h'; cases h'
      | some m =>
        rw [q] at h'; cases h'
        cases r with
        | cons r1 r2 => cases r1; rw [bls_repsG q r2]; rfl
    | _ => cases h
theorem l_all {X : Cx} : LAr X.K (rAll X.K) (f1 bAll) := l_f1 <| by
  intro g S H x dx d Q w rx e k
  cases dx with
  | lst l =>
    have e' : (match blsOf l with | some bs => some (D.bl (bs.all id)) | none => none) = some d := e
    cases q : blsOf l with
    | none => rw [q] at e'; cases e'
    | some bs =>
      rw [q] at e'; cases e'
      cases rx with
      | @lst a xs _ s r =>
        have := bls_repsG q r
        subst this
        exact ⟨a, bs, rfl, SqL.of (w.sub _ _ s), k _ g H (GExt.refl _) w (.bl _)⟩
  | _ => cases e
theorem so_bAll : SimU bAll := fun S T x d r e => e
end Bt
namespace Bt
open PySem PySem.Spec PyProof.Rows L2
def iStrE (fe : Ex) : Ex := fun ρ S => (fe ρ S).bind fun d S1 => match d with
  | .str s => .ok (.tup ((signs s).map D.str)) S1
  | _ => .bad
theorem signs_at {s : Str} {i : Nat} : (signs s)[i]? = (s.cps[i]?).map fun c => (⟨#[c]⟩ : Str) := by
  unfold signs
  rw [List.getElem?_map]
  simp
theorem its_ok {K : PySem.W.Frag} {g : G} {s : Str} : ItOk K g (Its s) ((signs s).map D.str) := by
  intro g' S' H' i e w
  rw [List.getElem?_map, signs_at]
  refine ⟨fun d hd => ?_, fun hn => ?_⟩
  · cases q : s.cps[i]? with
    | none => rw [q] at hd; cases hd
    | some c =>
      rw [q] at hd
      have hd' : D.str ⟨#[c]⟩ = d := Option.some.inj hd
      subst hd'
      refine ⟨(Array.getElem?_eq_some_iff.mp q).1, fun x H'' ⟨y1, c', y2, y3⟩ => ?_⟩
      subst y1
      rw [q] at y2; cases y2
      subst y3
      exact ⟨g', GExt.refl _, w, .str _⟩
  · show s.cps.size ≤ i
    cases q : s.cps[i]? with
    | none => exact Array.getElem?_eq_none_iff.mp q
    | some c => rw [q] at hn; cases hn
section
variable {X : Cx} {W : WX} {e o tg : Expr} {fe fo : Ex} {apos pos : Pos}
theorem ji_str (he : JE X W e fe) : JI X W tg e (iStrE fe) :=
  ⟨piImp (pi_str he.run) fun σ H R ⟨g, S, ρ, w, rs, q⟩ => ⟨g, S, ρ, w, rs, PostI.of_bind q fun d S1 v g1 H1 _ e1 w1 r1 q1 => by
    cases d with
    | str s =>
      cases r1
      exact ⟨s, rfl, q1 _ g1 H1 (GExt.refl _) w1 its_ok⟩
    | _ => exact q1.elim⟩⟩
def eSplit (fo fe : Ex) : Ex := fun ρ S => (fo ρ S).bind fun d S1 => match d with
  | .str a => (fe ρ S1).bind fun d2 S2 => match d2 with
    | .str b => if (b.length == 0) = false ∧ a.length ≤ lim then .ok (.lst ((Txt.split a b).map D.str)) S2 else .bad
    | _ => .bad
  | _ => .bad
theorem strs_reps {K : PySem.W.Frag} {g : G} (l : List Str) : RepsG K g (l.map D.str) (l.map V.str) := by
  induction l with
  | nil => exact .nil
  | cons a l ih => exact .cons (.str a) ih
theorem je_split (ho : JE X W o fo) (he : JE X W e fe) (hs : starEach [e] X.env = [(false, eval e X.env)] := by rfl) (hbase : attributeBase o "split" X.env (eval o X.env) = eval o X.env := by rfl) (hline : (apos.endLine == pos.line) = true := by rfl) :
    JE X W (.Call (.Attribute o "split" apos) [e] [] pos) (eSplit fo fe) :=
  ⟨peImp (pe_split ho.run he.run hs hbase hline) fun σ H Q ⟨g, S, ρ, w, rs, q⟩ => ⟨g, S, ρ, w, rs, Post.of_bind q fun d S1 v g1 H1 _ e1 w1 r1 q1 => by
    cases d with
    | str a =>
      cases r1
      refine ⟨⟨a, rfl⟩, g1, S1, ρ, w1, rs.mono e1, Post.of_bind q1 fun d2 S2 v2 g2 H2 _ e2 w2 r2 q2 => ?_⟩
      cases d2 with
      | str b =>
        cases r2
        by_cases h : (b.length == 0) = false ∧ a.length ≤ lim
        · simp only [if_pos h] at q2
          refine ⟨a, b, rfl, rfl, h.1, ?_, fun p hp => ?_⟩
          · have := h.2
            have hl : lim = 1000000 := rfl
            rw [sizeLine_eq]; omega
          · obtain ⟨w3, e3⟩ := w2.add (o := .lst ((Txt.split a b).map V.str)) hp
            exact (q2.ext e3).val w3 (.lst upd_same (strs_reps _))
        · simp only [if_neg h] at q2; exact q2.elim
      | _ => exact q2.elim
    | _ => exact q1.elim⟩⟩
def strsOf : List D → Option (List Str)
  | [] => some []
  | .str s :: r => (match strsOf r with
    | some l => some (s :: l)
    | none => none)
  | _ :: _ => none
theorem strsOf_map (l : List Str) : strsOf (l.map D.str) = some l := by
  induction l with
  | nil => rfl
  | cons a l ih => show (match strsOf (l.map D.str) with | some m => some (a :: m) | none => none) = _; rw [ih]
theorem strsOf_reps {K : PySem.W.Frag} {g : G} : ∀ {l : List D} {ss : List Str} {xs : List V}, strsOf l = some ss → RepsG K g l xs → xs = ss.map V.str
  | [], ss, xs, h, r => by cases h; cases r; rfl
  | d :: l, ss, xs, h, r => by
    cases d with
    | str b =>
      have h' : (match strsOf l with | some m => some (b :: m) | none => none) = some ss := h
      cases q : strsOf l with
      | none => rw [q] at h'; cases h'
      | some m =>
        rw [q] at h'; cases h'
        cases r with
        | cons r1 r2 => cases r1; rw [strsOf_reps q r2]; rfl
    | _ => cases h
def eJoin (fo fe : Ex) : Ex := fun ρ S => (fo ρ S).bind fun d S1 => match d with
  | .str a => (fe ρ S1).bind fun d2 S2 => match d2 with
    | .lst l => (match strsOf l with
      | some ys => if (ys.map (·.length)).sum + ys.length * a.length ≤ 16777216 then .ok (.str (Txt.join a ys)) S2 else .bad
      | none => .bad)
    | _ => .bad
  | _ => .bad
theorem je_join (ho : JE X W o fo) (he : JE X W e fe) (hs : starEach [e] X.env = [(false, eval e X.env)] := by rfl) (hbase : attributeBase o "join" X.env (eval o X.env) = eval o X.env := by rfl) (hline : (apos.endLine == pos.line) = true := by rfl) :
    JE X W (.Call (.Attribute o "join" apos) [e] [] pos) (eJoin fo fe) :=
  ⟨peImp (pe_join ho.run he.run hs hbase hline) fun σ H Q ⟨g, S, ρ, w, rs, q⟩ => ⟨g, S, ρ, w, rs, Post.of_bind q fun d S1 v g1 H1 _ e1 w1 r1 q1 => by
    cases d with
    | str a =>
      cases r1
      refine ⟨⟨a, rfl⟩, g1, S1, ρ, w1, rs.mono e1, Post.of_bind q1 fun d2 S2 v2 g2 H2 _ e2 w2 r2 q2 => ?_⟩
      cases d2 with
      | lst l =>
        cases h : strsOf l with
        | none => simp only [h] at q2; exact q2.elim
        | some ys =>
          simp only [h] at q2
          by_cases z : (ys.map (·.length)).sum + ys.length * a.length ≤ 16777216
          · simp only [if_pos z] at q2
            cases r2 with
            | @lst p xs _ s rr =>
              have := strsOf_reps h rr
              subst this
              exact ⟨a, p, ys, rfl, rfl, .inl (SqL.of (w2.sub _ _ s)), z, q2.val w2 (.str _)⟩
          · simp only [if_neg z] at q2; exact q2.elim
      | _ => exact q2.elim
    | _ => exact q1.elim⟩⟩
def eRevNew (fe : Ex) : Ex := fun ρ S => (fe ρ S).bind fun d S1 => match d with
  | .lst l => .ok (.obj S1.length) (S1 ++ [.list l.reverse])
  | _ => .bad
theorem je_revNew {k : Nat} {p1 p2 p3 : Pos} (h : JE X W e fe) : JE X W (.Subscript e (.Slice none none (some (.UnaryOp .USub (.Constant (.int 1) k p1) p2)) p3) pos) (eRevNew fe) :=
  ⟨peImp (pe_revL h.run) fun σ H Q ⟨g, S, ρ, w, rs, q⟩ => ⟨g, S, ρ, w, rs, Post.of_bind q fun d S1 v g1 H1 _ e1 w1 r1 q1 => by
    cases d with
    | lst l =>
      cases r1 with
      | @lst a xs _ s r =>
        refine ⟨a, xs, rfl, SqL.of (w1.sub _ _ s), fun p hp => ?_⟩
        obtain ⟨w2, r2⟩ := w1.pushList hp (Reps.reverse r)
        exact Post.valE (d := .obj S1.length) (S := S1 ++ [.list l.reverse]) q1 (gext_obj g1 p) w2 r2
    | _ => exact q1.elim⟩⟩
def ePop (fo : Ex) : Ex := fun ρ S => (fo ρ S).bind fun d S1 => match d with
  | .obj n => (match S1[n]? with
    | some (.list l) => (match l[l.length - 1]? with
      | some y => .ok y (S1.set n (.list l.dropLast))
      | none => .bad)
    | _ => .bad)
  | _ => .bad
theorem je_pop (ho : JE X W o fo) (hbase : attributeBase o "pop" X.env (eval o X.env) = eval o X.env := by rfl) (hline : (apos.endLine == pos.line) = true := by rfl) :
    JE X W (.Call (.Attribute o "pop" apos) [] [] pos) (ePop fo) :=
  ⟨peImp (pe_bm0 PySem.F.plainAttrs_list PySem.F.slot_list_pop PySem.F.type_list_pop mt_pop ho.run hbase hline) fun σ H Q ⟨g, S, ρ, w, rs, q⟩ => ⟨g, S, ρ, w, rs, Post.of_bind q fun d S1 v g1 H1 _ e1 w1 r1 q1 => by
    cases d with
    | obj n =>
      cases e : S1[n]? with
      | none => simp only [e] at q1; exact q1.elim
      | some u =>
        cases u with
        | list l =>
          simp only [e] at q1
          obtain ⟨a, xs, h1, h2, h3, h4⟩ := w1.at_ n _ e
          cases r1 with
          | obj h5 =>
            rw [h1] at h5; cases h5
            cases hy : l[l.length - 1]? with
            | none => simp only [hy] at q1; exact q1.elim
            | some y =>
              simp only [hy] at q1
              obtain ⟨x, hx, rx⟩ := h4.get hy
              rw [h4.length] at hx
              exact ⟨.inl ⟨rfl, xs, SqL.of h3⟩, _, xs, x, rfl, rfl, h3, hx, q1 x g1 _ (GExt.refl _) (w1.write h2 ⟨a, xs.dropLast, h1, h2, upd_same, Reps.dropLast h4⟩) rx⟩
        | _ => simp only [e] at q1; exact q1.elim
    | _ => exact q1.elim⟩⟩
end
end Bt
namespace Bt
open PySem PySem.Spec PyProof.Rows L2
def tabD : List (Str × D) → Str → Option D
  | [], _ => none
  | (k, v) :: r, z => if k = z then some v else tabD r z
def eTIn (neg : Bool) (kvs : List (Str × D)) (fk : Ex) : Ex := fun ρ S => (fk ρ S).bind fun d S1 => match d with
  | .str z => .ok (.bl (if neg then !(tabD kvs z).isSome else (tabD kvs z).isSome)) S1
  | _ => .bad
end Bt
namespace Bt
open PySem PySem.Spec PyProof.Rows L2
def bStrT : Sto → D → Option D := fun _ x => match x with
  | .int i => if i.natAbs < 10 ^ 15 then some (.str (toString i)) else none
  | .str s => some (.str s)
  | _ => none
section
variable {X : Cx} {K : PySem.W.Frag}
theorem call_str_any : CallR X (.type "str") (fun xs H Q => (∃ i, xs = [.int i] ∧ i.natAbs.log2 < 1920 ∧ Q (.str (toString i)) H) ∨ ∃ a, xs = [.str a] ∧ Q (.str a) H) := by
  intro pins s σ H vs us Q I r h
  rcases h with h | h
  · exact call_str_int pins s σ H vs us Q I r h
  · exact SkE.call_str_str pins s σ H vs us Q I r h
theorem l_strT : LAr K (fun xs H Q => (∃ i : Int, xs = [V.int i] ∧ i.natAbs.log2 < 1920 ∧ Q (.str (toString i)) H) ∨ ∃ a, xs = [V.str a] ∧ Q (.str a) H) (f1 bStrT) := l_f1 <| by
  intro g S H x dx d Q w rx e k
  cases dx with
  | int i =>
    cases rx
    have e' : (if i.natAbs < 10 ^ 15 then some (D.str (toString i)) else none) = some d := e
    by_cases z : i.natAbs < 10 ^ 15
    · rw [if_pos z] at e'; cases e'
      refine .inl ⟨i, rfl, ?_, k _ g H (GExt.refl _) w (.str _)⟩
      by_cases h0 : i.natAbs = 0
      · rw [h0]; decide
      · have := (Nat.log2_lt h0).mpr (Nat.lt_trans z (by decide : 10 ^ 15 < 2 ^ 60))
        omega
    · rw [if_neg z] at e'; cases e'
  | str s => cases rx; cases e; exact .inr ⟨s, rfl, k _ g H (GExt.refl _) w (.str _)⟩
  | _ => cases e
def bIntS : Sto → D → Option D := fun _ x => match x with
  | .str s => if s.length ≤ 640 then (match intText? s with
    | some n => some (.int n)
    | none => none) else none
  | _ => none
theorem l_intS : LAr K (fun xs H Q => ∃ a n, xs = [V.str a] ∧ PySem.intText? a = some n ∧ a.length ≤ 640 ∧ Q (.int n) H) (f1 bIntS) := l_f1 <| by
  intro g S H x dx d Q w rx e k
  cases dx with
  | str s =>
    cases rx
    have e' : (if s.length ≤ 640 then (match intText? s with | some n => some (D.int n) | none => none) else none) = some d := e
    by_cases z : s.length ≤ 640
    · rw [if_pos z] at e'
      cases q : intText? s with
      | none => rw [q] at e'; cases e'
      | some n => rw [q] at e'; cases e'; exact ⟨s, n, rfl, q, z, k _ g H (GExt.refl _) w (.int _)⟩
    · rw [if_neg z] at e'; cases e'
  | _ => cases e
def unO (S : Sto) : D → D
  | .obj n => (match S[n]? with
    | some (.list l) => .lst l
    | _ => .obj n)
  | d => d
def opEqS : Sto → D → D → Option D := fun S x y => opEq S (unO S x) (unO S y)
def opNeS : Sto → D → D → Option D := fun S x y => opNe S (unO S x) (unO S y)
theorem unO_dp {g : G} {S : Sto} {H : Hp} {d : D} {v : V} (w : World K g S H) (r : RepG K g d v) (h : (unO S d).wf = true) : Dp K H v (unO S d).toP := by
  cases d with
  | obj n =>
    cases e : S[n]? with
    | none => unfold unO at h; simp only [e] at h; cases h
    | some u =>
      cases u with
      | list l =>
        have e2 : unO S (.obj n) = .lst l := by unfold unO; simp only [e]
        rw [e2] at h ⊢
        obtain ⟨a, xs, h1, h2, h3, h4⟩ := w.at_ n _ e
        cases r with
        | obj h5 =>
          rw [h1] at h5; cases h5
          exact .lst (SqL.of h3) (Reps.dp w.sub h h4)
      | _ => unfold unO at h; simp only [e] at h; cases h
  | _ => exact Rep.dp w.sub h r
theorem l_eqS : L2r X.K (rEqD X.K) opEqS := by
  intro g S H x y dx dy d Q w rx ry e k
  unfold opEqS opEq at e
  cases q : ((unO S dx).good && (unO S dy).good) with
  | false => rw [q] at e; cases e
  | true =>
    rw [q] at e; cases e
    have h' := Bool.and_eq_true_iff.mp q
    exact ⟨_, _, unO_dp w rx (good_wf h'.1), unO_dp w ry (good_wf h'.2), good_shaped h'.1, good_shaped h'.2, k _ g H (GExt.refl _) w (.bl _)⟩
theorem l_neS : L2r X.K (rNeD X.K) opNeS := by
  intro g S H x y dx dy d Q w rx ry e k
  unfold opNeS opNe at e
  cases q : ((unO S dx).good && (unO S dy).good) with
  | false => rw [q] at e; cases e
  | true =>
    rw [q] at e; cases e
    have h' := Bool.and_eq_true_iff.mp q
    exact ⟨_, _, unO_dp w rx (good_wf h'.1), unO_dp w ry (good_wf h'.2), good_shaped h'.1, good_shaped h'.2, k _ g H (GExt.refl _) w (.bl _)⟩
end
theorem MCal.imp {P : Program} {w : PySem.World} {K : PySem.W.Frag} {mg : Str → Option Value} {base : Heap} {c m : Str} {k : Nat} {F F' : Fn} (c0 : MCal P w K mg base c m k F) (h : ∀ g S H ds vs, World K g S H → RepsG K g ds vs → ∀ Q E, PostF K g Q E (F' ds S) → PostF K g Q E (F ds S)) : MCal P w K mg base c m k F' := by
  obtain ⟨f, fd, ps, h1, h2, h3, h4⟩ := c0.ex
  exact ⟨f, fd, ps, h1, h2, h3, h4.imp fun vs H Q E ⟨g, S, ds, w, r, q⟩ => ⟨g, S, ds, w, r, h g S H ds vs w r Q E q⟩⟩
theorem mcal_bad {P : Program} {w : PySem.World} {K : PySem.W.Frag} {mg : Str → Option Value} {base : Heap} {c m qual : Str} {st : Stmt} {N ps : List Str} {k : Nat} (D : MetAt K c m qual st) (S : FnScope N ps (defScope st))
    (hbd : ∀ (kV doc pm : Value) (an : Option Addr) (cdv ct : Value) (us : List Value), us.length = ps.length → bindArgs (PySem.W.fnOf m qual (defArgs st) (defBody st) (defScope st) .none kV doc pm an cdv ct) ⟨us, []⟩ = pure (ps.zip us)) : MCal P w K mg base c m (k + 1) (fun _ _ => .bad) :=
  (mcal_mk (k := k) D S hbd fun _ _ _ _ _ _ _ => jss_never).imp fun _ _ _ _ _ _ _ _ _ q => q.elim
end Bt
namespace Bt
open PySem PySem.Spec PyProof.Rows L2
abbrev c_FIGURES : D := .str "0123456789"
abbrev c_MOST_PARTS : D := .int 15
abbrev c_WORDS : D := .tup [.str "add", .str "sub", .str "mul", .str "less"]
noncomputable def F_is_worth : Fn := fnBody 1 1
    (sRet (eAnd (eIsT .int (eVar 0)) (eAnd (eNot (eIsT .bool (eVar 0))) (eChain opLe opLt (eC (.int 0)) (eVar 0) (eC c_SIZE)))))
noncomputable def G_is_worth : Fn := F_is_worth
noncomputable def F_left_of (rec : Fn) : Fn := fnBody 2 2
    (sSeq (sIf (eOr (eOp opLe (eVar 1) (eC (.int 0))) (eOr (eNot (eIsT .tuple (eVar 0))) (eOr (eOp opLt (eCallB (f1 bLen) (eCons (eVar 0) eNil)) (eC (.int 2))) (eNot (eIsT .str (eOp opIx (eVar 0) (eC (.int 0))))))))
    (sRet (eUn opNeg (eC (.int 1))))
    sSkip)
    (sSeq (sIf (eOp opEq (eOp opIx (eVar 0) (eC (.int 0))) (eC (.str "num")))
    (sRet (eIf (eAnd (eOp opEq (eCallB (f1 bLen) (eCons (eVar 0) eNil)) (eC (.int 2))) (eCall G_is_worth (eCons (eOp opIx (eVar 0) (eC (.int 1))) eNil))) (eOp opSub (eVar 1) (eC (.int 1))) (eUn opNeg (eC (.int 1)))))
    sSkip)
    (sSeq (sIf (eOp opEq (eOp opIx (eVar 0) (eC (.int 0))) (eC (.str "name")))
    (sRet (eIf (eAnd (eOp opEq (eCallB (f1 bLen) (eCons (eVar 0) eNil)) (eC (.int 2))) (eCall G_is_name (eCons (eOp opIx (eVar 0) (eC (.int 1))) eNil))) (eOp opSub (eVar 1) (eC (.int 1))) (eUn opNeg (eC (.int 1)))))
    sSkip)
    (sSeq (sIf (eAnd (eOp opEq (eOp opIx (eVar 0) (eC (.int 0))) (eC (.str "cell"))) (eOp opEq (eCallB (f1 bLen) (eCons (eVar 0) eNil)) (eC (.int 2))))
    (sRet (eCall rec (eCons (eOp opIx (eVar 0) (eC (.int 1))) (eCons (eOp opSub (eVar 1) (eC (.int 1))) eNil))))
    sSkip)
    (sSeq (sIf (eOr (eOp opNotIn (eOp opIx (eVar 0) (eC (.int 0))) (eC c_WORDS)) (eOp opNe (eCallB (f1 bLen) (eCons (eVar 0) eNil)) (eC (.int 3))))
    (sRet (eUn opNeg (eC (.int 1))))
    sSkip)
    (sRet (eCall rec (eCons (eOp opIx (eVar 0) (eC (.int 2))) (eCons (eCall rec (eCons (eOp opIx (eVar 0) (eC (.int 1))) (eCons (eOp opSub (eVar 1) (eC (.int 1))) eNil))) eNil)))))))))
noncomputable def G_left_of : Fn := recN F_left_of 20
noncomputable def F_is_sum : Fn := fnBody 1 1
    (sRet (eOp opGe (eCall G_left_of (eCons (eVar 0) (eCons (eC c_MOST_PARTS) eNil))) (eC (.int 0))))
noncomputable def G_is_sum : Fn := F_is_sum
noncomputable def F_Words___init__ : Fn := fnBody 2 2
    (sFldS "Words" "left" (eVar 0) (eRevNew (eSplit (eVar 1) (eC (.str " ")))))
noncomputable def G_Words___init__ : Fn := F_Words___init__
noncomputable def F_Words_word : Fn := fnBody 1 1
    (sSeq (sIf (eOp opEqS (eFld "Words" "left" (eVar 0)) (eLst eNil))
    (sRaise .text)
    sSkip)
    (sRet (ePop (eFld "Words" "left" (eVar 0)))))
noncomputable def G_Words_word : Fn := F_Words_word
noncomputable def F_Words_number : Fn := fnBody 1 3
    (sSeq (sSet 1 (eMCall "Words" "word" G_Words_word (eVar 0) eNil))
    (sSeq (sIf (eOr (eNot (eChain opLe opLe (eC (.int 1)) (eCallB (f1 bLen) (eCons (eVar 1) eNil)) (eC (.int 5)))) (eNot (eCallB (f1 bAll) (eCons (eComp [2] (iStrE (eVar 1)) (dN 2) eYes (eOp opIn (eVar 2) (eC c_FIGURES))) eNil))))
    (sRaise .text)
    sSkip)
    (sRet (eCallB (f1 bIntS) (eCons (eVar 1) eNil)))))
noncomputable def G_Words_number : Fn := F_Words_number
noncomputable def F_Words_sum_in (rec : Fn) : Fn := fnBody 2 4
    (sSeq (sIf (eOr (eOp opEqS (eFld "Words" "left" (eVar 0)) (eLst eNil)) (eOp opEq (eVar 1) (eC (.int 0))))
    (sRaise .text)
    sSkip)
    (sSeq (sIf (eAnd (eOp opNe (eSl (eOp opIx (eFld "Words" "left" (eVar 0)) (eUn opNeg (eC (.int 1)))) eNo (eInt (eC (.int 1)))) (eC (.str ""))) (eOp opIn (eSl (eOp opIx (eFld "Words" "left" (eVar 0)) (eUn opNeg (eC (.int 1)))) eNo (eInt (eC (.int 1)))) (eC c_FIGURES)))
    (sRet (eTup (eCons (eC (.str "num")) (eCons (eMCall "Words" "number" G_Words_number (eVar 0) eNil) eNil))))
    sSkip)
    (sSeq (sSet 2 (eMCall "Words" "word" G_Words_word (eVar 0) eNil))
    (sSeq (sIf (eOp opEq (eVar 2) (eC (.str "cell")))
    (sRet (eTup (eCons (eC (.str "cell")) (eCons (eMCall "Words" "sum_in" rec (eVar 0) (eCons (eOp opSub (eVar 1) (eC (.int 1))) eNil)) eNil))))
    sSkip)
    (sSeq (sIf (eOp opNotIn (eVar 2) (eC c_WORDS))
    (sRet (eTup (eCons (eC (.str "name")) (eCons (eVar 2) eNil))))
    sSkip)
    (sSeq (sSet 3 (eMCall "Words" "sum_in" rec (eVar 0) (eCons (eOp opSub (eVar 1) (eC (.int 1))) eNil)))
    (sRet (eTup (eCons (eVar 2) (eCons (eVar 3) (eCons (eMCall "Words" "sum_in" rec (eVar 0) (eCons (eOp opSub (eVar 1) (eC (.int 1))) eNil)) eNil)))))))))))
noncomputable def G_Words_sum_in : Fn := recN F_Words_sum_in 17
noncomputable def F_sum_words (rec : Fn) : Fn := fnBody 1 3
    (sSeq (sIf (eOp opIn (eOp opIx (eVar 0) (eC (.int 0))) (eTup (eCons (eC (.str "num")) (eCons (eC (.str "name")) eNil))))
    (sRet (eLst (eCons (eCallB (f1 bStrT) (eCons (eOp opIx (eVar 0) (eC (.int 1))) eNil)) eNil)))
    sSkip)
    (sSeq (sSet 1 (eLst (eCons (eOp opIx (eVar 0) (eC (.int 0))) eNil)))
    (sSeq (sFor (iTupl (eSl (eVar 0) (eInt (eC (.int 1))) eNo)) (dN 2)
    (sSet 1 (eOp opAdd (eVar 1) (eCall rec (eCons (eVar 2) eNil)))))
    (sRet (eVar 1)))))
noncomputable def G_sum_words : Fn := recN F_sum_words 20
noncomputable def F_written_sum : Fn := fnBody 1 1
    (sRet (eJoin (eC (.str " ")) (eCall G_sum_words (eCons (eVar 0) eNil))))
noncomputable def G_written_sum : Fn := F_written_sum
noncomputable def A_written_sum : Fn := spec G_written_sum
theorem sim_written_sum : SimF G_written_sum A_written_sum := sim_spec
noncomputable def F_read_sum : Fn := fnBody 1 3
    (sSeq (sSet 1 (eMake "Words" G_Words___init__ (eCons (eVar 0) eNil)))
    (sSeq (sSet 2 (eMCall "Words" "sum_in" G_Words_sum_in (eVar 1) (eCons (eC c_MOST_PARTS) eNil)))
    (sSeq (sIf (eOr (eOp opNeS (eFld "Words" "left" (eVar 1)) (eLst eNil)) (eOr (eNot (eCall G_is_sum (eCons (eVar 2) eNil))) (eOp opNe (eCall G_written_sum (eCons (eVar 2) eNil)) (eVar 0))))
    (sRaise .text)
    sSkip)
    (sRet (eVar 2)))))
noncomputable def G_read_sum : Fn := trunc F_read_sum
noncomputable def A_read_sum : Fn := spec G_read_sum
theorem sim_read_sum : SimF G_read_sum A_read_sum := sim_spec
end Bt
namespace Bt
open PySem PySem.Spec PyProof.Rows L2
theorem obsBT_eq {n : Nat} {fa : List He.Fa} {fn : List He.DefD} {ex : PySem.W.Frag → Bool} {ts : List (Str × List Str)} {g : Addr → Option Obj} {s : Shared} (h : ∀ a, g a = s.heap.get? a) : obsBT n fa fn ex ts g = (hookBT n fa fn ex ts).obs s := by
  have e : g = s.heap.get? := funext h
  subst e; rfl
theorem tab_at {K : PySem.W.Frag} {P : Params} {ts : List (Str × List Str)} (h : tabsK K ts = ts.map fun t => some (He.keysIn P t.2)) (i : Nat) {t : Str × List Str} (ht : ts[i]? = some t := by rfl) : He.dicW K (He.ga K t.1) = some (He.keysIn P t.2) := by
  unfold tabsK at h
  have e2 : (ts.map fun t => He.dicW K (He.ga K t.1))[i]? = (ts.map fun t => some (He.keysIn P t.2))[i]? := by rw [h]
  rw [List.getElem?_map, List.getElem?_map, ht] at e2
  exact Option.some.inj e2
theorem dicW_es {K : PySem.W.Frag} {a : Addr} {r : List (Option (Str × Int))} (h : He.dicW K a = some r) : ∃ es n sl, K.lookup a = some ⟨.type "dict", none, .dict es n, sl⟩ ∧ es.toList.map He.keyOf = r := by
  unfold He.dicW at h
  split at h
  · rename_i c es n sl q
    cases z : decide (c = "dict") && (sl.isEmpty && !(a == sysModules)) with
    | false => rw [z] at h; cases h
    | true =>
      rw [z] at h
      have z1 : c = "dict" := of_decide_eq_true (Bool.and_eq_true_iff.mp z).1
      subst z1
      exact ⟨es, n, sl, q, Option.some.inj h⟩
  · cases h
inductive DvP (K : PySem.W.Frag) : List (Str × D) → List (Str × He.Dv) → Prop
  | nil : DvP K [] []
  | str {k s : Str} {l : List (Str × D)} {m : List (Str × He.Dv)} : DvP K l m → DvP K ((k, .str s) :: l) ((k, .str s) :: m)
theorem DvP.get {K : PySem.W.Frag} {z : Str} {d : D} : ∀ {l : List (Str × D)} {m : List (Str × He.Dv)}, DvP K l m → tabD l z = some d → ∃ dv, (z, dv) ∈ m ∧ ∀ g : G, RepG K g d (dv.v K)
  | _, _, .nil, h => by cases h
  | _, _, .str (k := k) (s := s) (l := l) r, h => by
    have h' : (if k = z then some (D.str s) else tabD l z) = some d := h
    by_cases q : k = z
    · rw [if_pos q] at h'; cases h'
      exact ⟨_, by rw [q]; exact List.mem_cons_self, fun g => .str s⟩
    · rw [if_neg q] at h'
      obtain ⟨dv, h1, h2⟩ := r.get h'
      exact ⟨dv, List.mem_cons_of_mem _ h1, h2⟩
theorem tabD_none {z : Str} : ∀ {l : List (Str × D)}, tabD l z = none → z ∉ l.map (·.1)
  | [], _ => by simp
  | (k, v) :: l, h => by
    have h' : (if k = z then some v else tabD l z) = none := h
    by_cases q : k = z
    · rw [if_pos q] at h'; cases h'
    · rw [if_neg q] at h'
      intro hm
      rcases List.mem_cons.mp hm with e | e
      · exact q e.symm
      · exact tabD_none h' e
end Bt
namespace Bt
open PySem PySem.Spec PyProof.Rows L2
theorem mem_ex3 {e : Exc} (h : e ≠ .run) : e ∈ ex3 := by cases e <;> first | decide | exact absurd rfl h
theorem SayOk.m {K : PySem.W.Frag} {mg : Str → Option Value} (T : SayOk K mg) {e e' : Exc} (he : e ≠ .run) (he' : e' ≠ .run) : PySem.W.exmOne K (excV K e) (excV K e') = some (decide (e = e')) :=
  of_decide_eq_true (List.all_eq_true.mp (List.all_eq_true.mp T.b e (mem_ex3 he)) e' (mem_ex3 he'))
def findH : List (Exc × Str) → Exc → Option Str
  | [], _ => none
  | (e, s) :: r, k => if k = e then some s else findH r k
def sTryH (hs : List (Exc × Str)) (f : Sx) : Sx := fun ρ S => match f ρ S with
  | .exc k _ S' => (match findH hs k with | some s => .rt (.str s) S' | none => .bad)
  | r => r
section
variable {X : Cx} {W : WX}
theorem findH_run {k : Exc} {s : Str} : ∀ {l : List (Exc × Str)}, (∀ q ∈ l, q.1 ≠ .run) → findH l k = some s → k ≠ .run
  | [], _, h => by cases h
  | (e, s') :: r, hl, h => by
    unfold findH at h
    by_cases c : k = e
    · rw [c]; exact hl (e, s') List.mem_cons_self
    · rw [if_neg c] at h
      exact findH_run (fun q hq => hl q (List.mem_cons_of_mem _ hq)) h
theorem wMany_h {N : Ends} {g : G} {S : Sto} {k : Exc} {σ : L2.St} {H : Hp} (T : SayOk X.K X.mg) (w : World X.K g S H) : ∀ {l : List (Exc × Str)} {s : Str}, (∀ q ∈ l, q.1 ≠ .run) → findH l k = some s →
    N.rt (.str s) H → wMany X.K (fun _ _ _ _ => False) N (l.map fun q => (excV X.K q.1, fun _ _ _ => tRet (tC (.str q.2)))) (excV X.K k) none σ H
  | [], _, _, h, _ => by cases h
  | (e, s') :: r, s, hl, h, q => by
    have hk := findH_run hl h
    unfold findH at h
    refine ⟨decide (k = e), T.m hk (hl (e, s') List.mem_cons_self), fun hd a ha => ?_, fun hd => ?_⟩
    · rw [if_pos (of_decide_eq_true hd)] at h
      cases h
      exact q
    · rw [if_neg (of_decide_eq_false hd)] at h
      exact wMany_h T w (fun q hq => hl q (List.mem_cons_of_mem _ hq)) h q
theorem js_tryH {f : Sx} {body : List Stmt} {h₀ : ExceptHandler} {hds : List ExceptHandler} {l : List (Exc × Str)} {pos : Pos} (T : SayOk X.K X.mg)
    (hs : X.stack = X.env :: X.outer) (hf : X.env.frame = some X.env.locals) (tk0 : Takes X (fun _ _ _ _ => False))
    (hb : ∀ (W : WX) (pn : List (Addr × Obj)) (xe : Value → Shared → Prop), Takes (X.tr pn xe) W → JSs (X.tr pn xe) W body f) (hh : HdH X (h₀ :: hds) l) :
    JS X W (.Try body (h₀ :: hds) [] [] pos) (sTryH l f) :=
  ⟨psImp (ps_try_many (Wout := fun _ _ _ _ => False) (tb := fun W => tS X.K W f) hs hf tk0 (fun W pn xe tk _ => (hb W pn xe tk).run) (hh.ok T)) fun N σ H ⟨g, S, ρ, w, rs, q⟩ => ⟨g, S, ρ, w, rs, by
      unfold sTryH at q
      cases e : f ρ S with
      | nx ρ' S' => rw [e] at q; exact q
      | rt d S' => rw [e] at q; exact q
      | bk ρ' S' => rw [e] at q; exact q
      | ct ρ' S' => rw [e] at q; exact q
      | bad => rw [e] at q; exact q
      | exc k ρ' S' =>
        rw [e] at q
        simp only at q
        cases z : findH l k with
        | none => rw [z] at q; exact q.elim
        | some s =>
          rw [z] at q
          exact fun σ' g' H' x y z' => wMany_h T y hh.run z (q _ g' H' x y (.str _))⟩⟩
end
def tabF : List (Str × Str) → Str → Option Str
  | [], _ => none
  | (k, v) :: r, z => if k = z then some v else tabF r z
structure GlobF (K : PySem.W.Frag) (w : PySem.World) (mg : Str → Option Value) (x : Str) (fs : List (Str × Str)) : Prop where
  ex : ∃ a es n, mg x = some (.ref a) ∧ KDict K w a es n ∧ ∀ z : Str, match tabF fs z with
    | none => PySem.W.nsIn K a z = some none
    | some f => ∃ u, mg f = some u ∧ PySem.W.nsIn K a z = some (some u)
theorem keysF_none {z : Str} : ∀ {fs : List (Str × Str)}, (tabD (keysF fs) z).isSome = (tabF fs z).isSome
  | [] => rfl
  | (k, v) :: r => by
    show (if k = z then some D.non else tabD (keysF r) z).isSome = (if k = z then some v else tabF r z).isSome
    by_cases q : k = z
    · rw [if_pos q, if_pos q]; rfl
    · rw [if_neg q, if_neg q]; exact keysF_none
def fnOf : List (Str × Fn) → Str → Option Fn
  | [], _ => none
  | (k, v) :: r, z => if k = z then some v else fnOf r z
def eFCall (fns : List (Str × Fn)) (fk fa : Ex) : Ex := fun ρ S => (fk ρ S).bind fun d S1 => match d with
  | .str z => (match fnOf fns z with
    | some F => (fa ρ S1).bind fun t S2 => (match t with
      | .tup l => F l S2
      | _ => .bad)
    | none => .bad)
  | _ => .bad
/-- the functions of the table do what is told of them -/
inductive CalsF (P : Program) (w : PySem.World) (K : PySem.W.Frag) (mg : Str → Option Value) (base : Heap) (k : Nat) : List (Str × Str) → List (Str × Fn) → Prop
  | nil : CalsF P w K mg base k [] []
  | cons {z x : Str} {F : Fn} {j : Nat} {fs : List (Str × Str)} {fns : List (Str × Fn)} (c : Cal P w K mg base x j F) (hj : j ≤ k) (r : CalsF P w K mg base k fs fns) : CalsF P w K mg base k ((z, x) :: fs) ((z, F) :: fns)
theorem CalsF.get {P : Program} {w : PySem.World} {K : PySem.W.Frag} {mg : Str → Option Value} {base : Heap} {k : Nat} {z : Str} {F : Fn} : ∀ {fs : List (Str × Str)} {fns : List (Str × Fn)}, CalsF P w K mg base k fs fns → fnOf fns z = some F →
    ∃ x j, tabF fs z = some x ∧ j ≤ k ∧ Cal P w K mg base x j F
  | _, _, .nil, h => by cases h
  | _, _, .cons (z := z') (x := x) (F := F') (fs := fs) (fns := fns) c hj r, h => by
    have h' : (if z' = z then some F' else fnOf fns z) = some F := h
    by_cases q : z' = z
    · rw [if_pos q] at h'; cases h'
      exact ⟨x, _, by unfold tabF; rw [if_pos q], hj, c⟩
    · rw [if_neg q] at h'
      obtain ⟨x2, j, h1, h2⟩ := r.get h'
      exact ⟨x2, j, by unfold tabF; rw [if_neg q]; exact h1, h2⟩
section
variable {X : Cx} {W : WX} {e ek : Expr} {es : List Expr} {fe fk fa : Ex} {x : Str} {fs : List (Str × Str)} {fns : List (Str × Fn)} {k : Nat} {xpos pos1 pos : Pos}
theorem jt_fin (T : GlobF X.K X.w X.mg x fs) (he : JE X W e fe) (hg : Gl X x := by rfl) (hd : (x == ("__debug__" : Str)) = false := by decide) (hm : behindInMarks .In (.Name x xpos) = false := by rfl) : JT X W (.Compare e [.In] [.Name x xpos] pos) (eTIn false (keysF fs) fe) := by
  obtain ⟨a, es, n, h1, h2, h3⟩ := T.ex
  refine ⟨ptImp (pt_cmpR (op_in_kd h2) he.run (pe_glob (v := .ref a) hg h1 rfl hd) hm) fun σ H Q h => ?_⟩
  obtain ⟨g, S, ρ, w, rs, q⟩ := blT h
  refine ⟨g, S, ρ, w, rs, Post.of_bind q fun d S1 v g1 H1 _ e1 w1 r1 q1 => ?_⟩
  cases d with
  | str z =>
    cases r1
    have hz := h3 z
    have hk : ∃ r, PySem.W.nsIn X.K a z = some r ∧ r.isSome = (tabD (keysF fs) z).isSome := by
      rw [keysF_none]
      cases q : tabF fs z with
      | none => rw [q] at hz; exact ⟨none, hz, rfl⟩
      | some f => rw [q] at hz; obtain ⟨u, _, h⟩ := hz; exact ⟨some u, h, rfl⟩
    obtain ⟨r, hr, hs⟩ := hk
    refine ⟨z, r, rfl, rfl, hr, ?_⟩
    rw [hs]
    exact q1.val w1 (.bl _)
  | _ => exact q1.elim
theorem pe_callT {ef : Expr} {tf : TE} {t : TA} {E : L2.St → XK} (hf : PE X ef tf) (hr : Room k X.A) (hx : ∀ σ, PassesAt (L2.CX X.prog X.w) X σ (E σ)) (ha : PA X (e :: es) t)
    (ht : eval (.Call ef (e :: es) [] pos) X.env = (do callWith pos (← eval ef X.env) [] (backTo pos (starEach (e :: es) X.env)) (backToKw pos (keywordEach [] X.env))) := by rfl)
    (he : starEach (e :: es) X.env = (false, eval e X.env) :: starEach es X.env := by rfl) (hpl : (backTo pos (starEach es X.env)).any (·.1) = false := by rfl) :
    PE X (.Call ef (e :: es) [] pos) (fun σ H Q => tf σ H fun y H1 => ∃ (f : Addr) (fd : FuncData) (ps : List Str) (sp : Sp) (j : Nat), y = V.ref f ∧ PySem.W.keepIn X.K (.ref f) = true ∧ Binds X.K fd ps [] ∧ j ≤ k ∧ FnOk X.prog X.w X.K X.mg X.base (L2.CX X.prog X.w) j f fd ps sp ∧ t σ H1 fun vs H2 => sp vs H2 Q (E σ)) := by
  refine ⟨fun pins s σ H Q I h => ?_⟩
  refine Call_ (thn (hf.run pins s σ H _ I h) fun u s1 ⟨y, H1, I1, ry, f, fd, ps, sp, j, ey, hk, hb, hj, F, q⟩ => ?_) ht
  subst ey
  obtain rfl : u = Value.ref f := ry
  refine PySem.W.callWith_K (h₀ := X.base) I1.ok.mod.kin hk (thn (ha.run pos pins s1 σ H1 _ I1 q) fun us s2 ⟨vs, H2, I2, r, q2⟩ => ⟨I2.kIn, ?_⟩) he hpl
  exact run_fnS F (hr.mono hj) hb (hx σ) I2 r q2
theorem je_fcall (T : GlobF X.K X.w X.mg x fs) (cs : CalsF X.prog X.w X.K X.mg X.base k fs fns) (hr : Room k X.A) (tk : Takes X W) (hk : JE X W ek fk) (ha : JA X W (e :: es) fa) (hs : PlainIx ek := by exact fun _ _ => rfl)
    (hg : Gl X x := by rfl) (hd : (x == ("__debug__" : Str)) = false := by decide)
    (ht : eval (.Call (.Subscript (.Name x xpos) ek pos1) (e :: es) [] pos) X.env = (do callWith pos (← eval (.Subscript (.Name x xpos) ek pos1) X.env) [] (backTo pos (starEach (e :: es) X.env)) (backToKw pos (keywordEach [] X.env))) := by rfl)
    (he : starEach (e :: es) X.env = (false, eval e X.env) :: starEach es X.env := by rfl) (hpl : (backTo pos (starEach es X.env)).any (·.1) = false := by rfl) :
    JE X W (.Call (.Subscript (.Name x xpos) ek pos1) (e :: es) [] pos) (eFCall fns fk fa) := by
  obtain ⟨a, es', n, h1, h2, h3⟩ := T.ex
  refine ⟨peImp (pe_callT (E := WE W) (pe_ix ix_kdict (pe_glob (v := .ref a) hg h1 rfl hd) hk.run hs) hr (fun σ => passAt tk σ) ha.run ht he hpl) fun σ H Q ⟨g, S, ρ, w, rs, q⟩ => ⟨g, S, ρ, w, rs, Post.of_bind q fun d S1 v g1 H1 _ e1 w1 r1 q1 => ?_⟩⟩
  cases d with
  | str z =>
    cases r1
    cases hz : fnOf fns z with
    | none => simp only [hz] at q1; exact q1.elim
    | some F =>
      simp only [hz] at q1
      obtain ⟨y, j, t1, t2, c⟩ := cs.get hz
      have h4 := h3 z
      rw [t1] at h4
      obtain ⟨u, m1, m2⟩ := h4
      obtain ⟨f, fd, ps, c1, c2, c3, c4⟩ := c.ex
      rw [m1] at c1
      cases c1
      refine ⟨a, z, .ref f, rfl, rfl, ⟨es', n, .ref f, h2.at_, h2.lit, m2, rfl⟩, f, fd, ps, _, j, rfl, c2, c3, t2, c4, ?_⟩
      exact ⟨g1, S1, ρ, w1, rs.mono e1, Post.of_args (k := fun l S1 => F l S1) q1 fun l S2 vs g2 H2 _ e2 w2 r2 q2 => ⟨g2, S2, l, w2, r2, postF_of q2⟩⟩
  | _ => exact q1.elim
end
theorem glob_fun {K : PySem.W.Frag} {w : PySem.World} {mg : Str → Option Value} {x : Str} {fs : List (Str × Str)} (h : mg x = some (.ref (He.ga K x))) (hd : He.dicW K (He.ga K x) = some (He.keysIn w.params ((keysF fs).map (·.1))))
    (hv : He.valsB K (He.ga K x) (fs.map fun q => (q.1, He.Dv.glo q.2)) = true) (hg : ∀ q ∈ fs, mg q.2 = some (.ref (He.ga K q.2))) : GlobF K w mg x fs := by
  obtain ⟨es, n, D⟩ := He.dicW_ok hd
  refine ⟨_, es, n, h, D, fun z => ?_⟩
  have hm : ∀ {l : List (Str × Str)} {f : Str}, tabF l z = some f → (z, f) ∈ l := by
    intro l
    induction l with
    | nil => intro f h; cases h
    | cons q l ih =>
      obtain ⟨k, v⟩ := q
      intro f h
      have h' : (if k = z then some v else tabF l z) = some f := h
      by_cases c : k = z
      · rw [if_pos c] at h'; cases h'; rw [c]; exact List.mem_cons_self
      · rw [if_neg c] at h'; exact List.mem_cons_of_mem _ (ih h')
  cases q : tabF fs z with
  | some f =>
    have h1 := hm q
    obtain ⟨u, h3, h4⟩ := He.valsB_ok hv (List.mem_map_of_mem (f := fun q : Str × Str => (q.1, He.Dv.glo q.2)) h1)
    have h5 : u = .ref (He.ga K f) := h4
    exact ⟨u, by rw [h5]; exact hg _ h1, h3⟩
  | none =>
    show PySem.W.nsIn K (He.ga K x) z = some none
    obtain ⟨es', n', sl, e1, e2⟩ := dicW_es hd
    have hz : z ∉ (keysF fs).map (·.1) := tabD_none (by
      have := keysF_none (z := z) (fs := fs)
      rw [q] at this
      cases t : tabD (keysF fs) z with
      | none => rfl
      | some _ => rw [t] at this; cases this)
    have key : ∀ e ∈ es'.toList, ∃ k t, e.key = .str k t ∧ k ≠ z := fun e he => by
      have h5 : He.keyOf e ∈ He.keysIn w.params ((keysF fs).map (·.1)) := by rw [← e2]; exact List.mem_map_of_mem he
      obtain ⟨k, hk, h6⟩ := List.mem_map.mp h5
      unfold He.keyOf at h6
      split at h6
      · rename_i y t hy
        have h7 : k = y := congrArg Prod.fst (Option.some.inj h6)
        exact ⟨y, t, hy, fun e => hz (by rw [← e, ← h7]; exact hk)⟩
      · cases h6
    unfold PySem.W.nsIn
    rw [e1]
    have f1 : es'.toList.find? (fun e => e.key.isStr z) = none := by
      rw [List.find?_eq_none]
      intro e he
      obtain ⟨k, t, h1, h2⟩ := key e he
      rw [h1]
      simpa [Value.isStr] using h2
    have f2 : es'.toList.any (fun e => e.refKey) = false := by
      rw [List.any_eq_false]
      intro e he
      obtain ⟨k, t, h1, h2⟩ := key e he
      simp [DictEntry.refKey, h1]
    simp only [f1, f2]; rfl
end Bt
namespace Bt
open PySem PySem.Spec PyProof.Rows L2
theorem sim_sTryH {l : List (Exc × Str)} {f f' : Sx} (h : SimS f f') : SimS (sTryH l f) (sTryH l f') := fun ρ S T r => by
  have := h ρ S T r
  unfold sTryH
  cases e : f' ρ T with
  | nx ρ' T' => rw [e] at this; obtain ⟨S', e2, r2⟩ := this; rw [e2]; exact ⟨S', rfl, r2⟩
  | rt d T' => rw [e] at this; obtain ⟨S', e2, r2⟩ := this; rw [e2]; exact ⟨S', rfl, r2⟩
  | bk ρ' T' => rw [e] at this; obtain ⟨S', e2, r2⟩ := this; rw [e2]; exact ⟨S', rfl, r2⟩
  | ct ρ' T' => rw [e] at this; obtain ⟨S', e2, r2⟩ := this; rw [e2]; exact ⟨S', rfl, r2⟩
  | exc k ρ' T' =>
    rw [e] at this; obtain ⟨S', e2, r2⟩ := this; rw [e2]
    simp only
    cases findH l k with
    | none => trivial
    | some s => exact ⟨S', rfl, r2⟩
  | bad => exact trivial
section
variable {f f' g g' : Ex}
theorem sim_eSplit (hf : SimE f f') (hg : SimE g g') : SimE (eSplit f g) (eSplit f' g') := fun ρ S T r =>
  (hf ρ S T r).bind fun x S1 T1 r1 => by
    cases x with
    | str a =>
      exact (hg ρ S1 T1 r1).bind fun y S2 T2 r2 => by
        cases y with
        | str b =>
          simp only
          by_cases q : (b.length == 0) = false ∧ a.length ≤ lim
          · simp only [if_pos q]; exact ⟨S2, rfl, r2⟩
          · simp only [if_neg q]; trivial
        | _ => trivial
    | _ => trivial
theorem sim_eJoin (hf : SimE f f') (hg : SimE g g') : SimE (eJoin f g) (eJoin f' g') := fun ρ S T r =>
  (hf ρ S T r).bind fun x S1 T1 r1 => by
    cases x with
    | str a =>
      exact (hg ρ S1 T1 r1).bind fun y S2 T2 r2 => by
        cases y with
        | lst l =>
          simp only
          cases strsOf l with
          | none => trivial
          | some ys =>
            simp only
            by_cases q : (ys.map (·.length)).sum + ys.length * a.length ≤ 16777216
            · simp only [if_pos q]; exact ⟨S2, rfl, r2⟩
            · simp only [if_neg q]; trivial
        | _ => trivial
    | _ => trivial
theorem sim_eRevNew (hf : SimE f f') : SimE (eRevNew f) (eRevNew f') := fun ρ S T r =>
  (hf ρ S T r).bind fun x S1 T1 r1 => by
    cases x with
    | lst l => exact ⟨_, by rw [r1.len], r1.push (.same rfl)⟩
    | _ => trivial
theorem sim_ePop (hf : SimE f f') : SimE (ePop f) (ePop f') := fun ρ S T r =>
  (hf ρ S T r).bind fun x S1 T1 r1 => by
    cases x with
    | obj n =>
      simp only
      cases e : T1[n]? with
      | none => trivial
      | some o =>
        cases o with
        | list l =>
          rw [r1.plain e rfl]
          simp only
          cases l[l.length - 1]? with
          | none => trivial
          | some y => exact ⟨_, rfl, r1.set (.same rfl)⟩
        | _ => trivial
    | _ => trivial
theorem sim_iStrE (hf : SimE f f') : SimE (iStrE f) (iStrE f') := fun ρ S T r =>
  (hf ρ S T r).bind fun x S1 T1 r1 => by
    cases x with
    | str s => exact ⟨S1, rfl, r1⟩
    | _ => trivial
theorem sim_eTIn {neg : Bool} {kvs : List (Str × D)} (hf : SimE f f') : SimE (eTIn neg kvs f) (eTIn neg kvs f') := fun ρ S T r =>
  (hf ρ S T r).bind fun x S1 T1 r1 => by
    cases x with
    | str s => exact ⟨S1, rfl, r1⟩
    | _ => trivial
inductive SimFs : List (Str × Fn) → List (Str × Fn) → Prop
  | nil : SimFs [] []
  | cons {z : Str} {F A : Fn} {l m : List (Str × Fn)} (h : SimF F A) (r : SimFs l m) : SimFs ((z, F) :: l) ((z, A) :: m)
theorem SimFs.get {z : Str} {A : Fn} : ∀ {l m : List (Str × Fn)}, SimFs l m → fnOf m z = some A → ∃ F, fnOf l z = some F ∧ SimF F A
  | _, _, .nil, h => by cases h
  | _, _, .cons (z := z') (F := F') (A := A') (l := l) (m := m) h0 r, h => by
    have h' : (if z' = z then some A' else fnOf m z) = some A := h
    by_cases q : z' = z
    · rw [if_pos q] at h'; cases h'
      exact ⟨F', by unfold fnOf; rw [if_pos q], h0⟩
    · rw [if_neg q] at h'
      obtain ⟨F, h1, h2⟩ := r.get h'
      exact ⟨F, by unfold fnOf; rw [if_neg q]; exact h1, h2⟩
theorem sim_eFCall {l m : List (Str × Fn)} (h : SimFs l m) (hf : SimE f f') (hg : SimE g g') : SimE (eFCall l f g) (eFCall m f' g') := fun ρ S T r =>
  (hf ρ S T r).bind fun x S1 T1 r1 => by
    cases x with
    | str z =>
      simp only
      cases e : fnOf m z with
      | none => trivial
      | some A =>
        obtain ⟨F, h1, h2⟩ := h.get e
        rw [h1]
        simp only
        exact (hg ρ S1 T1 r1).bind fun y S2 T2 r2 => by
          cases y with
          | tup a => exact h2 a S2 T2 r2
          | _ => trivial
    | _ => trivial
end
theorem so_bIntS : SimU bIntS := fun _ _ _ _ _ h => h
theorem unO_rel {S T : Sto} (r : RelS S T) {x : D} (h : (unO T x).good = true) : unO S x = unO T x := by
  cases x with
  | obj n =>
    have h' : (match T[n]? with | some (.list l) => D.lst l | _ => D.obj n).good = true := h
    show (match S[n]? with | some (.list l) => D.lst l | _ => D.obj n) = (match T[n]? with | some (.list l) => D.lst l | _ => D.obj n)
    cases e : T[n]? with
    | none => rw [e] at h'; cases h'
    | some o =>
      cases o with
      | list l => rw [r.plain e rfl]
      | _ => rw [e] at h'; cases h'
  | _ => rfl
theorem opEq_good {S : Sto} {x y d : D} (h : opEq S x y = some d) : x.good = true ∧ y.good = true := by
  unfold opEq at h
  cases q : (x.good && y.good) with
  | true => exact Bool.and_eq_true_iff.mp q
  | false => rw [q] at h; cases h
theorem so_opEqS : SimO opEqS := fun S T x y d r e => by
  have g := opEq_good (show opEq T (unO T x) (unO T y) = some d from e)
  show opEq S (unO S x) (unO S y) = some d
  rw [unO_rel r g.1, unO_rel r g.2]
  exact e
end Bt
namespace Bt
open PySem PySem.Spec PyProof.Rows L2
abbrev c_LETTERS : D := .str "abcdefghijklmnopqrstuvwxyz"
noncomputable def F_Desk___init__ : Fn := fnBody 4 4
    (sSeq (sFldS "Desk" "tape" (eVar 0) (eMake "Tape" G_Tape___init__ (eCons (eVar 1) (eCons (eVar 2) (eCons (eC (.int 4)) (eCons (eVar 3) eNil))))))
    (sFldS "Desk" "kept" (eVar 0) eLDNew))
noncomputable def G_Desk___init__ : Fn := F_Desk___init__
noncomputable def A_Desk___init__ : Fn := hide (fnBody 4 4
    (sSeq (sFldS "Desk" "tape" (eVar 0) (eTMake (eCons (eVar 1) (eCons (eVar 2) (eCons (eC (.int 4)) (eCons (eVar 3) eNil)))))) (sFldS "Desk" "kept" (eVar 0) eLDNew)))
theorem sim_Desk___init__ : SimF G_Desk___init__ A_Desk___init__ := by
  unfold A_Desk___init__
  rw [hide_eq]
  exact sim_fnBody (sim_sSeq (sim_sFldS sim_eVar (sim_eTMake (sim_eCons sim_eVar (sim_eCons sim_eVar (sim_eCons sim_eC (sim_eCons sim_eVar sim_eNil)))))) (sim_sFldS sim_eVar sim_eLDNew))
noncomputable def F_Desk_where : Fn := fnBody 1 1
    (sRet (eOp opAdd (eOp opAdd (eOp opAdd (eC (.str "at ")) (eCallB (f1 bStr) (eCons (eMCall "Tape" "moment" G_Tape_moment (eFld "Desk" "tape" (eVar 0)) eNil) eNil))) (eC (.str " row "))) (eCallB (f1 bStr) (eCons (eOp opIx (eMCall "Tape" "state" G_Tape_state (eFld "Desk" "tape" (eVar 0)) eNil) (eC (.int 0))) eNil))))
noncomputable def G_Desk_where : Fn := F_Desk_where
noncomputable def A_Desk_where : Fn := hide (fnBody 1 1
    (sRet (eOp opAdd (eOp opAdd (eOp opAdd (eC (.str "at ")) (eCallB (f1 bStr) (eCons (eT A_Tape_moment (eFld "Desk" "tape" (eVar 0)) eNil) eNil))) (eC (.str " row "))) (eCallB (f1 bStr) (eCons (eOp opIx (eT A_Tape_state (eFld "Desk" "tape" (eVar 0)) eNil) (eC (.int 0))) eNil)))))
theorem sim_Desk_where : SimF G_Desk_where A_Desk_where := by
  unfold A_Desk_where
  rw [hide_eq]
  exact sim_fnBody (sim_sRet (sim_eOp so_opAdd (sim_eOp so_opAdd (sim_eOp so_opAdd sim_eC (sim_eCallB (so_f1 so_bStr) (sim_eCons (sim_eT (fun _ => tg_moment) sim_Tape_moment (sim_eFld sim_eVar) sim_eNil) sim_eNil))) sim_eC) (sim_eCallB (so_f1 so_bStr) (sim_eCons (sim_eOp so_opIx (sim_eT (fun _ => tg_state) sim_Tape_state (sim_eFld sim_eVar) sim_eNil) sim_eC) sim_eNil))))
noncomputable def F_reasonsU : Fn := fnBody 3 7
    (sSeq (sSet 3 (eCall G_reads_of (eCons (eVar 2) (eCons (eMCall "Tape" "at" G_Tape_at (eVar 0) (eCons (eVar 1) eNil)) eNil))))
    (sSeq (sSet 4 (eNew eNil))
    (sSeq (whileN (eAnd (eOp opGt (eVar 1) (eC (.int 0))) (eOp opNe (eVar 3) (eLst eNil)))
    (sSeq (sSet 5 (eCall G_thing_written (eCons (eVar 0) (eCons (eVar 1) eNil))))
    (sSeq (sIf (eAnd (eIsN true (eVar 5)) (eOp opIn (eVar 5) (eVar 3)))
    (sSeq (sExpr (eMeth isSeqD mApp (eVar 4) (eVar 1)))
    (sSet 3 (eOp opAdd (eComp [6] (iLst (eVar 3)) (dN 6) (eOp opNe (eVar 6) (eVar 5)) (eVar 6)) (eCall G_step_reads (eCons (eVar 0) (eCons (eVar 1) eNil))))))
    sSkip)
    (sSet 1 (eOp opSub (eVar 1) (eC (.int 1)))))) 100000)
    (sIce 4 (sRet (eRev (eVar 4)))))))
noncomputable def G_reasonsU : Fn := F_reasonsU
noncomputable def A_reasonsU : Fn := hide (fnBody 3 7
    (sSeq (sSet 3 (eCall A_reads_of (eCons (eVar 2) (eCons (eT A_Tape_at (eVar 0) (eCons (eVar 1) eNil)) eNil))))
    (sSeq (sSet 4 (eNew eNil))
    (sSeq (whileN (eAnd (eOp opGt (eVar 1) (eC (.int 0))) (eOp opNe (eVar 3) (eLst eNil)))
    (sSeq (sSet 5 (eCall A_thing_written (eCons (eVar 0) (eCons (eVar 1) eNil))))
    (sSeq
    (sIf (eAnd (eIsN true (eVar 5)) (eOp opIn (eVar 5) (eVar 3)))
    (sSeq (sExpr (eMeth isSeqD mApp (eVar 4) (eVar 1))) (sSet 3 (eOp opAdd (eComp [6] (iLst (eVar 3)) (dN 6) (eOp opNe (eVar 6) (eVar 5)) (eVar 6)) (eCall A_step_reads (eCons (eVar 0) (eCons (eVar 1) eNil)))))) sSkip) (sSet 1 (eOp opSub (eVar 1) (eC (.int 1)))))) 100000) (sIce 4 (sRet (eRev (eVar 4))))))))
theorem sim_reasonsU : SimF G_reasonsU A_reasonsU := by
  unfold A_reasonsU
  rw [hide_eq]
  exact sim_fnBody (sim_sSeq (sim_sSet (sim_eCall sim_reads_of (sim_eCons sim_eVar (sim_eCons (sim_eT (fun _ => tg_at) sim_Tape_at sim_eVar (sim_eCons sim_eVar sim_eNil)) sim_eNil)))) (sim_sSeq (sim_sSet (sim_eNew sim_eNil)) (sim_sSeq (sim_whileN (sim_eAnd (sim_eOp so_opGt sim_eVar sim_eC) (sim_eOp so_opNe sim_eVar (sim_eLst sim_eNil))) (sim_sSeq (sim_sSet (sim_eCall sim_thing_written (sim_eCons sim_eVar (sim_eCons sim_eVar sim_eNil)))) (sim_sSeq (sim_sIf (sim_eAnd (sim_eIsN sim_eVar) (sim_eOp so_opIn sim_eVar sim_eVar)) (sim_sSeq (sim_sExpr (sim_eMeth so_isSeqD so_mApp sim_eVar sim_eVar)) (sim_sSet (sim_eOp so_opAdd (sim_eComp (sim_iLst sim_eVar) (sim_eOp so_opNe sim_eVar sim_eVar) sim_eVar) (sim_eCall sim_step_reads (sim_eCons sim_eVar (sim_eCons sim_eVar sim_eNil)))))) sim_sSkip) (sim_sSet (sim_eOp so_opSub sim_eVar sim_eC))))) (sim_sIce (sim_sRet (sim_eRev sim_eVar))))))
noncomputable def F_Desk_by_sum : Fn := fnBody 3 6
    (sSeq (sSet 3 (eMCall "Tape" "moment" G_Tape_moment (eFld "Desk" "tape" (eVar 0)) eNil))
    (sSeq (sIf (eOp opEq (eVar 1) (eC (.str "worth")))
    (sRet (eCallB (f1 bStr) (eCons (eCall G_sum_at (eCons (eFld "Desk" "tape" (eVar 0)) (eCons (eVar 3) (eCons (eVar 2) eNil)))) eNil)))
    sSkip)
    (sSeq (sIf (eOp opEq (eVar 1) (eC (.str "why")))
    (sRet (eJoin (eC (.str " ")) (eOp opAdd (eLst (eCons (eC (.str "by")) eNil)) (eComp [5] (iLst (eCall G_reasonsU (eCons (eFld "Desk" "tape" (eVar 0)) (eCons (eVar 3) (eCons (eVar 2) eNil))))) (dN 5) eYes (eCallB (f1 bStr) (eCons (eVar 5) eNil))))))
    sSkip)
    (sSeq (sSet 4 (eCall G_next_so (eCons (eFld "Desk" "tape" (eVar 0)) (eCons (eVar 3) (eCons (eVar 2) eNil)))))
    (sSeq (sIf (eIsN false (eVar 4))
    (sRet (eC (.str "never")))
    sSkip)
    (sSeq (sExpr (eMCall "Tape" "to" G_Tape_to (eFld "Desk" "tape" (eVar 0)) (eCons (eVar 4) eNil)))
    (sRet (eMCall "Desk" "where" G_Desk_where (eVar 0) eNil))))))))
noncomputable def G_Desk_by_sum : Fn := F_Desk_by_sum
noncomputable def A_Desk_by_sum : Fn := hide (fnBody 3 6
    (sSeq (sSet 3 (eT A_Tape_moment (eFld "Desk" "tape" (eVar 0)) eNil))
    (sSeq
    (sIf (eOp opEq (eVar 1) (eC (.str "worth"))) (sRet (eCallB (f1 bStr) (eCons (eCall A_sum_at (eCons (eFld "Desk" "tape" (eVar 0)) (eCons (eVar 3) (eCons (eVar 2) eNil)))) eNil))) sSkip)
    (sSeq
    (sIf (eOp opEq (eVar 1) (eC (.str "why"))) (sRet (eJoin (eC (.str " ")) (eOp opAdd (eLst (eCons (eC (.str "by")) eNil)) (eComp [5] (iLst (eCall A_reasonsU (eCons (eFld "Desk" "tape" (eVar 0)) (eCons (eVar 3) (eCons (eVar 2) eNil))))) (dN 5) eYes (eCallB (f1 bStr) (eCons (eVar 5) eNil)))))) sSkip)
    (sSeq (sSet 4 (eCall A_next_so (eCons (eFld "Desk" "tape" (eVar 0)) (eCons (eVar 3) (eCons (eVar 2) eNil)))))
    (sSeq
    (sIf (eIsN false (eVar 4)) (sRet (eC (.str "never"))) sSkip)
    (sSeq (sExpr (eT A_Tape_to (eFld "Desk" "tape" (eVar 0)) (eCons (eVar 4) eNil))) (sRet (eMCall "Desk" "where" A_Desk_where (eVar 0) eNil)))))))))
theorem sim_Desk_by_sum : SimF G_Desk_by_sum A_Desk_by_sum := by
  unfold A_Desk_by_sum
  rw [hide_eq]
  exact sim_fnBody (sim_sSeq (sim_sSet (sim_eT (fun _ => tg_moment) sim_Tape_moment (sim_eFld sim_eVar) sim_eNil)) (sim_sSeq (sim_sIf (sim_eOp so_opEq sim_eVar sim_eC) (sim_sRet (sim_eCallB (so_f1 so_bStr) (sim_eCons (sim_eCall sim_sum_at (sim_eCons (sim_eFld sim_eVar) (sim_eCons sim_eVar (sim_eCons sim_eVar sim_eNil)))) sim_eNil))) sim_sSkip) (sim_sSeq (sim_sIf (sim_eOp so_opEq sim_eVar sim_eC) (sim_sRet (sim_eJoin sim_eC (sim_eOp so_opAdd (sim_eLst (sim_eCons sim_eC sim_eNil)) (sim_eComp (sim_iLst (sim_eCall sim_reasonsU (sim_eCons (sim_eFld sim_eVar) (sim_eCons sim_eVar (sim_eCons sim_eVar sim_eNil))))) sim_eYes (sim_eCallB (so_f1 so_bStr) (sim_eCons sim_eVar sim_eNil)))))) sim_sSkip) (sim_sSeq (sim_sSet (sim_eCall sim_next_so (sim_eCons (sim_eFld sim_eVar) (sim_eCons sim_eVar (sim_eCons sim_eVar sim_eNil))))) (sim_sSeq (sim_sIf (sim_eIsN sim_eVar) (sim_sRet sim_eC) sim_sSkip) (sim_sSeq (sim_sExpr (sim_eT (fun _ => tg_to) sim_Tape_to (sim_eFld sim_eVar) (sim_eCons sim_eVar sim_eNil))) (sim_sRet (sim_eMCall sim_Desk_where sim_eVar sim_eNil))))))))
noncomputable def A_Words___init__ : Fn := hide (fnBody 2 2
    (sFldS "Words" "left" (eVar 0) (eRevNew (eSplit (eVar 1) (eC (.str " "))))))
theorem sim_Words___init__ : SimF G_Words___init__ A_Words___init__ := by
  unfold A_Words___init__
  rw [hide_eq]
  exact sim_fnBody (sim_sFldS sim_eVar (sim_eRevNew (sim_eSplit sim_eVar sim_eC)))
noncomputable def A_Words_word : Fn := hide (fnBody 1 1
    (sSeq
    (sIf (eOp opEqS (eFld "Words" "left" (eVar 0)) (eLst eNil)) (sRaise .text) sSkip) (sRet (ePop (eFld "Words" "left" (eVar 0))))))
theorem sim_Words_word : SimF G_Words_word A_Words_word := by
  unfold A_Words_word
  rw [hide_eq]
  exact sim_fnBody (sim_sSeq (sim_sIf (sim_eOp so_opEqS (sim_eFld sim_eVar) (sim_eLst sim_eNil)) sim_sRaise sim_sSkip) (sim_sRet (sim_ePop (sim_eFld sim_eVar))))
noncomputable def A_Words_number : Fn := hide (fnBody 1 3
    (sSeq (sSet 1 (eMCall "Words" "word" A_Words_word (eVar 0) eNil))
    (sSeq
    (sIf (eOr (eNot (eChain opLe opLe (eC (.int 1)) (eCallB (f1 bLen) (eCons (eVar 1) eNil)) (eC (.int 5)))) (eNot (eCallB (f1 bAll) (eCons (eComp [2] (iStrE (eVar 1)) (dN 2) eYes (eOp opIn (eVar 2) (eC c_FIGURES))) eNil)))) (sRaise .text) sSkip) (sRet (eCallB (f1 bIntS) (eCons (eVar 1) eNil))))))
theorem sim_Words_number : SimF G_Words_number A_Words_number := by
  unfold A_Words_number
  rw [hide_eq]
  exact sim_fnBody (sim_sSeq (sim_sSet (sim_eMCall sim_Words_word sim_eVar sim_eNil)) (sim_sSeq (sim_sIf (sim_eOr (sim_eNot (sim_eChain so_opLe so_opLe sim_eC (sim_eCallB (so_f1 so_bLen) (sim_eCons sim_eVar sim_eNil)) sim_eC)) (sim_eNot (sim_eCallB (so_f1 so_bAll) (sim_eCons (sim_eComp (sim_iStrE sim_eVar) sim_eYes (sim_eOp so_opIn sim_eVar sim_eC)) sim_eNil)))) sim_sRaise sim_sSkip) (sim_sRet (sim_eCallB (so_f1 so_bIntS) (sim_eCons sim_eVar sim_eNil)))))
noncomputable def F_is_mark : Fn := fnBody 1 2
    (sRet (eAnd (eChain opLe opLe (eC (.int 1)) (eCallB (f1 bLen) (eCons (eVar 0) eNil)) (eC (.int 6))) (eCallB (f1 bAll) (eCons (eComp [1] (iStrE (eVar 0)) (dN 1) eYes (eOp opIn (eVar 1) (eC c_LETTERS))) eNil))))
noncomputable def G_is_mark : Fn := F_is_mark
noncomputable def A_is_mark : Fn := spec G_is_mark
theorem sim_is_mark : SimF G_is_mark A_is_mark := sim_spec
noncomputable def F_thing_in : Fn := fnBody 1 2
    (sRet (eIf (eOp opIn (eVar 0) (eComp [1] (iRange1 (eC c_CELLS)) (dN 1) eYes (eCallB (f1 bStr) (eCons (eVar 1) eNil)))) (eCallB (f1 bIntS) (eCons (eVar 0) eNil)) (eVar 0)))
noncomputable def G_thing_in : Fn := F_thing_in
noncomputable def A_thing_in : Fn := spec G_thing_in
theorem sim_thing_in : SimF G_thing_in A_thing_in := sim_spec
noncomputable def F_Desk_with_more : Fn := fnBody 3 5
    (sSeq (sIf (eOp opIn (eVar 1) (eTup (eCons (eC (.str "worth")) (eCons (eC (.str "until")) (eCons (eC (.str "why")) eNil)))))
    (sRet (eMCall "Desk" "by_sum" G_Desk_by_sum (eVar 0) (eCons (eVar 1) (eCons (eCall G_read_sum (eCons (eJoin (eC (.str " ")) (eVar 2)) eNil)) eNil))))
    sSkip)
    (sSeq (sIf (eOr (eOp opNe (eCallB (f1 bLen) (eCons (eVar 2) eNil)) (eC (.int 1))) (eOp opEq (eOp opIx (eVar 2) (eC (.int 0))) (eC (.str ""))))
    (sRaise .text)
    sSkip)
    (sSeq (sIf (eOp opEq (eVar 1) (eC (.str "last")))
    (sSeq (sSet 3 (eCall G_last_change (eCons (eFld "Desk" "tape" (eVar 0)) (eCons (eMCall "Tape" "moment" G_Tape_moment (eFld "Desk" "tape" (eVar 0)) eNil) (eCons (eCall G_thing_in (eCons (eOp opIx (eVar 2) (eC (.int 0))) eNil)) eNil)))))
    (sRet (eIf (eIsN false (eVar 3)) (eC (.str "never")) (eCallB (f1 bStr) (eCons (eVar 3) eNil)))))
    sSkip)
    (sSeq (sIf (eAnd (eOp opEq (eVar 1) (eC (.str "mark"))) (eCall G_is_mark (eCons (eOp opIx (eVar 2) (eC (.int 0))) eNil)))
    (sSeq (sLDPut (eFld "Desk" "kept" (eVar 0)) (eOp opIx (eVar 2) (eC (.int 0))) (eMCall "Tape" "moment" G_Tape_moment (eFld "Desk" "tape" (eVar 0)) eNil))
    (sRet (eC (.str "marked"))))
    sSkip)
    (sSeq (sIf (eAnd (eOp opEq (eVar 1) (eC (.str "to"))) (eLDIn false (eOp opIx (eVar 2) (eC (.int 0))) (eFld "Desk" "kept" (eVar 0))))
    (sSeq (sExpr (eMCall "Tape" "to" G_Tape_to (eFld "Desk" "tape" (eVar 0)) (eCons (eLDIx (eFld "Desk" "kept" (eVar 0)) (eOp opIx (eVar 2) (eC (.int 0)))) eNil)))
    (sRet (eMCall "Desk" "where" G_Desk_where (eVar 0) eNil)))
    sSkip)
    (sSeq (sIf (eOp opNotIn (eVar 1) (eTup (eCons (eC (.str "go")) (eCons (eC (.str "back")) (eCons (eC (.str "to")) eNil)))))
    (sRaise .text)
    sSkip)
    (sSeq (sSet 4 (eMCall "Words" "number" G_Words_number (eMake "Words" G_Words___init__ (eCons (eOp opIx (eVar 2) (eC (.int 0))) eNil)) eNil))
    (sSeq (sIf (eOp opEq (eVar 1) (eC (.str "to")))
    (sExpr (eMCall "Tape" "to" G_Tape_to (eFld "Desk" "tape" (eVar 0)) (eCons (eVar 4) eNil)))
    (sIf (eOp opEq (eVar 1) (eC (.str "go")))
    (sExpr (eMCall "Tape" "go" G_Tape_go (eFld "Desk" "tape" (eVar 0)) (eCons (eVar 4) eNil)))
    (sExpr (eMCall "Tape" "back" G_Tape_back (eFld "Desk" "tape" (eVar 0)) (eCons (eVar 4) eNil)))))
    (sRet (eMCall "Desk" "where" G_Desk_where (eVar 0) eNil))))))))))
noncomputable def G_Desk_with_more : Fn := F_Desk_with_more
noncomputable def A_Desk_with_more : Fn := hide (fnBody 3 5
    (sSeq
    (sIf (eOp opIn (eVar 1) (eTup (eCons (eC (.str "worth")) (eCons (eC (.str "until")) (eCons (eC (.str "why")) eNil))))) (sRet (eMCall "Desk" "by_sum" A_Desk_by_sum (eVar 0) (eCons (eVar 1) (eCons (eCall A_read_sum (eCons (eJoin (eC (.str " ")) (eVar 2)) eNil)) eNil)))) sSkip)
    (sSeq
    (sIf (eOr (eOp opNe (eCallB (f1 bLen) (eCons (eVar 2) eNil)) (eC (.int 1))) (eOp opEq (eOp opIx (eVar 2) (eC (.int 0))) (eC (.str "")))) (sRaise .text) sSkip)
    (sSeq
    (sIf (eOp opEq (eVar 1) (eC (.str "last")))
    (sSeq (sSet 3 (eCall A_last_change (eCons (eFld "Desk" "tape" (eVar 0)) (eCons (eT A_Tape_moment (eFld "Desk" "tape" (eVar 0)) eNil) (eCons (eCall A_thing_in (eCons (eOp opIx (eVar 2) (eC (.int 0))) eNil)) eNil))))) (sRet (eIf (eIsN false (eVar 3)) (eC (.str "never")) (eCallB (f1 bStr) (eCons (eVar 3) eNil))))) sSkip)
    (sSeq
    (sIf (eAnd (eOp opEq (eVar 1) (eC (.str "mark"))) (eCall A_is_mark (eCons (eOp opIx (eVar 2) (eC (.int 0))) eNil)))
    (sSeq (sLDPut (eFld "Desk" "kept" (eVar 0)) (eOp opIx (eVar 2) (eC (.int 0))) (eT A_Tape_moment (eFld "Desk" "tape" (eVar 0)) eNil)) (sRet (eC (.str "marked")))) sSkip)
    (sSeq
    (sIf (eAnd (eOp opEq (eVar 1) (eC (.str "to"))) (eLDIn false (eOp opIx (eVar 2) (eC (.int 0))) (eFld "Desk" "kept" (eVar 0))))
    (sSeq (sExpr (eT A_Tape_to (eFld "Desk" "tape" (eVar 0)) (eCons (eLDIx (eFld "Desk" "kept" (eVar 0)) (eOp opIx (eVar 2) (eC (.int 0)))) eNil))) (sRet (eMCall "Desk" "where" A_Desk_where (eVar 0) eNil))) sSkip)
    (sSeq
    (sIf (eOp opNotIn (eVar 1) (eTup (eCons (eC (.str "go")) (eCons (eC (.str "back")) (eCons (eC (.str "to")) eNil))))) (sRaise .text) sSkip)
    (sSeq (sSet 4 (eMCall "Words" "number" A_Words_number (eMake "Words" A_Words___init__ (eCons (eOp opIx (eVar 2) (eC (.int 0))) eNil)) eNil))
    (sSeq
    (sIf (eOp opEq (eVar 1) (eC (.str "to"))) (sExpr (eT A_Tape_to (eFld "Desk" "tape" (eVar 0)) (eCons (eVar 4) eNil)))
    (sIf (eOp opEq (eVar 1) (eC (.str "go"))) (sExpr (eT A_Tape_go (eFld "Desk" "tape" (eVar 0)) (eCons (eVar 4) eNil))) (sExpr (eT A_Tape_back (eFld "Desk" "tape" (eVar 0)) (eCons (eVar 4) eNil))))) (sRet (eMCall "Desk" "where" A_Desk_where (eVar 0) eNil)))))))))))
theorem sim_Desk_with_more : SimF G_Desk_with_more A_Desk_with_more := by
  unfold A_Desk_with_more
  rw [hide_eq]
  exact sim_fnBody (sim_sSeq (sim_sIf (sim_eOp so_opIn sim_eVar (sim_eTup (sim_eCons sim_eC (sim_eCons sim_eC (sim_eCons sim_eC sim_eNil))))) (sim_sRet (sim_eMCall sim_Desk_by_sum sim_eVar (sim_eCons sim_eVar (sim_eCons (sim_eCall sim_read_sum (sim_eCons (sim_eJoin sim_eC sim_eVar) sim_eNil)) sim_eNil)))) sim_sSkip) (sim_sSeq (sim_sIf (sim_eOr (sim_eOp so_opNe (sim_eCallB (so_f1 so_bLen) (sim_eCons sim_eVar sim_eNil)) sim_eC) (sim_eOp so_opEq (sim_eOp so_opIx sim_eVar sim_eC) sim_eC)) sim_sRaise sim_sSkip) (sim_sSeq (sim_sIf (sim_eOp so_opEq sim_eVar sim_eC) (sim_sSeq (sim_sSet (sim_eCall sim_last_change (sim_eCons (sim_eFld sim_eVar) (sim_eCons (sim_eT (fun _ => tg_moment) sim_Tape_moment (sim_eFld sim_eVar) sim_eNil) (sim_eCons (sim_eCall sim_thing_in (sim_eCons (sim_eOp so_opIx sim_eVar sim_eC) sim_eNil)) sim_eNil))))) (sim_sRet (sim_eIf (sim_eIsN sim_eVar) sim_eC (sim_eCallB (so_f1 so_bStr) (sim_eCons sim_eVar sim_eNil))))) sim_sSkip) (sim_sSeq (sim_sIf (sim_eAnd (sim_eOp so_opEq sim_eVar sim_eC) (sim_eCall sim_is_mark (sim_eCons (sim_eOp so_opIx sim_eVar sim_eC) sim_eNil))) (sim_sSeq (sim_sLDPut (sim_eFld sim_eVar) (sim_eOp so_opIx sim_eVar sim_eC) (sim_eT (fun _ => tg_moment) sim_Tape_moment (sim_eFld sim_eVar) sim_eNil)) (sim_sRet sim_eC)) sim_sSkip) (sim_sSeq (sim_sIf (sim_eAnd (sim_eOp so_opEq sim_eVar sim_eC) (sim_eLDIn (sim_eOp so_opIx sim_eVar sim_eC) (sim_eFld sim_eVar))) (sim_sSeq (sim_sExpr (sim_eT (fun _ => tg_to) sim_Tape_to (sim_eFld sim_eVar) (sim_eCons (sim_eLDIx (sim_eFld sim_eVar) (sim_eOp so_opIx sim_eVar sim_eC)) sim_eNil))) (sim_sRet (sim_eMCall sim_Desk_where sim_eVar sim_eNil))) sim_sSkip) (sim_sSeq (sim_sIf (sim_eOp so_opNotIn sim_eVar (sim_eTup (sim_eCons sim_eC (sim_eCons sim_eC (sim_eCons sim_eC sim_eNil))))) sim_sRaise sim_sSkip) (sim_sSeq (sim_sSet (sim_eMCall sim_Words_number (sim_eMake sim_Words___init__ (sim_eCons (sim_eOp so_opIx sim_eVar sim_eC) sim_eNil)) sim_eNil)) (sim_sSeq (sim_sIf (sim_eOp so_opEq sim_eVar sim_eC) (sim_sExpr (sim_eT (fun _ => tg_to) sim_Tape_to (sim_eFld sim_eVar) (sim_eCons sim_eVar sim_eNil))) (sim_sIf (sim_eOp so_opEq sim_eVar sim_eC) (sim_sExpr (sim_eT (fun _ => tg_go) sim_Tape_go (sim_eFld sim_eVar) (sim_eCons sim_eVar sim_eNil))) (sim_sExpr (sim_eT (fun _ => tg_back) sim_Tape_back (sim_eFld sim_eVar) (sim_eCons sim_eVar sim_eNil))))) (sim_sRet (sim_eMCall sim_Desk_where sim_eVar sim_eNil))))))))))
noncomputable def F_Desk_done : Fn := fnBody 2 2
    (sSeq (sIf (eAnd (eOp opEq (eCallB (f1 bLen) (eCons (eVar 1) eNil)) (eC (.int 1))) (eTIn false kf_MOVES (eOp opIx (eVar 1) (eC (.int 0)))))
    (sSeq (sExpr (eMCall "Tape" "to" G_Tape_to (eFld "Desk" "tape" (eVar 0)) (eCons (eFCall [("over", G_over), ("out", G_out), ("backover", G_back_over), ("backout", G_back_out)] (eOp opIx (eVar 1) (eC (.int 0))) (eCons (eFld "Desk" "tape" (eVar 0)) (eCons (eMCall "Tape" "moment" G_Tape_moment (eFld "Desk" "tape" (eVar 0)) eNil) eNil))) eNil)))
    (sRet (eMCall "Desk" "where" G_Desk_where (eVar 0) eNil)))
    sSkip)
    (sSeq (sIf (eOp opEq (eVar 1) (eLst (eCons (eC (.str "where")) eNil)))
    (sRet (eMCall "Desk" "where" G_Desk_where (eVar 0) eNil))
    sSkip)
    (sSeq (sIf (eOp opEq (eVar 1) (eLst (eCons (eC (.str "end")) eNil)))
    (sRet (eCallB (f1 bStr) (eCons (eMCall "Tape" "end" G_Tape_end (eFld "Desk" "tape" (eVar 0)) eNil) eNil)))
    sSkip)
    (sSeq (sIf (eOp opLt (eCallB (f1 bLen) (eCons (eVar 1) eNil)) (eC (.int 2)))
    (sRaise .text)
    sSkip)
    (sRet (eMCall "Desk" "with_more" G_Desk_with_more (eVar 0) (eCons (eOp opIx (eVar 1) (eC (.int 0))) (eCons (eSl (eVar 1) (eInt (eC (.int 1))) eNo) eNil))))))))
noncomputable def G_Desk_done : Fn := F_Desk_done
noncomputable def A_Desk_done : Fn := hide (fnBody 2 2
    (sSeq
    (sIf (eAnd (eOp opEq (eCallB (f1 bLen) (eCons (eVar 1) eNil)) (eC (.int 1))) (eTIn false kf_MOVES (eOp opIx (eVar 1) (eC (.int 0)))))
    (sSeq (sExpr (eT A_Tape_to (eFld "Desk" "tape" (eVar 0)) (eCons (eFCall [("over", A_over), ("out", A_out), ("backover", A_back_over), ("backout", A_back_out)] (eOp opIx (eVar 1) (eC (.int 0))) (eCons (eFld "Desk" "tape" (eVar 0)) (eCons (eT A_Tape_moment (eFld "Desk" "tape" (eVar 0)) eNil) eNil))) eNil))) (sRet (eMCall "Desk" "where" A_Desk_where (eVar 0) eNil))) sSkip)
    (sSeq
    (sIf (eOp opEq (eVar 1) (eLst (eCons (eC (.str "where")) eNil))) (sRet (eMCall "Desk" "where" A_Desk_where (eVar 0) eNil)) sSkip)
    (sSeq
    (sIf (eOp opEq (eVar 1) (eLst (eCons (eC (.str "end")) eNil))) (sRet (eCallB (f1 bStr) (eCons (eT A_Tape_end (eFld "Desk" "tape" (eVar 0)) eNil) eNil))) sSkip)
    (sSeq
    (sIf (eOp opLt (eCallB (f1 bLen) (eCons (eVar 1) eNil)) (eC (.int 2))) (sRaise .text) sSkip) (sRet (eMCall "Desk" "with_more" A_Desk_with_more (eVar 0) (eCons (eOp opIx (eVar 1) (eC (.int 0))) (eCons (eSl (eVar 1) (eInt (eC (.int 1))) eNo) eNil)))))))))
theorem sim_Desk_done : SimF G_Desk_done A_Desk_done := by
  unfold A_Desk_done
  rw [hide_eq]
  exact sim_fnBody (sim_sSeq (sim_sIf (sim_eAnd (sim_eOp so_opEq (sim_eCallB (so_f1 so_bLen) (sim_eCons sim_eVar sim_eNil)) sim_eC) (sim_eTIn (sim_eOp so_opIx sim_eVar sim_eC))) (sim_sSeq (sim_sExpr (sim_eT (fun _ => tg_to) sim_Tape_to (sim_eFld sim_eVar) (sim_eCons (sim_eFCall (.cons sim_over (.cons sim_out (.cons sim_back_over (.cons sim_back_out .nil)))) (sim_eOp so_opIx sim_eVar sim_eC) (sim_eCons (sim_eFld sim_eVar) (sim_eCons (sim_eT (fun _ => tg_moment) sim_Tape_moment (sim_eFld sim_eVar) sim_eNil) sim_eNil))) sim_eNil))) (sim_sRet (sim_eMCall sim_Desk_where sim_eVar sim_eNil))) sim_sSkip) (sim_sSeq (sim_sIf (sim_eOp so_opEq sim_eVar (sim_eLst (sim_eCons sim_eC sim_eNil))) (sim_sRet (sim_eMCall sim_Desk_where sim_eVar sim_eNil)) sim_sSkip) (sim_sSeq (sim_sIf (sim_eOp so_opEq sim_eVar (sim_eLst (sim_eCons sim_eC sim_eNil))) (sim_sRet (sim_eCallB (so_f1 so_bStr) (sim_eCons (sim_eT (fun _ => tg_end) sim_Tape_end (sim_eFld sim_eVar) sim_eNil) sim_eNil))) sim_sSkip) (sim_sSeq (sim_sIf (sim_eOp so_opLt (sim_eCallB (so_f1 so_bLen) (sim_eCons sim_eVar sim_eNil)) sim_eC) sim_sRaise sim_sSkip) (sim_sRet (sim_eMCall sim_Desk_with_more sim_eVar (sim_eCons (sim_eOp so_opIx sim_eVar sim_eC) (sim_eCons (sim_eSl sim_eVar (sim_eInt sim_eC) sim_eNo) sim_eNil))))))))
noncomputable def F_Desk_say : Fn := fnBody 2 2
    (sTryH [(.text, "no line"), (.moment, "no moment"), (.thing, "no thing")]
    (sRet (eMCall "Desk" "done" G_Desk_done (eVar 0) (eCons (eSplit (eVar 1) (eC (.str " "))) eNil))))
noncomputable def G_Desk_say : Fn := F_Desk_say
noncomputable def A_Desk_say : Fn := hide (fnBody 2 2
    (sTryH [(.text, "no line"), (.moment, "no moment"), (.thing, "no thing")] (sRet (eMCall "Desk" "done" A_Desk_done (eVar 0) (eCons (eSplit (eVar 1) (eC (.str " "))) eNil)))))
theorem sim_Desk_say : SimF G_Desk_say A_Desk_say := by
  unfold A_Desk_say
  rw [hide_eq]
  exact sim_fnBody (sim_sTryH (sim_sRet (sim_eMCall sim_Desk_done sim_eVar (sim_eCons (sim_eSplit sim_eVar sim_eC) sim_eNil))))
end Bt
namespace Bt
open PySem PySem.Spec PyProof.Rows L2
noncomputable def F_law : Fn := fnBody 1 14
    (sSeq (sSet 1 (eCall G_l_program (eCons (eVar 0) (eCons (eC (.int 20)) eNil))))
    (sSeq (sSet 2 (eCall G_l_asked (eCons (eVar 0) (eCons (eC (.int 450)) eNil))))
    (sSeq (sSet 3 (eCall G_l_drawn (eCons (eVar 0) (eCons (eC (.int 440)) (eCons (eC (.int 17)) eNil)))))
    (sSeq (sSet 4 (eMake "Desk" G_Desk___init__ (eCons (eVar 1) (eCons (eVar 2) (eCons (eVar 3) eNil)))))
    (sSeq (sSet 5 (eMake "Desk" G_Desk___init__ (eCons (eVar 1) (eCons (eVar 2) (eCons (eVar 3) eNil)))))
    (sSeq (sSet 6 (eMake "Tape" G_Tape___init__ (eCons (eVar 1) (eCons (eVar 2) (eCons (eC (.int 2)) (eCons (eVar 3) eNil))))))
    (sSeq (sSet 7 (eLst (eCons (eC (.str "worth a")) (eCons (eOp opAdd (eC (.str "why ")) (eCall G_written_sum (eCons (eCall G_l_sum (eCons (eVar 0) (eCons (eC (.int 460)) (eCons (eC (.int 2)) eNil)))) eNil))) (eCons (eC (.str "last 2")) (eCons (eC (.str "last x")) (eCons (eC (.str "end")) (eCons (eC (.str "go x")) (eCons (eC (.str "to 9999")) eNil)))))))))
    (sSeq (sFor (iRange1 (eCallB (bMax2) (eCons (eC (.int 1)) (eCons (eCallB (bMin2) (eCons (eC (.int 10)) (eCons (eCallB (f1 bLen) (eCons (eVar 0) eNil)) eNil))) eNil)))) (dN 8)
    (sSeq (sSet 9 (eLst (eCons (eC (.str "go 2")) (eCons (eC (.str "back 3")) (eCons (eC (.str "over")) (eCons (eC (.str "out")) (eCons (eC (.str "backover")) (eCons (eC (.str "backout")) (eCons (eC (.str "to 1")) (eCons (eC (.str "go 0")) eNil))))))))))
    (sSeq (sSet 10 (eOp opIx (eVar 9) (eCall G_l_drawn (eCons (eVar 0) (eCons (eOp opAdd (eC (.int 500)) (eOp opMul (eC (.int 3)) (eVar 8))) (eCons (eC (.int 8)) eNil))))))
    (sSeq (sExpr (eMCall "Desk" "say" G_Desk_say (eVar 4) (eCons (eOp opIx (eVar 7) (eCall G_l_drawn (eCons (eVar 0) (eCons (eOp opAdd (eC (.int 501)) (eOp opMul (eC (.int 3)) (eVar 8))) (eCons (eC (.int 7)) eNil))))) eNil)))
    (sSeq (sIf (eOr (eOp opNe (eMCall "Desk" "say" G_Desk_say (eVar 4) (eCons (eVar 10) eNil)) (eMCall "Desk" "say" G_Desk_say (eVar 5) (eCons (eVar 10) eNil))) (eOp opNe (eMCall "Desk" "say" G_Desk_say (eVar 4) (eCons (eC (.str "where")) eNil)) (eMCall "Desk" "say" G_Desk_say (eVar 5) (eCons (eC (.str "where")) eNil))))
    (sRet (eC (.bl false)))
    sSkip)
    (sSeq (sSet 11 (eMCall "Desk" "say" G_Desk_say (eVar 4) (eCons (eC (.str "where")) eNil)))
    (sIf (eOr (eOp opNe (eMCall "Desk" "say" G_Desk_say (eVar 4) (eCons (eC (.str "mark m")) eNil)) (eC (.str "marked"))) (eOr (eOp opNe (eMCall "Desk" "say" G_Desk_say (eVar 4) (eCons (eC (.str "to 0")) eNil)) (eC (.str "at 0 row 0"))) (eOp opNe (eMCall "Desk" "say" G_Desk_say (eVar 4) (eCons (eC (.str "to m")) eNil)) (eVar 11))))
    (sRet (eC (.bl false)))
    sSkip)))))))
    (sSeq (sIf (eOp opNe (eMCall "Desk" "say" G_Desk_say (eVar 4) (eCons (eC (.str "end")) eNil)) (eCallB (f1 bStr) (eCons (eMCall "Tape" "end" G_Tape_end (eVar 6) eNil) eNil)))
    (sRet (eC (.bl false)))
    sSkip)
    (sSeq (sFor (iRange1 (eOp opAdd (eMCall "Tape" "end" G_Tape_end (eVar 6) eNil) (eC (.int 1)))) (dN 12)
    (sSeq (sSet 13 (eOp opAdd (eOp opAdd (eOp opAdd (eC (.str "at ")) (eCallB (f1 bStr) (eCons (eVar 12) eNil))) (eC (.str " row "))) (eCallB (f1 bStr) (eCons (eOp opIx (eMCall "Tape" "at" G_Tape_at (eVar 6) (eCons (eVar 12) eNil)) (eC (.int 0))) eNil))))
    (sSeq (sIf (eOp opNe (eMCall "Desk" "say" G_Desk_say (eVar 4) (eCons (eOp opAdd (eC (.str "to ")) (eCallB (f1 bStr) (eCons (eVar 12) eNil))) eNil)) (eVar 13))
    (sRet (eC (.bl false)))
    sSkip)
    (sIf (eOr (eOp opNe (eMCall "Desk" "say" G_Desk_say (eVar 4) (eCons (eOp opAdd (eC (.str "back ")) (eCallB (f1 bStr) (eCons (eVar 12) eNil))) eNil)) (eC (.str "at 0 row 0"))) (eOp opNe (eMCall "Desk" "say" G_Desk_say (eVar 4) (eCons (eC (.str "worth a")) eNil)) (eC (.str "0"))))
    (sRet (eC (.bl false)))
    sSkip))))
    (sRet (eAnd (eOp opEq (eMCall "Desk" "say" G_Desk_say (eVar 4) (eCons (eOp opAdd (eC (.str "to ")) (eCallB (f1 bStr) (eCons (eOp opAdd (eMCall "Tape" "end" G_Tape_end (eVar 6) eNil) (eC (.int 1))) eNil))) eNil)) (eC (.str "no moment"))) (eOp opEq (eMCall "Desk" "say" G_Desk_say (eVar 4) (eCons (eC (.str "where")) eNil)) (eC (.str "at 0 row 0")))))))))))))))
noncomputable def A_law : Fn := fnBody 1 14
    (sSeq (sSet 1 (eCall A_l_program (eCons (eVar 0) (eCons (eC (.int 20)) eNil))))
    (sSeq (sSet 2 (eCall A_l_asked (eCons (eVar 0) (eCons (eC (.int 450)) eNil))))
    (sSeq (sSet 3 (eCall A_l_drawn (eCons (eVar 0) (eCons (eC (.int 440)) (eCons (eC (.int 17)) eNil)))))
    (sSeq (sSet 4 (eMake "Desk" A_Desk___init__ (eCons (eVar 1) (eCons (eVar 2) (eCons (eVar 3) eNil)))))
    (sSeq (sSet 5 (eMake "Desk" A_Desk___init__ (eCons (eVar 1) (eCons (eVar 2) (eCons (eVar 3) eNil)))))
    (sSeq (sSet 6 (eTMake (eCons (eVar 1) (eCons (eVar 2) (eCons (eC (.int 2)) (eCons (eVar 3) eNil))))))
    (sSeq (sSet 7 (eLst (eCons (eC (.str "worth a")) (eCons (eOp opAdd (eC (.str "why ")) (eCall A_written_sum (eCons (eCall A_l_sum (eCons (eVar 0) (eCons (eC (.int 460)) (eCons (eC (.int 2)) eNil)))) eNil))) (eCons (eC (.str "last 2")) (eCons (eC (.str "last x")) (eCons (eC (.str "end")) (eCons (eC (.str "go x")) (eCons (eC (.str "to 9999")) eNil)))))))))
    (sSeq
    (sFor (iRange1 (eCallB (bMax2) (eCons (eC (.int 1)) (eCons (eCallB (bMin2) (eCons (eC (.int 10)) (eCons (eCallB (f1 bLen) (eCons (eVar 0) eNil)) eNil))) eNil)))) (dN 8)
    (sSeq (sSet 9 (eLst (eCons (eC (.str "go 2")) (eCons (eC (.str "back 3")) (eCons (eC (.str "over")) (eCons (eC (.str "out")) (eCons (eC (.str "backover")) (eCons (eC (.str "backout")) (eCons (eC (.str "to 1")) (eCons (eC (.str "go 0")) eNil))))))))))
    (sSeq (sSet 10 (eOp opIx (eVar 9) (eCall A_l_drawn (eCons (eVar 0) (eCons (eOp opAdd (eC (.int 500)) (eOp opMul (eC (.int 3)) (eVar 8))) (eCons (eC (.int 8)) eNil))))))
    (sSeq (sExpr (eMCall "Desk" "say" A_Desk_say (eVar 4) (eCons (eOp opIx (eVar 7) (eCall A_l_drawn (eCons (eVar 0) (eCons (eOp opAdd (eC (.int 501)) (eOp opMul (eC (.int 3)) (eVar 8))) (eCons (eC (.int 7)) eNil))))) eNil)))
    (sSeq
    (sIf (eOr (eOp opNe (eMCall "Desk" "say" A_Desk_say (eVar 4) (eCons (eVar 10) eNil)) (eMCall "Desk" "say" A_Desk_say (eVar 5) (eCons (eVar 10) eNil))) (eOp opNe (eMCall "Desk" "say" A_Desk_say (eVar 4) (eCons (eC (.str "where")) eNil)) (eMCall "Desk" "say" A_Desk_say (eVar 5) (eCons (eC (.str "where")) eNil)))) (sRet (eC (.bl false))) sSkip)
    (sSeq (sSet 11 (eMCall "Desk" "say" A_Desk_say (eVar 4) (eCons (eC (.str "where")) eNil)))
    (sIf (eOr (eOp opNe (eMCall "Desk" "say" A_Desk_say (eVar 4) (eCons (eC (.str "mark m")) eNil)) (eC (.str "marked"))) (eOr (eOp opNe (eMCall "Desk" "say" A_Desk_say (eVar 4) (eCons (eC (.str "to 0")) eNil)) (eC (.str "at 0 row 0"))) (eOp opNe (eMCall "Desk" "say" A_Desk_say (eVar 4) (eCons (eC (.str "to m")) eNil)) (eVar 11)))) (sRet (eC (.bl false))) sSkip)))))))
    (sSeq
    (sIf (eOp opNe (eMCall "Desk" "say" A_Desk_say (eVar 4) (eCons (eC (.str "end")) eNil)) (eCallB (f1 bStr) (eCons (eT A_Tape_end (eVar 6) eNil) eNil))) (sRet (eC (.bl false))) sSkip)
    (sSeq
    (sFor (iRange1 (eOp opAdd (eT A_Tape_end (eVar 6) eNil) (eC (.int 1)))) (dN 12)
    (sSeq (sSet 13 (eOp opAdd (eOp opAdd (eOp opAdd (eC (.str "at ")) (eCallB (f1 bStr) (eCons (eVar 12) eNil))) (eC (.str " row "))) (eCallB (f1 bStr) (eCons (eOp opIx (eT A_Tape_at (eVar 6) (eCons (eVar 12) eNil)) (eC (.int 0))) eNil))))
    (sSeq
    (sIf (eOp opNe (eMCall "Desk" "say" A_Desk_say (eVar 4) (eCons (eOp opAdd (eC (.str "to ")) (eCallB (f1 bStr) (eCons (eVar 12) eNil))) eNil)) (eVar 13)) (sRet (eC (.bl false))) sSkip)
    (sIf (eOr (eOp opNe (eMCall "Desk" "say" A_Desk_say (eVar 4) (eCons (eOp opAdd (eC (.str "back ")) (eCallB (f1 bStr) (eCons (eVar 12) eNil))) eNil)) (eC (.str "at 0 row 0"))) (eOp opNe (eMCall "Desk" "say" A_Desk_say (eVar 4) (eCons (eC (.str "worth a")) eNil)) (eC (.str "0")))) (sRet (eC (.bl false))) sSkip)))) (sRet (eAnd (eOp opEq (eMCall "Desk" "say" A_Desk_say (eVar 4) (eCons (eOp opAdd (eC (.str "to ")) (eCallB (f1 bStr) (eCons (eOp opAdd (eT A_Tape_end (eVar 6) eNil) (eC (.int 1))) eNil))) eNil)) (eC (.str "no moment"))) (eOp opEq (eMCall "Desk" "say" A_Desk_say (eVar 4) (eCons (eC (.str "where")) eNil)) (eC (.str "at 0 row 0")))))))))))))))
theorem sim_law : SimF F_law A_law := sim_fnBody (sim_sSeq (sim_sSet (sim_eCall sim_l_program (sim_eCons sim_eVar (sim_eCons sim_eC sim_eNil)))) (sim_sSeq (sim_sSet (sim_eCall sim_l_asked (sim_eCons sim_eVar (sim_eCons sim_eC sim_eNil)))) (sim_sSeq (sim_sSet (sim_eCall sim_l_drawn (sim_eCons sim_eVar (sim_eCons sim_eC (sim_eCons sim_eC sim_eNil))))) (sim_sSeq (sim_sSet (sim_eMake sim_Desk___init__ (sim_eCons sim_eVar (sim_eCons sim_eVar (sim_eCons sim_eVar sim_eNil))))) (sim_sSeq (sim_sSet (sim_eMake sim_Desk___init__ (sim_eCons sim_eVar (sim_eCons sim_eVar (sim_eCons sim_eVar sim_eNil))))) (sim_sSeq (sim_sSet (sim_eTMake (sim_eCons sim_eVar (sim_eCons sim_eVar (sim_eCons sim_eC (sim_eCons sim_eVar sim_eNil)))))) (sim_sSeq (sim_sSet (sim_eLst (sim_eCons sim_eC (sim_eCons (sim_eOp so_opAdd sim_eC (sim_eCall sim_written_sum (sim_eCons (sim_eCall sim_l_sum (sim_eCons sim_eVar (sim_eCons sim_eC (sim_eCons sim_eC sim_eNil)))) sim_eNil))) (sim_eCons sim_eC (sim_eCons sim_eC (sim_eCons sim_eC (sim_eCons sim_eC (sim_eCons sim_eC sim_eNil))))))))) (sim_sSeq (sim_sFor (sim_iRange1 (sim_eCallB so_bMax2 (sim_eCons sim_eC (sim_eCons (sim_eCallB so_bMin2 (sim_eCons sim_eC (sim_eCons (sim_eCallB (so_f1 so_bLen) (sim_eCons sim_eVar sim_eNil)) sim_eNil))) sim_eNil)))) (sim_sSeq (sim_sSet (sim_eLst (sim_eCons sim_eC (sim_eCons sim_eC (sim_eCons sim_eC (sim_eCons sim_eC (sim_eCons sim_eC (sim_eCons sim_eC (sim_eCons sim_eC (sim_eCons sim_eC sim_eNil)))))))))) (sim_sSeq (sim_sSet (sim_eOp so_opIx sim_eVar (sim_eCall sim_l_drawn (sim_eCons sim_eVar (sim_eCons (sim_eOp so_opAdd sim_eC (sim_eOp so_opMul sim_eC sim_eVar)) (sim_eCons sim_eC sim_eNil)))))) (sim_sSeq (sim_sExpr (sim_eMCall sim_Desk_say sim_eVar (sim_eCons (sim_eOp so_opIx sim_eVar (sim_eCall sim_l_drawn (sim_eCons sim_eVar (sim_eCons (sim_eOp so_opAdd sim_eC (sim_eOp so_opMul sim_eC sim_eVar)) (sim_eCons sim_eC sim_eNil))))) sim_eNil))) (sim_sSeq (sim_sIf (sim_eOr (sim_eOp so_opNe (sim_eMCall sim_Desk_say sim_eVar (sim_eCons sim_eVar sim_eNil)) (sim_eMCall sim_Desk_say sim_eVar (sim_eCons sim_eVar sim_eNil))) (sim_eOp so_opNe (sim_eMCall sim_Desk_say sim_eVar (sim_eCons sim_eC sim_eNil)) (sim_eMCall sim_Desk_say sim_eVar (sim_eCons sim_eC sim_eNil)))) (sim_sRet sim_eC) sim_sSkip) (sim_sSeq (sim_sSet (sim_eMCall sim_Desk_say sim_eVar (sim_eCons sim_eC sim_eNil))) (sim_sIf (sim_eOr (sim_eOp so_opNe (sim_eMCall sim_Desk_say sim_eVar (sim_eCons sim_eC sim_eNil)) sim_eC) (sim_eOr (sim_eOp so_opNe (sim_eMCall sim_Desk_say sim_eVar (sim_eCons sim_eC sim_eNil)) sim_eC) (sim_eOp so_opNe (sim_eMCall sim_Desk_say sim_eVar (sim_eCons sim_eC sim_eNil)) sim_eVar))) (sim_sRet sim_eC) sim_sSkip))))))) (sim_sSeq (sim_sIf (sim_eOp so_opNe (sim_eMCall sim_Desk_say sim_eVar (sim_eCons sim_eC sim_eNil)) (sim_eCallB (so_f1 so_bStr) (sim_eCons (sim_eT (fun _ => tg_end) sim_Tape_end sim_eVar sim_eNil) sim_eNil))) (sim_sRet sim_eC) sim_sSkip) (sim_sSeq (sim_sFor (sim_iRange1 (sim_eOp so_opAdd (sim_eT (fun _ => tg_end) sim_Tape_end sim_eVar sim_eNil) sim_eC)) (sim_sSeq (sim_sSet (sim_eOp so_opAdd (sim_eOp so_opAdd (sim_eOp so_opAdd sim_eC (sim_eCallB (so_f1 so_bStr) (sim_eCons sim_eVar sim_eNil))) sim_eC) (sim_eCallB (so_f1 so_bStr) (sim_eCons (sim_eOp so_opIx (sim_eT (fun _ => tg_at) sim_Tape_at sim_eVar (sim_eCons sim_eVar sim_eNil)) sim_eC) sim_eNil)))) (sim_sSeq (sim_sIf (sim_eOp so_opNe (sim_eMCall sim_Desk_say sim_eVar (sim_eCons (sim_eOp so_opAdd sim_eC (sim_eCallB (so_f1 so_bStr) (sim_eCons sim_eVar sim_eNil))) sim_eNil)) sim_eVar) (sim_sRet sim_eC) sim_sSkip) (sim_sIf (sim_eOr (sim_eOp so_opNe (sim_eMCall sim_Desk_say sim_eVar (sim_eCons (sim_eOp so_opAdd sim_eC (sim_eCallB (so_f1 so_bStr) (sim_eCons sim_eVar sim_eNil))) sim_eNil)) sim_eC) (sim_eOp so_opNe (sim_eMCall sim_Desk_say sim_eVar (sim_eCons sim_eC sim_eNil)) sim_eC)) (sim_sRet sim_eC) sim_sSkip)))) (sim_sRet (sim_eAnd (sim_eOp so_opEq (sim_eMCall sim_Desk_say sim_eVar (sim_eCons (sim_eOp so_opAdd sim_eC (sim_eCallB (so_f1 so_bStr) (sim_eCons (sim_eOp so_opAdd (sim_eT (fun _ => tg_end) sim_Tape_end sim_eVar sim_eNil) sim_eC) sim_eNil))) sim_eNil)) sim_eC) (sim_eOp so_opEq (sim_eMCall sim_Desk_say sim_eVar (sim_eCons sim_eC sim_eNil)) sim_eC)))))))))))))
end Bt
namespace Bt
open PySem PySem.Spec PyProof.Rows L2
section
variable {ρ : Env} {S S1 S2 : Sto} {fa fb : Ex} {x y d : D} {l : List D}
theorem x_lenL (ha : fa ρ S = .ok (.lst l) S1) : eCallB (f1 bLen) (eCons fa eNil) ρ S = .ok (.int (l.length : Nat)) S1 := by
  rw [s_callB, s_cons, ha]; rfl
theorem x_B1 {F : Sto → D → Option D} (ha : fa ρ S = .ok x S1) (h : F S1 x = some d) : eCallB (f1 F) (eCons fa eNil) ρ S = .ok d S1 := by
  rw [s_callB, s_cons, ha]
  simp only [ER.bind_ok, s_nil, b_f1]
  rw [h]; rfl
theorem x_c1 {F : Fn} (ha : fa ρ S = .ok x S1) (h : F [x] S1 = .ok d S2) : eCall F (eCons fa eNil) ρ S = .ok d S2 := by
  rw [s_call, s_cons, ha]
  simp only [ER.bind_ok, s_nil]
  exact h
end
end Bt
namespace Bt
open PySem PySem.Spec PyProof.Rows L2
theorem rising_eq : ∀ {l m : List Int}, l.Pairwise (· < ·) → m.Pairwise (· < ·) → (∀ k, k ∈ l ↔ k ∈ m) → l = m
  | [], [], _, _, _ => rfl
  | [], b :: m, _, _, h => by have := (h b).mpr List.mem_cons_self; simp at this
  | a :: l, [], _, _, h => by have := (h a).mp List.mem_cons_self; simp at this
  | a :: l, b :: m, hl, hm, h => by
    obtain ⟨l1, l2⟩ := List.pairwise_cons.mp hl
    obtain ⟨m1, m2⟩ := List.pairwise_cons.mp hm
    have hab : a = b := by
      rcases List.mem_cons.mp ((h a).mp List.mem_cons_self) with e | e
      · exact e
      · rcases List.mem_cons.mp ((h b).mpr List.mem_cons_self) with f | f
        · exact f.symm
        · have := m1 a e; have := l1 b f; omega
    subst hab
    rw [rising_eq l2 m2 fun k => ?_]
    constructor
    · intro hk
      rcases List.mem_cons.mp ((h k).mp (List.mem_cons_of_mem _ hk)) with e | e
      · have := l1 k hk; omega
      · exact e
    · intro hk
      rcases List.mem_cons.mp ((h k).mpr (List.mem_cons_of_mem _ hk)) with e | e
      · have := m1 k hk; omega
      · exact e
end Bt
namespace Bt
open PySem PySem.Spec PyProof.Rows L2
def castL (l : List Nat) : List Int := l.map fun (n : Nat) => (n : Int)
theorem mem_castL {k : Int} {l : List Nat} : k ∈ castL l ↔ ∃ n ∈ l, (n : Int) = k := List.mem_map
theorem castL_rising {l : List Nat} : (castL l).Pairwise (· < ·) ↔ l.Pairwise (· < ·) := by
  unfold castL
  rw [List.pairwise_map]
  exact ⟨fun h => h.imp fun q => Int.ofNat_lt.mp q, fun h => h.imp fun q => Int.ofNat_lt.mpr q⟩
theorem nrising_eq {l m : List Nat} (hl : l.Pairwise (· < ·)) (hm : m.Pairwise (· < ·)) (h : ∀ k, k ∈ l ↔ k ∈ m) : l = m := by
  have e : castL l = castL m := rising_eq (castL_rising.mpr hl) (castL_rising.mpr hm) fun k => by
    rw [mem_castL, mem_castL]
    constructor
    · rintro ⟨n, hn, rfl⟩; exact ⟨n, (h n).mp hn, rfl⟩
    · rintro ⟨n, hn, rfl⟩; exact ⟨n, (h n).mpr hn, rfl⟩
  exact map_inj' (fun _ _ e => Int.natCast_inj.mp e) e
end Bt
namespace Bt
open PySem PySem.Spec PyProof.Rows L2
section
variable {ρ : Env} {S S1 : Sto} {fa : Ex}
theorem x_isN {neg : Bool} {d : D} (h : fa ρ S = .ok d S1) (hd : d ≠ .non) : eIsN neg fa ρ S = .ok (.bl neg) S1 := by
  rw [s_isN, h]; cases d <;> first | rfl | exact absurd rfl hd
theorem x_isN0 {neg : Bool} (h : fa ρ S = .ok .non S1) : eIsN neg fa ρ S = .ok (.bl (!neg)) S1 := by
  rw [s_isN, h]; rfl
theorem x_iteT {fc fb : Ex} {r : ER} (hc : fc ρ S = .ok (.bl true) S1) (h : fa ρ S1 = r) : eIf fc fa fb ρ S = r := by
  rw [t_ife, hc]; exact h
theorem x_iteF {fc fb : Ex} {r : ER} (hc : fc ρ S = .ok (.bl false) S1) (h : fa ρ S1 = r) : eIf fc fb fa ρ S = r := by
  rw [t_ife, hc]; exact h
theorem x_c2 {F : Fn} {fb : Ex} {x y d : D} {S2 S3 : Sto} (ha : fa ρ S = .ok x S1) (hb : fb ρ S1 = .ok y S2) (h : F [x, y] S2 = .ok d S3) : eCall F (eCons fa (eCons fb eNil)) ρ S = .ok d S3 := by
  rw [s_call, s_cons, ha]
  simp only [ER.bind_ok]
  rw [s_cons, hb]
  simp only [ER.bind_ok, s_nil]
  exact h
end
end Bt
namespace Bt
open PySem PySem.Spec PyProof.Rows L2
section
variable {t : Tp}
theorem rs_nil {m : Nat} : rsM t m [] = [] := by cases m <;> rfl
theorem rs_none {m : Nat} {w : List Th} (h : wM t (m + 1) = none) : rsM t (m + 1) w = rsM t m w := by
  show (if w = [] then _ else _) = _
  split
  · rename_i e; rw [e, rs_nil]
  · rw [h]
theorem rs_out {m : Nat} {w : List Th} {x : Th} (h : wM t (m + 1) = some x) (hx : x ∉ w) : rsM t (m + 1) w = rsM t m w := by
  show (if w = [] then _ else _) = _
  split
  · rename_i e; rw [e, rs_nil]
  · rw [h]; exact if_neg hx
theorem rs_in {m : Nat} {w : List Th} {x : Th} (h : wM t (m + 1) = some x) (hx : x ∈ w) : rsM t (m + 1) w = (m + 1) :: rsM t m (w.filter (fun y => decide (y ≠ x)) ++ srM t (m + 1)) := by
  show (if w = [] then _ else _) = _
  rw [if_neg (List.ne_nil_of_mem hx), h]; exact if_pos hx
theorem rs_low : ∀ {m : Nat} {w : List Th} {j : Nat}, j ∈ rsM t m w → 1 ≤ j ∧ j ≤ m ∧ (wM t j).isSome = true
  | 0, w, j, h => by cases h
  | m + 1, w, j, h => by
    cases e : wM t (m + 1) with
    | none => rw [rs_none e] at h; have := rs_low h; exact ⟨this.1, by omega, this.2.2⟩
    | some y =>
      by_cases q : y ∈ w
      · rw [rs_in e q] at h
        rcases List.mem_cons.mp h with rfl | h
        · exact ⟨by omega, Nat.le_refl _, by rw [e]; rfl⟩
        · have := rs_low h; exact ⟨this.1, by omega, this.2.2⟩
      · rw [rs_out e q] at h; have := rs_low h; exact ⟨this.1, by omega, this.2.2⟩
theorem rs_desc : ∀ {m : Nat} {w : List Th}, (rsM t m w).Pairwise (· > ·)
  | 0, w => List.Pairwise.nil
  | m + 1, w => by
    cases e : wM t (m + 1) with
    | none => rw [rs_none e]; exact rs_desc
    | some y =>
      by_cases q : y ∈ w
      · rw [rs_in e q]
        exact List.Pairwise.cons (fun j hj => by have := rs_low hj; show j < m + 1; omega) rs_desc
      · rw [rs_out e q]; exact rs_desc
theorem reasons_rising {a : Sm} {m : Nat} : (reasonsM t a m).Pairwise (· < ·) := by
  unfold reasonsM
  rw [List.pairwise_reverse]
  exact rs_desc
theorem reasons_low {a : Sm} {m j : Nat} (h : j ∈ reasonsM t a m) : 1 ≤ j ∧ j ≤ m ∧ (wM t j).isSome = true := by
  unfold reasonsM at h
  exact rs_low (List.mem_reverse.mp h)
theorem rising_len {l : List Nat} {m : Nat} (h : l.Pairwise (· < ·)) (hm : ∀ j ∈ l, 1 ≤ j ∧ j ≤ m) : l.length ≤ m := by
  have e : l = (List.range' 1 m).filter fun j => decide (j ∈ l) := nrising_eq h ((List.pairwise_lt_range' (s := 1) (n := m) (step := 1) (by decide)).filter _) fun k => by
    rw [List.mem_filter, List.mem_range'_1]
    simp only [decide_eq_true_eq]
    constructor
    · intro z; have := hm k z; exact ⟨by omega, z⟩
    · intro z; exact z.2
  rw [e]
  exact Nat.le_trans (List.length_filter_le _ _) (by rw [List.length_range']; exact Nat.le_refl _)
theorem reasons_len {a : Sm} {m : Nat} : (reasonsM t a m).length ≤ m := rising_len reasons_rising fun j hj => by have := reasons_low hj; omega
end
end Bt
namespace Bt
open PySem PySem.Spec PyProof.Rows L2
section
variable {Q : SR → Prop} {ρ ρ1 : Env} {S S1 T : Sto} {g : Sx} {fe fa fb fr : Ex} {d x : D} {i n : Nat} {k : Exc} {t : Tp} {q : ER}
theorem f_setX (h : fe ρ S = .exc k S1) (z : ER.exc k S1 = q) : (sSeq (sSet i fe) g ρ S).toE = q := by
  show (SR.seq (ER.toS (fe ρ S) ρ _) g).toE = q; rw [h]; exact z
theorem f_exprX (h : fe ρ S = .exc k S1) (z : ER.exc k S1 = q) : (sSeq (sExpr fe) g ρ S).toE = q := by
  show (SR.seq (ER.toS (fe ρ S) ρ _) g).toE = q; rw [h]; exact z
theorem f_retX (h : fe ρ S = .exc k S1) (z : ER.exc k S1 = q) : (sRet fe ρ S).toE = q := by
  show (ER.toS (fe ρ S) ρ _).toE = q; rw [h]; exact z
variable {m : Int}
theorem n_need_thing (hb : ∀ S, G_need_thing [x] S = .exc .thing S) : A_need_thing [x] T = .exc .thing T := spec_exc hb
theorem n_changesT (hb : ∀ S, G_need_thing [x] S = .exc .thing S) : A_changes [.obj n, x] T = .exc .thing T := by
  unfold A_changes
  rw [hide_eq, fnB2]
  simp only [Nat.reduceSub, List.reduceReplicate, List.cons_append, List.nil_append]
  exact f_exprX (k := .thing) (S1 := T) (by simp only [s_var0, s_varS, s_c, u_op, s_un, s_nil, u_cons, s_and, s_or, s_not, s_ife, s_chain, u_call, u_call0, u_callB, s_tup, s_lst, s_sl, s_no, s_int, s_meth, s_isN, s_isT, s_rev, u_eT, s_eTProg, s_eTAsk, s_yes, ER.bind_ok, ER.bind_exc, ER.toS, l1_some, o_addI, o_sub, o_neg, o_ixT, o_ixL, o_ltI, o_gtI, o_geI, o_leI, o_eqI, o_neI, b_f1, b_lenT, b_lenL, partD_non, partD_int, t_non, t_int, t_bl, t_str, t_tup, t_lst, isStr_s, sta_0, sta_1, sta_2, sta_3, sta_4, sta_5, List.set_cons_zero, List.set_cons_succ, wipeD, List.length_cons, List.length_nil, lim, Nat.reduceAdd, Nat.reduceLeDiff, if_true, Bool.not_true, Bool.not_false, n_need_thing hb]) rfl
end
end Bt
namespace Bt
open PySem PySem.Spec PyProof.Rows L2
theorem bad_str {s : Str} (h : ∀ S : Sto, G_is_name [.str s] S = .ok (.bl false) S) (S : Sto) : G_need_thing [.str s] S = .exc .thing S := by
  unfold G_need_thing F_need_thing
  rw [fnB1]
  have : G_is_thing [.str s] S = .ok (.bl false) S := by
    unfold G_is_thing F_is_thing
    rw [fnB1]
    simp [isTy, h]
  simp [this, sRaise]
end Bt
namespace Bt
open PySem PySem.Spec PyProof.Rows L2
section
variable {ρ : Env} {S S1 S2 S3 S4 : Sto} {fa fb fc fe : Ex} {i j k : Int} {x y z d : D} {b : Bool} {l : List D}
theorem x_chLL (ha : fa ρ S = .ok (.int i) S1) (hb : fb ρ S1 = .ok (.int j) S1) (hc : fc ρ S1 = .ok (.int k) S1) : eChain opLe opLe fa fb fc ρ S = .ok (.bl (decide (i ≤ j ∧ j ≤ k))) S1 := by
  rw [t_chain, ha]
  simp only [ER.bind_ok]
  rw [hb]
  simp only [ER.bind_ok, o_leI, l1_some]
  by_cases q : i ≤ j
  · rw [decide_eq_true q]
    simp only [andK_t]
    rw [hc]
    simp only [ER.bind_ok, o_leI, l1_some]
    congr 2
    rw [decide_eq_decide]
    exact ⟨fun h => ⟨q, h⟩, fun h => h.2⟩
  · rw [decide_eq_false q, decide_eq_false fun h => q h.1]; rfl
theorem x_chLT (ha : fa ρ S = .ok (.int i) S1) (hb : fb ρ S1 = .ok (.int j) S1) (hc : fc ρ S1 = .ok (.int k) S1) : eChain opLe opLt fa fb fc ρ S = .ok (.bl (decide (i ≤ j ∧ j < k))) S1 := by
  rw [t_chain, ha]
  simp only [ER.bind_ok]
  rw [hb]
  simp only [ER.bind_ok, o_leI, l1_some]
  by_cases q : i ≤ j
  · rw [decide_eq_true q]
    simp only [andK_t]
    rw [hc]
    simp only [ER.bind_ok, o_ltI, l1_some]
    congr 2
    rw [decide_eq_decide]
    exact ⟨fun h => ⟨q, h⟩, fun h => h.2⟩
  · rw [decide_eq_false q, decide_eq_false fun h => q h.1]; rfl
theorem x_c3 {F : Fn} (ha : fa ρ S = .ok x S1) (hb : fb ρ S1 = .ok y S2) (hc : fc ρ S2 = .ok z S3) (h : F [x, y, z] S3 = .ok d S4) : eCall F (eCons fa (eCons fb (eCons fc eNil))) ρ S = .ok d S4 := by
  rw [s_call, s_cons, ha]
  simp only [ER.bind_ok]
  rw [s_cons, hb]
  simp only [ER.bind_ok]
  rw [s_cons, hc]
  simp only [ER.bind_ok, s_nil]
  exact h
theorem x_eT0 {F : Fn} {t : Tp} {n : Nat} (ha : fa ρ S = .ok (.obj n) S1) (ht : S1[n]? = some (taO t)) (h : F [.obj n] S1 = .ok d S2) : eT F fa eNil ρ S = .ok d S2 := by
  rw [s_eT, ha]
  simp only [ER.bind_ok, tpAt_t ht, s_nil]
  exact h
theorem x_eT1 {F : Fn} {t : Tp} {n : Nat} (ha : fa ρ S = .ok (.obj n) S1) (ht : S1[n]? = some (taO t)) (hb : fb ρ S1 = .ok y S2) (h : F [.obj n, y] S2 = .ok d S3) : eT F fa (eCons fb eNil) ρ S = .ok d S3 := by
  rw [s_eT, ha]
  simp only [ER.bind_ok, tpAt_t ht]
  rw [s_cons, hb]
  simp only [ER.bind_ok, s_nil]
  exact h
theorem x_tup2 (ha : fa ρ S = .ok x S1) (hb : fb ρ S1 = .ok y S2) : eTup (eCons fa (eCons fb eNil)) ρ S = .ok (.tup [x, y]) S2 := by
  rw [s_tup, s_cons, ha]
  simp only [ER.bind_ok]
  rw [s_cons, hb]; rfl
theorem x_lst1 (ha : fa ρ S = .ok x S1) : eLst (eCons fa eNil) ρ S = .ok (.lst [x]) S1 := by
  rw [s_lst, s_cons, ha]; rfl
theorem x_B2 {F : Sto → List D → Option D} (ha : fa ρ S = .ok x S1) (hb : fb ρ S1 = .ok y S2) (h : F S2 [x, y] = some d) : eCallB F (eCons fa (eCons fb eNil)) ρ S = .ok d S2 := by
  rw [s_callB, s_cons, ha]
  simp only [ER.bind_ok]
  rw [s_cons, hb]
  simp only [ER.bind_ok, s_nil]
  rw [h]; rfl
theorem x_ite (hc : fc ρ S = .ok (.bl b) S1) (ha : b = true → fa ρ S1 = .ok d S2) (hb : b = false → fb ρ S1 = .ok d S2) : eIf fc fa fb ρ S = .ok d S2 := by
  cases b with
  | true => exact x_iteT hc (ha rfl)
  | false => exact x_iteF hc (hb rfl)
end
end Bt
namespace Bt
open PySem PySem.Spec PyProof.Rows L2
def names6 : List Str := ["a", "b", "c", "d", "e", "f"]
def worthD : D → Bool
  | .int i => decide (0 ≤ i ∧ i < 10007)
  | _ => false
def nameD : D → Bool
  | .str s => decide (s ∈ names6)
  | _ => false
theorem name_one {s : Str} : (∃ n, s.cps.toList = [n] ∧ n ∈ ("abcdef" : Str).cps.toList) ↔ s ∈ names6 := by
  have e : ∀ n : Nat, n ∈ ("abcdef" : Str).cps.toList ↔ n ∈ [97, 98, 99, 100, 101, 102] := fun n => by
    rw [show ("abcdef" : Str).cps.toList = [97, 98, 99, 100, 101, 102] from rfl]
  have h6 : names6 = [⟨#[97]⟩, ⟨#[98]⟩, ⟨#[99]⟩, ⟨#[100]⟩, ⟨#[101]⟩, ⟨#[102]⟩] := rfl
  have hs : ∀ n : Nat, s.cps.toList = [n] ↔ s = ⟨#[n]⟩ := fun n => by
    obtain ⟨a⟩ := s
    constructor
    · intro h
      have : a = #[n] := by
        apply Array.ext'
        simpa using h
      rw [this]
    · intro h
      cases h; rfl
  simp only [e, hs, h6, List.mem_cons, List.not_mem_nil, or_false]
  constructor
  · rintro ⟨n, rfl, h⟩
    rcases h with rfl | rfl | rfl | rfl | rfl | rfl <;> simp
  · rintro (rfl | rfl | rfl | rfl | rfl | rfl)
    · exact ⟨97, rfl, by simp⟩
    · exact ⟨98, rfl, by simp⟩
    · exact ⟨99, rfl, by simp⟩
    · exact ⟨100, rfl, by simp⟩
    · exact ⟨101, rfl, by simp⟩
    · exact ⟨102, rfl, by simp⟩
theorem worth_ok {x : D} {n : Nat} (h : Nc n x) (S : Sto) : G_is_worth [x] S = .ok (.bl (worthD x)) S := by
  unfold G_is_worth F_is_worth
  rw [fnB1]
  cases x with
  | int i =>
    refine f_ret (d := .bl (decide (0 ≤ i ∧ i < 10007))) (S1 := S) ?_ rfl
    have c := x_chLT (ρ := [some (.int i)]) (S := S) (S1 := S) (i := 0) (j := i) (k := 10007) (fa := eC (.int 0)) (fb := eVar 0) (fc := eC c_SIZE) rfl rfl rfl
    exact x_and (x := true) (y := decide (0 ≤ i ∧ i < 10007)) rfl fun _ => x_and (x := true) (y := decide (0 ≤ i ∧ i < 10007)) rfl fun _ => c
  | scr l => cases n <;> exact h.elim
  | obj l => cases n <;> exact h.elim
  | _ => simp [isTy, worthD]
theorem name_ok {x : D} {n : Nat} (h : Nc n x) (S : Sto) : G_is_name [x] S = .ok (.bl (nameD x)) S := by
  unfold G_is_name F_is_name
  rw [fnB1]
  cases x with
  | str s =>
    have hl : s.length ≤ 1000 := by cases n <;> exact h.2
    have h1 : bLen S (.str s) = some (.int s.length) := by
      show (if s.length ≤ lim then some (D.int s.length) else none) = _
      rw [if_pos (by show s.length ≤ 1000000; omega)]
    refine f_ret (d := .bl (nameD (.str s))) (S1 := S) ?_ rfl
    have hi := name_one (s := s)
    by_cases q : s.length = 1
    · obtain ⟨n, hn⟩ : ∃ n, s.cps.toList = [n] := by
        have : s.cps.toList.length = 1 := by rw [Array.length_toList]; exact q
        exact List.length_eq_one_iff.mp this
      have e : nameD (.str s) = decide (n ∈ ("abcdef" : Str).cps.toList) := by
        show decide (s ∈ names6) = _
        rw [decide_eq_decide, ← hi, hn]
        constructor
        · rintro ⟨m, h1, h2⟩; cases h1; exact h2
        · intro h; exact ⟨n, rfl, h⟩
      rw [e]
      refine x_and (x := true) (y := decide (n ∈ ("abcdef" : Str).cps.toList)) rfl fun _ => x_and (x := true) (y := decide (n ∈ ("abcdef" : Str).cps.toList)) (x_op (x := .int s.length) (y := .int 1) (x_B1 (x := .str s) rfl h1) rfl (by rw [o_eqI]; congr 2; exact decide_eq_true (by omega))) fun _ => x_op (x := .str s) (y := c_NAMES) rfl rfl ?_
      show (match s.cps.toList with | [n] => some (D.bl (decide (n ∈ ("abcdef" : Str).cps.toList))) | _ => none) = _
      rw [hn]
    · have e : nameD (.str s) = false := decide_eq_false fun h => by
        obtain ⟨n, h2, _⟩ := hi.mpr h
        apply q
        show s.cps.size = 1
        rw [← Array.length_toList, h2]; rfl
      rw [e]
      exact x_and (x := true) (y := false) rfl fun _ => x_and (x := false) (y := false) (x_op (x := .int s.length) (y := .int 1) (x_B1 (x := .str s) rfl h1) rfl (by rw [o_eqI]; congr 2; exact decide_eq_false (by omega))) fun z => by cases z
  | scr l => cases n <;> exact h.elim
  | obj l => cases n <;> exact h.elim
  | _ => simp [isTy, nameD]
def words4 : List Str := ["add", "sub", "mul", "less"]
def leftM : Nat → Nat → D → Option Nat
  | 0, _, _ => none
  | _ + 1, 0, _ => none
  | f + 1, l + 1, .tup [.str w, x] => if w = "num" then (if worthD x then some l else none) else if w = "name" then (if nameD x then some l else none) else if w = "cell" then leftM f l x else none
  | f + 1, l + 1, .tup [.str w, x, y] => if w ∈ words4 then (match leftM f l x with
    | some r => leftM f r y
    | none => none) else none
  | _ + 1, _ + 1, _ => none
def lI : Option Nat → Int
  | none => -1
  | some k => k
theorem leftM_lt : ∀ {f l : Nat} {d : D} {r : Nat}, leftM f l d = some r → r < l := by
  intro f
  induction f with
  | zero => intro l d r h; unfold leftM at h; cases h
  | succ f ih =>
    intro l d r h
    cases l with
    | zero => unfold leftM at h; cases h
    | succ l =>
      unfold leftM at h
      split at h
      · cases h
      · cases h
      · rename_i e2 e3; cases e2; cases e3
        split at h
        · split at h
          · cases h; omega
          · cases h
        · split at h
          · split at h
            · cases h; omega
            · cases h
          · split at h
            · have := ih h; omega
            · cases h
      · rename_i e2 e3; cases e2; cases e3
        split at h
        · split at h
          · rename_i q; have := ih q; have := ih h; omega
          · cases h
        · cases h
      · cases h
theorem leftM_0 {f : Nat} {d : D} : leftM f 0 d = none := by
  cases f <;> rfl
def shapeD : D → Bool
  | .tup l => (match l with
    | a :: _ :: _ => isS a
    | _ => false)
  | _ => false
theorem shape_of {d : D} (h : shapeD d = true) : ∃ w x r, d = .tup (.str w :: x :: r) := by
  cases d with
  | tup l =>
    cases l with
    | nil => cases h
    | cons a r =>
      cases r with
      | nil => cases h
      | cons x r =>
        cases a with
        | str w => exact ⟨w, x, r, rfl⟩
        | _ => cases h
  | _ => cases h
theorem leftM_no {f l : Nat} {d : D} (h : shapeD d = false) : leftM f l d = none := by
  unfold leftM
  split
  · rfl
  · rfl
  · cases h
  · cases h
  · rfl
theorem str_ok {w : Str} {n : Nat} (h : Nc n (.str w)) : (D.str w).good = true := (Nc.gd (n := n) h).1 ▸ (by
  have := (Nc.gd (n := n) h).1
  unfold D.good; rw [this]; rfl)
theorem eq_w1 {S : Sto} {w : Str} {c : String} (h : (D.str w).good = true) : opEq S (.str w) (.str (Str.ofString c)) = some (.bl (decide (w = Str.ofString c))) := by
  rw [b_good h good_str, eqv_str]
theorem memD_str {w : Str} {l : List Str} : memD (.str w) (l.map D.str) = decide (w ∈ l) := by
  unfold memD
  rw [List.any_map, Bool.eq_iff_iff, List.any_eq_true]
  simp only [Function.comp, eqv_str, decide_eq_true_eq]
  exact ⟨fun ⟨y, h1, h2⟩ => by rw [← h2]; exact h1, fun h => ⟨w, h, rfl⟩⟩
theorem in_w {S : Sto} {w : Str} {l : List Str} (h : (D.str w).good = true) (hl : (D.tup (l.map D.str)).good = true) : opIn S (.str w) (.tup (l.map D.str)) = some (.bl (decide (w ∈ l))) := by
  show (if (D.str w).good && (D.tup (l.map D.str)).good then some (D.bl (memD (.str w) (l.map D.str))) else _) = _
  rw [h, hl, memD_str]; rfl
theorem notIn_w {S : Sto} {w : Str} {l : List Str} (h : (D.str w).good = true) (hl : (D.tup (l.map D.str)).good = true) : opNotIn S (.str w) (.tup (l.map D.str)) = some (.bl (!decide (w ∈ l))) := by
  show (if (D.str w).good && (D.tup (l.map D.str)).good then some (D.bl (!memD (.str w) (l.map D.str))) else _) = _
  rw [h, hl, memD_str]; rfl
theorem words_gd : (D.tup (words4.map D.str)).good = true := (gd_tup (n := 0) fun d hd => by
  obtain ⟨i, hi, rfl⟩ := List.mem_map.mp hd
  simp only [words4, List.mem_cons, List.not_mem_nil, or_false] at hi
  rcases hi with rfl | rfl | rfl | rfl <;> exact gd_str).good
section
variable {ρ : Env} {S : Sto} {d : D} {n : Nat}
theorem x_lenT {i : Nat} {l : List D} (h : eVar i ρ S = .ok (.tup l) S) : eCallB (f1 bLen) (eCons (eVar i) eNil) ρ S = .ok (.int (l.length : Nat)) S := x_B1 h rfl
noncomputable def shpE : Ex := eOr (eNot (eIsT .tuple (eVar 0))) (eOr (eOp opLt (eCallB (f1 bLen) (eCons (eVar 0) eNil)) (eC (.int 2))) (eNot (eIsT .str (eOp opIx (eVar 0) (eC (.int 0))))))
theorem shp (h : Nc n d) (hv : eVar 0 ρ S = .ok d S) : shpE ρ S = .ok (.bl (!shapeD d)) S := by
  unfold shpE
  cases d with
  | tup l =>
    refine x_or (x := false) (y := !shapeD (.tup l)) (x_not (b := true) (x_ty hv rfl)) fun _ => ?_
    cases l with
    | nil => exact x_or (x := true) (y := true) (x_op (F := opLt) (fb := eC (.int 2)) (x := .int (0 : Nat)) (y := .int 2) (x_lenT hv) rfl (by rw [o_ltI]; rfl)) fun z => by cases z
    | cons a r =>
      cases r with
      | nil => exact x_or (x := true) (y := true) (x_op (F := opLt) (fb := eC (.int 2)) (x := .int (1 : Nat)) (y := .int 2) (x_lenT hv) rfl (by rw [o_ltI]; rfl)) fun z => by cases z
      | cons b r =>
        refine x_or (x := false) (y := !shapeD (.tup (a :: b :: r))) (x_op (x := .int ((a :: b :: r).length : Nat)) (y := .int 2) (x_lenT hv) rfl (by rw [o_ltI, decide_eq_false (by have : (a :: b :: r).length = r.length + 2 := rfl; omega)])) fun _ => ?_
        have ha : ∃ m, Nc m a := by
          cases n with
          | zero => exact h.elim
          | succ n => exact ⟨n, h.2 a List.mem_cons_self⟩
        obtain ⟨m, ha⟩ := ha
        cases a with
        | str w => exact x_not (b := true) (x_ty (x_ixk (k := 0) hv rfl) rfl)
        | scr l => cases m <;> exact ha.elim
        | obj l => cases m <;> exact ha.elim
        | non => exact x_not (b := false) (x_ty (x_ixk (k := 0) hv rfl) rfl)
        | bl b => exact x_not (b := false) (x_ty (x_ixk (k := 0) hv rfl) rfl)
        | int b => exact x_not (b := false) (x_ty (x_ixk (k := 0) hv rfl) rfl)
        | tup b => exact x_not (b := false) (x_ty (x_ixk (k := 0) hv rfl) rfl)
        | lst b => exact x_not (b := false) (x_ty (x_ixk (k := 0) hv rfl) rfl)
  | scr l => cases n <;> exact h.elim
  | obj l => cases n <;> exact h.elim
  | non => exact x_or (x := true) (y := true) (x_not (b := false) (x_ty hv rfl)) fun z => by cases z
  | bl b => exact x_or (x := true) (y := true) (x_not (b := false) (x_ty hv rfl)) fun z => by cases z
  | int b => exact x_or (x := true) (y := true) (x_not (b := false) (x_ty hv rfl)) fun z => by cases z
  | str b => exact x_or (x := true) (y := true) (x_not (b := false) (x_ty hv rfl)) fun z => by cases z
  | lst b => exact x_or (x := true) (y := true) (x_not (b := false) (x_ty hv rfl)) fun z => by cases z
end
theorem left_1 {S : Sto} {rec : Fn} {f : Nat} (hf : 1 ≤ f) (hr : ∀ (x : D) (n : Nat) (k : Int), Nc n x → k < f → rec [x, .int k] S = .ok (.int (lI (leftM f k.toNat x))) S) {d : D} {n : Nat} (h : Nc n d) {k : Int} (hk : k < f + 1) :
    F_left_of rec [d, .int k] S = .ok (.int (lI (leftM (f + 1) k.toNat d))) S := by
  unfold F_left_of
  rw [fnB2]
  simp only [Nat.reduceSub, List.reduceReplicate, List.cons_append, List.nil_append]
  by_cases q : k ≤ 0
  · have e : k.toNat = 0 := by omega
    rw [e, leftM_0]
    exact f_ifT (bb := true) (S1 := S) (x_or (x := true) (y := true) (x_op (x := .int k) (y := .int 0) rfl rfl (by rw [o_leI, decide_eq_true q])) fun z => by cases z) rfl (q_seqRet (Q := fun r => r.toE = _) (d := .int (-1)) (S1 := S) rfl rfl)
  obtain ⟨l, hl⟩ : ∃ l : Nat, k = (l + 1 : Nat) := ⟨k.toNat - 1, by omega⟩
  subst hl
  have e1 : (((l + 1 : Nat) : Int)).toNat = l + 1 := by omega
  rw [e1]
  have c0 : (eOr (eOp opLe (eVar 1) (eC (.int 0))) shpE) [some d, some (.int ((l + 1 : Nat) : Int))] S = .ok (.bl (!shapeD d)) S :=
    x_or (x := false) (y := !shapeD d) (x_op (x := .int ((l + 1 : Nat) : Int)) (y := .int 0) rfl rfl (by rw [o_leI, decide_eq_false q])) fun _ => shp h rfl
  by_cases hs : shapeD d = false
  · rw [leftM_no hs]
    rw [hs] at c0
    exact f_ifT (bb := true) (S1 := S) c0 rfl (q_seqRet (Q := fun r => r.toE = _) (d := .int (-1)) (S1 := S) rfl rfl)
  have hs' : shapeD d = true := by cases z : shapeD d with | true => rfl | false => exact absurd z hs
  rw [hs'] at c0
  refine f_if (bb := false) (S1 := S) c0 rfl ?_
  obtain ⟨w, x, r, rfl⟩ := shape_of hs'
  · skip
    obtain ⟨n, rfl⟩ : ∃ m, n = m + 1 := by cases n with | zero => exact h.elim | succ n => exact ⟨n, rfl⟩
    have hw : (D.str w).good = true := str_ok (h.2 _ List.mem_cons_self)
    have hx : Nc n x := h.2 _ (List.mem_cons_of_mem _ List.mem_cons_self)
    have hlim := h.1
    have hv : eVar 0 [some (D.tup (.str w :: x :: r)), some (.int ((l + 1 : Nat) : Int))] S = .ok (.tup (.str w :: x :: r)) S := rfl
    have eq : ∀ c : String, eOp opEq (eOp opIx (eVar 0) (eC (.int 0))) (eC (.str (Str.ofString c))) [some (D.tup (.str w :: x :: r)), some (.int ((l + 1 : Nat) : Int))] S = .ok (.bl (decide (w = Str.ofString c))) S := fun c => x_op (x := .str w) (x_ixk (k := 0) hv rfl) rfl (eq_w1 hw)
    have len : ∀ k : Nat, eOp opEq (eCallB (f1 bLen) (eCons (eVar 0) eNil)) (eC (.int (k : Nat))) [some (D.tup (.str w :: x :: r)), some (.int ((l + 1 : Nat) : Int))] S = .ok (.bl (decide (r.length + 2 = k))) S := fun k => x_op (x := .int ((.str w :: x :: r : List D).length : Nat)) (y := .int (k : Nat)) (x_lenT hv) rfl (by rw [o_eqI]; congr 2; rw [decide_eq_decide]; have : (.str w :: x :: r : List D).length = r.length + 2 := rfl; omega)
    have sub : eOp opSub (eVar 1) (eC (.int 1)) [some (D.tup (.str w :: x :: r)), some (.int ((l + 1 : Nat) : Int))] S = .ok (.int (l : Nat)) S := x_op (x := .int ((l + 1 : Nat) : Int)) (y := .int 1) rfl rfl (by rw [o_sub, show ((l + 1 : Nat) : Int) - 1 = (l : Nat) by omega])
    have rx : eCall rec (eCons (eOp opIx (eVar 0) (eC (.int 1))) (eCons (eOp opSub (eVar 1) (eC (.int 1))) eNil)) [some (D.tup (.str w :: x :: r)), some (.int ((l + 1 : Nat) : Int))] S = .ok (.int (lI (leftM f l x))) S := x_c2 (x_ixk (k := 1) hv rfl) sub (hr x n l hx (by omega))
    have ne3 : eOp opNe (eCallB (f1 bLen) (eCons (eVar 0) eNil)) (eC (.int 3)) [some (D.tup (.str w :: x :: r)), some (.int ((l + 1 : Nat) : Int))] S = .ok (.bl (!decide (r.length = 1))) S := x_op (x := .int ((.str w :: x :: r : List D).length : Nat)) (y := .int 3) (x_lenT hv) rfl (by rw [o_neI]; congr 2; rw [decide_eq_decide.mpr (show (((.str w :: x :: r : List D).length : Int) = 3) ↔ r.length = 1 by have : (.str w :: x :: r : List D).length = r.length + 2 := rfl; omega)])
    have nw : eOp opNotIn (eOp opIx (eVar 0) (eC (.int 0))) (eC c_WORDS) [some (D.tup (.str w :: x :: r)), some (.int ((l + 1 : Nat) : Int))] S = .ok (.bl (!decide (w ∈ words4))) S := x_op (x := .str w) (y := c_WORDS) (x_ixk (k := 0) hv rfl) rfl (notIn_w (l := words4) hw words_gd)
    have n1 : ¬ ((("num" : String) : Str) ∈ words4) := by decide
    have n2 : ¬ ((("name" : String) : Str) ∈ words4) := by decide
    have n3 : ¬ ((("cell" : String) : Str) ∈ words4) := by decide
    have n12 : ¬ ((("name" : String) : Str) = ("num" : String)) := by decide
    have n13 : ¬ ((("cell" : String) : Str) = ("num" : String)) := by decide
    have n23 : ¬ ((("cell" : String) : Str) = ("name" : String)) := by decide
    match r with
    | [] =>
      have e0 : leftM (f + 1) (l + 1) (.tup [.str w, x]) = if w = "num" then (if worthD x then some l else none) else if w = "name" then (if nameD x then some l else none) else if w = "cell" then leftM f l x else none := rfl
      by_cases q1 : w = "num"
      · rw [e0, if_pos q1]
        refine f_ifT (bb := true) (S1 := S) (by rw [eq, decide_eq_true q1]) rfl (q_seqRet (Q := fun r => r.toE = _) (d := .int (lI (if worthD x then some l else none))) (S1 := S) (x_ite (b := worthD x) (S1 := S) (x_and (x := true) (y := worthD x) (len 2) fun _ => x_c1 (x_ixk (k := 1) hv rfl) (worth_ok hx S)) (fun z => ?_) (fun z => ?_)) rfl)
        · rw [z]; exact sub
        · rw [z]; rfl
      refine f_if (bb := false) (S1 := S) (by rw [eq, decide_eq_false q1]) rfl ?_
      by_cases q2 : w = "name"
      · rw [e0, if_neg q1, if_pos q2]
        refine f_ifT (bb := true) (S1 := S) (by rw [eq, decide_eq_true q2]) rfl (q_seqRet (Q := fun r => r.toE = _) (d := .int (lI (if nameD x then some l else none))) (S1 := S) (x_ite (b := nameD x) (S1 := S) (x_and (x := true) (y := nameD x) (len 2) fun _ => x_c1 (x_ixk (k := 1) hv rfl) (name_ok hx S)) (fun z => ?_) (fun z => ?_)) rfl)
        · rw [z]; exact sub
        · rw [z]; rfl
      refine f_if (bb := false) (S1 := S) (by rw [eq, decide_eq_false q2]) rfl ?_
      by_cases q3 : w = "cell"
      · rw [e0, if_neg q1, if_neg q2, if_pos q3]
        exact f_ifT (bb := true) (S1 := S) (x_and (x := true) (y := true) (by rw [eq, decide_eq_true q3]) fun _ => len 2) rfl (q_seqRet (Q := fun r => r.toE = _) rx rfl)
      refine f_if (bb := false) (S1 := S) (x_and (x := false) (y := false) (by rw [eq, decide_eq_false q3]) fun z => by cases z) rfl ?_
      rw [e0, if_neg q1, if_neg q2, if_neg q3]
      refine f_ifT (bb := true) (S1 := S) ?_ rfl (q_seqRet (Q := fun r => r.toE = _) (d := .int (-1)) (S1 := S) rfl rfl)
      have := x_or (y := true) nw (fun _ => ne3)
      rwa [Bool.or_true] at this
    | [y] =>
      have hy : Nc n y := h.2 _ (List.mem_cons_of_mem _ (List.mem_cons_of_mem _ List.mem_cons_self))
      have e0 : leftM (f + 1) (l + 1) (.tup [.str w, x, y]) = if w ∈ words4 then (match leftM f l x with | some r => leftM f r y | none => none) else none := rfl
      by_cases q1 : w = "num"
      · rw [e0, if_neg (by rw [q1]; exact n1)]
        exact f_ifT (bb := true) (S1 := S) (by rw [eq, decide_eq_true q1]) rfl (q_seqRet (Q := fun r => r.toE = _) (d := .int (-1)) (S1 := S) (x_ite (b := false) (S1 := S) (x_and (x := false) (y := false) (len 2) fun z => by cases z) (fun z => by cases z) (fun z => rfl)) rfl)
      refine f_if (bb := false) (S1 := S) (by rw [eq, decide_eq_false q1]) rfl ?_
      by_cases q2 : w = "name"
      · rw [e0, if_neg (by rw [q2]; exact n2)]
        exact f_ifT (bb := true) (S1 := S) (by rw [eq, decide_eq_true q2]) rfl (q_seqRet (Q := fun r => r.toE = _) (d := .int (-1)) (S1 := S) (x_ite (b := false) (S1 := S) (x_and (x := false) (y := false) (len 2) fun z => by cases z) (fun z => by cases z) (fun z => rfl)) rfl)
      refine f_if (bb := false) (S1 := S) (by rw [eq, decide_eq_false q2]) rfl ?_
      refine f_if (bb := false) (S1 := S) ?_ rfl ?_
      · have := x_and (y := false) (eq "cell") (fun _ => len 2)
        rwa [Bool.and_false] at this
      by_cases q4 : w ∈ words4
      · rw [e0, if_pos q4]
        refine f_if (bb := false) (S1 := S) (x_or (x := false) (y := false) (by rw [nw, decide_eq_true q4]; rfl) fun _ => ne3) rfl ?_
        refine f_ret (d := .int (lI (match leftM f l x with | some r => leftM f r y | none => none))) (S1 := S) (x_c2 (x := y) (y := .int (lI (leftM f l x))) (x_ixk (k := 2) hv rfl) rx ?_) rfl
        cases e : leftM f l x with
        | none => rw [hr y n (lI none) hy (by show (-1 : Int) < f; omega), show (lI none).toNat = 0 from rfl, leftM_0]
        | some j =>
          have := leftM_lt e
          rw [hr y n (lI (some j)) hy (by show (j : Int) < f; omega), show (lI (some j)).toNat = j from Int.toNat_natCast j]
      · rw [e0, if_neg q4]
        exact f_ifT (bb := true) (S1 := S) (x_or (x := true) (y := true) (by rw [nw, decide_eq_false q4]; rfl) fun z => by cases z) rfl (q_seqRet (Q := fun r => r.toE = _) (d := .int (-1)) (S1 := S) rfl rfl)
    | a :: b :: r =>
      have e0 : leftM (f + 1) (l + 1) (.tup (.str w :: x :: a :: b :: r)) = none := rfl
      have hl2 : ¬ ((a :: b :: r).length + 2 = 2) := by simp
      have hl3 : ¬ ((a :: b :: r).length = 1) := by simp
      rw [e0]
      have len2 := len 2
      rw [decide_eq_false hl2] at len2
      rw [decide_eq_false hl3] at ne3
      by_cases q1 : w = "num"
      · exact f_ifT (bb := true) (S1 := S) (by rw [eq, decide_eq_true q1]) rfl (q_seqRet (Q := fun r => r.toE = _) (d := .int (-1)) (S1 := S) (x_ite (b := false) (S1 := S) (x_and (x := false) (y := false) len2 fun z => by cases z) (fun z => by cases z) (fun z => rfl)) rfl)
      refine f_if (bb := false) (S1 := S) (by rw [eq, decide_eq_false q1]) rfl ?_
      by_cases q2 : w = "name"
      · exact f_ifT (bb := true) (S1 := S) (by rw [eq, decide_eq_true q2]) rfl (q_seqRet (Q := fun r => r.toE = _) (d := .int (-1)) (S1 := S) (x_ite (b := false) (S1 := S) (x_and (x := false) (y := false) len2 fun z => by cases z) (fun z => by cases z) (fun z => rfl)) rfl)
      refine f_if (bb := false) (S1 := S) (by rw [eq, decide_eq_false q2]) rfl ?_
      refine f_if (bb := false) (S1 := S) ?_ rfl ?_
      · have := x_and (y := false) (eq "cell") (fun _ => len2)
        rwa [Bool.and_false] at this
      refine f_ifT (bb := true) (S1 := S) ?_ rfl (q_seqRet (Q := fun r => r.toE = _) (d := .int (-1)) (S1 := S) rfl rfl)
      have := x_or (y := true) nw (fun _ => ne3)
      rwa [Bool.or_true] at this
theorem leftP_n (S : Sto) : ∀ (f : Nat) (d : D) (n : Nat) (k : Int), 1 ≤ f → Nc n d → k < f → recN F_left_of f [d, .int k] S = .ok (.int (lI (leftM f k.toNat d))) S
  | 0, _, _, _, h, _, _ => by omega
  | 1, d, n, k, _, h, hk => by
    have e : k.toNat = 0 := by omega
    rw [e, leftM_0]
    show F_left_of (recN F_left_of 0) [d, .int k] S = _
    unfold F_left_of
    rw [fnB2]
    simp only [Nat.reduceSub, List.reduceReplicate, List.cons_append, List.nil_append]
    exact f_ifT (bb := true) (S1 := S) (x_or (x := true) (y := true) (x_op (x := .int k) (y := .int 0) rfl rfl (by rw [o_leI, decide_eq_true (by omega)])) fun z => by cases z) rfl (q_seqRet (Q := fun r => r.toE = _) (d := .int (-1)) (S1 := S) rfl rfl)
  | f + 2, d, n, k, _, h, hk => left_1 (f := f + 1) (by omega) (fun x n k hx hk => leftP_n S (f + 1) x n k (by omega) hx hk) h (by omega)
def sumD (d : D) : Bool := (leftM 20 15 d).isSome
theorem ge_lI {S : Sto} {o : Option Nat} : opGe S (.int (lI o)) (.int 0) = some (.bl o.isSome) := by
  rw [o_geI]
  cases o with
  | none => rfl
  | some k =>
    show some (D.bl (decide ((0 : Int) ≤ (k : Nat)))) = _
    rw [decide_eq_true (show (0 : Int) ≤ (k : Nat) by omega)]; rfl
theorem is_sum_ok {d : D} {n : Nat} (h : Nc n d) (S : Sto) : G_is_sum [d] S = .ok (.bl (sumD d)) S := by
  unfold G_is_sum F_is_sum
  rw [fnB1]
  exact f_ret (d := .bl (sumD d)) (S1 := S) (x_op (x := .int (lI (leftM 20 15 d))) (y := .int 0) (x_c2 (x := d) (y := .int 15) rfl rfl (leftP_n S 20 d n 15 (by decide) h (by decide))) rfl ge_lI) rfl
end Bt
namespace Bt
open PySem PySem.Spec PyProof.Rows L2 TL
def swM : Sm → List Str
  | .num k => [nS k]
  | .name i => [nmS i]
  | .cell a => "cell" :: swM a
  | .add a b => "add" :: (swM a ++ swM b)
  | .sub a b => "sub" :: (swM a ++ swM b)
  | .mul a b => "mul" :: (swM a ++ swM b)
  | .less a b => "less" :: (swM a ++ swM b)
theorem wd_lit {s : String} (h1 : (Str.ofString s).length ≤ 10 := by decide) (h2 : 32 ∉ tl (Str.ofString s) := by decide) (h3 : 10 ∉ tl (Str.ofString s) := by decide) (h4 : tl (Str.ofString s) ≠ [] := by decide) : Wd (Str.ofString s) := ⟨strOk_of s, h1, h2, h3, h4⟩
theorem wd_nm (i : Fin 6) : Wd (nmS i) := by
  have h : ∀ i : Fin 6, (nmS i).length ≤ 10 ∧ 32 ∉ tl (nmS i) ∧ 10 ∉ tl (nmS i) ∧ tl (nmS i) ≠ [] := by decide
  obtain ⟨h1, h2, h3, h4⟩ := h i
  exact ⟨(gd_nm (i := i) (n := 0)).1, h1, h2, h3, h4⟩
theorem wd_nS {k : Int} (h : 0 ≤ k) (h2 : k < 100000) : Wd (nS k) := by
  have e := tl_nS h
  have hl : (numL k.toNat).length ≤ 5 := numL_len (by decide) (by omega)
  refine ⟨strOk_of _, ?_, ?_, ?_, ?_⟩
  · show (nS k).cps.size ≤ 10
    rw [← Array.length_toList]
    show (tl (nS k)).length ≤ 10
    rw [e]; omega
  · rw [e]; exact numL_free (.inl (by decide))
  · rw [e]; exact numL_free (.inl (by decide))
  · rw [e]; exact numL_ne _
theorem sw_wd : ∀ {a : Sm}, a.ok → ∀ w ∈ swM a, Wd w
  | .num k, h, w, hw => by rw [List.mem_singleton.mp hw]; exact wd_nS h.1 (by have := h.2; omega)
  | .name i, h, w, hw => by rw [List.mem_singleton.mp hw]; exact wd_nm i
  | .cell a, h, w, hw => by
    rcases List.mem_cons.mp hw with rfl | hw
    · exact wd_lit
    · exact sw_wd (a := a) h w hw
  | .add a b, h, w, hw => by
    rcases List.mem_cons.mp hw with rfl | hw
    · exact wd_lit
    · exact (List.mem_append.mp hw).elim (sw_wd (a := a) h.1 w) (sw_wd (a := b) h.2 w)
  | .sub a b, h, w, hw => by
    rcases List.mem_cons.mp hw with rfl | hw
    · exact wd_lit
    · exact (List.mem_append.mp hw).elim (sw_wd (a := a) h.1 w) (sw_wd (a := b) h.2 w)
  | .mul a b, h, w, hw => by
    rcases List.mem_cons.mp hw with rfl | hw
    · exact wd_lit
    · exact (List.mem_append.mp hw).elim (sw_wd (a := a) h.1 w) (sw_wd (a := b) h.2 w)
  | .less a b, h, w, hw => by
    rcases List.mem_cons.mp hw with rfl | hw
    · exact wd_lit
    · exact (List.mem_append.mp hw).elim (sw_wd (a := a) h.1 w) (sw_wd (a := b) h.2 w)
theorem sw_ne (a : Sm) : swM a ≠ [] := by cases a <;> simp [swM]
theorem sw_two (a b : Sm) (ha : (swM a).length + 1 ≤ 2 ^ (a.dep + 1)) (hb : (swM b).length + 1 ≤ 2 ^ (b.dep + 1)) : (swM a ++ swM b).length + 1 + 1 ≤ 2 ^ (max a.dep b.dep + 1 + 1) := by
  have h1 : 2 ^ (a.dep + 1) ≤ 2 ^ (max a.dep b.dep + 1) := Nat.pow_le_pow_right (by decide) (by omega)
  have h2 : 2 ^ (b.dep + 1) ≤ 2 ^ (max a.dep b.dep + 1) := Nat.pow_le_pow_right (by decide) (by omega)
  rw [List.length_append, Nat.pow_succ]; omega
theorem sw_len : ∀ a : Sm, (swM a).length + 1 ≤ 2 ^ (a.dep + 1)
  | .num k => by show 1 + 1 ≤ 2 ^ 1; decide
  | .name i => by show 1 + 1 ≤ 2 ^ 1; decide
  | .cell a => by
    have := sw_len a
    show (swM a).length + 1 + 1 ≤ 2 ^ (a.dep + 1 + 1)
    rw [Nat.pow_succ]; omega
  | .add a b => sw_two a b (sw_len a) (sw_len b)
  | .sub a b => sw_two a b (sw_len a) (sw_len b)
  | .mul a b => sw_two a b (sw_len a) (sw_len b)
  | .less a b => sw_two a b (sw_len a) (sw_len b)
theorem sw_few {a : Sm} (h : a.dep < 10) : (swM a).length ≤ 1024 := by
  have := sw_len a
  have h1 : 2 ^ (a.dep + 1) ≤ 2 ^ 10 := Nat.pow_le_pow_right (by decide) (by omega)
  have : (2 : Nat) ^ 10 = 1024 := by decide
  omega
def wNN : List Str := ["num", "name"]
theorem wNN_gd : (D.tup (wNN.map D.str)).good = true := (gd_tup (n := 0) fun d hd => by
  obtain ⟨i, hi, rfl⟩ := List.mem_map.mp hd
  simp only [wNN, List.mem_cons, List.not_mem_nil, or_false] at hi
  rcases hi with rfl | rfl <;> exact gd_str).good
theorem bstr_i {S : Sto} {k : Int} (h : k.natAbs < 10 ^ 15) : bStrT S (.int k) = some (.str (nS k)) := by
  show (if k.natAbs < 10 ^ 15 then some (D.str (toString k)) else none) = _
  rw [if_pos h]; rfl
theorem add_strs {S : Sto} {l m : List Str} (h : l.length + m.length ≤ 1000000) : opAdd S (.lst (l.map D.str)) (.lst (m.map D.str)) = some (.lst ((l ++ m).map D.str)) := by
  rw [o_addL, if_pos (by show (l.map D.str).length + (m.map D.str).length ≤ 1000000; rw [List.length_map, List.length_map]; exact h), List.map_append]
theorem sum_words_1 {S : Sto} {rec : Fn} {w : String} (hw : Str.ofString w ∉ wNN) {xs : List Sm} (hx : ∀ x ∈ xs, rec [x.d] S = .ok (.lst ((swM x).map D.str)) S ∧ x.dep < 10) (h2 : xs.length ≤ 2) :
    F_sum_words rec [.tup (.str (Str.ofString w) :: xs.map Sm.d)] S = .ok (.lst ((Str.ofString w :: (xs.map swM).flatten).map D.str)) S := by
  unfold F_sum_words
  rw [fnB1]
  simp only [Nat.reduceSub, List.reduceReplicate, List.cons_append, List.nil_append]
  have hv : eVar 0 [some (D.tup (.str (Str.ofString w) :: xs.map Sm.d)), none, none] S = .ok (.tup (.str (Str.ofString w) :: xs.map Sm.d)) S := rfl
  refine f_if (bb := false) (S1 := S) (x_op (x := .str (Str.ofString w)) (y := .tup (wNN.map D.str)) (x_ixk (k := 0) hv rfl) rfl (by rw [in_w good_str wNN_gd, decide_eq_false hw])) rfl ?_
  refine f_set (d := .lst ([Str.ofString w].map D.str)) (S1 := S) (x_lst1 (x_ixk (k := 0) hv rfl)) ?_
  have fl : ∀ k, ((xs.take k).map swM).flatten.length ≤ 2048 := fun k => by
    have : ∀ l : List Sm, (∀ x ∈ l, x.dep < 10) → (l.map swM).flatten.length ≤ l.length * 1024 := by
      intro l
      induction l with
      | nil => intro _; simp
      | cons a l ih =>
        intro h
        rw [List.map_cons, List.flatten_cons, List.length_append, List.length_cons]
        have := sw_few (h a List.mem_cons_self)
        have := ih fun x hx => h x (List.mem_cons_of_mem _ hx)
        omega
    have h3 := this (xs.take k) fun x hxx => (hx x (List.mem_of_mem_take hxx)).2
    have : (xs.take k).length ≤ 2 := by rw [List.length_take]; omega
    have : (xs.take k).length * 1024 ≤ 2 * 1024 := Nat.mul_le_mul_right _ this
    omega
  refine f_for (f := Sm.d) (xs := xs) (S1 := S) (fun k ρ S' => S' = S ∧ ∃ o2, ρ = [some (D.tup (.str (Str.ofString w) :: xs.map Sm.d)), some (.lst ((Str.ofString w :: ((xs.take k).map swM).flatten).map D.str)), o2]) (it ?_) ⟨rfl, none, rfl⟩ ?_ ?_
  · rw [s_sl]
    show lift1 (some (D.tup (cutD (.str (Str.ofString w) :: xs.map Sm.d) (some 1) none))) S = _
    rw [cut_suf (by decide)]; rfl
  · rintro k x hk ρ S' ⟨rfl, o2, rfl⟩
    refine ⟨[some (D.tup (.str (Str.ofString w) :: xs.map Sm.d)), some (.lst ((Str.ofString w :: ((xs.take k).map swM).flatten).map D.str)), some x.d], rfl, ?_⟩
    have hm := List.mem_of_getElem? hk
    have e : ((xs.take (k + 1)).map swM).flatten = ((xs.take k).map swM).flatten ++ swM x := by
      rw [List.take_succ, hk]; simp
    have := fl k
    have := sw_few (hx x hm).2
    refine n_set1 (d := .lst ((Str.ofString w :: ((xs.take (k + 1)).map swM).flatten).map D.str)) (S1 := S') (x_op (x := .lst ((Str.ofString w :: ((xs.take k).map swM).flatten).map D.str)) (y := .lst ((swM x).map D.str)) rfl (x_c1 (x := x.d) rfl (hx x hm).1) ?_) (nx_p ⟨rfl, _, rfl⟩)
    rw [add_strs (by rw [List.length_cons]; omega), e]; rfl
  rintro ρ S' ⟨rfl, o2, rfl⟩
  rw [List.take_length]
  exact f_ret (S1 := S') rfl rfl
theorem sum_words_0 {S : Sto} {rec : Fn} {w : String} (hw : Str.ofString w ∈ wNN) {x : D} {z : Str} (hz : bStrT S x = some (.str z)) : F_sum_words rec [.tup [.str (Str.ofString w), x]] S = .ok (.lst [.str z]) S := by
  unfold F_sum_words
  rw [fnB1]
  simp only [Nat.reduceSub, List.reduceReplicate, List.cons_append, List.nil_append]
  exact f_ifT (bb := true) (S1 := S) (x_op (x := .str (Str.ofString w)) (y := .tup (wNN.map D.str)) rfl rfl (by rw [in_w good_str wNN_gd, decide_eq_true hw])) rfl (q_seqRet (Q := fun r => r.toE = _) (S1 := S) (x_lst1 (x_B1 (x := x) rfl hz)) rfl)
theorem sw2 {S : Sto} (f : Nat) (w : String) (hw : Str.ofString w ∉ wNN) (a b : Sm) (ia : a.dep < f → a.dep < 10 → recN F_sum_words f [a.d] S = .ok (.lst ((swM a).map D.str)) S) (ib : b.dep < f → b.dep < 10 → recN F_sum_words f [b.d] S = .ok (.lst ((swM b).map D.str)) S)
    (hf : max a.dep b.dep + 1 < f + 1) (hd : max a.dep b.dep + 1 < 10) : F_sum_words (recN F_sum_words f) [.tup [.str (Str.ofString w), a.d, b.d]] S = .ok (.lst ((Str.ofString w :: (swM a ++ swM b)).map D.str)) S := by
      have := sum_words_1 (S := S) (rec := recN F_sum_words f) (w := w) hw (xs := [a, b]) (fun x hx => by
        simp only [List.mem_cons, List.not_mem_nil, or_false] at hx
        rcases hx with rfl | rfl
        · exact ⟨ia (by omega) (by omega), by omega⟩
        · exact ⟨ib (by omega) (by omega), by omega⟩) (by show 2 ≤ 2; decide)
      simpa using this
theorem sum_words_law (S : Sto) : ∀ (f : Nat) (a : Sm), a.ok → a.dep < f → a.dep < 10 → recN F_sum_words f [a.d] S = .ok (.lst ((swM a).map D.str)) S
  | 0, _, _, h, _ => by omega
  | f + 1, .num k, ha, _, _ => sum_words_0 (w := "num") (by decide) (bstr_i (by have := ha.1; have := ha.2; omega))
  | f + 1, .name i, ha, _, _ => sum_words_0 (w := "name") (by decide) rfl
  | f + 1, .cell a, ha, hf, hd => by
    have hf : a.dep + 1 < f + 1 := hf
    have hd : a.dep + 1 < 10 := hd
    have := sum_words_1 (S := S) (rec := recN F_sum_words f) (w := "cell") (by decide) (xs := [a]) (fun x hx => by rw [List.mem_singleton.mp hx]; exact ⟨sum_words_law S f a ha (by omega) (by omega), by omega⟩) (by show 1 ≤ 2; decide)
    show F_sum_words (recN F_sum_words f) [.tup [.str (Str.ofString "cell"), a.d]] S = .ok (.lst ((Str.ofString "cell" :: swM a).map D.str)) S
    simpa using this
  | f + 1, .add a b, ha, hf, hd => sw2 f "add" (by decide) a b (sum_words_law S f a ha.1) (sum_words_law S f b ha.2) hf hd
  | f + 1, .sub a b, ha, hf, hd => sw2 f "sub" (by decide) a b (sum_words_law S f a ha.1) (sum_words_law S f b ha.2) hf hd
  | f + 1, .mul a b, ha, hf, hd => sw2 f "mul" (by decide) a b (sum_words_law S f a ha.1) (sum_words_law S f b ha.2) hf hd
  | f + 1, .less a b, ha, hf, hd => sw2 f "less" (by decide) a b (sum_words_law S f a ha.1) (sum_words_law S f b ha.2) hf hd
end Bt
namespace Bt
open PySem PySem.Spec PyProof.Rows L2 TL
theorem jn_one (y w : Str) : Txt.join y [w] = w := by rw [join_eq]; rfl
end Bt
namespace Bt
open PySem PySem.Spec PyProof.Rows L2 TL
theorem x_join {fo fe : Ex} {ρ : Env} {S S1 S2 : Sto} {y : Str} {ws : List Str} (ho : fo ρ S = .ok (.str y) S1) (he : fe ρ S1 = .ok (.lst (ws.map D.str)) S2) (hl : (ws.map (·.length)).sum + ws.length * y.length ≤ 16777216) : eJoin fo fe ρ S = .ok (.str (Txt.join y ws)) S2 := by
  unfold eJoin
  rw [ho]
  show (fe ρ S1).bind _ = _
  rw [he]
  show (match strsOf (ws.map D.str) with | some ys => _ | none => _) = _
  rw [strsOf_map]
  exact if_pos hl
theorem sum_le {l : List Nat} {k : Nat} (h : ∀ x ∈ l, x ≤ k) : l.sum ≤ l.length * k := by
  induction l with
  | nil => simp
  | cons a l ih =>
    rw [List.sum_cons, List.length_cons, Nat.succ_mul]
    have := h a List.mem_cons_self
    have := ih fun x hx => h x (List.mem_cons_of_mem _ hx)
    omega
theorem wd_room {ws : List Str} {y : Str} {k : Nat} (h : ∀ w ∈ ws, w.length ≤ k) (hy : y.length ≤ 1) (hl : ws.length * (k + 1) ≤ 16777216) : (ws.map (·.length)).sum + ws.length * y.length ≤ 16777216 := by
  have h1 : (ws.map (·.length)).sum ≤ ws.length * k := by
    have := sum_le (l := ws.map (·.length)) (k := k) (by simpa using h)
    rwa [List.length_map] at this
  have h2 : ws.length * y.length ≤ ws.length * 1 := Nat.mul_le_mul_left _ hy
  have : ws.length * (k + 1) = ws.length * k + ws.length := by rw [Nat.mul_add]; omega
  omega
theorem len_join (y : Str) (hy : y.length ≤ 1) : ∀ (ws : List Str) (k : Nat), (∀ w ∈ ws, w.length ≤ k) → (Txt.join y ws).length ≤ ws.length * (k + 1) := by
  intro ws k h
  rw [join_eq]
  induction ws with
  | nil => exact Nat.zero_le _
  | cons a l ih =>
    have ha := h a List.mem_cons_self
    cases l with
    | nil =>
      show a.length ≤ (0 + 1) * (k + 1)
      omega
    | cons b r =>
      have e : Str.join y (a :: b :: r) = a ++ y ++ Str.join y (b :: r) := rfl
      have := ih fun x hx => h x (List.mem_cons_of_mem _ hx)
      rw [e, len_tl, tl_append, tl_append, List.length_append, List.length_append, ← len_tl, ← len_tl, ← len_tl]
      show _ ≤ ((b :: r).length + 1) * (k + 1)
      rw [Nat.succ_mul]; omega
end Bt
namespace Bt
open PySem PySem.Spec PyProof.Rows L2 TL
abbrev blank : Str := " "
/-- a sum's, a row's, a program's text -/
noncomputable def stM (a : Sm) : Str := Txt.join blank (swM a)
theorem blank_len : blank.length ≤ 1 := by decide
theorem st_len {a : Sm} (ha : a.ok) (hd : a.dep < 10) : (stM a).length ≤ 11264 := by
  have h1 := len_join blank blank_len (swM a) 10 fun w hw => (sw_wd ha w hw).len
  have h2 := sw_few hd
  have : (swM a).length * 11 ≤ 1024 * 11 := Nat.mul_le_mul_right _ h2
  unfold stM; omega
theorem written_sum_txt (S : Sto) {a : Sm} (ha : a.ok) (hd : a.dep < 10) : F_written_sum [a.d] S = .ok (.str (stM a)) S := by
  unfold F_written_sum
  rw [fnB1]
  simp only [Nat.reduceSub, List.reduceReplicate, List.cons_append, List.nil_append]
  refine f_ret (S1 := S) (x_join (y := blank) (ws := swM a) rfl (x_c1 (x := a.d) rfl (sum_words_law S 20 a ha (by omega) hd)) ?_) rfl
  refine wd_room (k := 10) (fun w hw => (sw_wd ha w hw).len) blank_len ?_
  have := sw_few hd
  omega
end Bt
namespace Bt
open PySem PySem.Spec PyProof.Rows L2 TL
abbrev wF (n : Nat) : List (Str × FV) := [("left", .d (.obj (n + 1)))]
abbrev wdO (n : Nat) : AObj := .inst "Words" (wF n)
def WS (T : Sto) (ws : List Str) : Sto := T ++ [wdO T.length, .list (ws.reverse.map D.str)]
section
variable {T : Sto} {ws vs : List Str} {ρ : Env} {fo fa : Ex} {w : Str}
theorem ws_0 : (WS T ws)[T.length]? = some (wdO T.length) := by
  unfold WS; rw [List.getElem?_append_right (Nat.le_refl _), Nat.sub_self]; rfl
theorem ws_1 : (WS T ws)[T.length + 1]? = some (.list (ws.reverse.map D.str)) := by
  unfold WS; rw [List.getElem?_append_right (by omega), Nat.add_sub_cancel_left]; rfl
theorem ws_set : (WS T ws).set (T.length + 1) (.list (vs.reverse.map D.str)) = WS T vs := by
  unfold WS; rw [List.set_append_right _ _ (by omega), Nat.add_sub_cancel_left]; rfl
theorem ws_take : (WS T ws).take T.length = T := by unfold WS; rw [List.take_left]
theorem w_rd : rdAt "Words" (WS T ws) (.obj T.length) = some (wF T.length) := by
  unfold rdAt; simp only [ws_0, if_true]
theorem w_left (ho : fo ρ (WS T ws) = .ok (.obj T.length) (WS T ws)) : eFld "Words" "left" fo ρ (WS T ws) = .ok (.obj (T.length + 1)) (WS T ws) := by
  rw [s_fld, ho]
  simp only [ER.bind_ok, w_rd]
  rfl
theorem w_m0 {m : Str} {F : Fn} {r : ER} (ho : fo ρ (WS T ws) = .ok (.obj T.length) (WS T ws)) (hm : getF m (wF T.length) = none) (h : F [.obj T.length] (WS T ws) = r) : eMCall "Words" m F fo eNil ρ (WS T ws) = r := by
  rw [s_mcall, ho]
  simp only [ER.bind_ok, w_rd, hm]
  exact h
theorem w_m1 {m : Str} {F : Fn} {r : ER} {y : D} {S2 : Sto} (ho : fo ρ (WS T ws) = .ok (.obj T.length) (WS T ws)) (hm : getF m (wF T.length) = none) (ha : fa ρ (WS T ws) = .ok y S2) (h : F [.obj T.length, y] S2 = r) : eMCall "Words" m F fo (eCons fa eNil) ρ (WS T ws) = r := by
  rw [s_mcall, ho]
  simp only [ER.bind_ok, w_rd, hm, s_cons, ha, s_nil]
  exact h
theorem w_pop (h : fo ρ (WS T (w :: ws)) = .ok (.obj (T.length + 1)) (WS T (w :: ws))) : ePop fo ρ (WS T (w :: ws)) = .ok (.str w) (WS T ws) := by
  unfold ePop
  rw [h]
  have e : ((w :: ws).reverse.map D.str) = ws.reverse.map D.str ++ [.str w] := by simp
  simp only [ER.bind_ok, ws_1]
  rw [e]
  have e2 : (ws.reverse.map D.str ++ [D.str w])[(ws.reverse.map D.str ++ [D.str w]).length - 1]? = some (D.str w) := by simp
  simp only [e2, List.dropLast_concat]
  rw [ws_set]
theorem strs_gd (h : ∀ w ∈ ws, PyData.strOk w = true) : (D.lst (ws.map D.str)).good = true := (gd_lst (n := 0) fun d hd => by
  obtain ⟨i, hi, rfl⟩ := List.mem_map.mp hd
  exact ⟨h i hi, Nat.zero_le _⟩).good
theorem eqv_nil : ∀ l : List D, D.eqv (.lst l) (.lst []) = decide (l = [])
  | [] => rfl
  | a :: l => rfl
theorem ws_eq (h : ∀ w ∈ ws, PyData.strOk w = true) : opEqS (WS T ws) (.obj (T.length + 1)) (.lst []) = some (.bl (decide (ws = []))) := by
  have e : unO (WS T ws) (.obj (T.length + 1)) = .lst (ws.reverse.map D.str) := by unfold unO; simp only [ws_1]
  unfold opEqS
  rw [e]
  show opEq _ (.lst (ws.reverse.map D.str)) (.lst []) = _
  unfold opEq
  rw [strs_gd (fun w hw => h w (List.mem_reverse.mp hw)), eqv_nil]
  show some (D.bl _) = _
  congr 2
  simp
theorem ws_ne (h : ∀ w ∈ ws, PyData.strOk w = true) : opNeS (WS T ws) (.obj (T.length + 1)) (.lst []) = some (.bl (!decide (ws = []))) := by
  have e : unO (WS T ws) (.obj (T.length + 1)) = .lst (ws.reverse.map D.str) := by unfold unO; simp only [ws_1]
  unfold opNeS
  rw [e]
  show opNe _ (.lst (ws.reverse.map D.str)) (.lst []) = _
  unfold opNe
  rw [strs_gd (fun w hw => h w (List.mem_reverse.mp hw)), eqv_nil]
  show some (D.bl _) = _
  congr 3
  simp
theorem ws_last : opIx (WS T (w :: ws)) (.obj (T.length + 1)) (.int (-1)) = some (.str w) := by
  have e : ((w :: ws).reverse.map D.str) = ws.reverse.map D.str ++ [.str w] := by simp
  show (match seqOf (WS T (w :: ws)) (.obj (T.length + 1)) with | some l => atI l (-1) | none => none) = _
  have e2 : seqOf (WS T (w :: ws)) (.obj (T.length + 1)) = some ((w :: ws).reverse.map D.str) := by unfold seqOf; simp only [ws_1]
  rw [e2, e]
  simp only
  unfold atI ixN
  rw [if_neg (by decide), if_pos (by rw [List.length_append]; show -(((ws.reverse.map D.str).length + 1 : Nat) : Int) ≤ -1; omega)]
  show (ws.reverse.map D.str ++ [D.str w])[((-1 : Int) + ((ws.reverse.map D.str ++ [D.str w]).length : Int)).toNat]? = _
  have e3 : ((-1 : Int) + ((ws.reverse.map D.str ++ [D.str w]).length : Int)).toNat = (ws.reverse.map D.str).length := by rw [List.length_append]; simp; omega
  rw [e3]; simp
end
theorem word_law (T : Sto) (w : Str) (ws : List Str) (h : WsOk (w :: ws)) : F_Words_word [.obj T.length] (WS T (w :: ws)) = .ok (.str w) (WS T ws) := by
  unfold F_Words_word
  rw [fnB1]
  simp only [Nat.reduceSub, List.reduceReplicate, List.cons_append, List.nil_append]
  refine f_if (bb := false) (S1 := WS T (w :: ws)) (x_op (x := .obj (T.length + 1)) (y := .lst []) (w_left rfl) rfl (by rw [ws_eq h.so]; rfl)) rfl ?_
  exact f_ret (S1 := WS T ws) (w_pop (w_left rfl)) rfl
end Bt
namespace Bt
open PySem PySem.Spec PyProof.Rows L2 TL
def digs : List Nat := [48, 49, 50, 51, 52, 53, 54, 55, 56, 57]
theorem in_figs {S : Sto} {c : Nat} : opIn S (.str ⟨#[c]⟩) c_FIGURES = some (.bl (decide (c ∈ digs))) := rfl
theorem numL_dig {n c : Nat} (h : c ∈ numL n) : c ∈ digs := by
  have := numL_digits n c h
  have h1 : 48 ≤ c ∧ c ≤ 57 := this
  have : c = 48 ∨ c = 49 ∨ c = 50 ∨ c = 51 ∨ c = 52 ∨ c = 53 ∨ c = 54 ∨ c = 55 ∨ c = 56 ∨ c = 57 := by omega
  rcases this with rfl | rfl | rfl | rfl | rfl | rfl | rfl | rfl | rfl | rfl <;> decide
theorem bls_true {α : Type} : ∀ l : List α, blsOf (l.map fun _ => D.bl true) = some (l.map fun _ => true)
  | [] => rfl
  | a :: l => by
    show (match blsOf (l.map fun _ => D.bl true) with | some m => some (true :: m) | none => none) = _
    rw [bls_true l]; rfl
theorem all_true {S : Sto} {α : Type} (l : List α) : bAll S (.lst (l.map fun _ => D.bl true)) = some (.bl true) := by
  show (match blsOf (l.map fun _ => D.bl true) with | some bs => some (D.bl (bs.all id)) | none => none) = _
  rw [bls_true]
  show some (D.bl _) = _
  congr 2
  rw [List.all_map]
  exact List.all_eq_true.mpr fun _ _ => rfl
theorem number_law (T : Sto) {k : Int} (h0 : 0 ≤ k) (h1 : k < 100000) (ws : List Str) (h : WsOk (nS k :: ws)) : F_Words_number [.obj T.length] (WS T (nS k :: ws)) = .ok (.int k) (WS T ws) := by
  obtain ⟨n, rfl⟩ := Int.eq_ofNat_of_zero_le h0
  have etl : tl (nS (n : Int)) = numL n := tl_nS (k := (n : Int)) h0
  have hlen : (nS (n : Int)).length = (numL n).length := by rw [len_tl, etl]
  have hl5 : (numL n).length ≤ 5 := numL_len (by decide) (by omega)
  have hl1 : 1 ≤ (numL n).length := by
    cases e : numL n with
    | nil => exact absurd e (numL_ne n)
    | cons a l => simp
  unfold F_Words_number
  rw [fnB1]
  simp only [Nat.reduceSub, List.reduceReplicate, List.cons_append, List.nil_append]
  refine f_set (d := .str (nS n)) (S1 := WS T ws) (w_m0 rfl rfl (word_law T _ ws h)) ?_
  refine f_if (bb := false) (S1 := WS T ws) (x_or (x := false) (y := false) ?_ fun _ => ?_) rfl ?_
  · have c := x_chLL (ρ := [some (D.obj T.length), some (.str (nS n)), none]) (S := WS T ws) (S1 := WS T ws) (i := 1) (j := ((numL n).length : Nat)) (k := 5) (fa := eC (.int 1)) (fb := eCallB (f1 bLen) (eCons (eVar 1) eNil)) (fc := eC (.int 5)) rfl (x_B1 (x := .str (nS n)) rfl (by
      show (if (nS (n : Int)).length ≤ lim then some (D.int (nS (n : Int)).length) else none) = _
      rw [if_pos (by rw [hlen]; show _ ≤ 1000000; omega), hlen])) rfl
    rw [decide_eq_true (by omega)] at c
    exact x_not (b := true) c
  · have c : eCallB (f1 bAll) (eCons (eComp [2] (iStrE (eVar 1)) (dN 2) eYes (eOp opIn (eVar 2) (eC c_FIGURES))) eNil) [some (D.obj T.length), some (.str (nS n)), none] (WS T ws) = .ok (.bl true) (WS T ws) := by
      refine x_B1 (x := .lst ((signs (nS n)).map fun _ => .bl true)) ?_ (all_true _)
      refine comp_all (f := D.str) (xs := signs (nS n)) (fun _ => .bl true) rfl (fun x hx => ⟨[some (D.obj T.length), some (.str (nS n)), some (.str x)], rfl, ?_⟩) ?_
      · obtain ⟨c, hc, rfl⟩ := List.mem_map.mp hx
        have hc' : c ∈ numL n := by rw [← etl]; exact hc
        exact x_op (x := .str ⟨#[c]⟩) (y := c_FIGURES) rfl rfl (by rw [in_figs, decide_eq_true (numL_dig hc')])
      · show ((nS (n : Int)).cps.toList.map _).length ≤ 1000000
        rw [List.length_map]
        show (tl (nS (n : Int))).length ≤ _
        rw [etl]; omega
    exact x_not (b := true) c
  · refine f_ret (d := .int n) (S1 := WS T ws) (x_B1 (x := .str (nS n)) rfl ?_) rfl
    show (if (nS (n : Int)).length ≤ 640 then (match intText? (nS (n : Int)) with | some n => some (D.int n) | none => none) else none) = _
    rw [if_pos (by rw [hlen]; omega), show intText? (nS (n : Int)) = some (n : Int) from int_num (by omega)]
end Bt
namespace Bt
open PySem PySem.Spec PyProof.Rows L2 TL
theorem WsOk.app {l ws : List Str} (h : WsOk (l ++ ws)) : WsOk ws := ⟨fun w hw => h.wd w (List.mem_append_right _ hw)⟩
theorem WsOk.tail {w : Str} {ws : List Str} (h : WsOk (w :: ws)) : WsOk ws := ⟨fun x hx => h.wd x (List.mem_cons_of_mem _ hx)⟩
theorem cut_first {w : Str} {c : Nat} {r : List Nat} (h : tl w = c :: r) : cutS w none (some 1) = ⟨#[c]⟩ := by
  refine ext_tl ?_
  show (w.cps.toList.drop (HT.sIx w.length 0 none)).take (HT.sIx w.length w.length (some 1) - HT.sIx w.length 0 none) = [c]
  have hl : w.length = (c :: r).length := by rw [len_tl, h]
  have e1 : HT.sIx w.length 0 none = 0 := rfl
  have e2 : HT.sIx w.length w.length (some 1) = 1 := by
    have := HT.sIx_nat w.length w.length 1
    rw [hl] at this ⊢
    rw [show ((1 : Int)) = ((1 : Nat) : Int) from rfl, this]
    show min 1 (r.length + 1) = 1
    omega
  rw [e1, e2]
  show (tl w).take 1 = [c]
  rw [h]; rfl
noncomputable def fstE : Ex := eSl (eOp opIx (eFld "Words" "left" (eVar 0)) (eUn opNeg (eC (.int 1)))) eNo (eInt (eC (.int 1)))
section
variable {T : Sto} {w : Str} {ws : List Str} {o1 o2 o3 : Option D}
theorem fst_run {c : Nat} {r : List Nat} (hl : w.length ≤ 10) (h : tl w = c :: r) : fstE [some (.obj T.length), o1, o2, o3] (WS T (w :: ws)) = .ok (.str ⟨#[c]⟩) (WS T (w :: ws)) := by
  unfold fstE
  have e : eOp opIx (eFld "Words" "left" (eVar 0)) (eUn opNeg (eC (.int 1))) [some (.obj T.length), o1, o2, o3] (WS T (w :: ws)) = .ok (.str w) (WS T (w :: ws)) := x_op (x := .obj (T.length + 1)) (y := .int (-1)) (w_left rfl) rfl ws_last
  rw [s_sl, e]
  show lift1 (opSl (.str w) none (some 1)) (WS T (w :: ws)) = _
  show lift1 (if w.length ≤ lim then some (D.str (cutS w none (some 1))) else none) _ = _
  rw [if_pos (by show _ ≤ 1000000; omega), cut_first h]; rfl
theorem fst_cond {c : Nat} {r : List Nat} (hl : w.length ≤ 10) (h : tl w = c :: r) (hs : PyData.strOk ⟨#[c]⟩ = true) : eAnd (eOp opNe fstE (eC (.str ""))) (eOp opIn fstE (eC c_FIGURES)) [some (.obj T.length), o1, o2, o3] (WS T (w :: ws)) = .ok (.bl (decide (c ∈ digs))) (WS T (w :: ws)) := by
  have h1 : opNe (WS T (w :: ws)) (.str ⟨#[c]⟩) (.str "") = some (.bl true) := by
    have g1 : (D.str ⟨#[c]⟩).good = true := by unfold D.good D.wf D.dep; rw [hs]; rfl
    unfold opNe
    rw [g1, good_str, eqv_str]
    show some (D.bl _) = _
    congr 1
  exact x_and (x := true) (y := decide (c ∈ digs)) (x_op (x := .str ⟨#[c]⟩) (y := .str "") (fst_run hl h) rfl h1) fun _ => x_op (x := .str ⟨#[c]⟩) (y := c_FIGURES) (fst_run hl h) rfl in_figs
end
theorem str1_ok {w : Str} {c : Nat} {r : List Nat} (h : PyData.strOk w = true) (hc : tl w = c :: r) : PyData.strOk ⟨#[c]⟩ = true := by
  have h1 : w.cps = (c :: r).toArray := by
    apply Array.ext'
    rw [show w.cps.toList = c :: r from hc]
  unfold PyData.strOk at h ⊢
  rw [h1] at h
  simp at h ⊢
  first | exact h.1 | exact h
theorem x_tup3' {ρ : Env} {S S1 S2 S3 : Sto} {fa fb fc : Ex} {x y z : D} (ha : fa ρ S = .ok x S1) (hb : fb ρ S1 = .ok y S2) (hc : fc ρ S2 = .ok z S3) : eTup (eCons fa (eCons fb (eCons fc eNil))) ρ S = .ok (.tup [x, y, z]) S3 := by
  simp only [s_tup, s_cons, s_nil, ha, hb, hc, ER.bind_ok]; rfl
theorem sum_in_1 (T : Sto) {rec : Fn} {w : Str} {ws : List Str} (h : WsOk (w :: ws)) {deep : Int} (hd : deep ≠ 0) {q : ER} {c : Nat} {r : List Nat} (hc : tl w = c :: r)
    (hn : c ∈ digs → ∃ k S2, F_Words_number [.obj T.length] (WS T (w :: ws)) = .ok k S2 ∧ q = .ok (.tup [.str "num", k]) S2)
    (h1 : c ∉ digs → w = Str.ofString "cell" → ∃ d S2, rec [.obj T.length, .int (deep - 1)] (WS T ws) = .ok d S2 ∧ q = .ok (.tup [.str "cell", d]) S2)
    (h2 : c ∉ digs → w ≠ Str.ofString "cell" → w ∉ words4 → q = .ok (.tup [.str "name", .str w]) (WS T ws))
    (h3 : c ∉ digs → w ≠ Str.ofString "cell" → w ∈ words4 → ∃ d vs e S2, rec [.obj T.length, .int (deep - 1)] (WS T ws) = .ok d (WS T vs) ∧ rec [.obj T.length, .int (deep - 1)] (WS T vs) = .ok e S2 ∧ q = .ok (.tup [.str w, d, e]) S2) :
    F_Words_sum_in rec [.obj T.length, .int deep] (WS T (w :: ws)) = q := by
  unfold F_Words_sum_in
  rw [fnB2]
  simp only [Nat.reduceSub, List.reduceReplicate, List.cons_append, List.nil_append]
  have hwl : w.length ≤ 10 := (h.wd w List.mem_cons_self).len
  have hwg : (D.str w).good = true := by
    have := (h.wd w List.mem_cons_self).ok
    unfold D.good D.wf D.dep; rw [this]; rfl
  have hcs : PyData.strOk ⟨#[c]⟩ = true := str1_ok (h.wd w List.mem_cons_self).ok hc
  refine f_if (bb := false) (S1 := WS T (w :: ws)) (x_or (x := false) (y := false) (x_op (x := .obj (T.length + 1)) (y := .lst []) (w_left rfl) rfl (by rw [ws_eq h.so]; rfl)) fun _ => x_op (x := .int deep) (y := .int 0) rfl rfl (by rw [o_eqI, decide_eq_false hd])) rfl ?_
  by_cases hcd : c ∈ digs
  · obtain ⟨k, S2, e1, rfl⟩ := hn hcd
    refine f_ifT (bb := true) (S1 := WS T (w :: ws)) ((fst_cond hwl hc hcs).trans (by rw [decide_eq_true hcd])) rfl (q_seqRet (Q := fun r => r.toE = _) (S1 := S2) (x_tup2 (x := .str "num") rfl (w_m0 rfl rfl e1)) rfl)
  refine f_if (bb := false) (S1 := WS T (w :: ws)) ((fst_cond hwl hc hcs).trans (by rw [decide_eq_false hcd])) rfl ?_
  refine f_set (d := .str w) (S1 := WS T ws) (w_m0 rfl rfl (word_law T w ws h)) ?_
  by_cases hcell : w = Str.ofString "cell"
  · obtain ⟨d, S2, e1, rfl⟩ := h1 hcd hcell
    exact f_ifT (bb := true) (S1 := WS T ws) (x_op (x := .str w) (y := .str (Str.ofString "cell")) rfl rfl (by rw [eq_w1 hwg, decide_eq_true hcell])) rfl (q_seqRet (Q := fun r => r.toE = _) (S1 := S2) (x_tup2 (x := .str "cell") rfl (w_m1 rfl rfl (x_op (x := .int deep) (y := .int 1) rfl rfl rfl) e1)) rfl)
  refine f_if (bb := false) (S1 := WS T ws) (x_op (x := .str w) (y := .str (Str.ofString "cell")) rfl rfl (by rw [eq_w1 hwg, decide_eq_false hcell])) rfl ?_
  by_cases hw4 : w ∈ words4
  · obtain ⟨d, vs, e, S2, e1, e2, rfl⟩ := h3 hcd hcell hw4
    refine f_if (bb := false) (S1 := WS T ws) (x_op (x := .str w) (y := .tup (words4.map D.str)) rfl rfl (by rw [notIn_w hwg words_gd, decide_eq_true hw4]; rfl)) rfl ?_
    refine f_set (d := d) (S1 := WS T vs) (w_m1 rfl rfl (x_op (x := .int deep) (y := .int 1) rfl rfl rfl) e1) ?_
    refine f_ret (d := .tup [.str w, d, e]) (S1 := S2) ?_ rfl
    exact x_tup3' (x := .str w) (y := d) (z := e) rfl rfl (w_m1 rfl rfl (x_op (x := .int deep) (y := .int 1) rfl rfl rfl) e2)
  · obtain rfl := h2 hcd hcell hw4
    exact f_ifT (bb := true) (S1 := WS T ws) (x_op (x := .str w) (y := .tup (words4.map D.str)) rfl rfl (by rw [notIn_w hwg words_gd, decide_eq_false hw4]; rfl)) rfl (q_seqRet (Q := fun r => r.toE = _) (S1 := WS T ws) (x_tup2 (x := .str "name") rfl rfl) rfl)
end Bt
namespace Bt
open PySem PySem.Spec PyProof.Rows L2 TL
theorem sum_in_2 (T : Sto) (f deep : Nat) (w : String) {c : Nat} {r : List Nat} (hc : tl (Str.ofString w) = c :: r) (hcd : c ∉ digs) (hcell : Str.ofString w ≠ Str.ofString "cell") (hw4 : Str.ofString w ∈ words4) (a b : Sm) (ws : List Str) (hd : 0 < deep) (h : WsOk (Str.ofString w :: (swM a ++ swM b ++ ws)))
    (ia : recN F_Words_sum_in f [.obj T.length, .int ((deep - 1 : Nat))] (WS T (swM a ++ (swM b ++ ws))) = .ok a.d (WS T (swM b ++ ws)))
    (ib : recN F_Words_sum_in f [.obj T.length, .int ((deep - 1 : Nat))] (WS T (swM b ++ ws)) = .ok b.d (WS T ws)) :
    recN F_Words_sum_in (f + 1) [.obj T.length, .int deep] (WS T (Str.ofString w :: (swM a ++ swM b) ++ ws)) = .ok (.tup [.str (Str.ofString w), a.d, b.d]) (WS T ws) := by
  have e : (((deep - 1 : Nat)) : Int) = (deep : Int) - 1 := by omega
  rw [e] at ia ib
  show F_Words_sum_in (recN F_Words_sum_in f) [.obj T.length, .int deep] (WS T (Str.ofString w :: (swM a ++ swM b ++ ws))) = _
  refine sum_in_1 T h (deep := deep) (by omega) hc (fun h => absurd h hcd) (fun _ h => absurd h hcell) (fun _ _ h => absurd hw4 h) fun _ _ _ => ?_
  rw [List.append_assoc]
  exact ⟨a.d, swM b ++ ws, b.d, WS T ws, ia, ib, rfl⟩
theorem sum_in_law (T : Sto) : ∀ (f : Nat) (a : Sm) (ws : List Str) (deep : Nat), a.ok → a.dep < f → a.dep < deep → WsOk (swM a ++ ws) → recN F_Words_sum_in f [.obj T.length, .int deep] (WS T (swM a ++ ws)) = .ok a.d (WS T ws)
  | 0, _, _, _, _, h, _, _ => by omega
  | f + 1, .num k, ws, deep, ha, _, hd, h => by
    have hd : 0 < deep := hd
    obtain ⟨n, rfl⟩ := Int.eq_ofNat_of_zero_le ha.1
    have etl : tl (nS (n : Int)) = numL n := tl_nS (k := (n : Int)) ha.1
    obtain ⟨c, r, e⟩ := List.exists_cons_of_ne_nil (numL_ne n)
    have hcd : c ∈ digs := numL_dig (n := n) (by rw [e]; exact List.mem_cons_self)
    exact sum_in_1 T (w := nS n) (ws := ws) h (deep := deep) (by omega) (c := c) (r := r) (by rw [etl, e])
      (fun _ => ⟨.int n, WS T ws, number_law T ha.1 (by have := ha.2; omega) ws h, rfl⟩) (fun h => absurd hcd h) (fun h => absurd hcd h) (fun h => absurd hcd h)
  | f + 1, .name i, ws, deep, ha, _, hd, h => by
    have hd : 0 < deep := hd
    have hi : ∀ i : Fin 6, ∃ c ∈ [97, 98, 99, 100, 101, 102], tl (nmS i) = [c] := by decide
    obtain ⟨c, hm, e⟩ := hi i
    have hcd : c ∉ digs := by
      simp only [List.mem_cons, List.not_mem_nil, or_false] at hm
      rcases hm with rfl | rfl | rfl | rfl | rfl | rfl <;> decide
    have h1 : nmS i ≠ Str.ofString "cell" := (by decide : ∀ i : Fin 6, nmS i ≠ Str.ofString "cell") i
    have h2 : nmS i ∉ words4 := (by decide : ∀ i : Fin 6, nmS i ∉ words4) i
    exact sum_in_1 T (w := nmS i) (ws := ws) h (deep := deep) (by omega) (c := c) (r := []) e (fun h => absurd h hcd) (fun _ h => absurd h h1) (fun _ _ _ => rfl) (fun _ _ h => absurd h h2)
  | f + 1, .cell a, ws, deep, ha, hf, hd, h => by
    have hf : a.dep + 1 < f + 1 := hf
    have hd : a.dep + 1 < deep := hd
    have e : (((deep - 1 : Nat)) : Int) = (deep : Int) - 1 := by omega
    have ia := sum_in_law T f a ws (deep - 1) ha (by omega) (by omega) (WsOk.tail h)
    rw [e] at ia
    exact sum_in_1 T (w := Str.ofString "cell") (ws := swM a ++ ws) h (deep := deep) (by omega) (c := 99) (r := [101, 108, 108]) rfl (fun h => absurd h (by decide)) (fun _ _ => ⟨a.d, WS T ws, ia, rfl⟩) (fun _ h => absurd rfl h) (fun _ h => absurd rfl h)
  | f + 1, .add a b, ws, deep, ha, hf, hd, h => by
    have hf : max a.dep b.dep + 1 < f + 1 := hf
    have hd : max a.dep b.dep + 1 < deep := hd
    have h' : WsOk (Str.ofString "add" :: (swM a ++ swM b ++ ws)) := h
    have h2 : WsOk (swM a ++ (swM b ++ ws)) := by rw [← List.append_assoc]; exact h'.tail
    exact sum_in_2 T f deep "add" (c := 97) (r := [100, 100]) rfl (by decide) (by decide) (by decide) a b ws (by omega) h' (sum_in_law T f a (swM b ++ ws) (deep - 1) ha.1 (by omega) (by omega) h2) (sum_in_law T f b ws (deep - 1) ha.2 (by omega) (by omega) h2.app)
  | f + 1, .sub a b, ws, deep, ha, hf, hd, h => by
    have hf : max a.dep b.dep + 1 < f + 1 := hf
    have hd : max a.dep b.dep + 1 < deep := hd
    have h' : WsOk (Str.ofString "sub" :: (swM a ++ swM b ++ ws)) := h
    have h2 : WsOk (swM a ++ (swM b ++ ws)) := by rw [← List.append_assoc]; exact h'.tail
    exact sum_in_2 T f deep "sub" (c := 115) (r := [117, 98]) rfl (by decide) (by decide) (by decide) a b ws (by omega) h' (sum_in_law T f a (swM b ++ ws) (deep - 1) ha.1 (by omega) (by omega) h2) (sum_in_law T f b ws (deep - 1) ha.2 (by omega) (by omega) h2.app)
  | f + 1, .mul a b, ws, deep, ha, hf, hd, h => by
    have hf : max a.dep b.dep + 1 < f + 1 := hf
    have hd : max a.dep b.dep + 1 < deep := hd
    have h' : WsOk (Str.ofString "mul" :: (swM a ++ swM b ++ ws)) := h
    have h2 : WsOk (swM a ++ (swM b ++ ws)) := by rw [← List.append_assoc]; exact h'.tail
    exact sum_in_2 T f deep "mul" (c := 109) (r := [117, 108]) rfl (by decide) (by decide) (by decide) a b ws (by omega) h' (sum_in_law T f a (swM b ++ ws) (deep - 1) ha.1 (by omega) (by omega) h2) (sum_in_law T f b ws (deep - 1) ha.2 (by omega) (by omega) h2.app)
  | f + 1, .less a b, ws, deep, ha, hf, hd, h => by
    have hf : max a.dep b.dep + 1 < f + 1 := hf
    have hd : max a.dep b.dep + 1 < deep := hd
    have h' : WsOk (Str.ofString "less" :: (swM a ++ swM b ++ ws)) := h
    have h2 : WsOk (swM a ++ (swM b ++ ws)) := by rw [← List.append_assoc]; exact h'.tail
    exact sum_in_2 T f deep "less" (c := 108) (r := [101, 115, 115]) rfl (by decide) (by decide) (by decide) a b ws (by omega) h' (sum_in_law T f a (swM b ++ ws) (deep - 1) ha.1 (by omega) (by omega) h2) (sum_in_law T f b ws (deep - 1) ha.2 (by omega) (by omega) h2.app)
end Bt
namespace Bt
open PySem PySem.Spec PyProof.Rows L2 TL
theorem left_two {f l : Nat} {w : Str} (hw : w ∈ words4) (a b : Sm) (ia : ∀ l, (swM a).length ≤ l → leftM f l a.d = some (l - (swM a).length)) (ib : ∀ l, (swM b).length ≤ l → leftM f l b.d = some (l - (swM b).length))
    (hl : (w :: (swM a ++ swM b)).length ≤ l) : leftM (f + 1) l (.tup [.str w, a.d, b.d]) = some (l - (w :: (swM a ++ swM b)).length) := by
  rw [List.length_cons, List.length_append] at hl ⊢
  cases l with
  | zero => omega
  | succ l =>
    show (if w ∈ words4 then (match leftM f l a.d with
      | some r => leftM f r b.d
      | none => none) else none) = _
    rw [if_pos hw, ia l (by omega)]
    show leftM f (l - (swM a).length) b.d = _
    rw [ib _ (by omega)]
    congr 1
    omega
theorem left_sm : ∀ (f : Nat) (a : Sm) (l : Nat), a.ok → a.dep < f → (swM a).length ≤ l → leftM f l a.d = some (l - (swM a).length)
  | 0, _, _, _, h, _ => by omega
  | f + 1, .num k, l, ha, _, hl => by
    cases l with
    | zero => exact absurd hl (by show ¬ 1 ≤ 0; omega)
    | succ l =>
      show (if ("num" : Str) = "num" then (if worthD (.int k) then some l else none) else _) = some (l + 1 - 1)
      have : worthD (.int k) = true := decide_eq_true ⟨ha.1, ha.2⟩
      rw [if_pos rfl, if_pos this]
      rfl
  | f + 1, .name i, l, ha, _, hl => by
    cases l with
    | zero => exact absurd hl (by show ¬ 1 ≤ 0; omega)
    | succ l =>
      have : nameD (.str (nmS i)) = true := (by decide : ∀ i : Fin 6, nameD (.str (nmS i)) = true) i
      show (if ("name" : Str) = "num" then _ else if ("name" : Str) = "name" then (if nameD (.str (nmS i)) then some l else none) else _) = some (l + 1 - 1)
      rw [if_neg (by decide), if_pos rfl, if_pos this]
      rfl
  | f + 1, .cell a, l, ha, hf, hl => by
    have hf : a.dep + 1 < f + 1 := hf
    have hl : (swM a).length + 1 ≤ l := hl
    cases l with
    | zero => omega
    | succ l =>
      show (if ("cell" : Str) = "num" then _ else if ("cell" : Str) = "name" then _ else if ("cell" : Str) = "cell" then leftM f l a.d else none) = some (l + 1 - ((swM a).length + 1))
      rw [if_neg (by decide), if_neg (by decide), if_pos rfl, left_sm f a l ha (by omega) (by omega)]
      congr 1
      omega
  | f + 1, .add a b, l, ha, hf, hl => by
    have hf : max a.dep b.dep + 1 < f + 1 := hf
    exact left_two (by decide) a b (fun l => left_sm f a l ha.1 (by omega)) (fun l => left_sm f b l ha.2 (by omega)) hl
  | f + 1, .sub a b, l, ha, hf, hl => by
    have hf : max a.dep b.dep + 1 < f + 1 := hf
    exact left_two (by decide) a b (fun l => left_sm f a l ha.1 (by omega)) (fun l => left_sm f b l ha.2 (by omega)) hl
  | f + 1, .mul a b, l, ha, hf, hl => by
    have hf : max a.dep b.dep + 1 < f + 1 := hf
    exact left_two (by decide) a b (fun l => left_sm f a l ha.1 (by omega)) (fun l => left_sm f b l ha.2 (by omega)) hl
  | f + 1, .less a b, l, ha, hf, hl => by
    have hf : max a.dep b.dep + 1 < f + 1 := hf
    exact left_two (by decide) a b (fun l => left_sm f a l ha.1 (by omega)) (fun l => left_sm f b l ha.2 (by omega)) hl
theorem sw_15 {a : Sm} (h : a.dep ≤ 3) : (swM a).length ≤ 15 := by
  have := sw_len a
  have h1 : 2 ^ (a.dep + 1) ≤ 2 ^ 4 := Nat.pow_le_pow_right (by decide) (by omega)
  have : (2 : Nat) ^ 4 = 16 := by decide
  omega
theorem sum_ok3 {a : Sm} (ha : a.ok) (h : a.dep ≤ 3) : sumD a.d = true := by
  unfold sumD
  rw [left_sm 20 a 15 ha (by omega) (sw_15 h)]; rfl
theorem nc_lit {n : Nat} {s : String} (h : (Str.ofString s).length ≤ 1000) : Nc n (.str (Str.ofString s)) := by cases n <;> exact ⟨strOk_of s, h⟩
theorem nc_nm {n : Nat} {i : Fin 6} : Nc n (.str (nmS i)) := by
  have := (wd_nm i).len
  cases n <;> exact ⟨(wd_nm i).ok, by omega⟩
theorem nc_int {n : Nat} {k : Int} : Nc n (.int k) := by cases n <;> trivial
theorem nc_t2 {n : Nat} {x y : D} (hx : Nc n x) (hy : Nc n y) : Nc (n + 1) (.tup [x, y]) := ⟨by show 2 ≤ 1000; decide, fun d hd => by
  simp only [List.mem_cons, List.not_mem_nil, or_false] at hd
  rcases hd with rfl | rfl
  · exact hx
  · exact hy⟩
theorem nc_t3 {n : Nat} {x y z : D} (hx : Nc n x) (hy : Nc n y) (hz : Nc n z) : Nc (n + 1) (.tup [x, y, z]) := ⟨by show 3 ≤ 1000; decide, fun d hd => by
  simp only [List.mem_cons, List.not_mem_nil, or_false] at hd
  rcases hd with rfl | rfl | rfl
  · exact hx
  · exact hy
  · exact hz⟩
theorem nc_sm : ∀ a : Sm, Nc (a.dep + 1) a.d
  | .num k => nc_t2 (nc_lit (by decide)) nc_int
  | .name i => nc_t2 (nc_lit (by decide)) nc_nm
  | .cell a => nc_t2 (nc_lit (by decide)) (nc_sm a)
  | .add a b => nc_t3 (nc_lit (by decide)) ((nc_sm a).mono (Nat.succ_le_succ (Nat.le_max_left _ _))) ((nc_sm b).mono (Nat.succ_le_succ (Nat.le_max_right _ _)))
  | .sub a b => nc_t3 (nc_lit (by decide)) ((nc_sm a).mono (Nat.succ_le_succ (Nat.le_max_left _ _))) ((nc_sm b).mono (Nat.succ_le_succ (Nat.le_max_right _ _)))
  | .mul a b => nc_t3 (nc_lit (by decide)) ((nc_sm a).mono (Nat.succ_le_succ (Nat.le_max_left _ _))) ((nc_sm b).mono (Nat.succ_le_succ (Nat.le_max_right _ _)))
  | .less a b => nc_t3 (nc_lit (by decide)) ((nc_sm a).mono (Nat.succ_le_succ (Nat.le_max_left _ _))) ((nc_sm b).mono (Nat.succ_le_succ (Nat.le_max_right _ _)))
end Bt
namespace Bt
open PySem PySem.Spec PyProof.Rows L2 TL
theorem split_words {ws : List Str} (hne : ws ≠ []) (h : WsOk ws) : Txt.split (Txt.join blank ws) blank = ws := split_join (s := 32) (S := []) rfl (by rw [← Array.all_toList]; rfl) hne fun p hp => (h.wd p hp).sp
theorem words_len {ws : List Str} (h : WsOk ws) (hl : ws.length ≤ 80000) : (Txt.join blank ws).length ≤ 1000000 := by
  have := len_join blank blank_len ws 10 fun w hw => (h.wd w hw).len
  omega
theorem init_words (T : Sto) {ws : List Str} (hne : ws ≠ []) (h : WsOk ws) (hl : ws.length ≤ 80000) : G_Words___init__ [.obj T.length, .str (Txt.join blank ws)] (T ++ [.inst "Words" []]) = .ok .non (WS T ws) := by
  unfold G_Words___init__ F_Words___init__
  rw [fnB2]
  simp only [Nat.reduceSub, List.reduceReplicate, List.cons_append, List.nil_append]
  have e1 : eSplit (eVar 1) (eC (.str " ")) [some (.obj T.length), some (.str (Txt.join blank ws))] (T ++ [.inst "Words" []]) = .ok (.lst (ws.map D.str)) (T ++ [.inst "Words" []]) := by
    show (if (blank.length == 0) = false ∧ (Txt.join blank ws).length ≤ lim then ER.ok (.lst ((Txt.split (Txt.join blank ws) blank).map D.str)) (T ++ [AObj.inst "Words" []]) else .bad) = _
    rw [if_pos ⟨by decide, words_len h hl⟩, split_words hne h]
  have e2 : eRevNew (eSplit (eVar 1) (eC (.str " "))) [some (.obj T.length), some (.str (Txt.join blank ws))] (T ++ [.inst "Words" []]) = .ok (.obj (T.length + 1)) ((T ++ [.inst "Words" []]) ++ [AObj.list (ws.reverse.map D.str)]) := by
    unfold eRevNew
    rw [e1]
    simp only [ER.bind_ok, List.length_append, List.length_cons, List.length_nil, List.map_reverse]
  have e3 : ((T ++ [AObj.inst "Words" []]) ++ [AObj.list (ws.reverse.map D.str)])[T.length]? = some (.inst "Words" []) := by
    rw [List.append_assoc, List.getElem?_append_right (Nat.le_refl _), Nat.sub_self]; rfl
  have e4 : insAt "Words" ((T ++ [AObj.inst "Words" []]) ++ [AObj.list (ws.reverse.map D.str)]) (.obj T.length) = some (T.length, []) := by
    unfold insAt; simp only [e3, if_true]
  rw [s_fldS, e2]
  show (match insAt "Words" ((T ++ [AObj.inst "Words" []]) ++ [AObj.list (ws.reverse.map D.str)]) (.obj T.length) with
    | some (n, fs) => if fs.length < 1000 then SR.nx _ (((T ++ [AObj.inst "Words" []]) ++ [AObj.list (ws.reverse.map D.str)]).set n (.inst "Words" (setF "left" (.d (.obj (T.length + 1))) fs))) else .bad
    | none => .bad).toE = _
  rw [e4]
  show ER.ok .non (((T ++ [AObj.inst "Words" []]) ++ [AObj.list (ws.reverse.map D.str)]).set T.length (.inst "Words" [("left", .d (.obj (T.length + 1)))])) = _
  rw [List.append_assoc, List.set_append_right _ _ (Nat.le_refl _), Nat.sub_self]
  rfl
theorem make_words {T : Sto} {ws : List Str} {ρ : Env} {fa : Ex} (hne : ws ≠ []) (h : WsOk ws) (hl : ws.length ≤ 80000) (ha : fa ρ T = .ok (.str (Txt.join blank ws)) T) : eMake "Words" G_Words___init__ (eCons fa eNil) ρ T = .ok (.obj T.length) (WS T ws) := by
  unfold eMake
  simp only [s_cons, s_nil, ha, ER.bind_ok, init_words T hne h hl]
theorem opNe_str {S : Sto} {a b : Str} (ha : PyData.strOk a = true) (hb : PyData.strOk b = true) : opNe S (.str a) (.str b) = some (.bl (!decide (a = b))) := by
  have g : ∀ {x : Str}, PyData.strOk x = true → (D.str x).good = true := fun hx => by unfold D.good D.wf D.dep; rw [hx]; rfl
  unfold opNe
  rw [g ha, g hb, eqv_str]; rfl
theorem sm_pure : ∀ a : Sm, a.d.pure = true
  | .num k => rfl
  | .name i => rfl
  | .cell a => by show (true && (a.d.pure && true)) = true; rw [sm_pure a]; rfl
  | .add a b => by show (true && (a.d.pure && (b.d.pure && true))) = true; rw [sm_pure a, sm_pure b]; rfl
  | .sub a b => by show (true && (a.d.pure && (b.d.pure && true))) = true; rw [sm_pure a, sm_pure b]; rfl
  | .mul a b => by show (true && (a.d.pure && (b.d.pure && true))) = true; rw [sm_pure a, sm_pure b]; rfl
  | .less a b => by show (true && (a.d.pure && (b.d.pure && true))) = true; rw [sm_pure a, sm_pure b]; rfl
end Bt
namespace Bt
open PySem PySem.Spec PyProof.Rows L2 TL
theorem so_iff {x : Str} : PyData.strOk x = true ↔ ∀ c ∈ tl x, c < 1114112 := by
  unfold PyData.strOk
  rw [← Array.all_toList, List.all_eq_true]
  simp only [decide_eq_true_eq]
theorem so_joinL {S : List Nat} (hS : ∀ c ∈ S, c < 1114112) : ∀ ps : List (List Nat), (∀ p ∈ ps, ∀ c ∈ p, c < 1114112) → ∀ c ∈ joinL S ps, c < 1114112
  | [], _, c, hc => by cases hc
  | [p], h, c, hc => h p (by simp) c hc
  | p :: q :: r, h, c, hc => by
    have hc : c ∈ p ++ (S ++ joinL S (q :: r)) := hc
    rcases List.mem_append.mp hc with hc | hc
    · exact h p (by simp) c hc
    · rcases List.mem_append.mp hc with hc | hc
      · exact hS c hc
      · exact so_joinL hS (q :: r) (fun x hx => h x (List.mem_cons_of_mem _ hx)) c hc
theorem so_join {y : Str} {ws : List Str} (hy : PyData.strOk y = true) (h : ∀ w ∈ ws, PyData.strOk w = true) : PyData.strOk (Txt.join y ws) = true := by
  rw [so_iff, join_eq, tl_join]
  refine so_joinL (so_iff.mp hy) _ fun p hp => ?_
  obtain ⟨w, hw, rfl⟩ := List.mem_map.mp hp
  exact so_iff.mp (h w hw)
theorem so_blank : PyData.strOk blank = true := strOk_of _
theorem ok_sw {a : Sm} (ha : a.ok) : WsOk (swM a) := ⟨sw_wd ha⟩
theorem so_st {a : Sm} (ha : a.ok) : PyData.strOk (stM a) = true := so_join so_blank (ok_sw ha).so
theorem ws_nil : WsOk [] := ⟨fun w hw => by cases hw⟩
theorem read_sum_law (T : Sto) {a : Sm} (ha : a.ok) (hd : a.dep ≤ 3) : G_read_sum [.str (stM a)] T = .ok a.d T := by
  refine trunc_ok (S' := WS T []) ?_ ws_take (sm_pure a)
  unfold F_read_sum
  rw [fnB1]
  simp only [Nat.reduceSub, List.reduceReplicate, List.cons_append, List.nil_append]
  refine f_set (d := .obj T.length) (S1 := WS T (swM a)) (make_words (sw_ne a) (ok_sw ha) (by have := sw_few (a := a) (by omega); omega) rfl) ?_
  have hs := sum_in_law T 17 a [] 15 ha (by omega) (by omega) (by rw [List.append_nil]; exact ok_sw ha)
  rw [List.append_nil] at hs
  refine f_set (d := a.d) (S1 := WS T []) (w_m1 rfl rfl rfl hs) ?_
  refine f_if (bb := false) (S1 := WS T []) (x_or (x := false) (y := false) (x_op (x := .obj (T.length + 1)) (y := .lst []) (w_left rfl) rfl (by rw [ws_ne ws_nil.so]; rfl)) fun _ => x_or (x := false) (y := false) (x_not (b := true) (x_c1 (x := a.d) rfl ((is_sum_ok (nc_sm a) _).trans (by rw [sum_ok3 ha hd])))) fun _ => x_op (x := .str (stM a)) (y := .str (stM a)) (x_c1 (x := a.d) rfl (written_sum_txt _ ha (by omega))) rfl (by rw [opNe_str (so_st ha) (so_st ha)]; simp)) rfl ?_
  exact f_ret (S1 := WS T []) rfl rfl
end Bt
namespace Bt
open PySem PySem.Spec PyProof.Rows L2 TL
theorem so_app {x y : Str} (hx : PyData.strOk x = true) (hy : PyData.strOk y = true) : PyData.strOk (x ++ y) = true := by
  rw [so_iff, tl_append]
  intro c hc
  exact (List.mem_append.mp hc).elim (so_iff.mp hx c) (so_iff.mp hy c)
end Bt
namespace Bt
open PySem PySem.Spec PyProof.Rows L2 TL
theorem tH_E {t : Tp} {k : Nat} : (tH t k).E = t.E := rfl
theorem RunOk.tH {t : Tp} (R : RunOk t) (k : Nat) : RunOk (tH t k) := ⟨R.p, R.as, R.N⟩
theorem Ex3.refl {n : Nat} {S : Sto} : Ex3 n S S := ⟨Nat.le_refl _, fun _ _ _ _ => rfl⟩
theorem Ex3.app {n : Nat} {S T : Sto} : Ex3 n S (S ++ T) := ⟨by simp, fun m a _ _ => List.getElem?_append_left a⟩
theorem Ex3.set1 {n : Nat} {S : Sto} {a : AObj} : Ex3 n S (S.set (n + 1) a) := ⟨by simp, fun m _ b _ => List.getElem?_set_ne (by omega)⟩
theorem Ex3.set2 {n : Nat} {S : Sto} {a : AObj} : Ex3 n S (S.set (n + 2) a) := ⟨by simp, fun m _ _ b => List.getElem?_set_ne (by omega)⟩
section
variable {S T : Sto} {n : Nat} {t : Tp} {k k' : Nat} {kv kv' : List (Key × D)} {ρ : Env} {fo fa : Ex}
theorem Dk.app (D : Dk S n t k kv) : Dk (S ++ T) n t k kv := by
  have := D.lt
  exact ⟨by rw [List.getElem?_append_left (by omega)]; exact D.o, by rw [List.getElem?_append_left (by omega)]; exact D.tp, by rw [List.getElem?_append_left (by omega)]; exact D.kd⟩
theorem Dk.set1 (D : Dk S n t k kv) : Dk (S.set (n + 1) (taO (tH t k'))) n t k' kv := by
  have := D.lt
  exact ⟨by rw [List.getElem?_set_ne (by omega)]; exact D.o, by rw [List.getElem?_set_self (by omega)], by rw [List.getElem?_set_ne (by omega)]; exact D.kd⟩
theorem Dk.set2 (D : Dk S n t k kv) : Dk (S.set (n + 2) (.dict kv')) n t k kv' := by
  have := D.lt
  exact ⟨by rw [List.getElem?_set_ne (by omega)]; exact D.o, by rw [List.getElem?_set_ne (by omega)]; exact D.tp, by rw [List.getElem?_set_self (by omega)]⟩
theorem d_rd (D : Dk S n t k kv) : rdAt "Desk" S (.obj n) = some (dkF n) := by
  unfold rdAt; simp only [D.o, if_true]
theorem d_tape (D : Dk S n t k kv) (ho : fo ρ S = .ok (.obj n) S) : eFld "Desk" "tape" fo ρ S = .ok (.obj (n + 1)) S := by
  rw [s_fld, ho]
  simp only [ER.bind_ok, d_rd D]
  rfl
theorem d_kept (D : Dk S n t k kv) (ho : fo ρ S = .ok (.obj n) S) : eFld "Desk" "kept" fo ρ S = .ok (.obj (n + 2)) S := by
  rw [s_fld, ho]
  simp only [ER.bind_ok, d_rd D]
  rfl
theorem d_m0 {m : Str} {F : Fn} {r : ER} (D : Dk S n t k kv) (ho : fo ρ S = .ok (.obj n) S) (hm : getF m (dkF n) = none) (h : F [.obj n] S = r) : eMCall "Desk" m F fo eNil ρ S = r := by
  rw [s_mcall, ho]
  simp only [ER.bind_ok, d_rd D, hm]
  exact h
theorem d_m1 {m : Str} {F : Fn} {r : ER} {y : D} {S2 : Sto} (D : Dk S n t k kv) (ho : fo ρ S = .ok (.obj n) S) (hm : getF m (dkF n) = none) (ha : fa ρ S = .ok y S2) (h : F [.obj n, y] S2 = r) : eMCall "Desk" m F fo (eCons fa eNil) ρ S = r := by
  rw [s_mcall, ho]
  simp only [ER.bind_ok, d_rd D, hm, s_cons, ha, s_nil]
  exact h
theorem d_m2 {m : Str} {F : Fn} {r : ER} {y z : D} {fb : Ex} {S2 S3 : Sto} (D : Dk S n t k kv) (ho : fo ρ S = .ok (.obj n) S) (hm : getF m (dkF n) = none) (ha : fa ρ S = .ok y S2) (hb : fb ρ S2 = .ok z S3) (h : F [.obj n, y, z] S3 = r) : eMCall "Desk" m F fo (eCons fa (eCons fb eNil)) ρ S = r := by
  rw [s_mcall, ho]
  simp only [ER.bind_ok, d_rd D, hm, s_cons, ha, hb, s_nil]
  exact h
theorem d_mom (D : Dk S n t k kv) (ho : fo ρ S = .ok (.obj n) S) : eT A_Tape_moment (eFld "Desk" "tape" fo) eNil ρ S = .ok (.int (k : Nat)) S := x_eT0 (d_tape D ho) D.tp (a_moment D.tp)
theorem d_state (D : Dk S n t k kv) (ho : fo ρ S = .ok (.obj n) S) : eT A_Tape_state (eFld "Desk" "tape" fo) eNil ρ S = .ok (t.st k).d S := x_eT0 (d_tape D ho) D.tp (a_state D.tp)
theorem d_end (D : Dk S n t k kv) (ho : fo ρ S = .ok (.obj n) S) : eT A_Tape_end (eFld "Desk" "tape" fo) eNil ρ S = .ok (.int (t.E : Nat)) S := x_eT0 (d_tape D ho) D.tp (a_end (t := tH t k) D.tp)
theorem a_to {m : Nat} {u : Tp} (h : T[n]? = some (taO u)) (hm : m ≤ u.E) : A_Tape_to [.obj n, .int (m : Nat)] T = .ok .non (T.set n (taO (tH u m))) := by
  unfold A_Tape_to
  rw [onT_t h]
  simp only
  rw [if_pos ⟨by omega, by rw [endI_t]; omega⟩, Int.toNat_natCast]; rfl
theorem a_noto {m : Int} {u : Tp} (h : T[n]? = some (taO u)) (hm : ¬ (0 ≤ m ∧ m ≤ (u.E : Int))) : A_Tape_to [.obj n, .int m] T = .exc .moment T := by
  unfold A_Tape_to
  rw [onT_t h]
  simp only
  rw [if_neg (by rw [endI_t]; exact hm)]
theorem a_go {m : Nat} {u : Tp} (h : T[n]? = some (taO u)) : ∃ d, A_Tape_go [.obj n, .int (m : Nat)] T = .ok d (T.set n (taO (tH u (min (u.here.toNat + m) u.E)))) := by
  unfold A_Tape_go
  rw [onT_t h]
  simp only
  rw [if_pos (by omega), Int.toNat_natCast]; exact ⟨_, rfl⟩
theorem a_backT {m : Nat} {u : Tp} (h : T[n]? = some (taO u)) : ∃ d, A_Tape_back [.obj n, .int (m : Nat)] T = .ok d (T.set n (taO (tH u (u.here.toNat - m)))) := by
  unfold A_Tape_back
  rw [onT_t h]
  simp only
  rw [if_pos (by omega), Int.toNat_natCast]; exact ⟨_, rfl⟩
theorem d_to {m : Nat} {S1 : Sto} (D : Dk S n t k kv) (ho : fo ρ S = .ok (.obj n) S) (ha : fa ρ S = .ok (.int (m : Nat)) S1) (D1 : Dk S1 n t k kv) (hm : m ≤ t.E) : eT A_Tape_to (eFld "Desk" "tape" fo) (eCons fa eNil) ρ S = .ok .non (S1.set (n + 1) (taO (tH t m))) :=
  x_eT1 (d_tape D ho) D.tp ha (a_to (u := tH t k) D1.tp hm)
theorem bStr_i {S : Sto} {k : Int} (h : k.natAbs < 10 ^ 15) : bStr S (.int k) = some (.str (nS k)) := by
  show (if k.natAbs < 10 ^ 15 then some (D.str (toString k)) else none) = _
  rw [if_pos h]; rfl
theorem add_s {S : Sto} {x y : Str} (h : x.length + y.length ≤ 1000000) : opAdd S (.str x) (.str y) = some (.str (x ++ y)) := by rw [o_addS]; exact if_pos h
theorem len_app (x y : Str) : (x ++ y).length = x.length + y.length := by rw [len_tl, tl_append, List.length_append, ← len_tl, ← len_tl]
theorem len_nS {k : Nat} (h : k < 100000) : (nS k).length ≤ 5 := by
  rw [len_tl, tl_nS (by omega), Int.toNat_natCast]
  exact numL_len (by decide) (by omega)
theorem so_nS {k : Int} : PyData.strOk (nS k) = true := strOk_of _
def whereM (t : Tp) (k : Nat) : Str := ((("at " : Str) ++ nS k) ++ (" row " : Str)) ++ nS ((t.st k).row : Nat)
theorem row_le (R : RunOk t) (hk : k ≤ t.E) : (t.st k).row ≤ 1000 := Nat.le_trans (R.stok hk).row R.p.len
theorem where_law (D : Dk S n t k kv) (R : RunOk t) (hk : k ≤ t.E) : A_Desk_where [.obj n] S = .ok (.str (whereM t k)) S := by
  have hN := R.N
  have hr := row_le R hk
  have l1 := len_nS (k := k) (by omega)
  have l2 := len_nS (k := (t.st k).row) (by omega)
  have la : (Str.ofString "at ").length = 3 := rfl
  have lb : (Str.ofString " row ").length = 5 := rfl
  unfold A_Desk_where
  rw [hide_eq, fnB1]
  simp only [Nat.reduceSub, List.reduceReplicate, List.cons_append, List.nil_append]
  refine f_ret (S1 := S) (x_op (x := .str ((("at " : Str) ++ nS k) ++ (" row " : Str))) (y := .str (nS ((t.st k).row : Nat))) (S1 := S) (S2 := S) (x_op (x := .str (("at " : Str) ++ nS k)) (y := .str (" row " : Str)) (x_op (x := .str ("at " : Str)) (y := .str (nS k)) rfl (x_B1 (x := .int (k : Nat)) (d_mom D rfl) (bStr_i (by omega))) (add_s (by omega))) rfl (add_s (by rw [len_app]; omega)))
    (x_B1 (x := .int ((t.st k).row : Nat)) (x_op (x := (t.st k).d) (y := .int 0) (d_state D rfl) rfl rfl) (bStr_i (by omega))) (add_s (by rw [len_app, len_app]; omega))) rfl
def Says (S : Sto) (n : Nat) (t : Tp) (k : Nat) (kv : List (Key × D)) (line r : Str) (k' : Nat) (kv' : List (Key × D)) : Prop :=
  ∃ S', A_Desk_say [.obj n, .str line] S = .ok (.str r) S' ∧ Dk S' n t k' kv' ∧ Ex3 n S S'
def Does (S : Sto) (n : Nat) (t : Tp) (ws : List Str) (r : Str) (k' : Nat) (kv' : List (Key × D)) : Prop :=
  ∃ S', A_Desk_done [.obj n, .lst (ws.map D.str)] S = .ok (.str r) S' ∧ Dk S' n t k' kv' ∧ Ex3 n S S'
def Fails (S : Sto) (n : Nat) (t : Tp) (ws : List Str) (e : Exc) (k' : Nat) (kv' : List (Key × D)) : Prop :=
  ∃ S', A_Desk_done [.obj n, .lst (ws.map D.str)] S = .exc e S' ∧ Dk S' n t k' kv' ∧ Ex3 n S S'
def excS : Exc → Str
  | .text => "no line" | .moment => "no moment" | .thing => "no thing" | .run => ""
theorem say_split {line : Str} {ws : List Str} (hs : Txt.split line blank = ws) (hl : line.length ≤ 1000000) : eSplit (eVar 1) (eC (.str " ")) [some (.obj n), some (.str line)] S = .ok (.lst (ws.map D.str)) S := by
  show (if (blank.length == 0) = false ∧ line.length ≤ lim then ER.ok (.lst ((Txt.split line blank).map D.str)) S else .bad) = _
  rw [if_pos ⟨by decide, hl⟩, hs]
theorem says_of (D : Dk S n t k kv) {line r : Str} {ws : List Str} (hs : Txt.split line blank = ws) (hl : line.length ≤ 1000000) (h : Does S n t ws r k' kv') : Says S n t k kv line r k' kv' := by
  obtain ⟨S', h1, h2, h3⟩ := h
  refine ⟨S', ?_, h2, h3⟩
  unfold A_Desk_say
  rw [hide_eq, fnB2]
  simp only [Nat.reduceSub, List.reduceReplicate, List.cons_append, List.nil_append]
  have : eMCall "Desk" "done" A_Desk_done (eVar 0) (eCons (eSplit (eVar 1) (eC (.str " "))) eNil) [some (.obj n), some (.str line)] S = .ok (.str r) S' := d_m1 D rfl rfl (say_split hs hl) h1
  unfold sTryH
  rw [show sRet (eMCall "Desk" "done" A_Desk_done (eVar 0) (eCons (eSplit (eVar 1) (eC (.str " "))) eNil)) [some (.obj n), some (.str line)] S = .rt (.str r) S' from by rw [s_ret, this]; rfl]
  rfl
theorem says_exc (D : Dk S n t k kv) {line : Str} {ws : List Str} {e : Exc} (hs : Txt.split line blank = ws) (hl : line.length ≤ 1000000) (he : e ≠ .run) (h : Fails S n t ws e k' kv') : Says S n t k kv line (excS e) k' kv' := by
  obtain ⟨S', h1, h2, h3⟩ := h
  refine ⟨S', ?_, h2, h3⟩
  unfold A_Desk_say
  rw [hide_eq, fnB2]
  simp only [Nat.reduceSub, List.reduceReplicate, List.cons_append, List.nil_append]
  have : eMCall "Desk" "done" A_Desk_done (eVar 0) (eCons (eSplit (eVar 1) (eC (.str " "))) eNil) [some (.obj n), some (.str line)] S = .exc e S' := d_m1 D rfl rfl (say_split hs hl) h1
  unfold sTryH
  rw [show sRet (eMCall "Desk" "done" A_Desk_done (eVar 0) (eCons (eSplit (eVar 1) (eC (.str " "))) eNil)) [some (.obj n), some (.str line)] S = .exc e [some (.obj n), some (.str line)] S' from by rw [s_ret, this]; rfl]
  cases e with
  | run => exact absurd rfl he
  | _ => rfl
end
end Bt
namespace Bt
open PySem PySem.Spec PyProof.Rows L2
section
variable {t : Tp} {x : Th}
theorem chg_rising : (chgM t x).Pairwise (· < ·) := by
  rw [chg_eq]; exact (List.pairwise_lt_range' (s := 1) (n := t.E + 1 - 1) (step := 1) (by decide)).filter _
theorem last_of {l : List Nat} (hl : l.Pairwise (· < ·)) {p : Nat → Bool} : match (l.filter p).getLast? with
    | some k => k ∈ l ∧ p k = true ∧ ∀ j ∈ l, p j = true → j ≤ k
    | none => ∀ j ∈ l, p j = false := by
  cases e : (l.filter p).getLast? with
  | none =>
    rw [List.getLast?_eq_none_iff] at e
    intro j hj
    cases q : p j with
    | false => rfl
    | true =>
      have : j ∈ l.filter p := List.mem_filter.mpr ⟨hj, q⟩
      rw [e] at this; cases this
  | some k =>
    have hk := List.mem_of_getLast? e
    obtain ⟨h1, h2⟩ := List.mem_filter.mp hk
    refine ⟨h1, h2, fun j hj hp => ?_⟩
    have hj' : j ∈ l.filter p := List.mem_filter.mpr ⟨hj, hp⟩
    have hr := hl.filter p
    rcases List.eq_nil_or_concat (l.filter p) with q | ⟨r, a, q⟩
    · rw [q] at hj'; cases hj'
    · rw [List.concat_eq_append] at q
      rw [q, List.getLast?_concat] at e
      cases e
      rw [q] at hr hj'
      rcases List.mem_append.mp hj' with z | z
      · exact Nat.le_of_lt ((List.pairwise_append.mp hr).2.2 j z k (List.mem_singleton.mpr rfl))
      · rw [List.mem_singleton.mp z]; exact Nat.le_refl _
theorem lastC_z {m : Nat} : match lastC t x m with
    | some k => k ∈ chgM t x ∧ k ≤ m ∧ ∀ j ∈ chgM t x, j ≤ m → j ≤ k
    | none => ∀ j ∈ chgM t x, m < j := by
  have := last_of (chg_rising (t := t) (x := x)) (p := fun a => decide (a ≤ m))
  unfold lastC
  cases e : ((chgM t x).filter fun a => decide (a ≤ m)).getLast? with
  | some k => rw [e] at this; exact ⟨this.1, of_decide_eq_true this.2.1, fun j hj hm => this.2.2 j hj (decide_eq_true hm)⟩
  | none => rw [e] at this; exact fun j hj => by have := of_decide_eq_false (this j hj); omega
theorem wt_0 (hx : x.ok) : wtM t x 0 = 0 := by
  show sta0.get x = 0
  cases x with
  | nm i => exact (by decide : ∀ i : Fin 6, sta0.get (.nm i) = 0) i
  | cl j =>
    have hj : j < 4 := hx
    match j, hj with
    | 0, _ => rfl
    | 1, _ => rfl
    | 2, _ => rfl
    | 3, _ => rfl
end
end Bt
namespace Bt
open PySem PySem.Spec PyProof.Rows L2 TL
section
variable {S T : Sto} {n : Nat} {t : Tp} {k k' : Nat} {kv kv' : List (Key × D)} {ρ : Env} {fo fa : Ex}
theorem a_reasonsU {m : Nat} {a : Sm} (h : T[n]? = some (taO t)) (R : RunOk t) (hE : t.E ≤ 500) (hm : m ≤ t.E) (ha : a.ok) (hd : a.dep < 19) : A_reasonsU [.obj n, .int (m : Nat), a.d] T = .ok (.lst (natsD (reasonsM t a m))) (T ++ [.dead]) := by
  unfold A_reasonsU
  rw [hide_eq]
  rw [fnB3]
  simp only [Nat.reduceSub, List.reduceReplicate, List.cons_append, List.nil_append]
  refine q_set (Q := fun r => r.toE = _) (d := .lst (thsD (rdM (t.st m) a))) (S1 := T) (by simp only [s_var0, s_varS, s_c, u_op, s_un, s_nil, u_cons, s_and, s_or, s_not, s_ife, s_chain, u_call, u_call0, u_callB, s_tup, s_lst, s_sl, s_no, s_int, s_meth, s_isN, s_isT, s_rev, u_eT, s_eTProg, s_eTAsk, s_yes, ER.bind_ok, ER.bind_exc, ER.toS, l1_some, o_addI, o_sub, o_neg, o_ixT, o_ixL, o_ltI, o_gtI, o_geI, o_leI, o_eqI, o_neI, b_f1, b_lenT, b_lenL, partD_non, partD_int, t_non, t_int, t_bl, t_str, t_tup, t_lst, isStr_s, sta_0, sta_1, sta_2, sta_3, sta_4, sta_5, List.set_cons_zero, List.set_cons_succ, wipeD, List.length_cons, List.length_nil, lim, Nat.reduceAdd, Nat.reduceLeDiff, if_true, Bool.not_true, Bool.not_false, tpAt_t h, a_st h hm, a_reads_of (R.so hm) ha hd]) ?_
  refine q_set (Q := fun r => r.toE = _) (d := .obj T.length) (S1 := T ++ [.list (natsD [])]) rfl ?_
  have hl := rd_lim (t.st m) hd
  obtain ⟨m', w', o', e⟩ := rs_loop (ad := a.d) h R m 100000 (rdM (t.st m) a) [] none hm (by omega) (by simp; omega) (by omega)
  show (SR.seq (whileN rsC rsB 100000 _ _) _).toE = _
  simp only [List.set_cons_zero, List.set_cons_succ]
  rw [e]
  unfold reasonsM
  generalize rsM t m (rdM (t.st m) a) = l
  rw [← nats_rev]
  rw [sq_nx]
  unfold sIce
  simp only [List.getElem?_cons_succ, List.getElem?_cons_zero, get_end, set_end, List.nil_append]
  rfl
theorem smM_wo (R : RunOk t) (hk : k ≤ t.E) {a : Sm} (ha : a.ok) : Wo (smM t a k) := Sm.ev_wo (R.so hk) ha
theorem rsM_tH : ∀ (m : Nat) (w : List Th), rsM (tH t k) m w = rsM t m w
  | 0, _ => rfl
  | m + 1, w => by
    show (if w = [] then [] else match wM t (m + 1) with
      | some x => if x ∈ w then (m + 1) :: rsM (tH t k) m (w.filter (fun y => decide (y ≠ x)) ++ srM t (m + 1)) else rsM (tH t k) m w
      | none => rsM (tH t k) m w) = (if w = [] then [] else match wM t (m + 1) with
      | some x => if x ∈ w then (m + 1) :: rsM t m (w.filter (fun y => decide (y ≠ x)) ++ srM t (m + 1)) else rsM t m w
      | none => rsM t m w)
    simp only [rsM_tH m]
theorem reasons_tH {a : Sm} {m : Nat} : reasonsM (tH t k) a m = reasonsM t a m := by
  unfold reasonsM
  rw [rsM_tH]; rfl
theorem lastC_tH {x : Th} {m : Nat} : lastC (tH t k) x m = lastC t x m := rfl
def byM (t : Tp) (a : Sm) (k : Nat) : Str := Txt.join blank (("by" : Str) :: (reasonsM t a k).map fun (j : Nat) => nS j)
def BySum (S : Sto) (n : Nat) (t : Tp) (w : Str) (a : Sm) (r : Str) (k' : Nat) (kv' : List (Key × D)) : Prop :=
  ∃ S', A_Desk_by_sum [.obj n, .str w, a.d] S = .ok (.str r) S' ∧ Dk S' n t k' kv' ∧ Ex3 n S S'
theorem strq {a b : String} (S : Sto) : opEq S (.str (Str.ofString a)) (.str (Str.ofString b)) = some (.bl (decide (Str.ofString a = Str.ofString b))) := by
  rw [b_good (gd_str (n := 0)).good (gd_str (n := 0)).good, eqv_str]
theorem by_worth (dk : Dk S n t k kv) (R : RunOk t) (hk : k ≤ t.E) {a : Sm} (ha : a.ok) (hd : a.dep < 20) : BySum S n t "worth" a (nS (smM t a k)) k kv := by
  have w := smM_wo R hk ha
  refine ⟨S, ?_, dk, .refl⟩
  unfold A_Desk_by_sum
  rw [hide_eq, fnB3]
  simp only [Nat.reduceSub, List.reduceReplicate, List.cons_append, List.nil_append]
  refine f_set (d := .int (k : Nat)) (S1 := S) (d_mom dk rfl) ?_
  refine f_ifT (bb := true) (S1 := S) (x_op (x := .str ("worth" : Str)) (y := .str ("worth" : Str)) rfl rfl (strq S)) rfl ?_
  exact q_seqRet (Q := fun r => r.toE = _) (S1 := S) (x_B1 (x := .int (smM t a k)) (x_c3 (x := .obj (n + 1)) (y := .int (k : Nat)) (z := a.d) (d_tape dk rfl) rfl rfl (a_sum_at (t := tH t k) dk.tp (R.tH k) hk ⟨ha, hd⟩)) (bStr_i (by have := w.1; have := w.2; omega))) rfl
theorem by_why (dk : Dk S n t k kv) (R : RunOk t) (hE : t.E ≤ 500) (hk : k ≤ t.E) {a : Sm} (ha : a.ok) (hd : a.dep < 19) : BySum S n t "why" a (byM t a k) k kv := by
  refine ⟨S ++ [.dead], ?_, dk.app, .app⟩
  unfold A_Desk_by_sum
  rw [hide_eq, fnB3]
  simp only [Nat.reduceSub, List.reduceReplicate, List.cons_append, List.nil_append]
  refine f_set (d := .int (k : Nat)) (S1 := S) (d_mom dk rfl) ?_
  refine f_if (bb := false) (S1 := S) (x_op (x := .str ("why" : Str)) (y := .str ("worth" : Str)) rfl rfl (strq S)) rfl ?_
  refine f_ifT (bb := true) (S1 := S) (x_op (x := .str ("why" : Str)) (y := .str ("why" : Str)) rfl rfl (strq S)) rfl ?_
  have hlow : ∀ j ∈ reasonsM t a k, j ≤ 500 := fun j hj => by have := (reasons_low hj).2.1; omega
  have hlen : (reasonsM t a k).length ≤ k := reasons_len
  refine q_seqRet (Q := fun r => r.toE = _) (S1 := S ++ [.dead]) (x_join (y := blank) (ws := ("by" : Str) :: (reasonsM t a k).map fun (j : Nat) => nS j) (S1 := S) rfl ?_ ?_) rfl
  · refine x_op (x := .lst ([("by" : Str)].map D.str)) (y := .lst (((reasonsM t a k).map fun (j : Nat) => nS j).map D.str)) (S1 := S) (S2 := S ++ [.dead]) ?_ ?_ ?_
    · rfl
    · have e := a_reasonsU (t := tH t k) dk.tp (R.tH k) hE hk ha hd
      rw [reasons_tH] at e
      have ec := comp_all (vs := [5]) (fi := iLst (eCall A_reasonsU (eCons (eFld "Desk" "tape" (eVar 0)) (eCons (eVar 3) (eCons (eVar 2) eNil))))) (tg := dN 5) (fe := eCallB (f1 bStr) (eCons (eVar 5) eNil)) (ρ := [some (.obj n), some (.str ("why" : Str)), some a.d, some (.int (k : Nat)), none, none]) (S := S) (f := fun (j : Nat) => D.int j) (xs := reasonsM t a k) (fun j => .str (nS j)) (S1 := S ++ [.dead])
        (il (x_c3 (x := .obj (n + 1)) (y := .int (k : Nat)) (z := a.d) (d_tape dk rfl) rfl rfl e)) (fun j hj => ⟨[some (.obj n), some (.str ("why" : Str)), some a.d, some (.int (k : Nat)), none, some (.int (j : Nat))], rfl, x_B1 (x := .int (j : Nat)) rfl (bStr_i (by have := hlow j hj; omega))⟩) (by show _ ≤ 1000000; omega)
      rw [List.map_map]
      exact ec
    · exact add_strs (by rw [List.length_map, List.length_singleton]; omega)
  · refine wd_room (k := 10) (fun w hw => ?_) blank_len (by rw [List.length_cons, List.length_map]; omega)
    rcases List.mem_cons.mp hw with rfl | hw
    · decide
    · obtain ⟨j, hj, rfl⟩ := List.mem_map.mp hw
      exact Nat.le_trans (len_nS (k := j) (by have := hlow j hj; omega)) (by decide)
theorem aw_init : A_Words___init__ = G_Words___init__ := by unfold A_Words___init__; rw [hide_eq]; rfl
theorem aw_word : A_Words_word = G_Words_word := by unfold A_Words_word; rw [hide_eq]; rfl
theorem aw_number : A_Words_number = G_Words_number := by unfold A_Words_number; rw [hide_eq, aw_word]; rfl
theorem ws_one {x : Str} (hx : Wd x) : WsOk [x] := ⟨fun w hw => by rw [List.mem_singleton.mp hw]; exact hx⟩
theorem x_words {x : Str} (hx : Wd x) (ha : fa ρ S = .ok (.str x) S) {r : ER} (h : F_Words_number [.obj S.length] (WS S [x]) = r) : eMCall "Words" "number" A_Words_number (eMake "Words" A_Words___init__ (eCons fa eNil)) eNil ρ S = r := by
  have e := make_words (T := S) (ws := [x]) (ρ := ρ) (fa := fa) (by simp) (ws_one hx) (by simp) (by rw [jn_one]; exact ha)
  rw [aw_number, aw_init, s_mcall, e]
  simp only [ER.bind_ok, w_rd]
  exact h
theorem x_number {j : Nat} (hj : j < 100000) (ha : fa ρ S = .ok (.str (nS j)) S) : eMCall "Words" "number" A_Words_number (eMake "Words" A_Words___init__ (eCons fa eNil)) eNil ρ S = .ok (.int (j : Nat)) (WS S []) :=
  x_words (wd_nS (by omega) (by omega)) ha (number_law S (by omega) (by omega) [] (ws_one (wd_nS (by omega) (by omega))))
theorem Dk.ws (dk : Dk S n t k kv) {ws : List Str} : Dk (WS S ws) n t k kv := dk.app
theorem Ex3.ws {ws : List Str} : Ex3 n S (WS S ws) := .app
def More (S : Sto) (n : Nat) (t : Tp) (w : Str) (rest : List Str) (r : Str) (k' : Nat) (kv' : List (Key × D)) : Prop :=
  ∃ S', A_Desk_with_more [.obj n, .str w, .lst (rest.map D.str)] S = .ok (.str r) S' ∧ Dk S' n t k' kv' ∧ Ex3 n S S'
def MoreX (S : Sto) (n : Nat) (t : Tp) (w : Str) (rest : List Str) (e : Exc) (k' : Nat) (kv' : List (Key × D)) : Prop :=
  ∃ S', A_Desk_with_more [.obj n, .str w, .lst (rest.map D.str)] S = .exc e S' ∧ Dk S' n t k' kv' ∧ Ex3 n S S'
def w3 : List Str := ["worth", "until", "why"]
theorem w3_gd : (D.tup (w3.map D.str)).good = true := (gd_tup (n := 0) fun d hd => by
  obtain ⟨i, hi, rfl⟩ := List.mem_map.mp hd
  simp only [w3, List.mem_cons, List.not_mem_nil, or_false] at hi
  rcases hi with rfl | rfl | rfl <;> exact gd_str).good
def g3 : List Str := ["go", "back", "to"]
theorem g3_gd : (D.tup (g3.map D.str)).good = true := (gd_tup (n := 0) fun d hd => by
  obtain ⟨i, hi, rfl⟩ := List.mem_map.mp hd
  simp only [g3, List.mem_cons, List.not_mem_nil, or_false] at hi
  rcases hi with rfl | rfl | rfl <;> exact gd_str).good
theorem so_gd {w : Str} (h : PyData.strOk w = true) : (D.str w).good = true := by unfold D.good D.wf D.dep; rw [h]; rfl
theorem x_in3 {w : Str} (hw : PyData.strOk w = true) (h1 : eVar 1 ρ S = .ok (.str w) S) : eOp opIn (eVar 1) (eTup (eCons (eC (.str "worth")) (eCons (eC (.str "until")) (eCons (eC (.str "why")) eNil)))) ρ S = .ok (.bl (decide (w ∈ w3))) S :=
  x_op (x := .str w) (y := .tup (w3.map D.str)) h1 rfl (in_w (so_gd hw) w3_gd)
theorem more_sum {w : Str} (hw : w ∈ w3) {a : Sm} (ha : a.ok) (hd : a.dep ≤ 3) {r : Str} (h : BySum S n t w a r k' kv') (dk : Dk S n t k kv) : More S n t w (swM a) r k' kv' := by
  obtain ⟨S', h1, h2, h3⟩ := h
  refine ⟨S', ?_, h2, h3⟩
  have so : PyData.strOk w = true := by
    simp only [w3, List.mem_cons, List.not_mem_nil, or_false] at hw
    rcases hw with rfl | rfl | rfl <;> exact strOk_of _
  unfold A_Desk_with_more
  rw [hide_eq, fnB3]
  simp only [Nat.reduceSub, List.reduceReplicate, List.cons_append, List.nil_append]
  refine f_ifT (bb := true) (S1 := S) (by rw [x_in3 so rfl, decide_eq_true hw]) rfl ?_
  have hr : A_read_sum [.str (stM a)] S = .ok a.d S := spec_ok fun S => read_sum_law S ha hd
  have hl := sw_15 hd
  refine q_seqRet (Q := fun r => r.toE = _) (S1 := S') (d_m2 dk rfl rfl rfl (x_c1 (x := .str (stM a)) (x_join (y := blank) (ws := swM a) (S1 := S) rfl rfl (wd_room (k := 10) (fun w hw => (sw_wd ha w hw).len) blank_len (by omega))) hr) h1) rfl
end
end Bt
namespace Bt
open PySem PySem.Spec PyProof.Rows L2 TL
section
variable {S T : Sto} {n : Nat} {t : Tp} {k k' : Nat} {kv kv' : List (Key × D)} {ρ : Env} {fo fa : Ex}
theorem line_app {A B : Str} (h : tl A = tl B ++ [32]) {ws : List Str} (hne : ws ≠ []) : A ++ Txt.join blank ws = Txt.join blank (B :: ws) := by
  refine ext_tl ?_
  obtain ⟨w, r, rfl⟩ := List.exists_cons_of_ne_nil hne
  rw [tl_append, join_eq, join_eq, tl_join, tl_join, h]
  show (tl B ++ [32]) ++ joinL [32] (tl w :: r.map tl) = tl B ++ ([32] ++ joinL [32] (tl w :: r.map tl))
  rw [List.append_assoc]
theorem intq {i j : Int} (S : Sto) : opEq S (.int i) (.int j) = some (.bl (decide (i = j))) := by
  rw [b_good (gd_int (n := 0)).good (gd_int (n := 0)).good, eqv_int]
theorem eqvs_strs : ∀ l m : List Str, eqvs (l.map D.str) (m.map D.str) = decide (l = m)
  | [], [] => by simp
  | [], b :: m => by simp
  | a :: l, [] => by simp
  | a :: l, b :: m => by simp [eqvs_strs l m]
theorem lstq {l m : List Str} (S : Sto) (hl : ∀ w ∈ l, PyData.strOk w = true) (hm : ∀ w ∈ m, PyData.strOk w = true) : opEq S (.lst (l.map D.str)) (.lst (m.map D.str)) = some (.bl (decide (l = m))) := by
  rw [b_good (strs_gd hl) (strs_gd hm), eqv_lst, eqvs_strs]
theorem x_ix0 {w : Str} {r : List Str} {i : Nat} (h : eVar i ρ S = .ok (.lst ((w :: r).map D.str)) S) : eOp opIx (eVar i) (eC (.int 0)) ρ S = .ok (.str w) S :=
  x_op h rfl (by rw [o_ixL]; exact atI_nat' (n := 0))
theorem x_lenS {l : List Str} {i : Nat} (h : eVar i ρ S = .ok (.lst (l.map D.str)) S) : eCallB (f1 bLen) (eCons (eVar i) eNil) ρ S = .ok (.int (l.length : Nat)) S := by
  have := x_lenL h
  rw [List.length_map] at this; exact this
theorem x_fcall {fns : List (Str × Fn)} {fk fa fb : Ex} {z : Str} {F : Fn} {x y d : D} {S1 S2 S3 S4 : Sto} (hk : fk ρ S = .ok (.str z) S1) (hf : fnOf fns z = some F) (ha : fa ρ S1 = .ok x S2) (hb : fb ρ S2 = .ok y S3) (h : F [x, y] S3 = .ok d S4) : eFCall fns fk (eCons fa (eCons fb eNil)) ρ S = .ok d S4 := by
  unfold eFCall
  rw [hk]
  simp only [ER.bind_ok, hf, s_cons, ha, hb, s_nil]
  exact h
theorem done_mv (dk : Dk S n t k kv) (R : RunOk t) (hk : k ≤ t.E) {w : String} {F : Fn} {m : Nat} (hw : (tabD kf_MOVES (Str.ofString w)).isSome = true) (hF : fnOf [("over", A_over), ("out", A_out), ("backover", A_back_over), ("backout", A_back_out)] (Str.ofString w) = some F)
    (hm : m ≤ t.E) (h : F [.obj (n + 1), .int (k : Nat)] S = .ok (.int (m : Nat)) S) : Does S n t [Str.ofString w] (whereM t m) m kv := by
  refine ⟨S.set (n + 1) (taO (tH t m)), ?_, dk.set1, .set1⟩
  unfold A_Desk_done
  rw [hide_eq, fnB2]
  simp only [Nat.reduceSub, List.reduceReplicate, List.cons_append, List.nil_append]
  refine f_ifT (bb := true) (S1 := S) (x_and (x := true) (y := true) (x_op (x := .int 1) (y := .int 1) (x_lenS (l := [Str.ofString w]) rfl) rfl (intq S)) fun _ => ?_) rfl ?_
  · unfold eTIn
    rw [x_ix0 (w := Str.ofString w) (r := []) rfl]
    simp only [ER.bind_ok]
    rw [hw]; rfl
  refine f_assoc ?_
  refine f_expr (d := .non) (S1 := S.set (n + 1) (taO (tH t m))) (d_to dk rfl (x_fcall (ρ := [some (.obj n), some (.lst ([Str.ofString w].map D.str))]) (S := S) (fa := eFld "Desk" "tape" (eVar 0)) (fb := eT A_Tape_moment (eFld "Desk" "tape" (eVar 0)) eNil) (x_ix0 (w := Str.ofString w) (r := []) rfl) hF (d_tape dk rfl) (d_mom dk rfl) h) dk hm) ?_
  exact q_seqRet (Q := fun r => r.toE = _) (S1 := S.set (n + 1) (taO (tH t m))) (d_m0 (dk.set1 (k' := m)) rfl rfl (where_law dk.set1 R hm)) rfl
theorem done_where (dk : Dk S n t k kv) (R : RunOk t) (hk : k ≤ t.E) : Does S n t ["where"] (whereM t k) k kv := by
  refine ⟨S, ?_, dk, .refl⟩
  unfold A_Desk_done
  rw [hide_eq, fnB2]
  simp only [Nat.reduceSub, List.reduceReplicate, List.cons_append, List.nil_append]
  refine f_if (bb := false) (S1 := S) (x_and (x := true) (y := false) (x_op (x := .int 1) (y := .int 1) (x_lenS (l := ["where"]) rfl) rfl (intq S)) fun _ => ?_) rfl ?_
  · unfold eTIn
    rw [x_ix0 (w := "where") (r := []) rfl]; rfl
  refine f_ifT (bb := true) (S1 := S) (x_op (x := .lst ((["where"] : List Str).map D.str)) (y := .lst ((["where"] : List Str).map D.str)) rfl rfl (lstq S (fun w hw => by rw [List.mem_singleton.mp hw]; exact strOk_of _) (fun w hw => by rw [List.mem_singleton.mp hw]; exact strOk_of _))) rfl ?_
  exact q_seqRet (Q := fun r => r.toE = _) (S1 := S) (d_m0 dk rfl rfl (where_law dk R hk)) rfl
theorem done_end (dk : Dk S n t k kv) (R : RunOk t) : Does S n t ["end"] (nS t.E) k kv := by
  have hN := R.N
  refine ⟨S, ?_, dk, .refl⟩
  unfold A_Desk_done
  rw [hide_eq, fnB2]
  simp only [Nat.reduceSub, List.reduceReplicate, List.cons_append, List.nil_append]
  refine f_if (bb := false) (S1 := S) (x_and (x := true) (y := false) (x_op (x := .int 1) (y := .int 1) (x_lenS (l := ["end"]) rfl) rfl (intq S)) fun _ => ?_) rfl ?_
  · unfold eTIn
    rw [x_ix0 (w := "end") (r := []) rfl]; rfl
  have s1 : ∀ a : String, ∀ w ∈ ([Str.ofString a] : List Str), PyData.strOk w = true := fun a w hw => by rw [List.mem_singleton.mp hw]; exact strOk_of _
  refine f_if (bb := false) (S1 := S) (x_op (x := .lst ((["end"] : List Str).map D.str)) (y := .lst ((["where"] : List Str).map D.str)) rfl rfl (lstq S (s1 _) (s1 _))) rfl ?_
  refine f_ifT (bb := true) (S1 := S) (x_op (x := .lst ((["end"] : List Str).map D.str)) (y := .lst ((["end"] : List Str).map D.str)) rfl rfl (lstq S (s1 _) (s1 _))) rfl ?_
  exact q_seqRet (Q := fun r => r.toE = _) (S1 := S) (x_B1 (x := .int (t.E : Nat)) (d_end dk rfl) (bStr_i (by omega))) rfl
theorem more_walk (dk : Dk S n t k kv) {w : Str} {rest : List Str} (hs : ∀ v ∈ w :: rest, PyData.strOk v = true) (hne : rest ≠ []) {r : ER} (h : A_Desk_with_more [.obj n, .str w, .lst (rest.map D.str)] S = r) (hr : r ≠ .bad) : A_Desk_done [.obj n, .lst ((w :: rest).map D.str)] S = r := by
  have hl : 1 ≤ rest.length := by
    cases rest with
    | nil => exact absurd rfl hne
    | cons => simp
  unfold A_Desk_done
  rw [hide_eq, fnB2]
  simp only [Nat.reduceSub, List.reduceReplicate, List.cons_append, List.nil_append]
  have el : ∀ {ρ : Env}, eVar 1 ρ S = .ok (.lst ((w :: rest).map D.str)) S → eCallB (f1 bLen) (eCons (eVar 1) eNil) ρ S = .ok (.int ((rest.length + 1 : Nat) : Int)) S := fun h => by
    have := x_lenS (l := w :: rest) h
    rw [List.length_cons] at this; exact this
  refine f_if (bb := false) (S1 := S) (x_and (x := false) (y := false) (x_op (x := .int ((rest.length + 1 : Nat) : Int)) (y := .int 1) (el rfl) rfl (by rw [intq, decide_eq_false (by omega)])) fun h => nomatch h) rfl ?_
  have s1 : ∀ a : String, ∀ w ∈ ([Str.ofString a] : List Str), PyData.strOk w = true := fun a w hw => by rw [List.mem_singleton.mp hw]; exact strOk_of _
  refine f_if (bb := false) (S1 := S) (x_op (x := .lst ((w :: rest).map D.str)) (y := .lst ((["where"] : List Str).map D.str)) rfl rfl (by rw [lstq S hs (s1 _), decide_eq_false (by simp [hne])])) rfl ?_
  refine f_if (bb := false) (S1 := S) (x_op (x := .lst ((w :: rest).map D.str)) (y := .lst ((["end"] : List Str).map D.str)) rfl rfl (by rw [lstq S hs (s1 _), decide_eq_false (by simp [hne])])) rfl ?_
  refine f_if (bb := false) (S1 := S) (x_op (x := .int ((rest.length + 1 : Nat) : Int)) (y := .int 2) (el rfl) rfl (by
    show some (D.bl (decide (((rest.length + 1 : Nat) : Int) < 2))) = _
    rw [decide_eq_false (by omega)])) rfl ?_
  have e1 : eSl (eVar 1) (eInt (eC (.int 1))) eNo [some (.obj n), some (.lst ((w :: rest).map D.str))] S = .ok (.lst (rest.map D.str)) S := by
    rw [s_sl]
    show lift1 (some (D.lst (cutD ((w :: rest).map D.str) (some 1) none))) S = _
    rw [List.map_cons, cut_suf (by decide)]; rfl
  have e2 : eMCall "Desk" "with_more" A_Desk_with_more (eVar 0) (eCons (eOp opIx (eVar 1) (eC (.int 0))) (eCons (eSl (eVar 1) (eInt (eC (.int 1))) eNo) eNil)) [some (.obj n), some (.lst ((w :: rest).map D.str))] S = r := d_m2 dk rfl rfl (x_ix0 (w := w) (r := rest) rfl) e1 h
  cases r with
  | ok d S' => exact f_ret e2 rfl
  | exc e S' => exact f_retX e2 rfl
  | bad => exact absurd rfl hr
theorem does_more (dk : Dk S n t k kv) {w : Str} {rest : List Str} (hs : ∀ v ∈ w :: rest, PyData.strOk v = true) (hne : rest ≠ []) {r : Str} (h : More S n t w rest r k' kv') : Does S n t (w :: rest) r k' kv' := by
  obtain ⟨S', h1, h2, h3⟩ := h
  exact ⟨S', more_walk dk hs hne h1 (fun z => nomatch z), h2, h3⟩
theorem fails_more (dk : Dk S n t k kv) {w : Str} {rest : List Str} (hs : ∀ v ∈ w :: rest, PyData.strOk v = true) (hne : rest ≠ []) {e : Exc} (h : MoreX S n t w rest e k' kv') : Fails S n t (w :: rest) e k' kv' := by
  obtain ⟨S', h1, h2, h3⟩ := h
  exact ⟨S', more_walk dk hs hne h1 (fun z => nomatch z), h2, h3⟩
end
end Bt
namespace Bt
open PySem PySem.Spec PyProof.Rows L2 TL
noncomputable def wmR2 : Sx := (sSeq
    (sIf (eOp opEq (eVar 1) (eC (.str "last")))
    (sSeq (sSet 3 (eCall A_last_change (eCons (eFld "Desk" "tape" (eVar 0)) (eCons (eT A_Tape_moment (eFld "Desk" "tape" (eVar 0)) eNil) (eCons (eCall A_thing_in (eCons (eOp opIx (eVar 2) (eC (.int 0))) eNil)) eNil))))) (sRet (eIf (eIsN false (eVar 3)) (eC (.str "never")) (eCallB (f1 bStr) (eCons (eVar 3) eNil))))) sSkip)
    (sSeq
    (sIf (eAnd (eOp opEq (eVar 1) (eC (.str "mark"))) (eCall A_is_mark (eCons (eOp opIx (eVar 2) (eC (.int 0))) eNil)))
    (sSeq (sLDPut (eFld "Desk" "kept" (eVar 0)) (eOp opIx (eVar 2) (eC (.int 0))) (eT A_Tape_moment (eFld "Desk" "tape" (eVar 0)) eNil)) (sRet (eC (.str "marked")))) sSkip)
    (sSeq
    (sIf (eAnd (eOp opEq (eVar 1) (eC (.str "to"))) (eLDIn false (eOp opIx (eVar 2) (eC (.int 0))) (eFld "Desk" "kept" (eVar 0))))
    (sSeq (sExpr (eT A_Tape_to (eFld "Desk" "tape" (eVar 0)) (eCons (eLDIx (eFld "Desk" "kept" (eVar 0)) (eOp opIx (eVar 2) (eC (.int 0)))) eNil))) (sRet (eMCall "Desk" "where" A_Desk_where (eVar 0) eNil))) sSkip)
    (sSeq
    (sIf (eOp opNotIn (eVar 1) (eTup (eCons (eC (.str "go")) (eCons (eC (.str "back")) (eCons (eC (.str "to")) eNil))))) (sRaise .text) sSkip)
    (sSeq (sSet 4 (eMCall "Words" "number" A_Words_number (eMake "Words" A_Words___init__ (eCons (eOp opIx (eVar 2) (eC (.int 0))) eNil)) eNil))
    (sSeq
    (sIf (eOp opEq (eVar 1) (eC (.str "to"))) (sExpr (eT A_Tape_to (eFld "Desk" "tape" (eVar 0)) (eCons (eVar 4) eNil)))
    (sIf (eOp opEq (eVar 1) (eC (.str "go"))) (sExpr (eT A_Tape_go (eFld "Desk" "tape" (eVar 0)) (eCons (eVar 4) eNil))) (sExpr (eT A_Tape_back (eFld "Desk" "tape" (eVar 0)) (eCons (eVar 4) eNil))))) (sRet (eMCall "Desk" "where" A_Desk_where (eVar 0) eNil))))))))
noncomputable def wmR3 : Sx := (sSeq
    (sIf (eAnd (eOp opEq (eVar 1) (eC (.str "mark"))) (eCall A_is_mark (eCons (eOp opIx (eVar 2) (eC (.int 0))) eNil)))
    (sSeq (sLDPut (eFld "Desk" "kept" (eVar 0)) (eOp opIx (eVar 2) (eC (.int 0))) (eT A_Tape_moment (eFld "Desk" "tape" (eVar 0)) eNil)) (sRet (eC (.str "marked")))) sSkip)
    (sSeq
    (sIf (eAnd (eOp opEq (eVar 1) (eC (.str "to"))) (eLDIn false (eOp opIx (eVar 2) (eC (.int 0))) (eFld "Desk" "kept" (eVar 0))))
    (sSeq (sExpr (eT A_Tape_to (eFld "Desk" "tape" (eVar 0)) (eCons (eLDIx (eFld "Desk" "kept" (eVar 0)) (eOp opIx (eVar 2) (eC (.int 0)))) eNil))) (sRet (eMCall "Desk" "where" A_Desk_where (eVar 0) eNil))) sSkip)
    (sSeq
    (sIf (eOp opNotIn (eVar 1) (eTup (eCons (eC (.str "go")) (eCons (eC (.str "back")) (eCons (eC (.str "to")) eNil))))) (sRaise .text) sSkip)
    (sSeq (sSet 4 (eMCall "Words" "number" A_Words_number (eMake "Words" A_Words___init__ (eCons (eOp opIx (eVar 2) (eC (.int 0))) eNil)) eNil))
    (sSeq
    (sIf (eOp opEq (eVar 1) (eC (.str "to"))) (sExpr (eT A_Tape_to (eFld "Desk" "tape" (eVar 0)) (eCons (eVar 4) eNil)))
    (sIf (eOp opEq (eVar 1) (eC (.str "go"))) (sExpr (eT A_Tape_go (eFld "Desk" "tape" (eVar 0)) (eCons (eVar 4) eNil))) (sExpr (eT A_Tape_back (eFld "Desk" "tape" (eVar 0)) (eCons (eVar 4) eNil))))) (sRet (eMCall "Desk" "where" A_Desk_where (eVar 0) eNil)))))))
noncomputable def wmR4 : Sx := (sSeq
    (sIf (eAnd (eOp opEq (eVar 1) (eC (.str "to"))) (eLDIn false (eOp opIx (eVar 2) (eC (.int 0))) (eFld "Desk" "kept" (eVar 0))))
    (sSeq (sExpr (eT A_Tape_to (eFld "Desk" "tape" (eVar 0)) (eCons (eLDIx (eFld "Desk" "kept" (eVar 0)) (eOp opIx (eVar 2) (eC (.int 0)))) eNil))) (sRet (eMCall "Desk" "where" A_Desk_where (eVar 0) eNil))) sSkip)
    (sSeq
    (sIf (eOp opNotIn (eVar 1) (eTup (eCons (eC (.str "go")) (eCons (eC (.str "back")) (eCons (eC (.str "to")) eNil))))) (sRaise .text) sSkip)
    (sSeq (sSet 4 (eMCall "Words" "number" A_Words_number (eMake "Words" A_Words___init__ (eCons (eOp opIx (eVar 2) (eC (.int 0))) eNil)) eNil))
    (sSeq
    (sIf (eOp opEq (eVar 1) (eC (.str "to"))) (sExpr (eT A_Tape_to (eFld "Desk" "tape" (eVar 0)) (eCons (eVar 4) eNil)))
    (sIf (eOp opEq (eVar 1) (eC (.str "go"))) (sExpr (eT A_Tape_go (eFld "Desk" "tape" (eVar 0)) (eCons (eVar 4) eNil))) (sExpr (eT A_Tape_back (eFld "Desk" "tape" (eVar 0)) (eCons (eVar 4) eNil))))) (sRet (eMCall "Desk" "where" A_Desk_where (eVar 0) eNil))))))
noncomputable def wmR5 : Sx := (sSeq
    (sIf (eOp opNotIn (eVar 1) (eTup (eCons (eC (.str "go")) (eCons (eC (.str "back")) (eCons (eC (.str "to")) eNil))))) (sRaise .text) sSkip)
    (sSeq (sSet 4 (eMCall "Words" "number" A_Words_number (eMake "Words" A_Words___init__ (eCons (eOp opIx (eVar 2) (eC (.int 0))) eNil)) eNil))
    (sSeq
    (sIf (eOp opEq (eVar 1) (eC (.str "to"))) (sExpr (eT A_Tape_to (eFld "Desk" "tape" (eVar 0)) (eCons (eVar 4) eNil)))
    (sIf (eOp opEq (eVar 1) (eC (.str "go"))) (sExpr (eT A_Tape_go (eFld "Desk" "tape" (eVar 0)) (eCons (eVar 4) eNil))) (sExpr (eT A_Tape_back (eFld "Desk" "tape" (eVar 0)) (eCons (eVar 4) eNil))))) (sRet (eMCall "Desk" "where" A_Desk_where (eVar 0) eNil)))))
noncomputable def wmR6 : Sx := (sSeq (sSet 4 (eMCall "Words" "number" A_Words_number (eMake "Words" A_Words___init__ (eCons (eOp opIx (eVar 2) (eC (.int 0))) eNil)) eNil))
    (sSeq
    (sIf (eOp opEq (eVar 1) (eC (.str "to"))) (sExpr (eT A_Tape_to (eFld "Desk" "tape" (eVar 0)) (eCons (eVar 4) eNil)))
    (sIf (eOp opEq (eVar 1) (eC (.str "go"))) (sExpr (eT A_Tape_go (eFld "Desk" "tape" (eVar 0)) (eCons (eVar 4) eNil))) (sExpr (eT A_Tape_back (eFld "Desk" "tape" (eVar 0)) (eCons (eVar 4) eNil))))) (sRet (eMCall "Desk" "where" A_Desk_where (eVar 0) eNil))))
noncomputable def wmR7 : Sx := (sSeq
    (sIf (eOp opEq (eVar 1) (eC (.str "to"))) (sExpr (eT A_Tape_to (eFld "Desk" "tape" (eVar 0)) (eCons (eVar 4) eNil)))
    (sIf (eOp opEq (eVar 1) (eC (.str "go"))) (sExpr (eT A_Tape_go (eFld "Desk" "tape" (eVar 0)) (eCons (eVar 4) eNil))) (sExpr (eT A_Tape_back (eFld "Desk" "tape" (eVar 0)) (eCons (eVar 4) eNil))))) (sRet (eMCall "Desk" "where" A_Desk_where (eVar 0) eNil)))
section
variable {S S1 S2 S3 S4 : Sto} {ρ : Env} {fa fb fc : Ex} {x y z d : D} {fcd : Ex} {a b g : Sx} {q : ER}
theorem f_if' (h : fcd ρ S = .ok (.bl false) S1) (k : (sSeq b g ρ S1).toE = q) : (sSeq (sIf fcd a b) g ρ S).toE = q := q_ifF (Q := fun r => r.toE = q) h k
theorem x_c3X {F : Fn} {e : Exc} (ha : fa ρ S = .ok x S1) (hb : fb ρ S1 = .ok y S2) (hc : fc ρ S2 = .ok z S3) (h : F [x, y, z] S3 = .exc e S4) : eCall F (eCons fa (eCons fb (eCons fc eNil))) ρ S = .exc e S4 := by
  rw [s_call, s_cons, ha]
  simp only [ER.bind_ok]
  rw [s_cons, hb]
  simp only [ER.bind_ok]
  rw [s_cons, hc]
  simp only [ER.bind_ok, s_nil]
  exact h
end
section
variable {S T : Sto} {n : Nat} {t : Tp} {k k' : Nat} {kv kv' : List (Key × D)} {ρ : Env} {fo fa : Ex}
abbrev wmE (n : Nat) (w x : Str) : Env := [some (.obj n), some (.str w), some (.lst (([x] : List Str).map D.str)), none, none]
theorem wm_2 {w x : Str} (hw : PyData.strOk w = true) (hx : PyData.strOk x = true) (h3 : w ∉ w3) (hne : x ≠ "") {r : ER} (h : (wmR2 (wmE n w x) S).toE = r) : A_Desk_with_more [.obj n, .str w, .lst (([x] : List Str).map D.str)] S = r := by
  unfold A_Desk_with_more
  rw [hide_eq, fnB3]
  simp only [Nat.reduceSub, List.reduceReplicate, List.cons_append, List.nil_append]
  refine f_if (bb := false) (S1 := S) (by rw [x_in3 hw rfl, decide_eq_false h3]) rfl ?_
  refine f_if (bb := false) (S1 := S) (x_or (x := false) (y := false) (x_op (x := .int 1) (y := .int 1) (x_lenS (l := [x]) rfl) rfl (ne_same rfl)) fun _ => x_op (x := .str x) (y := .str "") (x_ix0 (w := x) (r := []) rfl) rfl (by rw [b_good (so_gd hx) (gd_str (n := 0)).good, eqv_str, decide_eq_false hne])) rfl ?_
  exact h
theorem wq {w : Str} {c : String} {x : Str} (hw : PyData.strOk w = true) : eOp opEq (eVar 1) (eC (.str (Str.ofString c))) (wmE n w x) S = .ok (.bl (decide (w = Str.ofString c))) S :=
  x_op (x := .str w) (y := .str (Str.ofString c)) rfl rfl (by rw [b_good (so_gd hw) (gd_str (n := 0)).good, eqv_str])
theorem wm_3 {w x : Str} (hw : PyData.strOk w = true) (hl : w ≠ "last") {r : ER} (h : (wmR3 (wmE n w x) S).toE = r) : (wmR2 (wmE n w x) S).toE = r := by
  unfold wmR2
  exact f_if (bb := false) (S1 := S) ((wq hw).trans (by rw [decide_eq_false hl])) rfl h
theorem wm_4 {w x : Str} (hw : PyData.strOk w = true) (hl : w ≠ "mark") {r : ER} (h : (wmR4 (wmE n w x) S).toE = r) : (wmR3 (wmE n w x) S).toE = r := by
  unfold wmR3
  exact f_if (bb := false) (S1 := S) (x_and (x := false) (y := false) ((wq hw).trans (by rw [decide_eq_false hl])) fun h => nomatch h) rfl h
theorem wm_5 {w x : Str} (hw : PyData.strOk w = true) (hl : w ≠ "to") {r : ER} (h : (wmR5 (wmE n w x) S).toE = r) : (wmR4 (wmE n w x) S).toE = r := by
  unfold wmR4
  exact f_if (bb := false) (S1 := S) (x_and (x := false) (y := false) ((wq hw).trans (by rw [decide_eq_false hl])) fun h => nomatch h) rfl h
theorem ld_kept (dk : Dk S n t k kv) : ldAt S (.obj (n + 2)) = some kv := by
  show (match S[n + 2]? with
    | some (.dict kvs) => some kvs
    | some (.fdict kvs) => some kvs
    | _ => none) = _
  rw [dk.kd]
theorem wm_5b (dk : Dk S n t k kv) {x : Str} (hk : valD kv (.inr x) = none) {r : ER} (h : (wmR5 (wmE n "to" x) S).toE = r) : (wmR4 (wmE n "to" x) S).toE = r := by
  unfold wmR4
  exact f_if (bb := false) (S1 := S) (x_and (x := true) (y := false) ((wq (strOk_of _)).trans (by rw [decide_eq_true rfl])) fun _ => (x_ldin (neg := false) (x_ix0 (w := x) (r := []) rfl) (d_kept dk rfl) (ld_kept dk) rfl).trans (by rw [hk]; rfl)) rfl h
theorem wm_to (dk : Dk S n t k kv) (R : RunOk t) {x : Str} {m : Nat} (hv : valD kv (.inr x) = some (.int (m : Nat))) (hm : m ≤ t.E) : (wmR4 (wmE n "to" x) S).toE = .ok (.str (whereM t m)) (S.set (n + 1) (taO (tH t m))) := by
  unfold wmR4
  refine f_ifT (bb := true) (S1 := S) (x_and (x := true) (y := true) ((wq (strOk_of _)).trans (by rw [decide_eq_true rfl])) fun _ => (x_ldin (neg := false) (x_ix0 (w := x) (r := []) rfl) (d_kept dk rfl) (ld_kept dk) rfl).trans (by rw [hv]; rfl)) rfl ?_
  refine f_assoc ?_
  refine f_expr (d := .non) (S1 := S.set (n + 1) (taO (tH t m))) (d_to dk rfl (x_ldix (d_kept dk rfl) (x_ix0 (w := x) (r := []) rfl) (ld_kept dk) rfl hv) dk hm) ?_
  exact q_seqRet (Q := fun r => r.toE = _) (S1 := S.set (n + 1) (taO (tH t m))) (d_m0 (dk.set1 (k' := m)) rfl rfl (where_law dk.set1 R hm)) rfl
theorem wm_mark (dk : Dk S n t k kv) {x : Str} (hm : A_is_mark [.str x] S = .ok (.bl true) S) (hl : kv.length < 1000000) : (wmR3 (wmE n "mark" x) S).toE = .ok (.str "marked") (S.set (n + 2) (.dict (putD kv (.inr x) (.int (k : Nat))))) := by
  unfold wmR3
  refine f_ifT (bb := true) (S1 := S) (x_and (x := true) (y := true) ((wq (strOk_of _)).trans (by rw [decide_eq_true rfl])) fun _ => x_c1 (x := .str x) (x_ix0 (w := x) (r := []) rfl) hm) rfl ?_
  refine f_assoc ?_
  have e := x_ldput (fv := eT A_Tape_moment (eFld "Desk" "tape" (eVar 0)) eNil) (fd := eFld "Desk" "kept" (eVar 0)) (fk := eOp opIx (eVar 2) (eC (.int 0))) (ρ := wmE n "mark" x) (S := S) (d_mom dk rfl) (d_kept dk rfl) (x_ix0 (w := x) (r := []) rfl) dk.kd rfl hl
  show (SR.seq (sLDPut (eFld "Desk" "kept" (eVar 0)) (eOp opIx (eVar 2) (eC (.int 0))) (eT A_Tape_moment (eFld "Desk" "tape" (eVar 0)) eNil) (wmE n "mark" x) S) _).toE = _
  rw [e]
  rfl
theorem wm_6 {w x : Str} (hw : PyData.strOk w = true) (hg : w ∈ g3) {r : ER} (h : (wmR6 (wmE n w x) S).toE = r) : (wmR5 (wmE n w x) S).toE = r := by
  unfold wmR5
  exact f_if (bb := false) (S1 := S) (x_op (x := .str w) (y := .tup (g3.map D.str)) rfl rfl (by rw [notIn_w (so_gd hw) g3_gd, decide_eq_true hg]; rfl)) rfl h
theorem wm_noNum {w x : Str} (hx : Wd x) {S1 : Sto} (h : F_Words_number [.obj S.length] (WS S [x]) = .exc .text S1) : (wmR6 (wmE n w x) S).toE = .exc .text S1 := by
  unfold wmR6
  exact f_setX (x_words hx (x_ix0 (w := x) (r := []) rfl) h) rfl
abbrev wmE1 (n : Nat) (w x : Str) (j : Nat) : Env := [some (.obj n), some (.str w), some (.lst (([x] : List Str).map D.str)), none, some (.int (j : Nat))]
theorem wm_7 {w : Str} {j : Nat} (hj : j < 100000) {r : ER} (h : (wmR7 (wmE1 n w (nS j) j) (WS S [])).toE = r) : (wmR6 (wmE n w (nS j)) S).toE = r := by
  unfold wmR6
  exact f_set (d := .int (j : Nat)) (S1 := WS S []) (x_number hj (x_ix0 (w := nS j) (r := []) rfl)) h
theorem wq1 {w : Str} {c : String} {x : Str} {j : Nat} (hw : PyData.strOk w = true) : eOp opEq (eVar 1) (eC (.str (Str.ofString c))) (wmE1 n w x j) T = .ok (.bl (decide (w = Str.ofString c))) T :=
  x_op (x := .str w) (y := .str (Str.ofString c)) rfl rfl (by rw [b_good (so_gd hw) (gd_str (n := 0)).good, eqv_str])
theorem wm_num_to (dk : Dk T n t k kv) (R : RunOk t) {x : Str} {j : Nat} (hm : j ≤ t.E) : (wmR7 (wmE1 n "to" x j) T).toE = .ok (.str (whereM t j)) (T.set (n + 1) (taO (tH t j))) := by
  unfold wmR7
  refine f_ifT (bb := true) (S1 := T) ((wq1 (strOk_of _)).trans (by rw [decide_eq_true rfl])) rfl ?_
  refine f_expr (d := .non) (S1 := T.set (n + 1) (taO (tH t j))) (d_to dk rfl rfl dk hm) ?_
  exact f_ret (S1 := T.set (n + 1) (taO (tH t j))) (d_m0 (dk.set1 (k' := j)) rfl rfl (where_law dk.set1 R hm)) rfl
theorem x_eT1X {F : Fn} {t : Tp} {n : Nat} {y : D} {e : Exc} {S1 S2 S3 : Sto} {fb : Ex} (ha : fa ρ S = .ok (.obj n) S1) (ht : S1[n]? = some (taO t)) (hb : fb ρ S1 = .ok y S2) (h : F [.obj n, y] S2 = .exc e S3) : eT F fa (eCons fb eNil) ρ S = .exc e S3 := by
  rw [s_eT, ha]
  simp only [ER.bind_ok, tpAt_t ht]
  rw [s_cons, hb]
  simp only [ER.bind_ok, s_nil]
  exact h
theorem wm_num_toX (dk : Dk T n t k kv) {x : Str} {j : Nat} (hm : t.E < j) : (wmR7 (wmE1 n "to" x j) T).toE = .exc .moment T := by
  unfold wmR7
  refine f_ifT (bb := true) (S1 := T) ((wq1 (strOk_of _)).trans (by rw [decide_eq_true rfl])) rfl ?_
  exact f_exprX (x_eT1X (d_tape dk rfl) dk.tp rfl (a_noto (u := tH t k) dk.tp (by rw [tH_E]; omega))) rfl
theorem wm_num_go (dk : Dk T n t k kv) (R : RunOk t) {x : Str} {j : Nat} : (wmR7 (wmE1 n "go" x j) T).toE = .ok (.str (whereM t (min (k + j) t.E))) (T.set (n + 1) (taO (tH t (min (k + j) t.E)))) := by
  obtain ⟨d, e⟩ := a_go (u := tH t k) (m := j) dk.tp
  have e : A_Tape_go [.obj (n + 1), .int (j : Nat)] T = .ok d (T.set (n + 1) (taO (tH t (min (k + j) t.E)))) := e
  unfold wmR7
  refine f_if' ((wq1 (strOk_of _)).trans (by rw [decide_eq_false (by decide)])) ?_
  refine f_ifT (bb := true) (S1 := T) ((wq1 (strOk_of _)).trans (by rw [decide_eq_true rfl])) rfl ?_
  refine f_expr (d := d) (S1 := T.set (n + 1) (taO (tH t (min (k + j) t.E)))) (x_eT1 (d_tape dk rfl) dk.tp rfl e) ?_
  exact f_ret (S1 := T.set (n + 1) (taO (tH t (min (k + j) t.E)))) (d_m0 (dk.set1 (k' := _)) rfl rfl (where_law dk.set1 R (by omega))) rfl
theorem wm_num_back (dk : Dk T n t k kv) (R : RunOk t) (hk : k ≤ t.E) {x : Str} {j : Nat} : (wmR7 (wmE1 n "back" x j) T).toE = .ok (.str (whereM t (k - j))) (T.set (n + 1) (taO (tH t (k - j)))) := by
  obtain ⟨d, e⟩ := a_backT (u := tH t k) (m := j) dk.tp
  have e : A_Tape_back [.obj (n + 1), .int (j : Nat)] T = .ok d (T.set (n + 1) (taO (tH t (k - j)))) := e
  unfold wmR7
  refine f_if' ((wq1 (strOk_of _)).trans (by rw [decide_eq_false (by decide)])) ?_
  refine f_if' ((wq1 (strOk_of _)).trans (by rw [decide_eq_false (by decide)])) ?_
  refine f_expr (d := d) (S1 := T.set (n + 1) (taO (tH t (k - j)))) (x_eT1 (d_tape dk rfl) dk.tp rfl e) ?_
  exact f_ret (S1 := T.set (n + 1) (taO (tH t (k - j)))) (d_m0 (dk.set1 (k' := _)) rfl rfl (where_law dk.set1 R (by omega))) rfl
def thW : Option Nat → Str
  | none => "never"
  | some j => nS j
theorem lastC_le {x : Th} {m j : Nat} (h : lastC t x m = some j) : j ≤ m := by
  have := lastC_z (t := t) (x := x) (m := m)
  rw [h] at this; exact this.2.1
theorem wm_last (dk : Dk S n t k kv) (R : RunOk t) (hk : k ≤ t.E) {x : Str} {y : Th} (hy : y.ok) (hx : A_thing_in [.str x] S = .ok y.d S) : (wmR2 (wmE n "last" x) S).toE = .ok (.str (thW (lastC t y k))) S := by
  have hN := R.N
  unfold wmR2
  refine f_ifT (bb := true) (S1 := S) ((wq (strOk_of _)).trans (by rw [decide_eq_true rfl])) rfl ?_
  refine f_assoc ?_
  have e1 := a_last_change (t := tH t k) dk.tp (R.tH k) hk hy
  rw [lastC_tH] at e1
  refine f_set (d := natO (lastC t y k)) (S1 := S) (x_c3 (x := .obj (n + 1)) (y := .int (k : Nat)) (z := y.d) (d_tape dk rfl) (d_mom dk rfl) (x_c1 (x := .str x) (x_ix0 (w := x) (r := []) rfl) hx) e1) ?_
  cases h : lastC t y k with
  | none => exact q_seqRet (Q := fun r => r.toE = _) (S1 := S) (x_ite (b := true) (x_isN0 (neg := false) rfl) (fun _ => rfl) (fun z => nomatch z)) rfl
  | some j =>
    have := lastC_le h
    exact q_seqRet (Q := fun r => r.toE = _) (S1 := S) (x_ite (b := false) (x_isN (neg := false) (d := .int (j : Nat)) rfl (by simp)) (fun z => nomatch z) (fun _ => x_B1 (x := .int (j : Nat)) rfl (bStr_i (by omega)))) rfl
theorem n_last_changeT {m : Nat} {x : D} {u : Tp} (h : T[n]? = some (taO u)) (hm : m ≤ u.E) (hb : ∀ S, G_need_thing [x] S = .exc .thing S) : A_last_change [.obj n, .int (m : Nat), x] T = .exc .thing T := by
  unfold A_last_change
  rw [hide_eq, fnB3]
  simp only [Nat.reduceSub, List.reduceReplicate, List.cons_append, List.nil_append]
  refine f_expr (d := (itM u.p u.as m).d) (S1 := T) (by simp only [s_var0, s_varS, s_c, u_op, s_un, s_nil, u_cons, s_and, s_or, s_not, s_ife, s_chain, u_call, u_call0, u_callB, s_tup, s_lst, s_sl, s_no, s_int, s_meth, s_isN, s_isT, s_rev, u_eT, s_eTProg, s_eTAsk, s_yes, ER.bind_ok, ER.bind_exc, ER.toS, l1_some, o_addI, o_sub, o_neg, o_ixT, o_ixL, o_ltI, o_gtI, o_geI, o_leI, o_eqI, o_neI, b_f1, b_lenT, b_lenL, partD_non, partD_int, t_non, t_int, t_bl, t_str, t_tup, t_lst, isStr_s, sta_0, sta_1, sta_2, sta_3, sta_4, sta_5, List.set_cons_zero, List.set_cons_succ, wipeD, List.length_cons, List.length_nil, lim, Nat.reduceAdd, Nat.reduceLeDiff, if_true, Bool.not_true, Bool.not_false, tpAt_t h, a_at h hm]) ?_
  have e := n_changesT (T := T) (n := n) hb
  refine f_setX (k := .thing) (S1 := T) ?_ rfl
  unfold eComp
  rw [show iLst (eCall A_changes (eCons (eVar 0) (eCons (eVar 2) eNil))) [some (.obj n), some (.int (m : Nat)), some x, none, none] T = .exc .thing T from by unfold iLst; rw [s_call, s_cons]; simp only [s_var0, s_varS, ER.bind_ok, s_cons, s_nil]; rw [e]; rfl]
  rfl
theorem wm_lastX (dk : Dk S n t k kv) (hk : k ≤ t.E) {x : Str} {y : D} (hb : ∀ S, G_need_thing [y] S = .exc .thing S) (hx : A_thing_in [.str x] S = .ok y S) : (wmR2 (wmE n "last" x) S).toE = .exc .thing S := by
  unfold wmR2
  refine f_ifT (bb := true) (S1 := S) ((wq (strOk_of _)).trans (by rw [decide_eq_true rfl])) rfl ?_
  refine f_assoc ?_
  exact f_setX (x_c3X (x := .obj (n + 1)) (y := .int (k : Nat)) (z := y) (d_tape dk rfl) (d_mom dk rfl) (x_c1 (x := .str x) (x_ix0 (w := x) (r := []) rfl) hx) (n_last_changeT (u := tH t k) dk.tp hk hb)) rfl
end
end Bt
namespace Bt
open PySem PySem.Spec PyProof.Rows L2 TL
section
variable {S T : Sto} {n : Nat} {t : Tp} {k k' : Nat} {kv kv' : List (Key × D)} {ρ : Env} {fo fa : Ex}
theorem split_one {w : Str} (hw : Wd w) : Txt.split w blank = [w] := by
  have := split_words (ws := [w]) (by simp) (ws_one hw)
  rw [jn_one] at this; exact this
theorem says_one (dk : Dk S n t k kv) {w r : Str} (hw : Wd w) (h : Does S n t [w] r k' kv') : Says S n t k kv w r k' kv' :=
  says_of dk (split_one hw) (by have := hw.len; omega) h
theorem says_two (dk : Dk S n t k kv) {A B r : Str} {ws : List Str} (h : tl A = tl B ++ [32]) (hw : WsOk (B :: ws)) (hne : ws ≠ []) (hl : ws.length ≤ 70000) (m : More S n t B ws r k' kv') : Says S n t k kv (A ++ Txt.join blank ws) r k' kv' := by
  rw [line_app h hne]
  exact says_of dk (split_words (by simp) hw) (words_len hw (by rw [List.length_cons]; omega)) (does_more dk hw.so hne m)
theorem says_twoX (dk : Dk S n t k kv) {A B : Str} {ws : List Str} {e : Exc} (h : tl A = tl B ++ [32]) (hw : WsOk (B :: ws)) (hne : ws ≠ []) (hl : ws.length ≤ 70000) (he : e ≠ .run) (m : MoreX S n t B ws e k' kv') : Says S n t k kv (A ++ Txt.join blank ws) (excS e) k' kv' := by
  rw [line_app h hne]
  exact says_exc dk (split_words (by simp) hw) (words_len hw (by rw [List.length_cons]; omega)) he (fails_more dk hw.so hne m)
theorem ws_cons {B : Str} {ws : List Str} (h : Wd B) (hw : WsOk ws) : WsOk (B :: ws) := ⟨fun w h' => (List.mem_cons.mp h').elim (fun e => by rw [e]; exact h) (hw.wd w)⟩
theorem says_where (dk : Dk S n t k kv) (R : RunOk t) (hk : k ≤ t.E) : Says S n t k kv "where" (whereM t k) k kv := says_one dk wd_lit (done_where dk R hk)
theorem says_end (dk : Dk S n t k kv) (R : RunOk t) : Says S n t k kv "end" (nS t.E) k kv := says_one dk wd_lit (done_end dk R)
theorem says_over (dk : Dk S n t k kv) (R : RunOk t) (hk : k ≤ t.E) (hm : overM t k ≤ t.E) : Says S n t k kv "over" (whereM t (overM t k)) (overM t k) kv :=
  says_one dk wd_lit (done_mv dk R hk (w := "over") rfl rfl hm (a_over (t := tH t k) dk.tp (R.tH k) hk))
theorem says_out (dk : Dk S n t k kv) (R : RunOk t) (hk : k ≤ t.E) (hm : outM t k ≤ t.E) : Says S n t k kv "out" (whereM t (outM t k)) (outM t k) kv :=
  says_one dk wd_lit (done_mv dk R hk (w := "out") rfl rfl hm (a_out (t := tH t k) dk.tp (R.tH k) hk))
theorem says_bover (dk : Dk S n t k kv) (R : RunOk t) (hk : k ≤ t.E) (hm : boverM t k ≤ t.E) : Says S n t k kv "backover" (whereM t (boverM t k)) (boverM t k) kv :=
  says_one dk wd_lit (done_mv dk R hk (w := "backover") rfl rfl hm (a_back_over (t := tH t k) dk.tp (R.tH k) hk))
theorem says_bout (dk : Dk S n t k kv) (R : RunOk t) (hk : k ≤ t.E) (hm : boutM t k ≤ t.E) : Says S n t k kv "backout" (whereM t (boutM t k)) (boutM t k) kv :=
  says_one dk wd_lit (done_mv dk R hk (w := "backout") rfl rfl hm (a_back_out (t := tH t k) dk.tp (R.tH k) hk))
theorem wd_n {j : Nat} (hj : j < 100000) : Wd (nS j) := wd_nS (by omega) (by omega)
theorem nS_ne {j : Nat} : nS j ≠ "" := fun h => by
  have e : tl (nS j) = [] := by rw [h]; rfl
  rw [tl_nS (by omega)] at e
  exact numL_ne _ e
theorem says_num (dk : Dk S n t k kv) {A : Str} {B : String} {j : Nat} {r : Str} (hA : tl A = tl (Str.ofString B) ++ [32]) (hB : Wd (Str.ofString B)) (h3 : Str.ofString B ∉ w3) (hl : Str.ofString B ≠ "last") (hm : Str.ofString B ≠ "mark") (hg : Str.ofString B ∈ g3) (hj : j < 100000)
    (hto : (wmR5 (wmE n (Str.ofString B) (nS j)) S).toE = .ok (.str r) ((WS S []).set (n + 1) (taO (tH t k'))) → (wmR4 (wmE n (Str.ofString B) (nS j)) S).toE = .ok (.str r) ((WS S []).set (n + 1) (taO (tH t k'))))
    (h : (wmR7 (wmE1 n (Str.ofString B) (nS j) j) (WS S [])).toE = .ok (.str r) ((WS S []).set (n + 1) (taO (tH t k')))) : Says S n t k kv (A ++ nS j) r k' kv := by
  have e := says_two (r := r) (k' := k') (kv' := kv) dk hA (ws_cons hB (ws_one (wd_n hj))) (by simp) (by simp) ⟨_, wm_2 hB.ok (wd_n hj).ok h3 nS_ne (wm_3 hB.ok hl (wm_4 hB.ok hm (hto (wm_6 hB.ok hg (wm_7 hj h))))), dk.ws.set1, Ex3.ws.trans .set1⟩
  rw [jn_one] at e; exact e
theorem says_to (dk : Dk S n t k kv) (R : RunOk t) {j : Nat} (hj : j ≤ t.E) (hk : valD kv (.inr (nS j)) = none) : Says S n t k kv (("to " : Str) ++ nS j) (whereM t j) j kv := by
  have hN := R.N
  exact says_num dk (B := "to") rfl wd_lit (by decide) (by decide) (by decide) (by decide) (by omega) (fun h => wm_5b dk hk h) (wm_num_to dk.ws R hj)
theorem says_go (dk : Dk S n t k kv) (R : RunOk t) {j : Nat} (hj : j < 100000) : Says S n t k kv (("go " : Str) ++ nS j) (whereM t (min (k + j) t.E)) (min (k + j) t.E) kv :=
  says_num dk (B := "go") rfl wd_lit (by decide) (by decide) (by decide) (by decide) hj (fun h => wm_5 (strOk_of _) (by decide) h) (wm_num_go dk.ws R)
theorem says_back (dk : Dk S n t k kv) (R : RunOk t) (hk : k ≤ t.E) {j : Nat} (hj : j < 100000) : Says S n t k kv (("back " : Str) ++ nS j) (whereM t (k - j)) (k - j) kv :=
  says_num dk (B := "back") rfl wd_lit (by decide) (by decide) (by decide) (by decide) hj (fun h => wm_5 (strOk_of _) (by decide) h) (wm_num_back dk.ws R hk)
theorem says_toX (dk : Dk S n t k kv) {j : Nat} (hj : j < 100000) (hE : t.E < j) (hk : valD kv (.inr (nS j)) = none) : Says S n t k kv (("to " : Str) ++ nS j) "no moment" k kv := by
  have e := says_twoX (k' := k) (kv' := kv) (e := .moment) dk (A := "to ") (B := "to") rfl (ws_cons wd_lit (ws_one (wd_n hj))) (by simp) (by simp) (by decide) ⟨_, wm_2 (strOk_of _) (wd_n hj).ok (by decide) nS_ne (wm_3 (strOk_of _) (by decide) (wm_4 (strOk_of _) (by decide) (wm_5b dk hk (wm_6 (strOk_of _) (by decide) (wm_7 hj (wm_num_toX dk.ws hE)))))), dk.ws, Ex3.ws⟩
  rw [jn_one] at e; exact e
theorem says_sum (dk : Dk S n t k kv) {A : Str} {B : String} (hA : tl A = tl (Str.ofString B) ++ [32]) (hB : Wd (Str.ofString B)) (h3 : Str.ofString B ∈ w3) {a : Sm} (ha : a.ok) (hd : a.dep ≤ 3) {r : Str} (h : BySum S n t (Str.ofString B) a r k' kv') : Says S n t k kv (A ++ stM a) r k' kv' := by
  have hl := sw_15 hd
  exact says_two dk hA (ws_cons hB (ok_sw ha)) (sw_ne a) (by omega) (more_sum h3 ha hd h dk)
theorem says_worth (dk : Dk S n t k kv) (R : RunOk t) (hk : k ≤ t.E) {a : Sm} (ha : a.ok) (hd : a.dep ≤ 3) : Says S n t k kv (("worth " : Str) ++ stM a) (nS (smM t a k)) k kv :=
  says_sum dk (B := "worth") rfl wd_lit (by decide) ha hd (by_worth dk R hk ha (by omega))
theorem says_why (dk : Dk S n t k kv) (R : RunOk t) (hE : t.E ≤ 500) (hk : k ≤ t.E) {a : Sm} (ha : a.ok) (hd : a.dep ≤ 3) : Says S n t k kv (("why " : Str) ++ stM a) (byM t a k) k kv :=
  says_sum dk (B := "why") rfl wd_lit (by decide) ha hd (by_why dk R hE hk ha (by omega))
theorem says_mark (dk : Dk S n t k kv) {x : Str} (hx : Wd x) (hne : x ≠ "") (hm : ∀ S, A_is_mark [.str x] S = .ok (.bl true) S) (hl : kv.length < 1000000) : Says S n t k kv (("mark " : Str) ++ x) "marked" k (putD kv (.inr x) (.int (k : Nat))) := by
  have e := says_two (r := "marked") (k' := k) (kv' := putD kv (.inr x) (.int (k : Nat))) dk (A := "mark ") (B := "mark") rfl (ws_cons wd_lit (ws_one hx)) (by simp) (by simp) ⟨_, wm_2 (strOk_of _) hx.ok (by decide) hne (wm_3 (strOk_of _) (by decide) (wm_mark dk (hm S) hl)), dk.set2, .set2⟩
  rw [jn_one] at e; exact e
theorem says_tom (dk : Dk S n t k kv) (R : RunOk t) {x : Str} (hx : Wd x) (hne : x ≠ "") {m : Nat} (hv : valD kv (.inr x) = some (.int (m : Nat))) (hm : m ≤ t.E) : Says S n t k kv (("to " : Str) ++ x) (whereM t m) m kv := by
  have e := says_two (r := whereM t m) (k' := m) (kv' := kv) dk (A := "to ") (B := "to") rfl (ws_cons wd_lit (ws_one hx)) (by simp) (by simp) ⟨_, wm_2 (strOk_of _) hx.ok (by decide) hne (wm_3 (strOk_of _) (by decide) (wm_4 (strOk_of _) (by decide) (wm_to dk R hv hm))), dk.set1, .set1⟩
  rw [jn_one] at e; exact e
theorem says_last (dk : Dk S n t k kv) (R : RunOk t) (hk : k ≤ t.E) {x : Str} (hx : Wd x) (hne : x ≠ "") {y : Th} (hy : y.ok) (hi : ∀ S, A_thing_in [.str x] S = .ok y.d S) : Says S n t k kv (("last " : Str) ++ x) (thW (lastC t y k)) k kv := by
  have e := says_two (r := thW (lastC t y k)) (k' := k) (kv' := kv) dk (A := "last ") (B := "last") rfl (ws_cons wd_lit (ws_one hx)) (by simp) (by simp) ⟨_, wm_2 (strOk_of _) hx.ok (by decide) hne (wm_last dk R hk hy (hi S)), dk, .refl⟩
  rw [jn_one] at e; exact e
theorem says_lastX (dk : Dk S n t k kv) (hk : k ≤ t.E) {x : Str} (hx : Wd x) (hne : x ≠ "") {y : D} (hb : ∀ S, G_need_thing [y] S = .exc .thing S) (hi : ∀ S, A_thing_in [.str x] S = .ok y S) : Says S n t k kv (("last " : Str) ++ x) "no thing" k kv := by
  have e := says_twoX (e := .thing) (k' := k) (kv' := kv) dk (A := "last ") (B := "last") rfl (ws_cons wd_lit (ws_one hx)) (by simp) (by simp) (by decide) ⟨_, wm_2 (strOk_of _) hx.ok (by decide) hne (wm_lastX dk hk hb (hi S)), dk, .refl⟩
  rw [jn_one] at e; exact e
def c4 : List Str := ["0", "1", "2", "3"]
theorem th_in {x : Str} (hx : PyData.strOk x = true) (S : Sto) : eOp opIn (eVar 0) (eComp [1] (iRange1 (eC c_CELLS)) (dN 1) eYes (eCallB (f1 bStr) (eCons (eVar 1) eNil))) [some (.str x), none] S = .ok (.bl (decide (x ∈ c4))) S := by
  have e1 : eComp [1] (iRange1 (eC c_CELLS)) (dN 1) eYes (eCallB (f1 bStr) (eCons (eVar 1) eNil)) [some (.str x), none] S = .ok (.lst (c4.map D.str)) S := rfl
  refine x_op (x := .str x) (y := .lst (c4.map D.str)) rfl e1 ?_
  have g : (D.lst (c4.map D.str)).good = true := strs_gd fun w hw => by
    simp only [c4, List.mem_cons, List.not_mem_nil, or_false] at hw
    rcases hw with rfl | rfl | rfl | rfl <;> exact strOk_of _
  show (if (D.str x).good && (D.lst (c4.map D.str)).good then some (D.bl (memD (.str x) (c4.map D.str))) else _) = _
  rw [so_gd hx, g, memD_str]; rfl
theorem thing_name {x : Str} (hx : PyData.strOk x = true) (h : x ∉ c4) (S : Sto) : A_thing_in [.str x] S = .ok (.str x) S := spec_ok fun S => by
  show F_thing_in _ _ = _
  unfold F_thing_in
  rw [fnB1]
  simp only [Nat.reduceSub, List.reduceReplicate, List.cons_append, List.nil_append]
  exact f_ret (S1 := S) (x_ite (b := decide (x ∈ c4)) (th_in hx S) (fun z => absurd (of_decide_eq_true z) h) (fun _ => rfl)) rfl
theorem nS_c4 : ∀ j : Fin 4, nS ((j : Nat) : Int) ∈ c4 := by decide
theorem bIntS_n {S : Sto} {j : Nat} (hj : j < 100000) : bIntS S (.str (nS j)) = some (.int j) := by
  have etl : tl (nS (j : Int)) = numL j := tl_nS (k := (j : Int)) (by omega)
  have hlen : (nS (j : Int)).length = (numL j).length := by rw [len_tl, etl]
  have hl5 : (numL j).length ≤ 5 := numL_len (by decide) (by omega)
  show (if (nS (j : Int)).length ≤ 640 then (match intText? (nS (j : Int)) with | some n => some (D.int n) | none => none) else none) = _
  rw [if_pos (by rw [hlen]; omega), show intText? (nS (j : Int)) = some (j : Int) from int_num (by omega)]
theorem thing_num (j : Fin 4) (S : Sto) : A_thing_in [.str (nS ((j : Nat) : Int))] S = .ok (.int ((j : Nat) : Int)) S := spec_ok fun S => by
  show F_thing_in _ _ = _
  unfold F_thing_in
  rw [fnB1]
  simp only [Nat.reduceSub, List.reduceReplicate, List.cons_append, List.nil_append]
  exact f_ret (S1 := S) (x_ite (b := decide (nS ((j : Nat) : Int) ∈ c4)) (th_in so_nS S) (fun _ => x_B1 (x := .str (nS ((j : Nat) : Int))) rfl (bIntS_n (by omega))) (fun z => absurd (nS_c4 j) (of_decide_eq_false z))) rfl
theorem x_say {line r : Str} {fl : Ex} {S1 : Sto} (dk : Dk S n t k kv) (ho : fo ρ S = .ok (.obj n) S) (hl : fl ρ S = .ok (.str line) S) (h : A_Desk_say [.obj n, .str line] S = .ok (.str r) S1) : eMCall "Desk" "say" A_Desk_say fo (eCons fl eNil) ρ S = .ok (.str r) S1 := d_m1 dk ho rfl hl h
end
end Bt
namespace Bt
open PySem PySem.Spec PyProof.Rows L2 TL
section
variable {S T : Sto} {n : Nat} {t : Tp} {k k' : Nat} {kv kv' : List (Key × D)} {ρ : Env} {fo fa : Ex}
/-- a new desk's things -/
def dkNew (n : Nat) (t : Tp) : Sto := [.inst "Desk" (dkF n), taO t, .dict []]
theorem init_desk (T : Sto) {p : Prg} {as : List Int} {m : Nat} (hp : PrgOk p) (ha : ∀ n ∈ as, Wo n) (hm : m < 10000) :
    A_Desk___init__ [.obj T.length, prgD p, asD as, .int (m : Nat)] (T ++ [AObj.inst "Desk" []]) = .ok .non (T ++ dkNew T.length (tp0 p as 1 m)) := by
  unfold A_Desk___init__
  rw [hide_eq, fnB4]
  simp only [Nat.reduceSub, List.reduceReplicate, List.cons_append, List.nil_append]
  have e1 : eTMake (eCons (eVar 1) (eCons (eVar 2) (eCons (eC (.int 4)) (eCons (eVar 3) eNil)))) [some (.obj T.length), some (prgD p), some (asD as), some (.int (m : Nat))] (T ++ [AObj.inst "Desk" []]) = .ok (.obj (T.length + 1)) ((T ++ [AObj.inst "Desk" []]) ++ [taO (tp0 p as 1 m)]) := by
    have := make_t (fa := eCons (eVar 1) (eCons (eVar 2) (eCons (eC (.int 4)) (eCons (eVar 3) eNil)))) (ρ := [some (.obj T.length), some (prgD p), some (asD as), some (.int (m : Nat))]) (T := T ++ [.inst "Desk" []]) (T1 := T ++ [.inst "Desk" []]) (p := p) (as := as) (e := 4) (m := m) rfl hp ha (by decide) hm
    rw [this]; simp
  have i1 : insAt "Desk" ((T ++ [AObj.inst "Desk" []]) ++ [taO (tp0 p as 1 m)]) (.obj T.length) = some (T.length, []) := by
    unfold insAt
    have : ((T ++ [AObj.inst "Desk" []]) ++ [taO (tp0 p as 1 m)])[T.length]? = some (.inst "Desk" []) := by
      rw [List.append_assoc, List.getElem?_append_right (Nat.le_refl _), Nat.sub_self]; rfl
    simp only [this, if_true]
  have s1 : sFldS "Desk" "tape" (eVar 0) (eTMake (eCons (eVar 1) (eCons (eVar 2) (eCons (eC (.int 4)) (eCons (eVar 3) eNil))))) [some (.obj T.length), some (prgD p), some (asD as), some (.int (m : Nat))] (T ++ [AObj.inst "Desk" []]) = .nx [some (.obj T.length), some (prgD p), some (asD as), some (.int (m : Nat))] (T ++ [AObj.inst "Desk" [("tape", .d (.obj (T.length + 1)))], taO (tp0 p as 1 m)]) := by
    rw [s_fldS, e1]
    show (match insAt "Desk" ((T ++ [AObj.inst "Desk" []]) ++ [taO (tp0 p as 1 m)]) (.obj T.length) with
      | some (n, fs) => if fs.length < 1000 then SR.nx _ (((T ++ [AObj.inst "Desk" []]) ++ [taO (tp0 p as 1 m)]).set n (AObj.inst "Desk" (setF "tape" (.d (.obj (T.length + 1))) fs))) else .bad
      | none => .bad) = _
    rw [i1]
    show SR.nx _ (((T ++ [AObj.inst "Desk" []]) ++ [taO (tp0 p as 1 m)]).set T.length (AObj.inst "Desk" [("tape", .d (.obj (T.length + 1)))])) = _
    rw [List.append_assoc, List.set_append_right _ _ (Nat.le_refl _), Nat.sub_self]
    rfl
  have l2 : (T ++ [AObj.inst "Desk" [("tape", .d (.obj (T.length + 1)))], taO (tp0 p as 1 m)]).length = T.length + 2 := by simp
  have i2 : insAt "Desk" ((T ++ [AObj.inst "Desk" [("tape", .d (.obj (T.length + 1)))], taO (tp0 p as 1 m)]) ++ [AObj.dict []]) (.obj T.length) = some (T.length, [(("tape" : Str), FV.d (.obj (T.length + 1)))]) := by
    unfold insAt
    have : ((T ++ [AObj.inst "Desk" [("tape", .d (.obj (T.length + 1)))], taO (tp0 p as 1 m)]) ++ [AObj.dict []])[T.length]? = some (.inst "Desk" [("tape", .d (.obj (T.length + 1)))]) := by
      rw [List.append_assoc, List.getElem?_append_right (Nat.le_refl _), Nat.sub_self]; rfl
    simp only [this, if_true]
  show (SR.seq (sFldS "Desk" "tape" (eVar 0) (eTMake (eCons (eVar 1) (eCons (eVar 2) (eCons (eC (.int 4)) (eCons (eVar 3) eNil))))) [some (.obj T.length), some (prgD p), some (asD as), some (.int (m : Nat))] (T ++ [AObj.inst "Desk" []])) _).toE = _
  rw [s1]
  show (sFldS "Desk" "kept" (eVar 0) eLDNew [some (.obj T.length), some (prgD p), some (asD as), some (.int (m : Nat))] (T ++ [AObj.inst "Desk" [("tape", .d (.obj (T.length + 1)))], taO (tp0 p as 1 m)])).toE = _
  rw [s_fldS]
  show (match insAt "Desk" ((T ++ [AObj.inst "Desk" [("tape", .d (.obj (T.length + 1)))], taO (tp0 p as 1 m)]) ++ [AObj.dict []]) (.obj T.length) with
    | some (n, fs) => if fs.length < 1000 then SR.nx _ (((T ++ [AObj.inst "Desk" [("tape", .d (.obj (T.length + 1)))], taO (tp0 p as 1 m)]) ++ [AObj.dict []]).set n (AObj.inst "Desk" (setF "kept" (.d (.obj (T ++ [AObj.inst "Desk" [("tape", .d (.obj (T.length + 1)))], taO (tp0 p as 1 m)]).length)) fs))) else .bad
    | none => .bad).toE = _
  rw [i2, l2]
  show ER.ok .non (((T ++ [AObj.inst "Desk" [("tape", .d (.obj (T.length + 1)))], taO (tp0 p as 1 m)]) ++ [AObj.dict []]).set T.length (AObj.inst "Desk" (dkF T.length))) = _
  rw [List.append_assoc, List.set_append_right _ _ (Nat.le_refl _), Nat.sub_self]
  rfl
theorem make_desk {T : Sto} {ρ : Env} {fp fq fm : Ex} {p : Prg} {as : List Int} {m : Nat} (hp : PrgOk p) (ha : ∀ n ∈ as, Wo n) (hm : m < 10000) (h1 : fp ρ T = .ok (prgD p) T) (h2 : fq ρ T = .ok (asD as) T) (h3 : fm ρ T = .ok (.int (m : Nat)) T) :
    eMake "Desk" A_Desk___init__ (eCons fp (eCons fq (eCons fm eNil))) ρ T = .ok (.obj T.length) (T ++ dkNew T.length (tp0 p as 1 m)) := by
  unfold eMake
  simp only [s_cons, s_nil, h1, h2, h3, ER.bind_ok, init_desk T hp ha hm]
theorem so_where {t : Tp} {k : Nat} : PyData.strOk (whereM t k) = true := so_app (so_app (so_app (strOk_of _) so_nS) (strOk_of _)) so_nS
theorem nS_0 : nS 0 = "0" := rfl
theorem sq_str {a b : Str} (S : Sto) (ha : PyData.strOk a = true) (hb : PyData.strOk b = true) : opEq S (.str a) (.str b) = some (.bl (decide (a = b))) := by
  rw [b_good (so_gd ha) (so_gd hb), eqv_str]
theorem nq_str {a b : Str} (S : Sto) (ha : PyData.strOk a = true) (hb : PyData.strOk b = true) : opNe S (.str a) (.str b) = some (.bl (!decide (a = b))) := opNe_str ha hb
theorem st_name {i : Fin 6} : stM (.name i) = nmS i := by
  unfold stM swM
  exact jn_one _ _
end
end Bt
namespace Bt
open PySem PySem.Spec PyProof.Rows L2 TL
theorem overM_le {t : Tp} {m : Nat} (hm : m ≤ t.E) : overM t m ≤ t.E := by rcases over_spec t m with h | h <;> omega
theorem outM_le {t : Tp} {m : Nat} (hm : m ≤ t.E) : outM t m ≤ t.E := by rcases out_spec t m with h | h <;> omega
theorem boverM_le {t : Tp} {m : Nat} (hm : m ≤ t.E) : boverM t m ≤ t.E := by rcases bover_spec t m with h | h <;> omega
theorem boutM_le {t : Tp} {m : Nat} (hm : m ≤ t.E) : boutM t m ≤ t.E := by rcases bout_spec t m with h | h <;> omega
theorem bls_of {α : Type} (p : α → Bool) : ∀ l : List α, blsOf (l.map fun c => D.bl (p c)) = some (l.map p)
  | [] => rfl
  | a :: l => by
    show (match blsOf (l.map fun c => D.bl (p c)) with | some m => some (p a :: m) | none => none) = _
    rw [bls_of p l]; rfl
theorem number_bad (S : Sto) {x : Str} (hx : Wd x) (hb : 5 < x.length ∨ ∃ c ∈ tl x, c ∉ digs) : F_Words_number [.obj S.length] (WS S [x]) = .exc .text (WS S []) := by
  have hl := hx.len
  have h1 : 1 ≤ x.length := by
    rw [len_tl]
    cases e : tl x with
    | nil => exact absurd e hx.ne
    | cons => simp
  unfold F_Words_number
  rw [fnB1]
  simp only [Nat.reduceSub, List.reduceReplicate, List.cons_append, List.nil_append]
  refine f_set (d := .str x) (S1 := WS S []) (w_m0 rfl rfl (word_law S x [] (ws_one hx))) ?_
  have ch := x_chLL (ρ := [some (D.obj S.length), some (.str x), none]) (S := WS S []) (S1 := WS S []) (i := 1) (j := (x.length : Nat)) (k := 5) (fa := eC (.int 1)) (fb := eCallB (f1 bLen) (eCons (eVar 1) eNil)) (fc := eC (.int 5)) rfl (x_B1 (x := .str x) rfl (by
    show (if x.length ≤ lim then some (D.int x.length) else none) = _
    rw [if_pos (by show _ ≤ 1000000; omega)])) rfl
  by_cases h5 : x.length ≤ 5
  · rw [decide_eq_true (by omega)] at ch
    have hs : ∃ c ∈ tl x, c ∉ digs := hb.resolve_left (by omega)
    have c : eCallB (f1 bAll) (eCons (eComp [2] (iStrE (eVar 1)) (dN 2) eYes (eOp opIn (eVar 2) (eC c_FIGURES))) eNil) [some (D.obj S.length), some (.str x), none] (WS S []) = .ok (.bl false) (WS S []) := by
      refine x_B1 (x := .lst ((tl x).map fun c => .bl (decide (c ∈ digs)))) ?_ ?_
      · refine comp_all (f := fun c : Nat => .str ⟨#[c]⟩) (xs := tl x) (fun c => .bl (decide (c ∈ digs))) ?_ (fun c hc => ⟨[some (D.obj S.length), some (.str x), some (.str ⟨#[c]⟩)], rfl, x_op (x := .str ⟨#[c]⟩) (y := c_FIGURES) rfl rfl in_figs⟩) (by rw [← len_tl]; show _ ≤ 1000000; omega)
        show ER.ok (.tup ((signs x).map D.str)) _ = _
        unfold signs
        rw [List.map_map]; rfl
      · show (match blsOf ((tl x).map fun c => D.bl (decide (c ∈ digs))) with | some bs => some (D.bl (bs.all id)) | none => none) = _
        rw [bls_of]
        show some (D.bl _) = _
        congr 2
        obtain ⟨c, hc, hn⟩ := hs
        rw [List.all_map, List.all_eq_false]
        exact ⟨c, hc, by simp [hn]⟩
    exact f_ifT (bb := true) (S1 := WS S []) (x_or (x := false) (y := true) (x_not (b := true) ch) fun _ => x_not (b := false) c) rfl rfl
  · rw [decide_eq_false (by omega)] at ch
    exact f_ifT (bb := true) (S1 := WS S []) (x_or (x := true) (y := true) (x_not (b := false) ch) fun z => nomatch z) rfl rfl
section
variable {S T : Sto} {n : Nat} {t : Tp} {k k' : Nat} {kv kv' : List (Key × D)} {ρ : Env} {fo fa : Ex}
theorem says_numX (dk : Dk S n t k kv) {A x : Str} {B : String} (hA : tl A = tl (Str.ofString B) ++ [32]) (hB : Wd (Str.ofString B)) (h3 : Str.ofString B ∉ w3) (hl : Str.ofString B ≠ "last") (hm : Str.ofString B ≠ "mark") (hg : Str.ofString B ∈ g3) (hx : Wd x) (hne : x ≠ "")
    (hb : 5 < x.length ∨ ∃ c ∈ tl x, c ∉ digs)
    (hto : (wmR5 (wmE n (Str.ofString B) x) S).toE = .exc .text (WS S []) → (wmR4 (wmE n (Str.ofString B) x) S).toE = .exc .text (WS S [])) : Says S n t k kv (A ++ x) "no line" k kv := by
  have e := says_twoX (k' := k) (kv' := kv) (e := .text) dk hA (ws_cons hB (ws_one hx)) (by simp) (by simp) (by decide) ⟨_, wm_2 hB.ok hx.ok h3 hne (wm_3 hB.ok hl (wm_4 hB.ok hm (hto (wm_6 hB.ok hg (wm_noNum hx (number_bad S hx hb)))))), dk.ws, Ex3.ws⟩
  rw [jn_one] at e; exact e
theorem says_goX (dk : Dk S n t k kv) {x : Str} (hx : Wd x) (hne : x ≠ "") (hb : 5 < x.length ∨ ∃ c ∈ tl x, c ∉ digs) : Says S n t k kv (("go " : Str) ++ x) "no line" k kv :=
  says_numX dk (B := "go") rfl wd_lit (by decide) (by decide) (by decide) (by decide) hx hne hb (fun h => wm_5 (strOk_of _) (by decide) h)
theorem MkB.m (v : D) : MkB [(.inr "m", v)] := .inr ⟨v, rfl⟩
end
end Bt
namespace Bt
open PySem PySem.Spec PyProof.Rows L2 TL
section
variable {S : Sto} {t : Tp} {k k' : Nat} {kv kv' : List (Key × D)} {ρ : Env} {fa fb : Ex} {S1 S2 : Sto} {c : Bool}
theorem z_and (ha : fa ρ S = .ok (.bl true) S1) (hb : fb ρ S1 = .ok (.bl c) S2) : eAnd fa fb ρ S = .ok (.bl c) S2 := by
  rw [t_and, ha]
  simp only [ER.bind_ok, andK_t, hb]
theorem z_or (ha : fa ρ S = .ok (.bl false) S1) (hb : fb ρ S1 = .ok (.bl c) S2) : eOr fa fb ρ S = .ok (.bl c) S2 := by
  rw [t_or, ha]
  simp only [ER.bind_ok, orK_f, hb]
end
theorem drawn_nat9 {k many : Int} {ns : List Int} (h : 0 < many) : ∃ m : Nat, drawnM ns k many = (m : Int) ∧ (m : Int) < many := by
  have r := drawn_rng (ns := ns) (k := k) h
  exact ⟨(drawnM ns k many).toNat, (Int.toNat_of_nonneg r.1).symm, by rw [Int.toNat_of_nonneg r.1]; exact r.2⟩
noncomputable def B91 : Sx := (sSeq (sSet 9 (eLst (eCons (eC (.str "go 2")) (eCons (eC (.str "back 3")) (eCons (eC (.str "over")) (eCons (eC (.str "out")) (eCons (eC (.str "backover")) (eCons (eC (.str "backout")) (eCons (eC (.str "to 1")) (eCons (eC (.str "go 0")) eNil))))))))))
    (sSeq (sSet 10 (eOp opIx (eVar 9) (eCall A_l_drawn (eCons (eVar 0) (eCons (eOp opAdd (eC (.int 500)) (eOp opMul (eC (.int 3)) (eVar 8))) (eCons (eC (.int 8)) eNil))))))
    (sSeq (sExpr (eMCall "Desk" "say" A_Desk_say (eVar 4) (eCons (eOp opIx (eVar 7) (eCall A_l_drawn (eCons (eVar 0) (eCons (eOp opAdd (eC (.int 501)) (eOp opMul (eC (.int 3)) (eVar 8))) (eCons (eC (.int 7)) eNil))))) eNil)))
    (sSeq
    (sIf (eOr (eOp opNe (eMCall "Desk" "say" A_Desk_say (eVar 4) (eCons (eVar 10) eNil)) (eMCall "Desk" "say" A_Desk_say (eVar 5) (eCons (eVar 10) eNil))) (eOp opNe (eMCall "Desk" "say" A_Desk_say (eVar 4) (eCons (eC (.str "where")) eNil)) (eMCall "Desk" "say" A_Desk_say (eVar 5) (eCons (eC (.str "where")) eNil)))) (sRet (eC (.bl false))) sSkip)
    (sSeq (sSet 11 (eMCall "Desk" "say" A_Desk_say (eVar 4) (eCons (eC (.str "where")) eNil)))
    (sIf (eOr (eOp opNe (eMCall "Desk" "say" A_Desk_say (eVar 4) (eCons (eC (.str "mark m")) eNil)) (eC (.str "marked"))) (eOr (eOp opNe (eMCall "Desk" "say" A_Desk_say (eVar 4) (eCons (eC (.str "to 0")) eNil)) (eC (.str "at 0 row 0"))) (eOp opNe (eMCall "Desk" "say" A_Desk_say (eVar 4) (eCons (eC (.str "to m")) eNil)) (eVar 11)))) (sRet (eC (.bl false))) sSkip))))))
noncomputable def B91b : Sx := (sSeq (sSet 13 (eOp opAdd (eOp opAdd (eOp opAdd (eC (.str "at ")) (eCallB (f1 bStr) (eCons (eVar 12) eNil))) (eC (.str " row "))) (eCallB (f1 bStr) (eCons (eOp opIx (eT A_Tape_at (eVar 6) (eCons (eVar 12) eNil)) (eC (.int 0))) eNil))))
    (sSeq
    (sIf (eOp opNe (eMCall "Desk" "say" A_Desk_say (eVar 4) (eCons (eOp opAdd (eC (.str "to ")) (eCallB (f1 bStr) (eCons (eVar 12) eNil))) eNil)) (eVar 13)) (sRet (eC (.bl false))) sSkip)
    (sIf (eOr (eOp opNe (eMCall "Desk" "say" A_Desk_say (eVar 4) (eCons (eOp opAdd (eC (.str "back ")) (eCallB (f1 bStr) (eCons (eVar 12) eNil))) eNil)) (eC (.str "at 0 row 0"))) (eOp opNe (eMCall "Desk" "say" A_Desk_say (eVar 4) (eCons (eC (.str "worth a")) eNil)) (eC (.str "0")))) (sRet (eC (.bl false))) sSkip)))
noncomputable def C91 : Sx := (sSeq
    (sIf (eOp opNe (eMCall "Desk" "say" A_Desk_say (eVar 4) (eCons (eC (.str "end")) eNil)) (eCallB (f1 bStr) (eCons (eT A_Tape_end (eVar 6) eNil) eNil))) (sRet (eC (.bl false))) sSkip)
    (sSeq
    (sFor (iRange1 (eOp opAdd (eT A_Tape_end (eVar 6) eNil) (eC (.int 1)))) (dN 12)
    (sSeq (sSet 13 (eOp opAdd (eOp opAdd (eOp opAdd (eC (.str "at ")) (eCallB (f1 bStr) (eCons (eVar 12) eNil))) (eC (.str " row "))) (eCallB (f1 bStr) (eCons (eOp opIx (eT A_Tape_at (eVar 6) (eCons (eVar 12) eNil)) (eC (.int 0))) eNil))))
    (sSeq
    (sIf (eOp opNe (eMCall "Desk" "say" A_Desk_say (eVar 4) (eCons (eOp opAdd (eC (.str "to ")) (eCallB (f1 bStr) (eCons (eVar 12) eNil))) eNil)) (eVar 13)) (sRet (eC (.bl false))) sSkip)
    (sIf (eOr (eOp opNe (eMCall "Desk" "say" A_Desk_say (eVar 4) (eCons (eOp opAdd (eC (.str "back ")) (eCallB (f1 bStr) (eCons (eVar 12) eNil))) eNil)) (eC (.str "at 0 row 0"))) (eOp opNe (eMCall "Desk" "say" A_Desk_say (eVar 4) (eCons (eC (.str "worth a")) eNil)) (eC (.str "0")))) (sRet (eC (.bl false))) sSkip)))) (sRet (eAnd (eOp opEq (eMCall "Desk" "say" A_Desk_say (eVar 4) (eCons (eOp opAdd (eC (.str "to ")) (eCallB (f1 bStr) (eCons (eOp opAdd (eT A_Tape_end (eVar 6) eNil) (eC (.int 1))) eNil))) eNil)) (eC (.str "no moment"))) (eOp opEq (eMCall "Desk" "say" A_Desk_say (eVar 4) (eCons (eC (.str "where")) eNil)) (eC (.str "at 0 row 0")))))))
theorem no_name_x (S : Sto) : G_is_name [.str "x"] S = .ok (.bl false) S := by
  unfold G_is_name F_is_name
  rw [fnB1]
  simp
  rfl
/-- one of a list of texts, by a drawn number -/
theorem x_pick {ns : List Int} (hn : ns.length ≤ 63) {l : List Str} {many k : Int} (hl : (l.length : Int) = many) (h0 : 0 < many) {fe fk : Ex} {ρ : Env} {S : Sto} (he : fe ρ S = .ok (.lst (l.map D.str)) S) (hs : eVar 0 ρ S = .ok (scrD ns) S) (hk : fk ρ S = .ok (.int k) S) :
    ∃ w ∈ l, eOp opIx fe (eCall A_l_drawn (eCons (eVar 0) (eCons fk (eCons (eC (.int many)) eNil)))) ρ S = .ok (.str w) S := by
  have r := drawn_rng (ns := ns) (k := k) h0
  obtain ⟨i, hi⟩ := Int.eq_ofNat_of_zero_le r.1
  have hlt : i < l.length := by omega
  refine ⟨l[i], List.getElem_mem hlt, x_op (x := .lst (l.map D.str)) (y := .int (i : Nat)) he (x_c3 (x := scrD ns) (y := .int k) (z := .int many) hs hk rfl (by rw [a_l_drawn hn h0, hi])) ?_⟩
  rw [o_ixL, atI_nat', List.getElem?_map, List.getElem?_eq_getElem hlt]; rfl
section
variable {ns : List Int} {t : Tp} {a : Sm} {S : Sto} {k : Nat} {kv : List (Key × D)}
noncomputable def asksM (a : Sm) : List Str := ["worth a", ("why " : Str) ++ stM a, "last 2", "last x", "end", "go x", "to 9999"]
def wordsM : List Str := ["go 2", "back 3", "over", "out", "backover", "backout", "to 1", "go 0"]
theorem worth_a : ("worth " : Str) ++ stM (.name 0) = ("worth a" : Str) := by rw [st_name]; rfl
theorem ask91 (R : RunOk t) (hE : t.E ≤ 500) (hk : k ≤ t.E) (ha : a.ok) (hd : a.dep ≤ 3) (dk : Dk S 0 t k kv) (mk : MkB kv) : ∀ w ∈ asksM a, ∃ r, Says S 0 t k kv w r k kv := by
  intro w hw
  simp only [asksM, List.mem_cons, List.not_mem_nil, or_false] at hw
  rcases hw with rfl | rfl | rfl | rfl | rfl | rfl | rfl
  · have := says_worth dk R hk (a := .name 0) trivial (Nat.zero_le _)
    rw [worth_a] at this
    exact ⟨_, this⟩
  · exact ⟨_, says_why dk R hE hk ha hd⟩
  · exact ⟨_, says_last dk R hk (x := nS 2) (wd_n (by decide)) (by decide) (y := .cl 2) (show 2 < 4 by decide) (thing_num 2)⟩
  · exact ⟨_, says_lastX dk hk (x := "x") wd_lit (by decide) (bad_str no_name_x) (thing_name (strOk_of _) (by decide))⟩
  · exact ⟨_, says_end dk R⟩
  · exact ⟨_, says_goX dk (x := "x") wd_lit (by decide) (.inr ⟨120, by decide, by decide⟩)⟩
  · exact ⟨_, says_toX dk (j := 9999) (by decide) (by omega) (mk.num 9999)⟩
theorem word91 (R : RunOk t) (hk : k ≤ t.E) : ∀ w ∈ wordsM, ∃ r k', k' ≤ t.E ∧ PyData.strOk r = true ∧ ∀ S n kv, MkB kv → Dk S n t k kv → Says S n t k kv w r k' kv := by
  intro w hw
  simp only [wordsM, List.mem_cons, List.not_mem_nil, or_false] at hw
  rcases hw with rfl | rfl | rfl | rfl | rfl | rfl | rfl | rfl
  · exact ⟨_, min (k + 2) t.E, by omega, so_where, fun S n kv mk dk => says_go dk R (j := 2) (by decide)⟩
  · exact ⟨_, k - 3, by omega, so_where, fun S n kv mk dk => says_back dk R hk (j := 3) (by decide)⟩
  · exact ⟨_, overM t k, overM_le hk, so_where, fun S n kv mk dk => says_over dk R hk (overM_le hk)⟩
  · exact ⟨_, outM t k, outM_le hk, so_where, fun S n kv mk dk => says_out dk R hk (outM_le hk)⟩
  · exact ⟨_, boverM t k, boverM_le hk, so_where, fun S n kv mk dk => says_bover dk R hk (boverM_le hk)⟩
  · exact ⟨_, boutM t k, boutM_le hk, so_where, fun S n kv mk dk => says_bout dk R hk (boutM_le hk)⟩
  · by_cases h : 1 ≤ t.E
    · exact ⟨_, 1, h, so_where, fun S n kv mk dk => says_to dk R (j := 1) h (mk.num 1)⟩
    · exact ⟨"no moment", k, hk, strOk_of _, fun S n kv mk dk => says_toX dk (j := 1) (by decide) (by omega) (mk.num 1)⟩
  · exact ⟨_, min (k + 0) t.E, by omega, so_where, fun S n kv mk dk => says_go dk R (j := 0) (by decide)⟩
theorem where_0 : whereM t 0 = "at 0 row 0" := by
  have h : (t.st 0).row = 0 := rfl
  unfold whereM
  rw [h]
  decide
structure W91 (S : Sto) (t : Tp) (k : Nat) (kv : List (Key × D)) : Prop where
  d : Dk S 0 t k kv
  o : Dk S 3 t k []
  tp : S[6]? = some (taO (tH t 0))
  mkd : MkB kv
noncomputable def V91 (ns : List Int) (t : Tp) (a : Sm) (K : Nat) (l : List (Option D)) : Env := [some (scrD ns), some (prgD t.p), some (asD t.as), some (.int (K : Nat)), some (.obj 0), some (.obj 3), some (.obj 6), some (.lst ((asksM a).map D.str))] ++ l
theorem at6 {S S' : Sto} {n : Nat} {o : AObj} (h : S[6]? = some o) (x : Ex3 n S S') (hn : n + 1 ≠ 6 := by decide) (hn2 : n + 2 ≠ 6 := by decide) : S'[6]? = some o :=
  (x.at_ 6 (List.getElem?_eq_some_iff.mp h).1 (by omega) (by omega)).trans h
theorem it91 (hn : ns.length ≤ 63) (R : RunOk t) (hE : t.E ≤ 500) (ha : a.ok) (hd : a.dep ≤ 3) {K j : Nat} (hk : k ≤ t.E) (w : W91 S t k kv) {o9 o10 o11 o12 o13 : Option D} :
    ∃ S' k' kv' o9' o10' o11', k' ≤ t.E ∧ W91 S' t k' kv' ∧ B91 (V91 ns t a K [some (.int (j : Nat)), o9, o10, o11, o12, o13]) S = .nx (V91 ns t a K [some (.int (j : Nat)), o9', o10', o11', o12, o13]) S' := by
  obtain ⟨d, o, tp, mk⟩ := w
  have e5 : ∀ {c : Int} {ρ : Env} {S : Sto}, eVar 8 ρ S = .ok (.int (j : Nat)) S → eOp opAdd (eC (.int c)) (eOp opMul (eC (.int 3)) (eVar 8)) ρ S = .ok (.int (c + 3 * (j : Nat))) S := fun hv => x_op rfl (x_op rfl hv (by rw [o_mul, if_pos (.inl (by decide))])) rfl
  have h9 : eLst (eCons (eC (.str "go 2")) (eCons (eC (.str "back 3")) (eCons (eC (.str "over")) (eCons (eC (.str "out")) (eCons (eC (.str "backover")) (eCons (eC (.str "backout")) (eCons (eC (.str "to 1")) (eCons (eC (.str "go 0")) eNil)))))))) (V91 ns t a K [some (.int (j : Nat)), o9, o10, o11, o12, o13]) S = .ok (.lst (wordsM.map D.str)) S := rfl
  obtain ⟨wd, hwd, ew⟩ := x_pick (ns := ns) hn (l := wordsM) (many := 8) (k := 500 + 3 * (j : Nat)) rfl (by decide) (fe := eVar 9) (fk := eOp opAdd (eC (.int 500)) (eOp opMul (eC (.int 3)) (eVar 8))) (ρ := V91 ns t a K [some (.int (j : Nat)), some (.lst (wordsM.map D.str)), o10, o11, o12, o13]) (S := S) rfl rfl (e5 rfl)
  obtain ⟨ak, hak, ea⟩ := x_pick (ns := ns) hn (l := asksM a) (many := 7) (k := 501 + 3 * (j : Nat)) rfl (by decide) (fe := eVar 7) (fk := eOp opAdd (eC (.int 501)) (eOp opMul (eC (.int 3)) (eVar 8))) (ρ := V91 ns t a K [some (.int (j : Nat)), some (.lst (wordsM.map D.str)), some (.str wd), o11, o12, o13]) (S := S) rfl rfl (e5 rfl)
  obtain ⟨r1, S1, e1, d1, x1⟩ := ask91 R hE hk ha hd d mk ak hak
  have o1 := o.ex x1 (.inr (by decide))
  have tp1 := at6 tp x1
  obtain ⟨r, k', hk', hr, mv⟩ := word91 R hk wd hwd
  obtain ⟨S2, e2, d2, x2⟩ := mv S1 0 kv mk d1
  have o2 := o1.ex x2 (.inr (by decide))
  have tp2 := at6 tp1 x2
  obtain ⟨S3, e3, o3, x3⟩ := mv S2 3 [] (.inl rfl) o2
  have d3 := d2.ex x3 (.inl (by decide))
  have tp3 := at6 tp2 x3
  obtain ⟨S4, e4, d4, x4⟩ := says_where d3 R hk'
  have o4 := o3.ex x4 (.inr (by decide))
  have tp4 := at6 tp3 x4
  obtain ⟨S5, e5', o5, x5⟩ := says_where o4 R hk'
  have d5 := d4.ex x5 (.inl (by decide))
  have tp5 := at6 tp4 x5
  obtain ⟨S6, e6, d6, x6⟩ := says_where d5 R hk'
  have o6 := o5.ex x6 (.inr (by decide))
  have tp6 := at6 tp5 x6
  obtain ⟨S7, e7, d7, x7⟩ := says_mark d6 (x := "m") wd_lit (by decide) (fun S => spec_ok fun S => rfl) mk.len
  rw [mk.put] at d7
  have o7 := o6.ex x7 (.inr (by decide))
  have tp7 := at6 tp6 x7
  have mk7 : MkB [((.inr "m" : Key), D.int (k' : Nat))] := MkB.m _
  obtain ⟨S8, e8, d8, x8⟩ := says_to d7 R (j := 0) (Nat.zero_le _) (mk7.num 0)
  have o8 := o7.ex x8 (.inr (by decide))
  have tp8 := at6 tp7 x8
  obtain ⟨S9, e9, d9, x9⟩ := says_tom d8 R (x := "m") wd_lit (by decide) (m := k') rfl hk'
  have o9' := o8.ex x9 (.inr (by decide))
  have tp9 := at6 tp8 x9
  refine ⟨S9, k', _, some (.lst (wordsM.map D.str)), some (.str wd), some (.str (whereM t k')), hk', ⟨d9, o9', tp9, mk7⟩, ?_⟩
  unfold B91
  refine e_set h9 ?_
  refine e_set ew ?_
  refine e_expr (x_say d rfl ea e1) ?_
  refine e_if (bb := false) (S1 := S5) (z_or (S1 := S3) (x_op (x := .str r) (y := .str r) (x_say d1 rfl rfl e2) (x_say o2 rfl rfl e3) (by rw [nq_str _ hr hr]; simp)) (x_op (x := .str (whereM t k')) (y := .str (whereM t k')) (x_say d3 rfl rfl e4) (x_say o4 rfl rfl e5') (by rw [nq_str _ so_where so_where]; simp))) rfl ?_
  refine e_set (x_say d5 rfl rfl e6) ?_
  refine e_if1 (bb := false) (S1 := S9) (z_or (S1 := S7) (x_op (x := .str "marked") (y := .str "marked") (x_say (line := "mark m") d6 rfl rfl e7) rfl (by rw [nq_str _ (strOk_of _) (strOk_of _)]; rfl)) (z_or (S1 := S8) (x_op (x := .str (whereM t 0)) (y := .str "at 0 row 0") (x_say (line := "to 0") d7 rfl rfl e8) rfl (by rw [where_0, nq_str _ (strOk_of _) (strOk_of _)]; rfl)) (x_op (x := .str (whereM t k')) (y := .str (whereM t k')) (x_say (line := "to m") d8 rfl rfl e9) rfl (by rw [nq_str _ so_where so_where]; simp)))) rfl rfl
end
end Bt
namespace Bt
open PySem PySem.Spec PyProof.Rows L2 TL
section
variable {ns : List Int} {t : Tp} {a : Sm} {S : Sto} {k : Nat} {kv : List (Key × D)}
structure X91 (S : Sto) (t : Tp) (k : Nat) (kv : List (Key × D)) : Prop where
  d : Dk S 0 t k kv
  tp : S[6]? = some (taO (tH t 0))
  mkd : MkB kv
theorem it91b (R : RunOk t) {K j : Nat} (hj : j ≤ t.E) (w : X91 S t k kv) {o8 o9 o10 o11 o13 : Option D} :
    ∃ S' o13', X91 S' t 0 kv ∧ B91b (V91 ns t a K [o8, o9, o10, o11, some (.int (j : Nat)), o13]) S = .nx (V91 ns t a K [o8, o9, o10, o11, some (.int (j : Nat)), o13']) S' := by
  obtain ⟨d, tp, mk⟩ := w
  have hN := R.N
  have hr := row_le R hj
  have ln := len_nS (k := j) (by omega)
  have l2 := len_nS (k := (t.st j).row) (by omega)
  have la : (Str.ofString "at ").length = 3 := rfl
  have lb : (Str.ofString " row ").length = 5 := rfl
  obtain ⟨S1, e1, d1, x1⟩ := says_to d R (j := j) hj (mk.num j)
  have tp1 := at6 tp x1
  obtain ⟨S2, e2, d2, x2⟩ := says_back d1 R hj (j := j) (by omega)
  have tp2 := at6 tp1 x2
  rw [Nat.sub_self] at e2 d2
  obtain ⟨S3, e3, d3, x3⟩ := says_worth d2 R (Nat.zero_le _) (a := .name 0) trivial (Nat.zero_le _)
  have tp3 := at6 tp2 x3
  rw [worth_a, show smM t (.name 0) 0 = 0 from wt_0 (x := .nm 0) trivial, nS_0] at e3
  refine ⟨S3, some (.str (whereM t j)), ⟨d3, tp3, mk⟩, ?_⟩
  have bk : ∀ {ρ : Env} {A : String} {T : Sto}, eVar 12 ρ T = .ok (.int (j : Nat)) T → (Str.ofString A).length ≤ 100 → eOp opAdd (eC (.str (Str.ofString A))) (eCallB (f1 bStr) (eCons (eVar 12) eNil)) ρ T = .ok (.str (Str.ofString A ++ nS j)) T := fun h hl => x_op rfl (x_B1 h (bStr_i (by omega))) (add_s (by omega))
  unfold B91b
  refine e_set (d := .str (whereM t j)) (S1 := S) (x_op (x := .str ((("at " : Str) ++ nS j) ++ (" row " : Str))) (y := .str (nS ((t.st j).row : Nat))) (S1 := S) (S2 := S) (x_op (x := .str (("at " : Str) ++ nS j)) (y := .str (" row " : Str)) (bk rfl (by decide)) rfl (add_s (by rw [len_app]; omega)))
    (x_B1 (x := .int ((t.st j).row : Nat)) (x_op (x := (t.st j).d) (y := .int 0) (x_eT1 (t := tH t 0) (y := .int (j : Nat)) rfl tp rfl (a_at (t := tH t 0) tp hj)) rfl rfl) (bStr_i (by omega))) (add_s (by rw [len_app, len_app]; omega))) ?_
  refine e_if (bb := false) (S1 := S1) (x_op (x := .str (whereM t j)) (y := .str (whereM t j)) (x_say d rfl (bk (A := "to ") rfl (by decide)) e1) rfl (by rw [nq_str _ so_where so_where]; simp)) rfl ?_
  exact e_if1 (bb := false) (S1 := S3) (z_or (S1 := S2) (x_op (x := .str (whereM t 0)) (y := .str "at 0 row 0") (x_say d1 rfl (bk (A := "back ") rfl (by decide)) e2) rfl (by rw [where_0, nq_str _ (strOk_of _) (strOk_of _)]; rfl)) (x_op (x := .str "0") (y := .str "0") (x_say (line := "worth a") d2 rfl rfl e3) rfl (by rw [nq_str _ (strOk_of _) (strOk_of _)]; rfl))) rfl rfl
theorem c91 (R : RunOk t) {K : Nat} (hk : k ≤ t.E) (w : X91 S t k kv) {o8 o9 o10 o11 : Option D} : Good (C91 (V91 ns t a K [o8, o9, o10, o11, none, none]) S) := by
  have hN := R.N
  obtain ⟨S1, e1, d1, x1⟩ := says_end w.d R
  have tp1 := at6 w.tp x1
  unfold C91
  refine g_if (bb := false) (S1 := S1) (x_op (x := .str (nS t.E)) (y := .str (nS t.E)) (x_say (line := "end") w.d rfl rfl e1) (x_B1 (x := .int (t.E : Nat)) (x_eT0 (t := tH t 0) rfl tp1 (a_end (t := tH t 0) tp1)) (bStr_i (by omega))) (by rw [nq_str _ so_nS so_nS]; simp)) rfl ?_
  refine g_for (b := B91b) (f := fun (k : Nat) => D.int k) (xs := List.range (t.E + 1)) (S1 := S1) (fun j ρ S => ∃ k' o12 o13, (j = 0 ∨ k' = 0) ∧ X91 S t k' kv ∧ ρ = V91 ns t a K [o8, o9, o10, o11, o12, o13])
    (rg1 (n := t.E + 1) (x_op (x := .int (t.E : Nat)) (y := .int 1) (x_eT0 (t := tH t 0) rfl tp1 (a_end (t := tH t 0) tp1)) rfl rfl) (by omega)) ⟨k, none, none, .inl rfl, ⟨d1, tp1, w.mkd⟩, rfl⟩ ?_ ?_
  · rintro j x hx ρ S2 ⟨k', o12, o13, _, w2, rfl⟩
    obtain ⟨rfl, hx2⟩ := rg_get hx
    refine ⟨V91 ns t a K [o8, o9, o10, o11, some (.int (x : Nat)), o13], rfl, ?_⟩
    obtain ⟨S3, o13', w3, e⟩ := it91b (ns := ns) (a := a) (K := K) (o8 := o8) (o9 := o9) (o10 := o10) (o11 := o11) (o13 := o13) R (j := x) (by omega) w2
    exact ⟨_, _, .inl e, 0, some (.int (x : Nat)), o13', .inr rfl, w3, rfl⟩
  · rintro ρ S2 ⟨k', o12, o13, hk', w2, rfl⟩
    have hk0 : k' = 0 := by rw [List.length_range] at hk'; omega
    subst hk0
    obtain ⟨S3, e3, d3, x3⟩ := says_toX w2.d (j := t.E + 1) (by omega) (by omega) (w2.mkd.num _)
    obtain ⟨S4, e4, d4, x4⟩ := says_where d3 R (Nat.zero_le _)
    have ln := len_nS (k := t.E + 1) (by omega)
    have l0 : (Str.ofString "to ").length = 3 := rfl
    refine g_ret (d := .bl true) (S1 := S4) (z_and (S1 := S3) (x_op (x := .str "no moment") (y := .str "no moment") (x_say w2.d rfl (x_op (x := .str "to ") (y := .str (nS ((t.E + 1 : Nat) : Int))) rfl (x_B1 (x := .int ((t.E + 1 : Nat) : Int)) (x_op (x := .int (t.E : Nat)) (y := .int 1) (x_eT0 (t := tH t 0) rfl w2.tp (a_end (t := tH t 0) w2.tp)) rfl rfl) (bStr_i (by omega))) (add_s (by omega))) e3) rfl (by rw [sq_str _ (strOk_of _) (strOk_of _)]; rfl))
      (x_op (x := .str (whereM t 0)) (y := .str "at 0 row 0") (x_say (line := "where") d3 rfl rfl e4) rfl (by rw [where_0, sq_str _ (strOk_of _) (strOk_of _)]; rfl))) ⟨S4, rfl⟩
end
theorem x_lst7 {ρ : Env} {S : Sto} {f1 f2 f3 f4 f5 f6 f7 : Ex} {d1 d2 d3 d4 d5 d6 d7 : D} (h1 : f1 ρ S = .ok d1 S) (h2 : f2 ρ S = .ok d2 S) (h3 : f3 ρ S = .ok d3 S) (h4 : f4 ρ S = .ok d4 S) (h5 : f5 ρ S = .ok d5 S) (h6 : f6 ρ S = .ok d6 S) (h7 : f7 ρ S = .ok d7 S) :
    eLst (eCons f1 (eCons f2 (eCons f3 (eCons f4 (eCons f5 (eCons f6 (eCons f7 eNil))))))) ρ S = .ok (.lst [d1, d2, d3, d4, d5, d6, d7]) S := by
  rw [s_lst]
  simp only [s_cons, s_nil, ER.bind_ok, h1, h2, h3, h4, h5, h6, h7]
  rfl
theorem law_true : ∀ ns : List Int, ns.length ≤ 63 → ∃ S, F_law [.scr (ns.map D.int)] [] = .ok (.bl true) S := law_of sim_law fun ns hn => by
  unfold A_law
  refine law_good ?_
  simp only [Nat.reduceSub, List.reduceReplicate, List.cons_append, List.nil_append]
  obtain ⟨hp, _⟩ := prgM_ok ns 20
  obtain ⟨hasO, hasl⟩ := asM_ok ns 450
  obtain ⟨K, hK, hK17⟩ := drawn_nat9 (ns := ns) (k := 440) (many := 17) (by decide)
  refine g_set (d := prgD (prgM ns 20)) (S1 := []) (x_c2 (x := scrD ns) (y := .int 20) rfl rfl (a_l_program hn)) ?_
  refine g_set (d := asD (asM ns 450)) (S1 := []) (x_c2 (x := scrD ns) (y := .int 450) rfl rfl (a_l_asked hn)) ?_
  refine g_set (d := .int (K : Nat)) (S1 := []) (x_c3 (x := scrD ns) (y := .int 440) (z := .int 17) rfl rfl rfl (by rw [a_l_drawn hn (by decide), hK])) ?_
  obtain ⟨R, hE⟩ := runOk_tp0 (m := K) hp hasO (by omega)
  have mk : ∀ {ρ : Env} {T : Sto}, eVar 1 ρ T = .ok (prgD (prgM ns 20)) T → eVar 2 ρ T = .ok (asD (asM ns 450)) T → eVar 3 ρ T = .ok (.int (K : Nat)) T → eMake "Desk" A_Desk___init__ (eCons (eVar 1) (eCons (eVar 2) (eCons (eVar 3) eNil))) ρ T = .ok (.obj T.length) (T ++ dkNew T.length (tp0 (prgM ns 20) (asM ns 450) 1 K)) := fun h1 h2 h3 => make_desk (p := prgM ns 20) (as := asM ns 450) (m := K) hp hasO (by omega) h1 h2 h3
  refine g_set (mk rfl rfl rfl) ?_
  refine g_set (mk rfl rfl rfl) ?_
  refine g_set (make_t (e := 2) (m := K) (p := prgM ns 20) (as := asM ns 450) (T1 := [] ++ dkNew 0 (tp0 (prgM ns 20) (asM ns 450) 1 K) ++ dkNew 3 (tp0 (prgM ns 20) (asM ns 450) 1 K)) rfl hp hasO (by decide) (by omega)) ?_
  generalize ht : tp0 (prgM ns 20) (asM ns 450) 1 K = t at R hE
  have h0 : t.here = 0 := by rw [← ht]; rfl
  have e0 : taO t = taO (tH t 0) := by unfold taO tH; rw [h0]; rfl
  have ep : prgM ns 20 = t.p := by rw [← ht]; rfl
  have ea : asM ns 450 = t.as := by rw [← ht]; rfl
  rw [ep, ea]
  have w0 : W91 (([] ++ dkNew 0 t ++ dkNew 3 t) ++ [taO t]) t 0 [] := ⟨⟨rfl, by rw [← e0]; rfl, rfl⟩, ⟨rfl, by rw [← e0]; rfl, rfl⟩, by rw [← e0]; rfl, .inl rfl⟩
  obtain ⟨ha, had⟩ := sumM_ok ns 2 460
  have es := a_l_sum (T := ([] ++ dkNew 0 t ++ dkNew 3 t) ++ [taO t]) hn (n := 2) (at' := 460) (by decide)
  generalize sumM ns 2 460 = a at ha had es
  show Good (sSeq _ _ [some (scrD ns), some (prgD t.p), some (asD t.as), some (.int (K : Nat)), some (.obj 0), some (.obj 3), some (.obj 6), none, none, none, none, none, none, none] (([] ++ dkNew 0 t ++ dkNew 3 t) ++ [taO t]))
  generalize ([] ++ dkNew 0 t ++ dkNew 3 t) ++ [taO t] = S0 at w0 es ⊢
  have la := st_len ha (show a.dep < 10 by omega)
  have l3 : (Str.ofString "why ").length = 4 := rfl
  refine g_set (d := .lst ((asksM a).map D.str)) (S1 := S0) (x_lst7 rfl (x_op (x := .str "why ") (y := .str (stM a)) rfl (x_c1 (x := a.d) (x_c3 (x := scrD ns) (y := .int 460) (z := .int ((2 : Nat) : Int)) rfl rfl rfl es) (spec_ok fun S => written_sum_txt S ha (by omega))) (add_s (by omega))) rfl rfl rfl rfl rfl) ?_
  have hi : ∃ c : Nat, c ≤ 10 ∧ iRange1 (eCallB (bMax2) (eCons (eC (.int 1)) (eCons (eCallB (bMin2) (eCons (eC (.int 10)) (eCons (eCallB (f1 bLen) (eCons (eVar 0) eNil)) eNil))) eNil))) (V91 ns t a K [none, none, none, none, none, none]) S0 = .ok (.tup (natsD (List.range c))) S0 := by
    refine ⟨max 1 (min 10 ns.length), by omega, rg1 (n := max 1 (min 10 ns.length)) (x_B2 (x := .int 1) (y := .int (min 10 ns.length : Nat)) rfl (x_B2 (x := .int 10) (y := .int (ns.length : Nat)) rfl ?_ ?_) ?_) (by omega)⟩
    · refine x_B1 (x := scrD ns) rfl ?_
      show some (D.int ((ns.map D.int).length : Nat)) = _
      rw [List.length_map]
    · show some (D.int (min _ _)) = _
      congr 2; omega
    · show some (D.int (max _ _)) = _
      congr 2; omega
  obtain ⟨c, hc, hi⟩ := hi
  refine g_for (b := B91) (f := fun (k : Nat) => D.int k) (xs := List.range c) (S1 := S0) (fun j ρ S => ∃ k kv o8 o9 o10 o11, k ≤ t.E ∧ W91 S t k kv ∧ ρ = V91 ns t a K [o8, o9, o10, o11, none, none]) hi ⟨0, [], none, none, none, none, Nat.zero_le _, w0, rfl⟩ ?_ ?_
  · rintro j x hx ρ S2 ⟨k', kv', o8, o9, o10, o11, hk', w2, rfl⟩
    refine ⟨V91 ns t a K [some (.int (x : Nat)), o9, o10, o11, none, none], rfl, ?_⟩
    obtain ⟨S3, k3, kv3, p9, p10, p11, hk3, w3, e⟩ := it91 (ns := ns) (j := x) (K := K) (o9 := o9) (o10 := o10) (o11 := o11) (o12 := none) (o13 := none) hn R (by omega) ha (by omega) hk' w2
    exact ⟨_, _, .inl e, k3, kv3, some (.int (x : Nat)), p9, p10, p11, hk3, w3, rfl⟩
  · rintro ρ S2 ⟨k', kv', o8, o9, o10, o11, hk', w2, rfl⟩
    have fin := c91 (ns := ns) (a := a) (K := K) (o8 := o8) (o9 := o9) (o10 := o10) (o11 := o11) R hk' ⟨w2.d, w2.tp, w2.mkd⟩
    unfold C91 at fin
    exact fin
end Bt
namespace Bt
open PySem PySem.Spec PyProof.Rows L2
structure Top (w : PySem.World) (K : PySem.W.Frag) (mg : Str → Option Value) : Prop where
  tf_MOVES : GlobF K w mg "MOVES" fs_MOVES
  f_all : mg "all" = none
  f_bool : mg "bool" = none
  f_dict : mg "dict" = none
  f_int : mg "int" = none
  f_isinstance : mg "isinstance" = none
  f_len : mg "len" = none
  f_list : mg "list" = none
  f_max : mg "max" = none
  f_min : mg "min" = none
  f_range : mg "range" = none
  f_str : mg "str" = none
  f_tuple : mg "tuple" = none
  g_CELLS : GlobC K mg "CELLS" c_CELLS
  g_FIGURES : GlobC K mg "FIGURES" c_FIGURES
  g_LETTERS : GlobC K mg "LETTERS" c_LETTERS
  g_MOST_CALLS : GlobC K mg "MOST_CALLS" c_MOST_CALLS
  g_MOST_MARKS : GlobC K mg "MOST_MARKS" c_MOST_MARKS
  g_MOST_PARTS : GlobC K mg "MOST_PARTS" c_MOST_PARTS
  g_NAMES : GlobC K mg "NAMES" c_NAMES
  g_SIZE : GlobC K mg "SIZE" c_SIZE
  g_WORDS : GlobC K mg "WORDS" c_WORDS
  k_Desk : Cls K (He.ga K "Desk")
  k_Tape : Cls K (He.ga K "Tape")
  k_Words : Cls K (He.ga K "Words")
  na_Desk_kept : NoAttr K (He.ga K "Desk") "kept"
  na_Desk_tape : NoAttr K (He.ga K "Desk") "tape"
  na_Tape_asked : NoAttr K (He.ga K "Tape") "asked"
  na_Tape_every : NoAttr K (He.ga K "Tape") "every"
  na_Tape_far : NoAttr K (He.ga K "Tape") "far"
  na_Tape_here : NoAttr K (He.ga K "Tape") "here"
  na_Tape_kept : NoAttr K (He.ga K "Tape") "kept"
  na_Tape_last : NoAttr K (He.ga K "Tape") "last"
  na_Tape_most : NoAttr K (He.ga K "Tape") "most"
  na_Tape_program : NoAttr K (He.ga K "Tape") "program"
  na_Words_left : NoAttr K (He.ga K "Words") "left"
  e_moment : ExcAt K mg .moment
  e_text : ExcAt K mg .text
  e_thing : ExcAt K mg .thing
  rs : SayOk K mg
abbrev N_begun : List Str := []
theorem sc_begun : FnScope N_begun [] (defScope s_begun) := ⟨rfl, rfl, rfl, by decide +kernel, rfl, by decide +kernel, by decide +kernel⟩
theorem cal_begun {P : Program} {w : PySem.World} {K : PySem.W.Frag} {mg : Str → Option Value} {base : Heap} (T : Top w K mg) (D : DefAt K mg "begun" s_begun) : Cal P w K mg base "begun" 2 G_begun :=
  cal_mk D sc_begun (fun _ _ _ _ _ _ us hl => match us, hl with | [], _ => rfl) fun cdv A outer s H E hr =>
    (jss_one (js_ret (je_tup (ja_cons je_int (ja_cons (je_op or_mul l_mul (je_tup (ja_cons je_int ja_nil)) (je_callB call_len l_len T.f_len (ja_cons (je_glob T.g_NAMES) ja_nil))) (ja_cons (je_op or_mul l_mul (je_tup (ja_cons je_int ja_nil)) (je_glob T.g_CELLS)) (ja_cons (je_tup ja_nil) (ja_cons je_int (ja_cons (je_tup ja_nil) ja_nil)))))))))
abbrev N_Tape___init__ : List Str := ["self", "program", "asked", "every", "most"]
theorem sc_Tape___init__ : FnScope N_Tape___init__ ["self", "program", "asked", "every", "most"] (defScope s_Tape___init__) := ⟨rfl, rfl, rfl, by decide +kernel, rfl, by decide +kernel, by decide +kernel⟩
theorem cal_Tape___init__ {P : Program} {w : PySem.World} {K : PySem.W.Frag} {mg : Str → Option Value} {base : Heap} (T : Top w K mg) (D : IniAt K mg "Tape" "Tape.__init__" s_Tape___init__) (c_begun : Cal P w K mg base "begun" 2 G_begun) : KCal P w K mg base "Tape" 3 G_Tape___init__ :=
  kcal_mk D sc_Tape___init__ (fun _ _ _ _ _ _ us hl => match us, hl with | [_, _, _, _, _], _ => rfl) fun cdv A outer s H E hr =>
    (jss_cons (js_fld (je_var 0) (je_var 1) T.k_Tape T.na_Tape_program)
    (jss_cons (js_fld (je_var 0) (je_callTy call_list_of l_listOf T.f_list (ja_cons (je_var 2) ja_nil)) T.k_Tape T.na_Tape_asked)
    (jss_cons (js_fld (je_var 0) (je_var 3) T.k_Tape T.na_Tape_every)
    (jss_cons (js_fld (je_var 0) (je_var 4) T.k_Tape T.na_Tape_most)
    (jss_cons (js_kdisp (je_var 0) (jp_cons je_int (je_call0 c_begun (hr.mono (by omega))) jp_nil) T.k_Tape T.na_Tape_kept)
    (jss_cons (js_fld (je_var 0) je_int T.k_Tape T.na_Tape_far)
    (jss_cons (js_fld (je_var 0) je_non T.k_Tape T.na_Tape_last)
    (jss_one (js_fld (je_var 0) je_int T.k_Tape T.na_Tape_here)))))))))
abbrev N_Desk___init__ : List Str := ["self", "program", "asked", "most"]
theorem sc_Desk___init__ : FnScope N_Desk___init__ ["self", "program", "asked", "most"] (defScope s_Desk___init__) := ⟨rfl, rfl, rfl, by decide +kernel, rfl, by decide +kernel, by decide +kernel⟩
theorem cal_Desk___init__ {P : Program} {w : PySem.World} {K : PySem.W.Frag} {mg : Str → Option Value} {base : Heap} (T : Top w K mg) (D : IniAt K mg "Desk" "Desk.__init__" s_Desk___init__) (c_Tape___init__ : KCal P w K mg base "Tape" 3 G_Tape___init__) : KCal P w K mg base "Desk" 5 G_Desk___init__ :=
  kcal_mk D sc_Desk___init__ (fun _ _ _ _ _ _ us hl => match us, hl with | [_, _, _, _], _ => rfl) fun cdv A outer s H E hr =>
    (jss_cons (js_fld (je_var 0) (je_make c_Tape___init__ (hr.mono (by omega)) (ja_cons (je_var 1) (ja_cons (je_var 2) (ja_cons je_int (ja_cons (je_var 3) ja_nil))))) T.k_Desk T.na_Desk_tape)
    (jss_one (js_fld (je_var 0) je_ldnew T.k_Desk T.na_Desk_kept)))
abbrev N_Tape_moment : List Str := ["self"]
theorem sc_Tape_moment : FnScope N_Tape_moment ["self"] (defScope s_Tape_moment) := ⟨rfl, rfl, rfl, by decide +kernel, rfl, by decide +kernel, by decide +kernel⟩
theorem cal_Tape_moment {P : Program} {w : PySem.World} {K : PySem.W.Frag} {mg : Str → Option Value} {base : Heap} (T : Top w K mg) (D : MetAt K "Tape" "moment" "Tape.moment" s_Tape_moment) : MCal P w K mg base "Tape" "moment" 2 G_Tape_moment :=
  mcal_mk D sc_Tape_moment (fun _ _ _ _ _ _ us hl => match us, hl with | [_], _ => rfl) fun cdv A outer s H E hr =>
    (jss_one (js_ret (je_fld (je_var 0) T.k_Tape T.na_Tape_here)))
abbrev N_Tape_keep : List Str := ["self", "moment", "state", "one"]
theorem sc_Tape_keep : FnScope N_Tape_keep ["self", "moment", "state"] (defScope s_Tape_keep) := ⟨rfl, rfl, rfl, by decide +kernel, rfl, by decide +kernel, by decide +kernel⟩
theorem cal_Tape_keep {P : Program} {w : PySem.World} {K : PySem.W.Frag} {mg : Str → Option Value} {base : Heap} (T : Top w K mg) (D : MetAt K "Tape" "keep" "Tape.keep" s_Tape_keep) : MCal P w K mg base "Tape" "keep" 2 G_Tape_keep :=
  mcal_mk D sc_Tape_keep (fun _ _ _ _ _ _ us hl => match us, hl with | [_, _, _], _ => rfl) fun cdv A outer s H E hr =>
    (jss_cons (js_if (jt_cmp op_gt l_cmp (je_var 1) (je_fld (je_var 0) T.k_Tape T.na_Tape_far))
    (jss_cons (js_fld (je_var 0) (je_var 1) T.k_Tape T.na_Tape_far)
    (jss_one (js_if (jt_cmp (op_eqD (hu64 hr)) l_eq (je_op op_mod l_mod (je_var 1) (je_fld (je_var 0) T.k_Tape T.na_Tape_every)) je_int)
    (jss_one (js_kput (i := 0) (j := 1) (hu_of hr) T.k_Tape T.na_Tape_kept (je_var 2)))
    jss_nil)))
    jss_nil)
    (jss_one (js_while 100000 (passes_of rfl) (jt_cmp op_gt l_cmp (je_klen (i := 0) T.f_len T.k_Tape T.na_Tape_kept) (je_glob T.g_MOST_MARKS))
    (jss_cons (js_fld (je_var 0) (je_op or_mul l_mul je_int (je_fld (je_var 0) T.k_Tape T.na_Tape_every)) T.k_Tape T.na_Tape_every)
    (jss_one (js_kdict (je_var 0) rfl T.f_dict (je_lock "Tape" "kept" 0 (je_comp [("one", 3)] rfl sc_Tape_keep.nd (ji_keysF (i := 0) T.k_Tape T.na_Tape_kept) (blkOk_by (N := N_Tape_keep) (sc := defScope s_Tape_keep) (by decide +kernel)) (fun _ _ _ _ _ => (jg_name sc_Tape_keep.nd)) (by decide) (fun _ _ _ _ _ => (jts_one (jt_cmp (op_eqD (hu64 hr)) l_eq (je_op op_mod l_mod (je_var 3) (je_fld (je_var 0) T.k_Tape T.na_Tape_every)) je_int))) (fun _ _ _ _ _ => (je_tup (ja_cons (je_var 3) (ja_cons (je_kix (i := 0) (j := 3) (hu_of hr) T.k_Tape T.na_Tape_kept) ja_nil)))))) T.k_Tape T.na_Tape_kept))))))
abbrev N_is_over : List Str := ["program", "state", "word"]
theorem sc_is_over : FnScope N_is_over ["program", "state"] (defScope s_is_over) := ⟨rfl, rfl, rfl, by decide +kernel, rfl, by decide +kernel, by decide +kernel⟩
theorem cal_is_over {P : Program} {w : PySem.World} {K : PySem.W.Frag} {mg : Str → Option Value} {base : Heap} (T : Top w K mg) (D : DefAt K mg "is_over" s_is_over) : Cal P w K mg base "is_over" 2 G_is_over :=
  cal_mk D sc_is_over (fun _ _ _ _ _ _ us hl => match us, hl with | [_, _], _ => rfl) fun cdv A outer s H E hr =>
    (jss_cons (js_if (jt_cmp (op_eqD (hu64 hr)) l_eq (je_ix ix_seq l_ix (je_var 1) je_int) (je_callB call_len l_len T.f_len (ja_cons (je_var 0) ja_nil)))
    (jss_one (js_ret je_bl))
    jss_nil)
    (jss_cons (js_set (i := 2) sc_is_over.nd (je_ix ix_seq l_ix (je_ix ix_seq l_ix (je_var 0) (je_ix ix_seq l_ix (je_var 1) je_int)) je_int))
    (jss_one (js_ret (je_or (je_cmp (op_eqD (hu64 hr)) l_eq (je_var 2) je_str) (je_or (je_and (je_cmp (op_eqD (hu64 hr)) l_eq (je_var 2) je_str) (je_one (je_cmp (op_eqD (hu64 hr)) l_eq (je_ix ix_seq l_ix (je_var 1) je_int) (je_tup ja_nil)))) (je_one (je_and (je_cmp (op_eqD (hu64 hr)) l_eq (je_var 2) je_str) (je_one (je_cmp (op_eqD (hu64 hr)) l_eq (je_callB call_len l_len T.f_len (ja_cons (je_ix ix_seq l_ix (je_var 1) je_int) ja_nil)) (je_glob T.g_MOST_CALLS)))))))))))
abbrev N_reckoned : List Str := ["asked_sum", "state", "word", "one", "other"]
theorem sc_reckoned : FnScope N_reckoned ["asked_sum", "state"] (defScope s_reckoned) := ⟨rfl, rfl, rfl, by decide +kernel, rfl, by decide +kernel, by decide +kernel⟩
theorem cal_reckoned {P : Program} {w : PySem.World} {K : PySem.W.Frag} {mg : Str → Option Value} {base : Heap} (T : Top w K mg) (D : DefAt K mg "reckoned" s_reckoned) : ∀ n, Cal P w K mg base "reckoned" (2 + n) (recN F_reckoned n)
  | 0 => cal_bad (k := 1) D sc_reckoned (fun _ _ _ _ _ _ us hl => match us, hl with | [_, _], _ => rfl)
  | n + 1 => by
    have c_reckoned := cal_reckoned (P := P) (w := w) (base := base) T D n
    have q : Cal P w K mg base "reckoned" (2 + n + 1) (F_reckoned (recN F_reckoned n)) := cal_mk D sc_reckoned (fun _ _ _ _ _ _ us hl => match us, hl with | [_, _], _ => rfl) fun cdv A outer s H E hr =>
    (jss_cons (js_set (i := 2) sc_reckoned.nd (je_ix ix_seq l_ix (je_var 0) je_int))
    (jss_cons (js_if (jt_cmp (op_eqD (hu64 hr)) l_eq (je_var 2) je_str)
    (jss_one (js_ret (je_ix ix_seq l_ix (je_var 0) je_int)))
    jss_nil)
    (jss_cons (js_if (jt_cmp (op_eqD (hu64 hr)) l_eq (je_var 2) je_str)
    (jss_one (js_ret (je_ix ix_seq l_ix (je_ix ix_seq l_ix (je_var 1) je_int) (je_sidx (je_glob T.g_NAMES) (je_ix ix_seq l_ix (je_var 0) je_int)))))
    jss_nil)
    (jss_cons (js_set (i := 3) sc_reckoned.nd (je_call c_reckoned (hr.mono (by omega)) (takes_of rfl rfl rfl rfl) (ja_cons (je_ix ix_seq l_ix (je_var 0) je_int) (ja_cons (je_var 1) ja_nil))))
    (jss_cons (js_if (jt_cmp (op_eqD (hu64 hr)) l_eq (je_var 2) je_str)
    (jss_one (js_ret (je_ix ix_seq l_ix (je_ix ix_seq l_ix (je_var 1) je_int) (je_op op_mod l_mod (je_var 3) (je_glob T.g_CELLS)))))
    jss_nil)
    (jss_cons (js_set (i := 4) sc_reckoned.nd (je_call c_reckoned (hr.mono (by omega)) (takes_of rfl rfl rfl rfl) (ja_cons (je_ix ix_seq l_ix (je_var 0) je_int) (ja_cons (je_var 1) ja_nil))))
    (jss_cons (js_if (jt_cmp (op_eqD (hu64 hr)) l_eq (je_var 2) je_str)
    (jss_one (js_ret (je_callTy call_int1 l_int T.f_int (ja_cons (je_cmp op_lt l_cmp (je_var 3) (je_var 4)) ja_nil))))
    jss_nil)
    (jss_one (js_ret (je_op op_mod l_mod (je_dispIx (hu_of hr) (jp_cons je_str (je_op or_add l_add (je_var 3) (je_var 4)) (jp_cons je_str (je_op op_sub l_sub (je_var 3) (je_var 4)) (jp_cons je_str (je_op or_mul l_mul (je_var 3) (je_var 4)) jp_nil))) (je_var 2)) (je_glob T.g_SIZE)))))))))))
    exact q
abbrev N_with_worth : List Str := ["state", "thing", "worth", "part", "at", "row"]
theorem sc_with_worth : FnScope N_with_worth ["state", "thing", "worth"] (defScope s_with_worth) := ⟨rfl, rfl, rfl, by decide +kernel, rfl, by decide +kernel, by decide +kernel⟩
theorem cal_with_worth {P : Program} {w : PySem.World} {K : PySem.W.Frag} {mg : Str → Option Value} {base : Heap} (T : Top w K mg) (D : DefAt K mg "with_worth" s_with_worth) : Cal P w K mg base "with_worth" 2 G_with_worth :=
  cal_mk D sc_with_worth (fun _ _ _ _ _ _ us hl => match us, hl with | [_, _, _], _ => rfl) fun cdv A outer s H E hr =>
    (jss_cons (js_set (i := 3) sc_with_worth.nd (je_if (jt_val (je_isT .int (je_var 1) T.f_isinstance T.f_int)) je_int je_int))
    (jss_cons (js_set (i := 4) sc_with_worth.nd (je_if (jt_val (je_isT .int (je_var 1) T.f_isinstance T.f_int)) (je_var 1) (je_sidx (je_glob T.g_NAMES) (je_var 1))))
    (jss_cons (js_set (i := 5) sc_with_worth.nd (je_op or_add l_add (je_op or_add l_add (je_sl (je_ix ix_seq l_ix (je_var 0) (je_var 3)) jo_none (jo_some (je_var 4))) (je_tup (ja_cons (je_var 2) ja_nil))) (je_sl (je_ix ix_seq l_ix (je_var 0) (je_var 3)) (jo_some (je_op or_add l_add (je_var 4) je_int)) jo_none)))
    (jss_one (js_ret (je_op or_add l_add (je_op or_add l_add (je_sl (je_var 0) jo_none (jo_some (je_var 3))) (je_tup (ja_cons (je_var 5) ja_nil))) (je_sl (je_var 0) (jo_some (je_op or_add l_add (je_var 3) je_int)) jo_none)))))))
abbrev N_written_by : List Str := ["program", "asked", "state", "row"]
theorem sc_written_by : FnScope N_written_by ["program", "asked", "state"] (defScope s_written_by) := ⟨rfl, rfl, rfl, by decide +kernel, rfl, by decide +kernel, by decide +kernel⟩
theorem cal_written_by {P : Program} {w : PySem.World} {K : PySem.W.Frag} {mg : Str → Option Value} {base : Heap} (T : Top w K mg) (D : DefAt K mg "written_by" s_written_by) (c_reckoned : Cal P w K mg base "reckoned" 22 G_reckoned) : Cal P w K mg base "written_by" 23 G_written_by :=
  cal_mk D sc_written_by (fun _ _ _ _ _ _ us hl => match us, hl with | [_, _, _], _ => rfl) fun cdv A outer s H E hr =>
    (jss_cons (js_set (i := 3) sc_written_by.nd (je_ix ix_seq l_ix (je_var 0) (je_ix ix_seq l_ix (je_var 2) je_int)))
    (jss_cons (js_if (jt_cmp (op_eqD (hu64 hr)) l_eq (je_ix ix_seq l_ix (je_var 3) je_int) je_str)
    (jss_one (js_ret (je_tup (ja_cons (je_ix ix_seq l_ix (je_var 3) je_int) (ja_cons (je_call c_reckoned (hr.mono (by omega)) (takes_of rfl rfl rfl rfl) (ja_cons (je_ix ix_seq l_ix (je_var 3) je_int) (ja_cons (je_var 2) ja_nil))) ja_nil)))))
    jss_nil)
    (jss_cons (js_if (jt_cmp (op_eqD (hu64 hr)) l_eq (je_ix ix_seq l_ix (je_var 3) je_int) je_str)
    (jss_one (js_ret (je_tup (ja_cons (je_op op_mod l_mod (je_call c_reckoned (hr.mono (by omega)) (takes_of rfl rfl rfl rfl) (ja_cons (je_ix ix_seq l_ix (je_var 3) je_int) (ja_cons (je_var 2) ja_nil))) (je_glob T.g_CELLS)) (ja_cons (je_call c_reckoned (hr.mono (by omega)) (takes_of rfl rfl rfl rfl) (ja_cons (je_ix ix_seq l_ix (je_var 3) je_int) (ja_cons (je_var 2) ja_nil))) ja_nil)))))
    jss_nil)
    (jss_cons (js_if (jt_cmp (op_eqD (hu64 hr)) l_eq (je_ix ix_seq l_ix (je_var 3) je_int) je_str)
    (jss_one (js_ret (je_tup (ja_cons (je_ix ix_seq l_ix (je_var 3) je_int) (ja_cons (je_if (jt_cmp op_lt l_cmp (je_ix ix_seq l_ix (je_var 2) je_int) (je_callB call_len l_len T.f_len (ja_cons (je_var 1) ja_nil))) (je_ix ix_seq l_ix (je_var 1) (je_ix ix_seq l_ix (je_var 2) je_int)) je_int) ja_nil)))))
    jss_nil)
    (jss_one (js_ret je_non))))))
abbrev N_stepped : List Str := ["program", "asked", "state", "row", "goal", "stack", "said", "found", "told"]
theorem sc_stepped : FnScope N_stepped ["program", "asked", "state"] (defScope s_stepped) := ⟨rfl, rfl, rfl, by decide +kernel, rfl, by decide +kernel, by decide +kernel⟩
theorem cal_stepped {P : Program} {w : PySem.World} {K : PySem.W.Frag} {mg : Str → Option Value} {base : Heap} (T : Top w K mg) (D : DefAt K mg "stepped" s_stepped) (c_reckoned : Cal P w K mg base "reckoned" 22 G_reckoned) (c_with_worth : Cal P w K mg base "with_worth" 2 G_with_worth) (c_written_by : Cal P w K mg base "written_by" 23 G_written_by) : Cal P w K mg base "stepped" 24 G_stepped :=
  cal_mk D sc_stepped (fun _ _ _ _ _ _ us hl => match us, hl with | [_, _, _], _ => rfl) fun cdv A outer s H E hr =>
    (jss_cons (js_set (i := 3) sc_stepped.nd (je_ix ix_seq l_ix (je_var 0) (je_ix ix_seq l_ix (je_var 2) je_int)))
    (jss_cons (js_set (i := 4) sc_stepped.nd (je_op or_add l_add (je_ix ix_seq l_ix (je_var 2) je_int) je_int))
    (jss_cons (js_set (i := 5) sc_stepped.nd (je_ix ix_seq l_ix (je_var 2) je_int))
    (jss_cons (js_if (JW.jt (jw_or (jt_cmp (op_eqD (hu64 hr)) l_eq (je_ix ix_seq l_ix (je_var 3) je_int) je_str) (jw_or1 (JW.jt (jw_and (jt_cmp (op_eqD (hu64 hr)) l_eq (je_ix ix_seq l_ix (je_var 3) je_int) je_str) (jw_and1 (jt_cmp (op_eqD (hu64 hr)) l_eq (je_call c_reckoned (hr.mono (by omega)) (takes_of rfl rfl rfl rfl) (ja_cons (je_ix ix_seq l_ix (je_var 3) je_int) (ja_cons (je_var 2) ja_nil))) je_int)))))))
    (jss_one (js_set (i := 4) sc_stepped.nd (je_ix ix_seq l_ix (je_var 3) (je_un un_neg l_neg je_int))))
    jss_nil)
    (jss_cons (js_if (jt_cmp (op_eqD (hu64 hr)) l_eq (je_ix ix_seq l_ix (je_var 3) je_int) je_str)
    (jss_cons (js_set (i := 4) sc_stepped.nd (je_ix ix_seq l_ix (je_var 3) je_int))
    (jss_one (js_set (i := 5) sc_stepped.nd (je_op or_add l_add (je_var 5) (je_tup (ja_cons (je_op or_add l_add (je_ix ix_seq l_ix (je_var 2) je_int) je_int) ja_nil))))))
    jss_nil)
    (jss_cons (js_if (jt_cmp (op_eqD (hu64 hr)) l_eq (je_ix ix_seq l_ix (je_var 3) je_int) je_str)
    (jss_cons (js_set (i := 4) sc_stepped.nd (je_ix ix_seq l_ix (je_var 5) (je_un un_neg l_neg je_int)))
    (jss_one (js_set (i := 5) sc_stepped.nd (je_sl (je_var 5) jo_none (jo_some (je_un un_neg l_neg je_int))))))
    jss_nil)
    (jss_cons (js_set (i := 6) sc_stepped.nd (je_if (jt_cmp (op_eqD (hu64 hr)) l_eq (je_ix ix_seq l_ix (je_var 3) je_int) je_str) (je_op or_add l_add (je_ix ix_seq l_ix (je_var 2) je_int) (je_tup (ja_cons (je_call c_reckoned (hr.mono (by omega)) (takes_of rfl rfl rfl rfl) (ja_cons (je_ix ix_seq l_ix (je_var 3) je_int) (ja_cons (je_var 2) ja_nil))) ja_nil))) (je_ix ix_seq l_ix (je_var 2) je_int)))
    (jss_cons (js_set (i := 7) sc_stepped.nd (je_tup (ja_cons (je_var 4) (ja_cons (je_ix ix_seq l_ix (je_var 2) je_int) (ja_cons (je_ix ix_seq l_ix (je_var 2) je_int) (ja_cons (je_var 5) (ja_cons (je_op or_add l_add (je_ix ix_seq l_ix (je_var 2) je_int) (je_callTy call_int1 l_int T.f_int (ja_cons (je_cmp (op_eqD (hu64 hr)) l_eq (je_ix ix_seq l_ix (je_var 3) je_int) je_str) ja_nil))) (ja_cons (je_var 6) ja_nil))))))))
    (jss_cons (js_set (i := 8) sc_stepped.nd (je_call c_written_by (hr.mono (by omega)) (takes_of rfl rfl rfl rfl) (ja_cons (je_var 0) (ja_cons (je_var 1) (ja_cons (je_var 2) ja_nil)))))
    (jss_one (js_ret (je_if (jt_isN (je_var 8)) (je_var 7) (je_call c_with_worth (hr.mono (by omega)) (takes_of rfl rfl rfl rfl) (ja_cons (je_var 7) (ja_cons (je_ix ix_seq l_ix (je_var 8) je_int) (ja_cons (je_ix ix_seq l_ix (je_var 8) je_int) ja_nil))))))))))))))))
abbrev N_Tape_came : List Str := ["self", "moment", "at", "state", "one"]
theorem sc_Tape_came : FnScope N_Tape_came ["self", "moment"] (defScope s_Tape_came) := ⟨rfl, rfl, rfl, by decide +kernel, rfl, by decide +kernel, by decide +kernel⟩
theorem cal_Tape_came {P : Program} {w : PySem.World} {K : PySem.W.Frag} {mg : Str → Option Value} {base : Heap} (T : Top w K mg) (D : MetAt K "Tape" "came" "Tape.came" s_Tape_came) (c_Tape_keep : MCal P w K mg base "Tape" "keep" 2 G_Tape_keep) (c_is_over : Cal P w K mg base "is_over" 2 G_is_over) (c_stepped : Cal P w K mg base "stepped" 24 G_stepped) : MCal P w K mg base "Tape" "came" 25 G_Tape_came :=
  mcal_mk D sc_Tape_came (fun _ _ _ _ _ _ us hl => match us, hl with | [_, _], _ => rfl) fun cdv A outer s H E hr =>
    (jss_cons (js_set (i := 2) sc_Tape_came.nd (je_callB (cr_max rfl) l_maxL T.f_max (ja_cons (je_lock "Tape" "kept" 0 (je_comp [("one", 4)] rfl sc_Tape_came.nd (ji_keysF (i := 0) T.k_Tape T.na_Tape_kept) (blkOk_by (N := N_Tape_came) (sc := defScope s_Tape_came) (by decide +kernel)) (fun _ _ _ _ _ => (jg_name sc_Tape_came.nd)) (by decide) (fun _ _ _ _ _ => (jts_one (jt_cmp op_le l_cmp (je_var 4) (je_var 1)))) (fun _ _ _ _ _ => (je_var 4)))) ja_nil)))
    (jss_cons (js_set (i := 3) sc_Tape_came.nd (je_kix (i := 0) (j := 2) (hu_of hr) T.k_Tape T.na_Tape_kept))
    (jss_cons (js_while 100000 (passes_of rfl) (JW.jt (jw_and (jt_cmp op_lt l_cmp (je_var 2) (je_var 1)) (jw_and1 (jt_not (jt_val (je_call c_is_over (hr.mono (by omega)) (takes_of rfl rfl rfl rfl) (ja_cons (je_fld (je_var 0) T.k_Tape T.na_Tape_program) (ja_cons (je_var 3) ja_nil))))))))
    (jss_cons (js_set (i := 3) sc_Tape_came.nd (je_call c_stepped (hr.mono (by omega)) (takes_of rfl rfl rfl rfl) (ja_cons (je_fld (je_var 0) T.k_Tape T.na_Tape_program) (ja_cons (je_fld (je_var 0) T.k_Tape T.na_Tape_asked) (ja_cons (je_var 3) ja_nil)))))
    (jss_cons (js_set (i := 2) sc_Tape_came.nd (je_op or_add l_add (je_var 2) je_int))
    (jss_one (js_expr (je_mcall c_Tape_keep (hr.mono (by omega)) (takes_of rfl rfl rfl rfl) (je_var 0) (ja_cons (je_var 2) (ja_cons (je_var 3) ja_nil))))))))
    (jss_one (js_ret (je_tup (ja_cons (je_var 3) (ja_cons (je_var 2) ja_nil))))))))
abbrev N_Tape_at : List Str := ["self", "moment", "state", "came"]
theorem sc_Tape_at : FnScope N_Tape_at ["self", "moment"] (defScope s_Tape_at) := ⟨rfl, rfl, rfl, by decide +kernel, rfl, by decide +kernel, by decide +kernel⟩
theorem cal_Tape_at {P : Program} {w : PySem.World} {K : PySem.W.Frag} {mg : Str → Option Value} {base : Heap} (T : Top w K mg) (D : MetAt K "Tape" "at" "Tape.at" s_Tape_at) (c_Tape_came : MCal P w K mg base "Tape" "came" 25 G_Tape_came) : MCal P w K mg base "Tape" "at" 26 G_Tape_at :=
  mcal_mk D sc_Tape_at (fun _ _ _ _ _ _ us hl => match us, hl with | [_, _], _ => rfl) fun cdv A outer s H E hr =>
    (jss_cons (js_if (jt_not (jt_chain op_le op_le l_cmp l_cmp je_int (je_var 1) (je_fld (je_var 0) T.k_Tape T.na_Tape_most)))
    (jss_one (js_raise (k := .moment) rfl (takes_of rfl rfl rfl rfl) T.e_moment rfl rfl))
    jss_nil)
    (jss_cons (js_asg (je_mcall c_Tape_came (hr.mono (by omega)) (takes_of rfl rfl rfl rfl) (je_var 0) (ja_cons (je_var 1) ja_nil)) (jg_tup rfl (jgs_cons (jg_name sc_Tape_at.nd) (jgs_cons (jg_name sc_Tape_at.nd) jgs_nil))))
    (jss_cons (js_if (jt_cmp (op_neD (hu64 hr)) l_ne (je_var 3) (je_var 1))
    (jss_one (js_raise (k := .moment) rfl (takes_of rfl rfl rfl rfl) T.e_moment rfl rfl))
    jss_nil)
    (jss_one (js_ret (je_var 2))))))
abbrev N_Tape_state : List Str := ["self"]
theorem sc_Tape_state : FnScope N_Tape_state ["self"] (defScope s_Tape_state) := ⟨rfl, rfl, rfl, by decide +kernel, rfl, by decide +kernel, by decide +kernel⟩
theorem cal_Tape_state {P : Program} {w : PySem.World} {K : PySem.W.Frag} {mg : Str → Option Value} {base : Heap} (T : Top w K mg) (D : MetAt K "Tape" "state" "Tape.state" s_Tape_state) (c_Tape_at : MCal P w K mg base "Tape" "at" 26 G_Tape_at) : MCal P w K mg base "Tape" "state" 27 G_Tape_state :=
  mcal_mk D sc_Tape_state (fun _ _ _ _ _ _ us hl => match us, hl with | [_], _ => rfl) fun cdv A outer s H E hr =>
    (jss_one (js_ret (je_mcall c_Tape_at (hr.mono (by omega)) (takes_of rfl rfl rfl rfl) (je_var 0) (ja_cons (je_fld (je_var 0) T.k_Tape T.na_Tape_here) ja_nil))))
abbrev N_Desk_where : List Str := ["self"]
theorem sc_Desk_where : FnScope N_Desk_where ["self"] (defScope s_Desk_where) := ⟨rfl, rfl, rfl, by decide +kernel, rfl, by decide +kernel, by decide +kernel⟩
theorem cal_Desk_where {P : Program} {w : PySem.World} {K : PySem.W.Frag} {mg : Str → Option Value} {base : Heap} (T : Top w K mg) (D : MetAt K "Desk" "where" "Desk.where" s_Desk_where) (c_Tape_moment : MCal P w K mg base "Tape" "moment" 2 G_Tape_moment) (c_Tape_state : MCal P w K mg base "Tape" "state" 27 G_Tape_state) : MCal P w K mg base "Desk" "where" 28 G_Desk_where :=
  mcal_mk D sc_Desk_where (fun _ _ _ _ _ _ us hl => match us, hl with | [_], _ => rfl) fun cdv A outer s H E hr =>
    (jss_one (js_ret (je_op or_add l_add (je_op or_add l_add (je_op or_add l_add je_str (je_callTy call_str_int l_str T.f_str (ja_cons (je_mcall0 c_Tape_moment (hr.mono (by omega)) (takes_of rfl rfl rfl rfl) (je_fld (je_var 0) T.k_Desk T.na_Desk_tape)) ja_nil))) je_str) (je_callTy call_str_int l_str T.f_str (ja_cons (je_ix ix_seq l_ix (je_mcall0 c_Tape_state (hr.mono (by omega)) (takes_of rfl rfl rfl rfl) (je_fld (je_var 0) T.k_Desk T.na_Desk_tape)) je_int) ja_nil)))))
abbrev N_Tape_to : List Str := ["self", "moment"]
theorem sc_Tape_to : FnScope N_Tape_to ["self", "moment"] (defScope s_Tape_to) := ⟨rfl, rfl, rfl, by decide +kernel, rfl, by decide +kernel, by decide +kernel⟩
theorem cal_Tape_to {P : Program} {w : PySem.World} {K : PySem.W.Frag} {mg : Str → Option Value} {base : Heap} (T : Top w K mg) (D : MetAt K "Tape" "to" "Tape.to" s_Tape_to) (c_Tape_at : MCal P w K mg base "Tape" "at" 26 G_Tape_at) : MCal P w K mg base "Tape" "to" 27 G_Tape_to :=
  mcal_mk D sc_Tape_to (fun _ _ _ _ _ _ us hl => match us, hl with | [_, _], _ => rfl) fun cdv A outer s H E hr =>
    (jss_cons (js_expr (je_mcall c_Tape_at (hr.mono (by omega)) (takes_of rfl rfl rfl rfl) (je_var 0) (ja_cons (je_var 1) ja_nil)))
    (jss_one (js_fld (je_var 0) (je_var 1) T.k_Tape T.na_Tape_here)))
abbrev N_Tape_end : List Str := ["self"]
theorem sc_Tape_end : FnScope N_Tape_end ["self"] (defScope s_Tape_end) := ⟨rfl, rfl, rfl, by decide +kernel, rfl, by decide +kernel, by decide +kernel⟩
theorem cal_Tape_end {P : Program} {w : PySem.World} {K : PySem.W.Frag} {mg : Str → Option Value} {base : Heap} (T : Top w K mg) (D : MetAt K "Tape" "end" "Tape.end" s_Tape_end) (c_Tape_came : MCal P w K mg base "Tape" "came" 25 G_Tape_came) : MCal P w K mg base "Tape" "end" 26 G_Tape_end :=
  mcal_mk D sc_Tape_end (fun _ _ _ _ _ _ us hl => match us, hl with | [_], _ => rfl) fun cdv A outer s H E hr =>
    (jss_cons (js_if (jt_isN (je_fld (je_var 0) T.k_Tape T.na_Tape_last))
    (jss_one (js_fld (je_var 0) (je_ix ix_seq l_ix (je_mcall c_Tape_came (hr.mono (by omega)) (takes_of rfl rfl rfl rfl) (je_var 0) (ja_cons (je_fld (je_var 0) T.k_Tape T.na_Tape_most) ja_nil)) je_int) T.k_Tape T.na_Tape_last))
    jss_nil)
    (jss_one (js_ret (je_fld (je_var 0) T.k_Tape T.na_Tape_last))))
abbrev N_sum_at : List Str := ["tape", "moment", "asked_sum"]
theorem sc_sum_at : FnScope N_sum_at ["tape", "moment", "asked_sum"] (defScope s_sum_at) := ⟨rfl, rfl, rfl, by decide +kernel, rfl, by decide +kernel, by decide +kernel⟩
theorem cal_sum_at {P : Program} {w : PySem.World} {K : PySem.W.Frag} {mg : Str → Option Value} {base : Heap} (T : Top w K mg) (D : DefAt K mg "sum_at" s_sum_at) (c_Tape_at : MCal P w K mg base "Tape" "at" 26 G_Tape_at) (c_reckoned : Cal P w K mg base "reckoned" 22 G_reckoned) : Cal P w K mg base "sum_at" 27 G_sum_at :=
  cal_mk D sc_sum_at (fun _ _ _ _ _ _ us hl => match us, hl with | [_, _, _], _ => rfl) fun cdv A outer s H E hr =>
    (jss_one (js_ret (je_call c_reckoned (hr.mono (by omega)) (takes_of rfl rfl rfl rfl) (ja_cons (je_var 2) (ja_cons (je_mcall c_Tape_at (hr.mono (by omega)) (takes_of rfl rfl rfl rfl) (je_var 0) (ja_cons (je_var 1) ja_nil)) ja_nil)))))
abbrev N_next_so : List Str := ["tape", "moment", "asked_sum"]
theorem sc_next_so : FnScope N_next_so ["tape", "moment", "asked_sum"] (defScope s_next_so) := ⟨rfl, rfl, rfl, by decide +kernel, rfl, by decide +kernel, by decide +kernel⟩
theorem cal_next_so {P : Program} {w : PySem.World} {K : PySem.W.Frag} {mg : Str → Option Value} {base : Heap} (T : Top w K mg) (D : DefAt K mg "next_so" s_next_so) (c_Tape_at : MCal P w K mg base "Tape" "at" 26 G_Tape_at) (c_Tape_end : MCal P w K mg base "Tape" "end" 26 G_Tape_end) (c_sum_at : Cal P w K mg base "sum_at" 27 G_sum_at) : Cal P w K mg base "next_so" 28 G_next_so :=
  cal_mk D sc_next_so (fun _ _ _ _ _ _ us hl => match us, hl with | [_, _, _], _ => rfl) fun cdv A outer s H E hr =>
    (jss_cons (js_expr (je_mcall c_Tape_at (hr.mono (by omega)) (takes_of rfl rfl rfl rfl) (je_var 0) (ja_cons (je_var 1) ja_nil)))
    (jss_cons (js_while 100000 (passes_of rfl) (jt_cmp op_le l_cmp (je_var 1) (je_mcall0 c_Tape_end (hr.mono (by omega)) (takes_of rfl rfl rfl rfl) (je_var 0)))
    (jss_cons (js_if (jt_cmp (op_neD (hu64 hr)) l_ne (je_call c_sum_at (hr.mono (by omega)) (takes_of rfl rfl rfl rfl) (ja_cons (je_var 0) (ja_cons (je_var 1) (ja_cons (je_var 2) ja_nil)))) je_int)
    (jss_one (js_ret (je_var 1)))
    jss_nil)
    (jss_one (js_set (i := 1) sc_next_so.nd (je_op or_add l_add (je_var 1) je_int)))))
    (jss_one (js_ret je_non))))
abbrev N_reads_of : List Str := ["asked_sum", "state", "word", "found"]
theorem sc_reads_of : FnScope N_reads_of ["asked_sum", "state"] (defScope s_reads_of) := ⟨rfl, rfl, rfl, by decide +kernel, rfl, by decide +kernel, by decide +kernel⟩
theorem cal_reads_of {P : Program} {w : PySem.World} {K : PySem.W.Frag} {mg : Str → Option Value} {base : Heap} (T : Top w K mg) (D : DefAt K mg "reads_of" s_reads_of) (c_reckoned : Cal P w K mg base "reckoned" 22 G_reckoned) : ∀ n, Cal P w K mg base "reads_of" (23 + n) (recN F_reads_of n)
  | 0 => cal_bad (k := 22) D sc_reads_of (fun _ _ _ _ _ _ us hl => match us, hl with | [_, _], _ => rfl)
  | n + 1 => by
    have c_reads_of := cal_reads_of (P := P) (w := w) (base := base) T D c_reckoned n
    have q : Cal P w K mg base "reads_of" (23 + n + 1) (F_reads_of (recN F_reads_of n)) := cal_mk D sc_reads_of (fun _ _ _ _ _ _ us hl => match us, hl with | [_, _], _ => rfl) fun cdv A outer s H E hr =>
    (jss_cons (js_set (i := 2) sc_reads_of.nd (je_ix ix_seq l_ix (je_var 0) je_int))
    (jss_cons (js_if (jt_cmp (op_eqD (hu64 hr)) l_eq (je_var 2) je_str)
    (jss_one (js_ret (je_lst ja_nil)))
    jss_nil)
    (jss_cons (js_if (jt_cmp (op_eqD (hu64 hr)) l_eq (je_var 2) je_str)
    (jss_one (js_ret (je_lst (ja_cons (je_ix ix_seq l_ix (je_var 0) je_int) ja_nil))))
    jss_nil)
    (jss_cons (js_set (i := 3) sc_reads_of.nd (je_call c_reads_of (hr.mono (by omega)) (takes_of rfl rfl rfl rfl) (ja_cons (je_ix ix_seq l_ix (je_var 0) je_int) (ja_cons (je_var 1) ja_nil))))
    (jss_cons (js_if (jt_cmp (op_eqD (hu64 hr)) l_eq (je_var 2) je_str)
    (jss_one (js_ret (je_op or_add l_add (je_var 3) (je_lst (ja_cons (je_op op_mod l_mod (je_call c_reckoned (hr.mono (by omega)) (takes_of rfl rfl rfl rfl) (ja_cons (je_ix ix_seq l_ix (je_var 0) je_int) (ja_cons (je_var 1) ja_nil))) (je_glob T.g_CELLS)) ja_nil)))))
    jss_nil)
    (jss_one (js_ret (je_op or_add l_add (je_var 3) (je_call c_reads_of (hr.mono (by omega)) (takes_of rfl rfl rfl rfl) (ja_cons (je_ix ix_seq l_ix (je_var 0) je_int) (ja_cons (je_var 1) ja_nil)))))))))))
    exact q
abbrev N_step_reads : List Str := ["tape", "moment", "state", "row"]
theorem sc_step_reads : FnScope N_step_reads ["tape", "moment"] (defScope s_step_reads) := ⟨rfl, rfl, rfl, by decide +kernel, rfl, by decide +kernel, by decide +kernel⟩
theorem cal_step_reads {P : Program} {w : PySem.World} {K : PySem.W.Frag} {mg : Str → Option Value} {base : Heap} (T : Top w K mg) (D : DefAt K mg "step_reads" s_step_reads) (c_Tape_at : MCal P w K mg base "Tape" "at" 26 G_Tape_at) (c_reads_of : Cal P w K mg base "reads_of" 43 G_reads_of) : Cal P w K mg base "step_reads" 44 G_step_reads :=
  cal_mk D sc_step_reads (fun _ _ _ _ _ _ us hl => match us, hl with | [_, _], _ => rfl) fun cdv A outer s H E hr =>
    (jss_cons (js_set (i := 2) sc_step_reads.nd (je_mcall c_Tape_at (hr.mono (by omega)) (takes_of rfl rfl rfl rfl) (je_var 0) (ja_cons (je_op op_sub l_sub (je_var 1) je_int) ja_nil)))
    (jss_cons (js_set (i := 3) sc_step_reads.nd (je_ix ix_seq l_ix (je_fld (je_var 0) T.k_Tape T.na_Tape_program) (je_ix ix_seq l_ix (je_var 2) je_int)))
    (jss_cons (js_if (jt_cmp (op_eqD (hu64 hr)) l_eq (je_ix ix_seq l_ix (je_var 3) je_int) je_str)
    (jss_one (js_ret (je_call c_reads_of (hr.mono (by omega)) (takes_of rfl rfl rfl rfl) (ja_cons (je_ix ix_seq l_ix (je_var 3) je_int) (ja_cons (je_var 2) ja_nil)))))
    jss_nil)
    (jss_one (js_ret (je_if (jt_cmp (op_eqD (hu64 hr)) l_eq (je_ix ix_seq l_ix (je_var 3) je_int) je_str) (je_op or_add l_add (je_call c_reads_of (hr.mono (by omega)) (takes_of rfl rfl rfl rfl) (ja_cons (je_ix ix_seq l_ix (je_var 3) je_int) (ja_cons (je_var 2) ja_nil))) (je_call c_reads_of (hr.mono (by omega)) (takes_of rfl rfl rfl rfl) (ja_cons (je_ix ix_seq l_ix (je_var 3) je_int) (ja_cons (je_var 2) ja_nil)))) (je_lst ja_nil)))))))
abbrev N_thing_written : List Str := ["tape", "moment", "told"]
theorem sc_thing_written : FnScope N_thing_written ["tape", "moment"] (defScope s_thing_written) := ⟨rfl, rfl, rfl, by decide +kernel, rfl, by decide +kernel, by decide +kernel⟩
theorem cal_thing_written {P : Program} {w : PySem.World} {K : PySem.W.Frag} {mg : Str → Option Value} {base : Heap} (T : Top w K mg) (D : DefAt K mg "thing_written" s_thing_written) (c_Tape_at : MCal P w K mg base "Tape" "at" 26 G_Tape_at) (c_written_by : Cal P w K mg base "written_by" 23 G_written_by) : Cal P w K mg base "thing_written" 27 G_thing_written :=
  cal_mk D sc_thing_written (fun _ _ _ _ _ _ us hl => match us, hl with | [_, _], _ => rfl) fun cdv A outer s H E hr =>
    (jss_cons (js_expr (je_mcall c_Tape_at (hr.mono (by omega)) (takes_of rfl rfl rfl rfl) (je_var 0) (ja_cons (je_var 1) ja_nil)))
    (jss_cons (js_set (i := 2) sc_thing_written.nd (je_call c_written_by (hr.mono (by omega)) (takes_of rfl rfl rfl rfl) (ja_cons (je_fld (je_var 0) T.k_Tape T.na_Tape_program) (ja_cons (je_fld (je_var 0) T.k_Tape T.na_Tape_asked) (ja_cons (je_mcall c_Tape_at (hr.mono (by omega)) (takes_of rfl rfl rfl rfl) (je_var 0) (ja_cons (je_op op_sub l_sub (je_var 1) je_int) ja_nil)) ja_nil)))))
    (jss_one (js_ret (je_if (jt_isN (je_var 2)) je_non (je_ix ix_seq l_ix (je_var 2) je_int))))))
abbrev N_reasonsU : List Str := ["tape", "moment", "asked_sum", "wanted", "found", "thing", "one"]
theorem sc_reasonsU : FnScope N_reasonsU ["tape", "moment", "asked_sum"] (defScope s_reasonsU) := ⟨rfl, rfl, rfl, by decide +kernel, rfl, by decide +kernel, by decide +kernel⟩
theorem cal_reasonsU {P : Program} {w : PySem.World} {K : PySem.W.Frag} {mg : Str → Option Value} {base : Heap} (T : Top w K mg) (D : DefAt K mg "reasons" s_reasonsU) (c_Tape_at : MCal P w K mg base "Tape" "at" 26 G_Tape_at) (c_reads_of : Cal P w K mg base "reads_of" 43 G_reads_of) (c_step_reads : Cal P w K mg base "step_reads" 44 G_step_reads) (c_thing_written : Cal P w K mg base "thing_written" 27 G_thing_written) : Cal P w K mg base "reasons" 45 G_reasonsU :=
  cal_mk D sc_reasonsU (fun _ _ _ _ _ _ us hl => match us, hl with | [_, _, _], _ => rfl) fun cdv A outer s H E hr =>
    (jss_cons (js_set (i := 3) sc_reasonsU.nd (je_call c_reads_of (hr.mono (by omega)) (takes_of rfl rfl rfl rfl) (ja_cons (je_var 2) (ja_cons (je_mcall c_Tape_at (hr.mono (by omega)) (takes_of rfl rfl rfl rfl) (je_var 0) (ja_cons (je_var 1) ja_nil)) ja_nil))))
    (jss_cons (js_set (i := 4) sc_reasonsU.nd (je_new ja_nil))
    (jss_cons (js_while 100000 (passes_of rfl) (JW.jt (jw_and (jt_cmp op_gt l_cmp (je_var 1) je_int) (jw_and1 (jt_cmp (op_neD (hu64 hr)) l_ne (je_var 3) (je_lst ja_nil)))))
    (jss_cons (js_set (i := 5) sc_reasonsU.nd (je_call c_thing_written (hr.mono (by omega)) (takes_of rfl rfl rfl rfl) (ja_cons (je_var 0) (ja_cons (je_var 1) ja_nil))))
    (jss_cons (js_if (JW.jt (jw_and (jt_notN (je_var 5)) (jw_and1 (jt_cmp (or_in (hu65 (by omega) hr)) l_in (je_var 5) (je_var 3)))))
    (jss_cons (js_expr (je_app (je_var 4) (je_var 1)))
    (jss_one (js_set (i := 3) sc_reasonsU.nd (je_op or_add l_add (je_comp [("one", 6)] rfl sc_reasonsU.nd (ji_lst (je_var 3)) (blkOk_by (N := N_reasonsU) (sc := defScope s_reasonsU) (by decide +kernel)) (fun _ _ _ _ _ => (jg_name sc_reasonsU.nd)) (by decide) (fun _ _ _ _ _ => (jts_one (jt_cmp (op_neD (hu64 hr)) l_ne (je_var 6) (je_var 5)))) (fun _ _ _ _ _ => (je_var 6))) (je_call c_step_reads (hr.mono (by omega)) (takes_of rfl rfl rfl rfl) (ja_cons (je_var 0) (ja_cons (je_var 1) ja_nil)))))))
    jss_nil)
    (jss_one (js_set (i := 1) sc_reasonsU.nd (je_op op_sub l_sub (je_var 1) je_int))))))
    (jss_ice (i := 4) (jss_one (js_ret (je_rev (je_var 4))))))))
abbrev N_Desk_by_sum : List Str := ["self", "word", "asked_sum", "here", "found", "moment"]
theorem sc_Desk_by_sum : FnScope N_Desk_by_sum ["self", "word", "asked_sum"] (defScope s_Desk_by_sum) := ⟨rfl, rfl, rfl, by decide +kernel, rfl, by decide +kernel, by decide +kernel⟩
theorem cal_Desk_by_sum {P : Program} {w : PySem.World} {K : PySem.W.Frag} {mg : Str → Option Value} {base : Heap} (T : Top w K mg) (D : MetAt K "Desk" "by_sum" "Desk.by_sum" s_Desk_by_sum) (c_Desk_where : MCal P w K mg base "Desk" "where" 28 G_Desk_where) (c_Tape_moment : MCal P w K mg base "Tape" "moment" 2 G_Tape_moment) (c_Tape_to : MCal P w K mg base "Tape" "to" 27 G_Tape_to) (c_next_so : Cal P w K mg base "next_so" 28 G_next_so) (c_reasonsU : Cal P w K mg base "reasons" 45 G_reasonsU) (c_sum_at : Cal P w K mg base "sum_at" 27 G_sum_at) : MCal P w K mg base "Desk" "by_sum" 46 G_Desk_by_sum :=
  mcal_mk D sc_Desk_by_sum (fun _ _ _ _ _ _ us hl => match us, hl with | [_, _, _], _ => rfl) fun cdv A outer s H E hr =>
    (jss_cons (js_set (i := 3) sc_Desk_by_sum.nd (je_mcall0 c_Tape_moment (hr.mono (by omega)) (takes_of rfl rfl rfl rfl) (je_fld (je_var 0) T.k_Desk T.na_Desk_tape)))
    (jss_cons (js_if (jt_cmp (op_eqD (hu64 hr)) l_eq (je_var 1) je_str)
    (jss_one (js_ret (je_callTy call_str_int l_str T.f_str (ja_cons (je_call c_sum_at (hr.mono (by omega)) (takes_of rfl rfl rfl rfl) (ja_cons (je_fld (je_var 0) T.k_Desk T.na_Desk_tape) (ja_cons (je_var 3) (ja_cons (je_var 2) ja_nil)))) ja_nil))))
    jss_nil)
    (jss_cons (js_if (jt_cmp (op_eqD (hu64 hr)) l_eq (je_var 1) je_str)
    (jss_one (js_ret (je_join je_str (je_op or_add l_add (je_lst (ja_cons je_str ja_nil)) (je_comp [("moment", 5)] rfl sc_Desk_by_sum.nd (ji_lst (je_call c_reasonsU (hr.mono (by omega)) (takes_of rfl rfl rfl rfl) (ja_cons (je_fld (je_var 0) T.k_Desk T.na_Desk_tape) (ja_cons (je_var 3) (ja_cons (je_var 2) ja_nil))))) (blkOk_by (N := N_Desk_by_sum) (sc := defScope s_Desk_by_sum) (by decide +kernel)) (fun _ _ _ _ _ => (jg_name sc_Desk_by_sum.nd)) (by decide) (fun _ _ _ _ _ => jts_nil) (fun _ _ _ _ _ => (je_callTy call_str_int l_str T.f_str (ja_cons (je_var 5) ja_nil))))))))
    jss_nil)
    (jss_cons (js_set (i := 4) sc_Desk_by_sum.nd (je_call c_next_so (hr.mono (by omega)) (takes_of rfl rfl rfl rfl) (ja_cons (je_fld (je_var 0) T.k_Desk T.na_Desk_tape) (ja_cons (je_var 3) (ja_cons (je_var 2) ja_nil)))))
    (jss_cons (js_if (jt_isN (je_var 4))
    (jss_one (js_ret je_str))
    jss_nil)
    (jss_cons (js_expr (je_mcall c_Tape_to (hr.mono (by omega)) (takes_of rfl rfl rfl rfl) (je_fld (je_var 0) T.k_Desk T.na_Desk_tape) (ja_cons (je_var 4) ja_nil)))
    (jss_one (js_ret (je_mcall0 c_Desk_where (hr.mono (by omega)) (takes_of rfl rfl rfl rfl) (je_var 0))))))))))
abbrev N_Tape_back : List Str := ["self", "many", "before"]
theorem sc_Tape_back : FnScope N_Tape_back ["self", "many"] (defScope s_Tape_back) := ⟨rfl, rfl, rfl, by decide +kernel, rfl, by decide +kernel, by decide +kernel⟩
theorem cal_Tape_back {P : Program} {w : PySem.World} {K : PySem.W.Frag} {mg : Str → Option Value} {base : Heap} (T : Top w K mg) (D : MetAt K "Tape" "back" "Tape.back" s_Tape_back) : MCal P w K mg base "Tape" "back" 2 G_Tape_back :=
  mcal_mk D sc_Tape_back (fun _ _ _ _ _ _ us hl => match us, hl with | [_, _], _ => rfl) fun cdv A outer s H E hr =>
    (jss_cons (js_set (i := 2) sc_Tape_back.nd (je_fld (je_var 0) T.k_Tape T.na_Tape_here))
    (jss_cons (js_fld (je_var 0) (je_callB (call_max2 rfl) l_max2 T.f_max (ja_cons (je_op op_sub l_sub (je_fld (je_var 0) T.k_Tape T.na_Tape_here) (je_var 1)) (ja_cons je_int ja_nil))) T.k_Tape T.na_Tape_here)
    (jss_one (js_ret (je_op op_sub l_sub (je_var 2) (je_fld (je_var 0) T.k_Tape T.na_Tape_here))))))
abbrev N_Tape_go : List Str := ["self", "many", "before"]
theorem sc_Tape_go : FnScope N_Tape_go ["self", "many"] (defScope s_Tape_go) := ⟨rfl, rfl, rfl, by decide +kernel, rfl, by decide +kernel, by decide +kernel⟩
theorem cal_Tape_go {P : Program} {w : PySem.World} {K : PySem.W.Frag} {mg : Str → Option Value} {base : Heap} (T : Top w K mg) (D : MetAt K "Tape" "go" "Tape.go" s_Tape_go) (c_Tape_end : MCal P w K mg base "Tape" "end" 26 G_Tape_end) : MCal P w K mg base "Tape" "go" 27 G_Tape_go :=
  mcal_mk D sc_Tape_go (fun _ _ _ _ _ _ us hl => match us, hl with | [_, _], _ => rfl) fun cdv A outer s H E hr =>
    (jss_cons (js_set (i := 2) sc_Tape_go.nd (je_fld (je_var 0) T.k_Tape T.na_Tape_here))
    (jss_cons (js_fld (je_var 0) (je_callB (call_min2 rfl) l_min2 T.f_min (ja_cons (je_op or_add l_add (je_fld (je_var 0) T.k_Tape T.na_Tape_here) (je_var 1)) (ja_cons (je_mcall0 c_Tape_end (hr.mono (by omega)) (takes_of rfl rfl rfl rfl) (je_var 0)) ja_nil))) T.k_Tape T.na_Tape_here)
    (jss_one (js_ret (je_op op_sub l_sub (je_fld (je_var 0) T.k_Tape T.na_Tape_here) (je_var 2))))))
abbrev N_Words___init__ : List Str := ["self", "text"]
theorem sc_Words___init__ : FnScope N_Words___init__ ["self", "text"] (defScope s_Words___init__) := ⟨rfl, rfl, rfl, by decide +kernel, rfl, by decide +kernel, by decide +kernel⟩
theorem cal_Words___init__ {P : Program} {w : PySem.World} {K : PySem.W.Frag} {mg : Str → Option Value} {base : Heap} (T : Top w K mg) (D : IniAt K mg "Words" "Words.__init__" s_Words___init__) : KCal P w K mg base "Words" 2 G_Words___init__ :=
  kcal_mk D sc_Words___init__ (fun _ _ _ _ _ _ us hl => match us, hl with | [_, _], _ => rfl) fun cdv A outer s H E hr =>
    (jss_one (js_fld (je_var 0) (je_revNew (je_split (je_var 1) je_str)) T.k_Words T.na_Words_left))
abbrev N_Words_word : List Str := ["self"]
theorem sc_Words_word : FnScope N_Words_word ["self"] (defScope s_Words_word) := ⟨rfl, rfl, rfl, by decide +kernel, rfl, by decide +kernel, by decide +kernel⟩
theorem cal_Words_word {P : Program} {w : PySem.World} {K : PySem.W.Frag} {mg : Str → Option Value} {base : Heap} (T : Top w K mg) (D : MetAt K "Words" "word" "Words.word" s_Words_word) : MCal P w K mg base "Words" "word" 2 G_Words_word :=
  mcal_mk D sc_Words_word (fun _ _ _ _ _ _ us hl => match us, hl with | [_], _ => rfl) fun cdv A outer s H E hr =>
    (jss_cons (js_if (jt_cmp (op_eqD (hu64 hr)) l_eqS (je_fld (je_var 0) T.k_Words T.na_Words_left) (je_lst ja_nil))
    (jss_one (js_raise (k := .text) rfl (takes_of rfl rfl rfl rfl) T.e_text rfl rfl))
    jss_nil)
    (jss_one (js_ret (je_pop (je_fld (je_var 0) T.k_Words T.na_Words_left)))))
abbrev N_Words_number : List Str := ["self", "word", "sign"]
theorem sc_Words_number : FnScope N_Words_number ["self"] (defScope s_Words_number) := ⟨rfl, rfl, rfl, by decide +kernel, rfl, by decide +kernel, by decide +kernel⟩
theorem cal_Words_number {P : Program} {w : PySem.World} {K : PySem.W.Frag} {mg : Str → Option Value} {base : Heap} (T : Top w K mg) (D : MetAt K "Words" "number" "Words.number" s_Words_number) (c_Words_word : MCal P w K mg base "Words" "word" 2 G_Words_word) : MCal P w K mg base "Words" "number" 3 G_Words_number :=
  mcal_mk D sc_Words_number (fun _ _ _ _ _ _ us hl => match us, hl with | [_], _ => rfl) fun cdv A outer s H E hr =>
    (jss_cons (js_set (i := 1) sc_Words_number.nd (je_mcall0 c_Words_word (hr.mono (by omega)) (takes_of rfl rfl rfl rfl) (je_var 0)))
    (jss_cons (js_if (JW.jt (jw_or (jt_not (jt_chain op_le op_le l_cmp l_cmp je_int (je_callB call_len l_len T.f_len (ja_cons (je_var 1) ja_nil)) je_int)) (jw_or1 (jt_not (jt_val (je_callB (cr_all rfl) l_all T.f_all (ja_cons (je_comp [("sign", 2)] rfl sc_Words_number.nd (ji_str (je_var 1)) (blkOk_by (N := N_Words_number) (sc := defScope s_Words_number) (by decide +kernel)) (fun _ _ _ _ _ => (jg_name sc_Words_number.nd)) (by decide) (fun _ _ _ _ _ => jts_nil) (fun _ _ _ _ _ => (je_cmp (or_in (hu65 (by omega) hr)) l_in (je_var 2) (je_glob T.g_FIGURES)))) ja_nil)))))))
    (jss_one (js_raise (k := .text) rfl (takes_of rfl rfl rfl rfl) T.e_text rfl rfl))
    jss_nil)
    (jss_one (js_ret (je_callTy call_int_str l_intS T.f_int (ja_cons (je_var 1) ja_nil))))))
abbrev N_is_mark : List Str := ["word", "sign"]
theorem sc_is_mark : FnScope N_is_mark ["word"] (defScope s_is_mark) := ⟨rfl, rfl, rfl, by decide +kernel, rfl, by decide +kernel, by decide +kernel⟩
theorem cal_is_mark {P : Program} {w : PySem.World} {K : PySem.W.Frag} {mg : Str → Option Value} {base : Heap} (T : Top w K mg) (D : DefAt K mg "is_mark" s_is_mark) : Cal P w K mg base "is_mark" 2 G_is_mark :=
  cal_mk D sc_is_mark (fun _ _ _ _ _ _ us hl => match us, hl with | [_], _ => rfl) fun cdv A outer s H E hr =>
    (jss_one (js_ret (je_and (je_chain op_le op_le l_cmp l_cmp je_int (je_callB call_len l_len T.f_len (ja_cons (je_var 0) ja_nil)) je_int) (je_one (je_callB (cr_all rfl) l_all T.f_all (ja_cons (je_comp [("sign", 1)] rfl sc_is_mark.nd (ji_str (je_var 0)) (blkOk_by (N := N_is_mark) (sc := defScope s_is_mark) (by decide +kernel)) (fun _ _ _ _ _ => (jg_name sc_is_mark.nd)) (by decide) (fun _ _ _ _ _ => jts_nil) (fun _ _ _ _ _ => (je_cmp (or_in (hu65 (by omega) hr)) l_in (je_var 1) (je_glob T.g_LETTERS)))) ja_nil))))))
abbrev N_is_name : List Str := ["thing"]
theorem sc_is_name : FnScope N_is_name ["thing"] (defScope s_is_name) := ⟨rfl, rfl, rfl, by decide +kernel, rfl, by decide +kernel, by decide +kernel⟩
theorem cal_is_name {P : Program} {w : PySem.World} {K : PySem.W.Frag} {mg : Str → Option Value} {base : Heap} (T : Top w K mg) (D : DefAt K mg "is_name" s_is_name) : Cal P w K mg base "is_name" 2 G_is_name :=
  cal_mk D sc_is_name (fun _ _ _ _ _ _ us hl => match us, hl with | [_], _ => rfl) fun cdv A outer s H E hr =>
    (jss_one (js_ret (je_and (je_isT .str (je_var 0) T.f_isinstance T.f_str) (je_and (je_cmp (op_eqD (hu64 hr)) l_eq (je_callB call_len l_len T.f_len (ja_cons (je_var 0) ja_nil)) je_int) (je_one (je_cmp (or_in (hu65 (by omega) hr)) l_in (je_var 0) (je_glob T.g_NAMES)))))))
abbrev N_is_thing : List Str := ["thing"]
theorem sc_is_thing : FnScope N_is_thing ["thing"] (defScope s_is_thing) := ⟨rfl, rfl, rfl, by decide +kernel, rfl, by decide +kernel, by decide +kernel⟩
theorem cal_is_thing {P : Program} {w : PySem.World} {K : PySem.W.Frag} {mg : Str → Option Value} {base : Heap} (T : Top w K mg) (D : DefAt K mg "is_thing" s_is_thing) (c_is_name : Cal P w K mg base "is_name" 2 G_is_name) : Cal P w K mg base "is_thing" 3 G_is_thing :=
  cal_mk D sc_is_thing (fun _ _ _ _ _ _ us hl => match us, hl with | [_], _ => rfl) fun cdv A outer s H E hr =>
    (jss_cons (js_if (JW.jt (jw_and (jt_val (je_isT .int (je_var 0) T.f_isinstance T.f_int)) (jw_and1 (jt_not (jt_val (je_isT .bool (je_var 0) T.f_isinstance T.f_bool))))))
    (jss_one (js_ret (je_chain op_le op_lt l_cmp l_cmp je_int (je_var 0) (je_glob T.g_CELLS))))
    jss_nil)
    (jss_one (js_ret (je_call c_is_name (hr.mono (by omega)) (takes_of rfl rfl rfl rfl) (ja_cons (je_var 0) ja_nil)))))
abbrev N_need_thing : List Str := ["thing"]
theorem sc_need_thing : FnScope N_need_thing ["thing"] (defScope s_need_thing) := ⟨rfl, rfl, rfl, by decide +kernel, rfl, by decide +kernel, by decide +kernel⟩
theorem cal_need_thing {P : Program} {w : PySem.World} {K : PySem.W.Frag} {mg : Str → Option Value} {base : Heap} (T : Top w K mg) (D : DefAt K mg "need_thing" s_need_thing) (c_is_thing : Cal P w K mg base "is_thing" 3 G_is_thing) : Cal P w K mg base "need_thing" 4 G_need_thing :=
  cal_mk D sc_need_thing (fun _ _ _ _ _ _ us hl => match us, hl with | [_], _ => rfl) fun cdv A outer s H E hr =>
    (jss_one (js_if (jt_not (jt_val (je_call c_is_thing (hr.mono (by omega)) (takes_of rfl rfl rfl rfl) (ja_cons (je_var 0) ja_nil))))
    (jss_one (js_raise (k := .thing) rfl (takes_of rfl rfl rfl rfl) T.e_thing rfl rfl))
    jss_nil))
abbrev N_worth_of : List Str := ["state", "thing"]
theorem sc_worth_of : FnScope N_worth_of ["state", "thing"] (defScope s_worth_of) := ⟨rfl, rfl, rfl, by decide +kernel, rfl, by decide +kernel, by decide +kernel⟩
theorem cal_worth_of {P : Program} {w : PySem.World} {K : PySem.W.Frag} {mg : Str → Option Value} {base : Heap} (T : Top w K mg) (D : DefAt K mg "worth_of" s_worth_of) : Cal P w K mg base "worth_of" 2 G_worth_of :=
  cal_mk D sc_worth_of (fun _ _ _ _ _ _ us hl => match us, hl with | [_, _], _ => rfl) fun cdv A outer s H E hr =>
    (jss_one (js_ret (je_if (jt_val (je_isT .int (je_var 1) T.f_isinstance T.f_int)) (je_ix ix_seq l_ix (je_ix ix_seq l_ix (je_var 0) je_int) (je_var 1)) (je_ix ix_seq l_ix (je_ix ix_seq l_ix (je_var 0) je_int) (je_sidx (je_glob T.g_NAMES) (je_var 1))))))
abbrev N_changes : List Str := ["tape", "thing", "worths", "moment", "at"]
theorem sc_changes : FnScope N_changes ["tape", "thing"] (defScope s_changes) := ⟨rfl, rfl, rfl, by decide +kernel, rfl, by decide +kernel, by decide +kernel⟩
theorem cal_changes {P : Program} {w : PySem.World} {K : PySem.W.Frag} {mg : Str → Option Value} {base : Heap} (T : Top w K mg) (D : DefAt K mg "changes" s_changes) (c_Tape_at : MCal P w K mg base "Tape" "at" 26 G_Tape_at) (c_Tape_end : MCal P w K mg base "Tape" "end" 26 G_Tape_end) (c_need_thing : Cal P w K mg base "need_thing" 4 G_need_thing) (c_worth_of : Cal P w K mg base "worth_of" 2 G_worth_of) : Cal P w K mg base "changes" 27 G_changes :=
  cal_mk D sc_changes (fun _ _ _ _ _ _ us hl => match us, hl with | [_, _], _ => rfl) fun cdv A outer s H E hr =>
    (jss_cons (js_expr (je_call c_need_thing (hr.mono (by omega)) (takes_of rfl rfl rfl rfl) (ja_cons (je_var 1) ja_nil)))
    (jss_cons (js_set (i := 2) sc_changes.nd (je_comp [("moment", 3)] rfl sc_changes.nd (ji_range1 T.f_range (je_op or_add l_add (je_mcall0 c_Tape_end (hr.mono (by omega)) (takes_of rfl rfl rfl rfl) (je_var 0)) je_int)) (blkOk_by (N := N_changes) (sc := defScope s_changes) (by decide +kernel)) (fun _ _ _ _ _ => (jg_name sc_changes.nd)) (by decide) (fun _ _ _ _ _ => jts_nil) (fun _ _ _ _ _ => (je_call c_worth_of (hr.mono (by omega)) takes0 (ja_cons (je_mcall c_Tape_at (hr.mono (by omega)) takes0 (je_var 0) (ja_cons (je_var 3) ja_nil)) (ja_cons (je_var 1) ja_nil))))))
    (jss_one (js_ret (je_comp [("at", 4)] rfl sc_changes.nd (ji_range2 T.f_range je_int (je_callB call_len l_len T.f_len (ja_cons (je_var 2) ja_nil))) (blkOk_by (N := N_changes) (sc := defScope s_changes) (by decide +kernel)) (fun _ _ _ _ _ => (jg_name sc_changes.nd)) (by decide) (fun _ _ _ _ _ => (jts_one (jt_cmp (op_neD (hu64 hr)) l_ne (je_ix ix_seq l_ix (je_var 2) (je_var 4)) (je_ix ix_seq l_ix (je_var 2) (je_op op_sub l_sub (je_var 4) je_int))))) (fun _ _ _ _ _ => (je_var 4)))))))
abbrev N_last_change : List Str := ["tape", "moment", "thing", "found", "one"]
theorem sc_last_change : FnScope N_last_change ["tape", "moment", "thing"] (defScope s_last_change) := ⟨rfl, rfl, rfl, by decide +kernel, rfl, by decide +kernel, by decide +kernel⟩
theorem cal_last_change {P : Program} {w : PySem.World} {K : PySem.W.Frag} {mg : Str → Option Value} {base : Heap} (T : Top w K mg) (D : DefAt K mg "last_change" s_last_change) (c_Tape_at : MCal P w K mg base "Tape" "at" 26 G_Tape_at) (c_changes : Cal P w K mg base "changes" 27 G_changes) : Cal P w K mg base "last_change" 28 G_last_change :=
  cal_mk D sc_last_change (fun _ _ _ _ _ _ us hl => match us, hl with | [_, _, _], _ => rfl) fun cdv A outer s H E hr =>
    (jss_cons (js_expr (je_mcall c_Tape_at (hr.mono (by omega)) (takes_of rfl rfl rfl rfl) (je_var 0) (ja_cons (je_var 1) ja_nil)))
    (jss_cons (js_setComp (i := 3) [("one", 4)] rfl sc_last_change.nd (ji_lst (je_call c_changes (hr.mono (by omega)) (takes_of rfl rfl rfl rfl) (ja_cons (je_var 0) (ja_cons (je_var 2) ja_nil)))) (blkOk_by (N := N_last_change) (sc := defScope s_last_change) (by decide +kernel)) (fun _ _ _ _ _ => (jg_name sc_last_change.nd)) (by decide) (fun _ _ _ _ _ => (jts_one (jt_cmp op_le l_cmp (je_var 4) (je_var 1)))) (fun _ _ _ _ _ => (je_var 4)))
    (jss_one (js_ret (je_if (jt_cmp (op_neD (hu64 hr)) l_ne (je_var 3) (je_lst ja_nil)) (je_ix ix_seq l_ix (je_var 3) (je_un un_neg l_neg je_int)) je_non)))))
abbrev N_Words_sum_in : List Str := ["self", "deep", "word", "one"]
theorem sc_Words_sum_in : FnScope N_Words_sum_in ["self", "deep"] (defScope s_Words_sum_in) := ⟨rfl, rfl, rfl, by decide +kernel, rfl, by decide +kernel, by decide +kernel⟩
theorem cal_Words_sum_in {P : Program} {w : PySem.World} {K : PySem.W.Frag} {mg : Str → Option Value} {base : Heap} (T : Top w K mg) (D : MetAt K "Words" "sum_in" "Words.sum_in" s_Words_sum_in) (c_Words_number : MCal P w K mg base "Words" "number" 3 G_Words_number) (c_Words_word : MCal P w K mg base "Words" "word" 2 G_Words_word) : ∀ n, MCal P w K mg base "Words" "sum_in" (4 + n) (recN F_Words_sum_in n)
  | 0 => mcal_bad (k := 3) D sc_Words_sum_in (fun _ _ _ _ _ _ us hl => match us, hl with | [_, _], _ => rfl)
  | n + 1 => by
    have c_Words_sum_in := cal_Words_sum_in (P := P) (w := w) (base := base) T D c_Words_number c_Words_word n
    have q : MCal P w K mg base "Words" "sum_in" (4 + n + 1) (F_Words_sum_in (recN F_Words_sum_in n)) := mcal_mk D sc_Words_sum_in (fun _ _ _ _ _ _ us hl => match us, hl with | [_, _], _ => rfl) fun cdv A outer s H E hr =>
    (jss_cons (js_if (JW.jt (jw_or (jt_cmp (op_eqD (hu64 hr)) l_eqS (je_fld (je_var 0) T.k_Words T.na_Words_left) (je_lst ja_nil)) (jw_or1 (jt_cmp (op_eqD (hu64 hr)) l_eq (je_var 1) je_int))))
    (jss_one (js_raise (k := .text) rfl (takes_of rfl rfl rfl rfl) T.e_text rfl rfl))
    jss_nil)
    (jss_cons (js_if (JW.jt (jw_and (jt_cmp (op_neD (hu64 hr)) l_ne (je_sl (je_ix ix_seq l_ix (je_fld (je_var 0) T.k_Words T.na_Words_left) (je_un un_neg l_neg je_int)) jo_none (jo_some je_int)) je_str) (jw_and1 (jt_cmp (or_in (hu65 (by omega) hr)) l_in (je_sl (je_ix ix_seq l_ix (je_fld (je_var 0) T.k_Words T.na_Words_left) (je_un un_neg l_neg je_int)) jo_none (jo_some je_int)) (je_glob T.g_FIGURES)))))
    (jss_one (js_ret (je_tup (ja_cons je_str (ja_cons (je_mcall0 c_Words_number (hr.mono (by omega)) (takes_of rfl rfl rfl rfl) (je_var 0)) ja_nil)))))
    jss_nil)
    (jss_cons (js_set (i := 2) sc_Words_sum_in.nd (je_mcall0 c_Words_word (hr.mono (by omega)) (takes_of rfl rfl rfl rfl) (je_var 0)))
    (jss_cons (js_if (jt_cmp (op_eqD (hu64 hr)) l_eq (je_var 2) je_str)
    (jss_one (js_ret (je_tup (ja_cons je_str (ja_cons (je_mcall c_Words_sum_in (hr.mono (by omega)) (takes_of rfl rfl rfl rfl) (je_var 0) (ja_cons (je_op op_sub l_sub (je_var 1) je_int) ja_nil)) ja_nil)))))
    jss_nil)
    (jss_cons (js_if (jt_cmp (or_notIn (hu65 (by omega) hr)) l_notIn (je_var 2) (je_glob T.g_WORDS))
    (jss_one (js_ret (je_tup (ja_cons je_str (ja_cons (je_var 2) ja_nil)))))
    jss_nil)
    (jss_cons (js_set (i := 3) sc_Words_sum_in.nd (je_mcall c_Words_sum_in (hr.mono (by omega)) (takes_of rfl rfl rfl rfl) (je_var 0) (ja_cons (je_op op_sub l_sub (je_var 1) je_int) ja_nil)))
    (jss_one (js_ret (je_tup (ja_cons (je_var 2) (ja_cons (je_var 3) (ja_cons (je_mcall c_Words_sum_in (hr.mono (by omega)) (takes_of rfl rfl rfl rfl) (je_var 0) (ja_cons (je_op op_sub l_sub (je_var 1) je_int) ja_nil)) ja_nil))))))))))))
    exact q
abbrev N_is_worth : List Str := ["thing"]
theorem sc_is_worth : FnScope N_is_worth ["thing"] (defScope s_is_worth) := ⟨rfl, rfl, rfl, by decide +kernel, rfl, by decide +kernel, by decide +kernel⟩
theorem cal_is_worth {P : Program} {w : PySem.World} {K : PySem.W.Frag} {mg : Str → Option Value} {base : Heap} (T : Top w K mg) (D : DefAt K mg "is_worth" s_is_worth) : Cal P w K mg base "is_worth" 2 G_is_worth :=
  cal_mk D sc_is_worth (fun _ _ _ _ _ _ us hl => match us, hl with | [_], _ => rfl) fun cdv A outer s H E hr =>
    (jss_one (js_ret (je_and (je_isT .int (je_var 0) T.f_isinstance T.f_int) (je_and (je_not (je_isT .bool (je_var 0) T.f_isinstance T.f_bool)) (je_one (je_chain op_le op_lt l_cmp l_cmp je_int (je_var 0) (je_glob T.g_SIZE)))))))
abbrev N_left_of : List Str := ["thing", "left"]
theorem sc_left_of : FnScope N_left_of ["thing", "left"] (defScope s_left_of) := ⟨rfl, rfl, rfl, by decide +kernel, rfl, by decide +kernel, by decide +kernel⟩
theorem cal_left_of {P : Program} {w : PySem.World} {K : PySem.W.Frag} {mg : Str → Option Value} {base : Heap} (T : Top w K mg) (D : DefAt K mg "left_of" s_left_of) (c_is_name : Cal P w K mg base "is_name" 2 G_is_name) (c_is_worth : Cal P w K mg base "is_worth" 2 G_is_worth) : ∀ n, Cal P w K mg base "left_of" (3 + n) (recN F_left_of n)
  | 0 => cal_bad (k := 2) D sc_left_of (fun _ _ _ _ _ _ us hl => match us, hl with | [_, _], _ => rfl)
  | n + 1 => by
    have c_left_of := cal_left_of (P := P) (w := w) (base := base) T D c_is_name c_is_worth n
    have q : Cal P w K mg base "left_of" (3 + n + 1) (F_left_of (recN F_left_of n)) := cal_mk D sc_left_of (fun _ _ _ _ _ _ us hl => match us, hl with | [_, _], _ => rfl) fun cdv A outer s H E hr =>
    (jss_cons (js_if (JW.jt (jw_or (jt_cmp op_le l_cmp (je_var 1) je_int) (jw_or (jt_not (jt_val (je_isT .tuple (je_var 0) T.f_isinstance T.f_tuple))) (jw_or (jt_cmp op_lt l_cmp (je_callB call_len l_len T.f_len (ja_cons (je_var 0) ja_nil)) je_int) (jw_or1 (jt_not (jt_val (je_isT .str (je_ix ix_seq l_ix (je_var 0) je_int) T.f_isinstance T.f_str))))))))
    (jss_one (js_ret (je_un un_neg l_neg je_int)))
    jss_nil)
    (jss_cons (js_if (jt_cmp (op_eqD (hu64 hr)) l_eq (je_ix ix_seq l_ix (je_var 0) je_int) je_str)
    (jss_one (js_ret (je_if (JW.jt (jw_and (jt_cmp (op_eqD (hu64 hr)) l_eq (je_callB call_len l_len T.f_len (ja_cons (je_var 0) ja_nil)) je_int) (jw_and1 (jt_val (je_call c_is_worth (hr.mono (by omega)) (takes_of rfl rfl rfl rfl) (ja_cons (je_ix ix_seq l_ix (je_var 0) je_int) ja_nil)))))) (je_op op_sub l_sub (je_var 1) je_int) (je_un un_neg l_neg je_int))))
    jss_nil)
    (jss_cons (js_if (jt_cmp (op_eqD (hu64 hr)) l_eq (je_ix ix_seq l_ix (je_var 0) je_int) je_str)
    (jss_one (js_ret (je_if (JW.jt (jw_and (jt_cmp (op_eqD (hu64 hr)) l_eq (je_callB call_len l_len T.f_len (ja_cons (je_var 0) ja_nil)) je_int) (jw_and1 (jt_val (je_call c_is_name (hr.mono (by omega)) (takes_of rfl rfl rfl rfl) (ja_cons (je_ix ix_seq l_ix (je_var 0) je_int) ja_nil)))))) (je_op op_sub l_sub (je_var 1) je_int) (je_un un_neg l_neg je_int))))
    jss_nil)
    (jss_cons (js_if (JW.jt (jw_and (jt_cmp (op_eqD (hu64 hr)) l_eq (je_ix ix_seq l_ix (je_var 0) je_int) je_str) (jw_and1 (jt_cmp (op_eqD (hu64 hr)) l_eq (je_callB call_len l_len T.f_len (ja_cons (je_var 0) ja_nil)) je_int))))
    (jss_one (js_ret (je_call c_left_of (hr.mono (by omega)) (takes_of rfl rfl rfl rfl) (ja_cons (je_ix ix_seq l_ix (je_var 0) je_int) (ja_cons (je_op op_sub l_sub (je_var 1) je_int) ja_nil)))))
    jss_nil)
    (jss_cons (js_if (JW.jt (jw_or (jt_cmp (or_notIn (hu65 (by omega) hr)) l_notIn (je_ix ix_seq l_ix (je_var 0) je_int) (je_glob T.g_WORDS)) (jw_or1 (jt_cmp (op_neD (hu64 hr)) l_ne (je_callB call_len l_len T.f_len (ja_cons (je_var 0) ja_nil)) je_int))))
    (jss_one (js_ret (je_un un_neg l_neg je_int)))
    jss_nil)
    (jss_one (js_ret (je_call c_left_of (hr.mono (by omega)) (takes_of rfl rfl rfl rfl) (ja_cons (je_ix ix_seq l_ix (je_var 0) je_int) (ja_cons (je_call c_left_of (hr.mono (by omega)) (takes_of rfl rfl rfl rfl) (ja_cons (je_ix ix_seq l_ix (je_var 0) je_int) (ja_cons (je_op op_sub l_sub (je_var 1) je_int) ja_nil))) ja_nil))))))))))
    exact q
abbrev N_is_sum : List Str := ["thing"]
theorem sc_is_sum : FnScope N_is_sum ["thing"] (defScope s_is_sum) := ⟨rfl, rfl, rfl, by decide +kernel, rfl, by decide +kernel, by decide +kernel⟩
theorem cal_is_sum {P : Program} {w : PySem.World} {K : PySem.W.Frag} {mg : Str → Option Value} {base : Heap} (T : Top w K mg) (D : DefAt K mg "is_sum" s_is_sum) (c_left_of : Cal P w K mg base "left_of" 23 G_left_of) : Cal P w K mg base "is_sum" 24 G_is_sum :=
  cal_mk D sc_is_sum (fun _ _ _ _ _ _ us hl => match us, hl with | [_], _ => rfl) fun cdv A outer s H E hr =>
    (jss_one (js_ret (je_cmp op_ge l_cmp (je_call c_left_of (hr.mono (by omega)) (takes_of rfl rfl rfl rfl) (ja_cons (je_var 0) (ja_cons (je_glob T.g_MOST_PARTS) ja_nil))) je_int)))
abbrev N_sum_words : List Str := ["asked_sum", "found", "part"]
theorem sc_sum_words : FnScope N_sum_words ["asked_sum"] (defScope s_sum_words) := ⟨rfl, rfl, rfl, by decide +kernel, rfl, by decide +kernel, by decide +kernel⟩
theorem cal_sum_words {P : Program} {w : PySem.World} {K : PySem.W.Frag} {mg : Str → Option Value} {base : Heap} (T : Top w K mg) (D : DefAt K mg "sum_words" s_sum_words) : ∀ n, Cal P w K mg base "sum_words" (2 + n) (recN F_sum_words n)
  | 0 => cal_bad (k := 1) D sc_sum_words (fun _ _ _ _ _ _ us hl => match us, hl with | [_], _ => rfl)
  | n + 1 => by
    have c_sum_words := cal_sum_words (P := P) (w := w) (base := base) T D n
    have q : Cal P w K mg base "sum_words" (2 + n + 1) (F_sum_words (recN F_sum_words n)) := cal_mk D sc_sum_words (fun _ _ _ _ _ _ us hl => match us, hl with | [_], _ => rfl) fun cdv A outer s H E hr =>
    (jss_cons (js_if (jt_cmp (or_in (hu65 (by omega) hr)) l_in (je_ix ix_seq l_ix (je_var 0) je_int) (je_tup (ja_cons je_str (ja_cons je_str ja_nil))))
    (jss_one (js_ret (je_lst (ja_cons (je_callTy call_str_any l_strT T.f_str (ja_cons (je_ix ix_seq l_ix (je_var 0) je_int) ja_nil)) ja_nil))))
    jss_nil)
    (jss_cons (js_set (i := 1) sc_sum_words.nd (je_lst (ja_cons (je_ix ix_seq l_ix (je_var 0) je_int) ja_nil)))
    (jss_cons (js_for (passes_of rfl) rfl (ji_tup (je_sl (je_var 0) (jo_some je_int) jo_none)) (jg_name sc_sum_words.nd)
    (jss_one (js_set (i := 1) sc_sum_words.nd (je_op or_add l_add (je_var 1) (je_call c_sum_words (hr.mono (by omega)) (takes_of rfl rfl rfl rfl) (ja_cons (je_var 2) ja_nil))))))
    (jss_one (js_ret (je_var 1))))))
    exact q
abbrev N_written_sum : List Str := ["asked_sum"]
theorem sc_written_sum : FnScope N_written_sum ["asked_sum"] (defScope s_written_sum) := ⟨rfl, rfl, rfl, by decide +kernel, rfl, by decide +kernel, by decide +kernel⟩
theorem cal_written_sum {P : Program} {w : PySem.World} {K : PySem.W.Frag} {mg : Str → Option Value} {base : Heap} (T : Top w K mg) (D : DefAt K mg "written_sum" s_written_sum) (c_sum_words : Cal P w K mg base "sum_words" 22 G_sum_words) : Cal P w K mg base "written_sum" 23 G_written_sum :=
  cal_mk D sc_written_sum (fun _ _ _ _ _ _ us hl => match us, hl with | [_], _ => rfl) fun cdv A outer s H E hr =>
    (jss_one (js_ret (je_join je_str (je_call c_sum_words (hr.mono (by omega)) (takes_of rfl rfl rfl rfl) (ja_cons (je_var 0) ja_nil)))))
abbrev N_read_sum : List Str := ["text", "words", "found"]
theorem sc_read_sum : FnScope N_read_sum ["text"] (defScope s_read_sum) := ⟨rfl, rfl, rfl, by decide +kernel, rfl, by decide +kernel, by decide +kernel⟩
theorem cal_read_sum {P : Program} {w : PySem.World} {K : PySem.W.Frag} {mg : Str → Option Value} {base : Heap} (T : Top w K mg) (D : DefAt K mg "read_sum" s_read_sum) (c_Words___init__ : KCal P w K mg base "Words" 2 G_Words___init__) (c_Words_sum_in : MCal P w K mg base "Words" "sum_in" 21 G_Words_sum_in) (c_is_sum : Cal P w K mg base "is_sum" 24 G_is_sum) (c_written_sum : Cal P w K mg base "written_sum" 23 G_written_sum) : Cal P w K mg base "read_sum" 25 G_read_sum :=
  Cal.trunc (F := F_read_sum) (cal_mk D sc_read_sum (fun _ _ _ _ _ _ us hl => match us, hl with | [_], _ => rfl) fun cdv A outer s H E hr =>
    (jss_cons (js_set (i := 1) sc_read_sum.nd (je_make c_Words___init__ (hr.mono (by omega)) (ja_cons (je_var 0) ja_nil)))
    (jss_cons (js_set (i := 2) sc_read_sum.nd (je_mcall c_Words_sum_in (hr.mono (by omega)) (takes_of rfl rfl rfl rfl) (je_var 1) (ja_cons (je_glob T.g_MOST_PARTS) ja_nil)))
    (jss_cons (js_if (JW.jt (jw_or (jt_cmp (op_neD (hu64 hr)) l_neS (je_fld (je_var 1) T.k_Words T.na_Words_left) (je_lst ja_nil)) (jw_or (jt_not (jt_val (je_call c_is_sum (hr.mono (by omega)) (takes_of rfl rfl rfl rfl) (ja_cons (je_var 2) ja_nil)))) (jw_or1 (jt_cmp (op_neD (hu64 hr)) l_ne (je_call c_written_sum (hr.mono (by omega)) (takes_of rfl rfl rfl rfl) (ja_cons (je_var 2) ja_nil)) (je_var 0))))))
    (jss_one (js_raise (k := .text) rfl (takes_of rfl rfl rfl rfl) T.e_text rfl rfl))
    jss_nil)
    (jss_one (js_ret (je_var 2)))))))
abbrev N_thing_in : List Str := ["word", "number"]
theorem sc_thing_in : FnScope N_thing_in ["word"] (defScope s_thing_in) := ⟨rfl, rfl, rfl, by decide +kernel, rfl, by decide +kernel, by decide +kernel⟩
theorem cal_thing_in {P : Program} {w : PySem.World} {K : PySem.W.Frag} {mg : Str → Option Value} {base : Heap} (T : Top w K mg) (D : DefAt K mg "thing_in" s_thing_in) : Cal P w K mg base "thing_in" 2 G_thing_in :=
  cal_mk D sc_thing_in (fun _ _ _ _ _ _ us hl => match us, hl with | [_], _ => rfl) fun cdv A outer s H E hr =>
    (jss_one (js_ret (je_if (jt_cmp (or_in (hu65 (by omega) hr)) l_in (je_var 0) (je_comp [("number", 1)] rfl sc_thing_in.nd (ji_range1 T.f_range (je_glob T.g_CELLS)) (blkOk_by (N := N_thing_in) (sc := defScope s_thing_in) (by decide +kernel)) (fun _ _ _ _ _ => (jg_name sc_thing_in.nd)) (by decide) (fun _ _ _ _ _ => jts_nil) (fun _ _ _ _ _ => (je_callTy call_str_int l_str T.f_str (ja_cons (je_var 1) ja_nil))))) (je_callTy call_int_str l_intS T.f_int (ja_cons (je_var 0) ja_nil)) (je_var 0))))
abbrev N_Desk_with_more : List Str := ["self", "word", "rest", "found", "number"]
theorem sc_Desk_with_more : FnScope N_Desk_with_more ["self", "word", "rest"] (defScope s_Desk_with_more) := ⟨rfl, rfl, rfl, by decide +kernel, rfl, by decide +kernel, by decide +kernel⟩
theorem cal_Desk_with_more {P : Program} {w : PySem.World} {K : PySem.W.Frag} {mg : Str → Option Value} {base : Heap} (T : Top w K mg) (D : MetAt K "Desk" "with_more" "Desk.with_more" s_Desk_with_more) (c_Desk_by_sum : MCal P w K mg base "Desk" "by_sum" 46 G_Desk_by_sum) (c_Desk_where : MCal P w K mg base "Desk" "where" 28 G_Desk_where) (c_Tape_back : MCal P w K mg base "Tape" "back" 2 G_Tape_back) (c_Tape_go : MCal P w K mg base "Tape" "go" 27 G_Tape_go) (c_Tape_moment : MCal P w K mg base "Tape" "moment" 2 G_Tape_moment) (c_Tape_to : MCal P w K mg base "Tape" "to" 27 G_Tape_to) (c_Words___init__ : KCal P w K mg base "Words" 2 G_Words___init__) (c_Words_number : MCal P w K mg base "Words" "number" 3 G_Words_number) (c_is_mark : Cal P w K mg base "is_mark" 2 G_is_mark) (c_last_change : Cal P w K mg base "last_change" 28 G_last_change) (c_read_sum : Cal P w K mg base "read_sum" 25 G_read_sum) (c_thing_in : Cal P w K mg base "thing_in" 2 G_thing_in) : MCal P w K mg base "Desk" "with_more" 47 G_Desk_with_more :=
  mcal_mk D sc_Desk_with_more (fun _ _ _ _ _ _ us hl => match us, hl with | [_, _, _], _ => rfl) fun cdv A outer s H E hr =>
    (jss_cons (js_if (jt_cmp (or_in (hu65 (by omega) hr)) l_in (je_var 1) (je_tup (ja_cons je_str (ja_cons je_str (ja_cons je_str ja_nil)))))
    (jss_one (js_ret (je_mcall c_Desk_by_sum (hr.mono (by omega)) (takes_of rfl rfl rfl rfl) (je_var 0) (ja_cons (je_var 1) (ja_cons (je_call c_read_sum (hr.mono (by omega)) (takes_of rfl rfl rfl rfl) (ja_cons (je_join je_str (je_var 2)) ja_nil)) ja_nil)))))
    jss_nil)
    (jss_cons (js_if (JW.jt (jw_or (jt_cmp (op_neD (hu64 hr)) l_ne (je_callB call_len l_len T.f_len (ja_cons (je_var 2) ja_nil)) je_int) (jw_or1 (jt_cmp (op_eqD (hu64 hr)) l_eq (je_ix ix_seq l_ix (je_var 2) je_int) je_str))))
    (jss_one (js_raise (k := .text) rfl (takes_of rfl rfl rfl rfl) T.e_text rfl rfl))
    jss_nil)
    (jss_cons (js_if (jt_cmp (op_eqD (hu64 hr)) l_eq (je_var 1) je_str)
    (jss_cons (js_set (i := 3) sc_Desk_with_more.nd (je_call c_last_change (hr.mono (by omega)) (takes_of rfl rfl rfl rfl) (ja_cons (je_fld (je_var 0) T.k_Desk T.na_Desk_tape) (ja_cons (je_mcall0 c_Tape_moment (hr.mono (by omega)) (takes_of rfl rfl rfl rfl) (je_fld (je_var 0) T.k_Desk T.na_Desk_tape)) (ja_cons (je_call c_thing_in (hr.mono (by omega)) (takes_of rfl rfl rfl rfl) (ja_cons (je_ix ix_seq l_ix (je_var 2) je_int) ja_nil)) ja_nil)))))
    (jss_one (js_ret (je_if (jt_isN (je_var 3)) je_str (je_callTy call_str_int l_str T.f_str (ja_cons (je_var 3) ja_nil))))))
    jss_nil)
    (jss_cons (js_if (JW.jt (jw_and (jt_cmp (op_eqD (hu64 hr)) l_eq (je_var 1) je_str) (jw_and1 (jt_val (je_call c_is_mark (hr.mono (by omega)) (takes_of rfl rfl rfl rfl) (ja_cons (je_ix ix_seq l_ix (je_var 2) je_int) ja_nil))))))
    (jss_cons (js_ldput (hu_of hr) (je_fld (je_var 0) T.k_Desk T.na_Desk_kept) (je_ix ix_seq l_ix (je_var 2) je_int) (je_mcall0 c_Tape_moment (hr.mono (by omega)) (takes_of rfl rfl rfl rfl) (je_fld (je_var 0) T.k_Desk T.na_Desk_tape)))
    (jss_one (js_ret je_str)))
    jss_nil)
    (jss_cons (js_if (JW.jt (jw_and (jt_cmp (op_eqD (hu64 hr)) l_eq (je_var 1) je_str) (jw_and1 (jt_ldin (hu_of hr) (je_ix ix_seq l_ix (je_var 2) je_int) (je_fld (je_var 0) T.k_Desk T.na_Desk_kept)))))
    (jss_cons (js_expr (je_mcall c_Tape_to (hr.mono (by omega)) (takes_of rfl rfl rfl rfl) (je_fld (je_var 0) T.k_Desk T.na_Desk_tape) (ja_cons (je_ldix (hu_of hr) (je_fld (je_var 0) T.k_Desk T.na_Desk_kept) (je_ix ix_seq l_ix (je_var 2) je_int)) ja_nil)))
    (jss_one (js_ret (je_mcall0 c_Desk_where (hr.mono (by omega)) (takes_of rfl rfl rfl rfl) (je_var 0)))))
    jss_nil)
    (jss_cons (js_if (jt_cmp (or_notIn (hu65 (by omega) hr)) l_notIn (je_var 1) (je_tup (ja_cons je_str (ja_cons je_str (ja_cons je_str ja_nil)))))
    (jss_one (js_raise (k := .text) rfl (takes_of rfl rfl rfl rfl) T.e_text rfl rfl))
    jss_nil)
    (jss_cons (js_set (i := 4) sc_Desk_with_more.nd (je_mcall0 c_Words_number (hr.mono (by omega)) (takes_of rfl rfl rfl rfl) (je_make c_Words___init__ (hr.mono (by omega)) (ja_cons (je_ix ix_seq l_ix (je_var 2) je_int) ja_nil))))
    (jss_cons (js_if (jt_cmp (op_eqD (hu64 hr)) l_eq (je_var 1) je_str)
    (jss_one (js_expr (je_mcall c_Tape_to (hr.mono (by omega)) (takes_of rfl rfl rfl rfl) (je_fld (je_var 0) T.k_Desk T.na_Desk_tape) (ja_cons (je_var 4) ja_nil))))
    (jss_one (js_if (jt_cmp (op_eqD (hu64 hr)) l_eq (je_var 1) je_str)
    (jss_one (js_expr (je_mcall c_Tape_go (hr.mono (by omega)) (takes_of rfl rfl rfl rfl) (je_fld (je_var 0) T.k_Desk T.na_Desk_tape) (ja_cons (je_var 4) ja_nil))))
    (jss_one (js_expr (je_mcall c_Tape_back (hr.mono (by omega)) (takes_of rfl rfl rfl rfl) (je_fld (je_var 0) T.k_Desk T.na_Desk_tape) (ja_cons (je_var 4) ja_nil)))))))
    (jss_one (js_ret (je_mcall0 c_Desk_where (hr.mono (by omega)) (takes_of rfl rfl rfl rfl) (je_var 0))))))))))))
abbrev N_depth : List Str := ["tape", "moment"]
theorem sc_depth : FnScope N_depth ["tape", "moment"] (defScope s_depth) := ⟨rfl, rfl, rfl, by decide +kernel, rfl, by decide +kernel, by decide +kernel⟩
theorem cal_depth {P : Program} {w : PySem.World} {K : PySem.W.Frag} {mg : Str → Option Value} {base : Heap} (T : Top w K mg) (D : DefAt K mg "depth" s_depth) (c_Tape_at : MCal P w K mg base "Tape" "at" 26 G_Tape_at) : Cal P w K mg base "depth" 27 G_depth :=
  cal_mk D sc_depth (fun _ _ _ _ _ _ us hl => match us, hl with | [_, _], _ => rfl) fun cdv A outer s H E hr =>
    (jss_one (js_ret (je_callB call_len l_len T.f_len (ja_cons (je_ix ix_seq l_ix (je_mcall c_Tape_at (hr.mono (by omega)) (takes_of rfl rfl rfl rfl) (je_var 0) (ja_cons (je_var 1) ja_nil)) je_int) ja_nil))))
abbrev N_back_out : List Str := ["tape", "moment", "here", "found", "one"]
theorem sc_back_out : FnScope N_back_out ["tape", "moment"] (defScope s_back_out) := ⟨rfl, rfl, rfl, by decide +kernel, rfl, by decide +kernel, by decide +kernel⟩
theorem cal_back_out {P : Program} {w : PySem.World} {K : PySem.W.Frag} {mg : Str → Option Value} {base : Heap} (T : Top w K mg) (D : DefAt K mg "back_out" s_back_out) (c_depth : Cal P w K mg base "depth" 27 G_depth) : Cal P w K mg base "back_out" 28 G_back_out :=
  cal_mk D sc_back_out (fun _ _ _ _ _ _ us hl => match us, hl with | [_, _], _ => rfl) fun cdv A outer s H E hr =>
    (jss_cons (js_set (i := 2) sc_back_out.nd (je_call c_depth (hr.mono (by omega)) (takes_of rfl rfl rfl rfl) (ja_cons (je_var 0) (ja_cons (je_var 1) ja_nil))))
    (jss_cons (js_setComp (i := 3) [("one", 4)] rfl sc_back_out.nd (ji_range1 T.f_range (je_var 1)) (blkOk_by (N := N_back_out) (sc := defScope s_back_out) (by decide +kernel)) (fun _ _ _ _ _ => (jg_name sc_back_out.nd)) (by decide) (fun _ _ _ _ _ => (jts_one (jt_cmp op_lt l_cmp (je_call c_depth (hr.mono (by omega)) takes0 (ja_cons (je_var 0) (ja_cons (je_var 4) ja_nil))) (je_var 2)))) (fun _ _ _ _ _ => (je_var 4)))
    (jss_one (js_ret (je_if (jt_cmp (op_neD (hu64 hr)) l_ne (je_var 3) (je_lst ja_nil)) (je_ix ix_seq l_ix (je_var 3) (je_un un_neg l_neg je_int)) je_int)))))
abbrev N_back_over : List Str := ["tape", "moment", "here", "found", "one"]
theorem sc_back_over : FnScope N_back_over ["tape", "moment"] (defScope s_back_over) := ⟨rfl, rfl, rfl, by decide +kernel, rfl, by decide +kernel, by decide +kernel⟩
theorem cal_back_over {P : Program} {w : PySem.World} {K : PySem.W.Frag} {mg : Str → Option Value} {base : Heap} (T : Top w K mg) (D : DefAt K mg "back_over" s_back_over) (c_depth : Cal P w K mg base "depth" 27 G_depth) : Cal P w K mg base "back_over" 28 G_back_over :=
  cal_mk D sc_back_over (fun _ _ _ _ _ _ us hl => match us, hl with | [_, _], _ => rfl) fun cdv A outer s H E hr =>
    (jss_cons (js_set (i := 2) sc_back_over.nd (je_call c_depth (hr.mono (by omega)) (takes_of rfl rfl rfl rfl) (ja_cons (je_var 0) (ja_cons (je_var 1) ja_nil))))
    (jss_cons (js_setComp (i := 3) [("one", 4)] rfl sc_back_over.nd (ji_range1 T.f_range (je_var 1)) (blkOk_by (N := N_back_over) (sc := defScope s_back_over) (by decide +kernel)) (fun _ _ _ _ _ => (jg_name sc_back_over.nd)) (by decide) (fun _ _ _ _ _ => (jts_one (jt_cmp op_le l_cmp (je_call c_depth (hr.mono (by omega)) takes0 (ja_cons (je_var 0) (ja_cons (je_var 4) ja_nil))) (je_var 2)))) (fun _ _ _ _ _ => (je_var 4)))
    (jss_one (js_ret (je_if (jt_cmp (op_neD (hu64 hr)) l_ne (je_var 3) (je_lst ja_nil)) (je_ix ix_seq l_ix (je_var 3) (je_un un_neg l_neg je_int)) je_int)))))
abbrev N_out : List Str := ["tape", "moment", "here", "found", "one"]
theorem sc_out : FnScope N_out ["tape", "moment"] (defScope s_out) := ⟨rfl, rfl, rfl, by decide +kernel, rfl, by decide +kernel, by decide +kernel⟩
theorem cal_out {P : Program} {w : PySem.World} {K : PySem.W.Frag} {mg : Str → Option Value} {base : Heap} (T : Top w K mg) (D : DefAt K mg "out" s_out) (c_Tape_end : MCal P w K mg base "Tape" "end" 26 G_Tape_end) (c_depth : Cal P w K mg base "depth" 27 G_depth) : Cal P w K mg base "out" 28 G_out :=
  cal_mk D sc_out (fun _ _ _ _ _ _ us hl => match us, hl with | [_, _], _ => rfl) fun cdv A outer s H E hr =>
    (jss_cons (js_set (i := 2) sc_out.nd (je_call c_depth (hr.mono (by omega)) (takes_of rfl rfl rfl rfl) (ja_cons (je_var 0) (ja_cons (je_var 1) ja_nil))))
    (jss_cons (js_setComp (i := 3) [("one", 4)] rfl sc_out.nd (ji_range2 T.f_range (je_op or_add l_add (je_var 1) je_int) (je_op or_add l_add (je_mcall0 c_Tape_end (hr.mono (by omega)) (takes_of rfl rfl rfl rfl) (je_var 0)) je_int)) (blkOk_by (N := N_out) (sc := defScope s_out) (by decide +kernel)) (fun _ _ _ _ _ => (jg_name sc_out.nd)) (by decide) (fun _ _ _ _ _ => (jts_one (jt_cmp op_lt l_cmp (je_call c_depth (hr.mono (by omega)) takes0 (ja_cons (je_var 0) (ja_cons (je_var 4) ja_nil))) (je_var 2)))) (fun _ _ _ _ _ => (je_var 4)))
    (jss_one (js_ret (je_if (jt_cmp (op_neD (hu64 hr)) l_ne (je_var 3) (je_lst ja_nil)) (je_ix ix_seq l_ix (je_var 3) je_int) (je_mcall0 c_Tape_end (hr.mono (by omega)) (takes_of rfl rfl rfl rfl) (je_var 0)))))))
abbrev N_over : List Str := ["tape", "moment", "here", "found", "one"]
theorem sc_over : FnScope N_over ["tape", "moment"] (defScope s_over) := ⟨rfl, rfl, rfl, by decide +kernel, rfl, by decide +kernel, by decide +kernel⟩
theorem cal_over {P : Program} {w : PySem.World} {K : PySem.W.Frag} {mg : Str → Option Value} {base : Heap} (T : Top w K mg) (D : DefAt K mg "over" s_over) (c_Tape_end : MCal P w K mg base "Tape" "end" 26 G_Tape_end) (c_depth : Cal P w K mg base "depth" 27 G_depth) : Cal P w K mg base "over" 28 G_over :=
  cal_mk D sc_over (fun _ _ _ _ _ _ us hl => match us, hl with | [_, _], _ => rfl) fun cdv A outer s H E hr =>
    (jss_cons (js_set (i := 2) sc_over.nd (je_call c_depth (hr.mono (by omega)) (takes_of rfl rfl rfl rfl) (ja_cons (je_var 0) (ja_cons (je_var 1) ja_nil))))
    (jss_cons (js_setComp (i := 3) [("one", 4)] rfl sc_over.nd (ji_range2 T.f_range (je_op or_add l_add (je_var 1) je_int) (je_op or_add l_add (je_mcall0 c_Tape_end (hr.mono (by omega)) (takes_of rfl rfl rfl rfl) (je_var 0)) je_int)) (blkOk_by (N := N_over) (sc := defScope s_over) (by decide +kernel)) (fun _ _ _ _ _ => (jg_name sc_over.nd)) (by decide) (fun _ _ _ _ _ => (jts_one (jt_cmp op_le l_cmp (je_call c_depth (hr.mono (by omega)) takes0 (ja_cons (je_var 0) (ja_cons (je_var 4) ja_nil))) (je_var 2)))) (fun _ _ _ _ _ => (je_var 4)))
    (jss_one (js_ret (je_if (jt_cmp (op_neD (hu64 hr)) l_ne (je_var 3) (je_lst ja_nil)) (je_ix ix_seq l_ix (je_var 3) je_int) (je_mcall0 c_Tape_end (hr.mono (by omega)) (takes_of rfl rfl rfl rfl) (je_var 0)))))))
abbrev N_Desk_done : List Str := ["self", "words"]
theorem sc_Desk_done : FnScope N_Desk_done ["self", "words"] (defScope s_Desk_done) := ⟨rfl, rfl, rfl, by decide +kernel, rfl, by decide +kernel, by decide +kernel⟩
theorem cal_Desk_done {P : Program} {w : PySem.World} {K : PySem.W.Frag} {mg : Str → Option Value} {base : Heap} (T : Top w K mg) (D : MetAt K "Desk" "done" "Desk.done" s_Desk_done) (c_Desk_where : MCal P w K mg base "Desk" "where" 28 G_Desk_where) (c_Desk_with_more : MCal P w K mg base "Desk" "with_more" 47 G_Desk_with_more) (c_Tape_end : MCal P w K mg base "Tape" "end" 26 G_Tape_end) (c_Tape_moment : MCal P w K mg base "Tape" "moment" 2 G_Tape_moment) (c_Tape_to : MCal P w K mg base "Tape" "to" 27 G_Tape_to) (c_back_out : Cal P w K mg base "back_out" 28 G_back_out) (c_back_over : Cal P w K mg base "back_over" 28 G_back_over) (c_out : Cal P w K mg base "out" 28 G_out) (c_over : Cal P w K mg base "over" 28 G_over) : MCal P w K mg base "Desk" "done" 48 G_Desk_done :=
  mcal_mk D sc_Desk_done (fun _ _ _ _ _ _ us hl => match us, hl with | [_, _], _ => rfl) fun cdv A outer s H E hr =>
    (jss_cons (js_if (JW.jt (jw_and (jt_cmp (op_eqD (hu64 hr)) l_eq (je_callB call_len l_len T.f_len (ja_cons (je_var 1) ja_nil)) je_int) (jw_and1 (jt_fin T.tf_MOVES (je_ix ix_seq l_ix (je_var 1) je_int)))))
    (jss_cons (js_expr (je_mcall c_Tape_to (hr.mono (by omega)) (takes_of rfl rfl rfl rfl) (je_fld (je_var 0) T.k_Desk T.na_Desk_tape) (ja_cons (je_fcall T.tf_MOVES (.cons c_over (by omega) (.cons c_out (by omega) (.cons c_back_over (by omega) (.cons c_back_out (by omega) .nil)))) hr (takes_of rfl rfl rfl rfl) (je_ix ix_seq l_ix (je_var 1) je_int) (ja_cons (je_fld (je_var 0) T.k_Desk T.na_Desk_tape) (ja_cons (je_mcall0 c_Tape_moment (hr.mono (by omega)) (takes_of rfl rfl rfl rfl) (je_fld (je_var 0) T.k_Desk T.na_Desk_tape)) ja_nil))) ja_nil)))
    (jss_one (js_ret (je_mcall0 c_Desk_where (hr.mono (by omega)) (takes_of rfl rfl rfl rfl) (je_var 0)))))
    jss_nil)
    (jss_cons (js_if (jt_cmp (op_eqD (hu64 hr)) l_eq (je_var 1) (je_lst (ja_cons je_str ja_nil)))
    (jss_one (js_ret (je_mcall0 c_Desk_where (hr.mono (by omega)) (takes_of rfl rfl rfl rfl) (je_var 0))))
    jss_nil)
    (jss_cons (js_if (jt_cmp (op_eqD (hu64 hr)) l_eq (je_var 1) (je_lst (ja_cons je_str ja_nil)))
    (jss_one (js_ret (je_callTy call_str_int l_str T.f_str (ja_cons (je_mcall0 c_Tape_end (hr.mono (by omega)) (takes_of rfl rfl rfl rfl) (je_fld (je_var 0) T.k_Desk T.na_Desk_tape)) ja_nil))))
    jss_nil)
    (jss_cons (js_if (jt_cmp op_lt l_cmp (je_callB call_len l_len T.f_len (ja_cons (je_var 1) ja_nil)) je_int)
    (jss_one (js_raise (k := .text) rfl (takes_of rfl rfl rfl rfl) T.e_text rfl rfl))
    jss_nil)
    (jss_one (js_ret (je_mcall c_Desk_with_more (hr.mono (by omega)) (takes_of rfl rfl rfl rfl) (je_var 0) (ja_cons (je_ix ix_seq l_ix (je_var 1) je_int) (ja_cons (je_sl (je_var 1) (jo_some je_int) jo_none) ja_nil)))))))))
abbrev N_Desk_say : List Str := ["self", "line"]
theorem sc_Desk_say : FnScope N_Desk_say ["self", "line"] (defScope s_Desk_say) := ⟨rfl, rfl, rfl, by decide +kernel, rfl, by decide +kernel, by decide +kernel⟩
theorem cal_Desk_say {P : Program} {w : PySem.World} {K : PySem.W.Frag} {mg : Str → Option Value} {base : Heap} (T : Top w K mg) (D : MetAt K "Desk" "say" "Desk.say" s_Desk_say) (c_Desk_done : MCal P w K mg base "Desk" "done" 48 G_Desk_done) : MCal P w K mg base "Desk" "say" 49 G_Desk_say :=
  mcal_mk D sc_Desk_say (fun _ _ _ _ _ _ us hl => match us, hl with | [_, _], _ => rfl) fun cdv A outer s H E hr =>
    (jss_one (js_tryH (l := [(.text, "no line"), (.moment, "no moment"), (.thing, "no thing")]) T.rs rfl rfl takes0 (fun W pn xe tk =>
    (jss_one (js_ret (je_mcall c_Desk_done (hr.mono (by omega)) tk (je_var 0) (ja_cons (je_split (je_var 1) je_str) ja_nil))))) (.cons (k := .text) (by decide) rfl (by decide) (.cons (k := .moment) (by decide) rfl (by decide) (.cons (k := .thing) (by decide) rfl (by decide) .nil)))))
abbrev N_l_cell : List Str := ["_law_script", "_law_k"]
theorem sc_l_cell : FnScope N_l_cell ["_law_script", "_law_k"] (defScope s_l_cell) := ⟨rfl, rfl, rfl, by decide +kernel, rfl, by decide +kernel, by decide +kernel⟩
theorem cal_l_cell {P : Program} {w : PySem.World} {K : PySem.W.Frag} {mg : Str → Option Value} {base : Heap} (T : Top w K mg) (D : DefAt K mg "_law_cell" s_l_cell) : Cal P w K mg base "_law_cell" 2 G_l_cell :=
  cal_mk D sc_l_cell (fun _ _ _ _ _ _ us hl => match us, hl with | [_, _], _ => rfl) fun cdv A outer s H E hr =>
    (jss_cons (js_if (jt_cmp (op_eqD (hu64 hr)) l_eq (je_var 0) (je_lst ja_nil))
    (jss_one (js_ret (je_op or_mul l_mul je_int (je_var 1))))
    jss_nil)
    (jss_one (js_ret (je_op or_add l_add (je_ix ix_seq l_ix (je_var 0) (je_op op_mod l_mod (je_var 1) (je_callB call_len l_len T.f_len (ja_cons (je_var 0) ja_nil)))) (je_op or_mul l_mul je_int (je_op op_fdiv l_div (je_var 1) (je_callB call_len l_len T.f_len (ja_cons (je_var 0) ja_nil))))))))
abbrev N_l_drawn : List Str := ["_law_script", "_law_k", "_law_many", "_law_cell_here"]
theorem sc_l_drawn : FnScope N_l_drawn ["_law_script", "_law_k", "_law_many"] (defScope s_l_drawn) := ⟨rfl, rfl, rfl, by decide +kernel, rfl, by decide +kernel, by decide +kernel⟩
theorem cal_l_drawn {P : Program} {w : PySem.World} {K : PySem.W.Frag} {mg : Str → Option Value} {base : Heap} (T : Top w K mg) (D : DefAt K mg "_law_drawn" s_l_drawn) (c_l_cell : Cal P w K mg base "_law_cell" 2 G_l_cell) : Cal P w K mg base "_law_drawn" 3 G_l_drawn :=
  cal_mk D sc_l_drawn (fun _ _ _ _ _ _ us hl => match us, hl with | [_, _, _], _ => rfl) fun cdv A outer s H E hr =>
    (jss_cons (js_set (i := 3) sc_l_drawn.nd (je_op op_mod l_mod (je_op or_add l_add (je_op or_mul l_mul (je_op op_mod l_mod (je_call c_l_cell (hr.mono (by omega)) (takes_of rfl rfl rfl rfl) (ja_cons (je_var 0) (ja_cons (je_var 1) ja_nil))) je_int) je_int) (je_op or_mul l_mul je_int (je_op or_add l_add (je_var 1) je_int))) je_int))
    (jss_cons (js_set (i := 3) sc_l_drawn.nd (je_op op_mod l_mod (je_op or_add l_add (je_op or_mul l_mul (je_var 3) (je_var 3)) (je_op op_fdiv l_div (je_var 3) je_int)) je_int))
    (jss_one (js_ret (je_op op_mod l_mod (je_op op_fdiv l_div (je_op op_mod l_mod (je_op or_add l_add (je_op or_mul l_mul (je_var 3) (je_var 3)) (je_op op_fdiv l_div (je_var 3) je_int)) je_int) je_int) (je_var 2))))))
abbrev N_l_asked : List Str := ["_law_script", "_law_at", "_law_k"]
theorem sc_l_asked : FnScope N_l_asked ["_law_script", "_law_at"] (defScope s_l_asked) := ⟨rfl, rfl, rfl, by decide +kernel, rfl, by decide +kernel, by decide +kernel⟩
theorem cal_l_asked {P : Program} {w : PySem.World} {K : PySem.W.Frag} {mg : Str → Option Value} {base : Heap} (T : Top w K mg) (D : DefAt K mg "_law_asked" s_l_asked) (c_l_drawn : Cal P w K mg base "_law_drawn" 3 G_l_drawn) : Cal P w K mg base "_law_asked" 4 G_l_asked :=
  cal_mk D sc_l_asked (fun _ _ _ _ _ _ us hl => match us, hl with | [_, _], _ => rfl) fun cdv A outer s H E hr =>
    (jss_one (js_ret (je_comp [("_law_k", 2)] rfl sc_l_asked.nd (ji_range1 T.f_range (je_call c_l_drawn (hr.mono (by omega)) (takes_of rfl rfl rfl rfl) (ja_cons (je_var 0) (ja_cons (je_var 1) (ja_cons je_int ja_nil))))) (blkOk_by (N := N_l_asked) (sc := defScope s_l_asked) (by decide +kernel)) (fun _ _ _ _ _ => (jg_name sc_l_asked.nd)) (by decide) (fun _ _ _ _ _ => jts_nil) (fun _ _ _ _ _ => (je_ix ix_seq l_ix (je_lst (ja_cons je_int (ja_cons je_int (ja_cons je_int (ja_cons je_int ja_nil))))) (je_call c_l_drawn (hr.mono (by omega)) takes0 (ja_cons (je_var 0) (ja_cons (je_op or_add l_add (je_op or_add l_add (je_var 1) je_int) (je_var 2)) (ja_cons je_int ja_nil)))))))))
abbrev N_l_sum : List Str := ["_law_script", "_law_at", "_law_deep", "_law_way", "_law_one"]
theorem sc_l_sum : FnScope N_l_sum ["_law_script", "_law_at", "_law_deep"] (defScope s_l_sum) := ⟨rfl, rfl, rfl, by decide +kernel, rfl, by decide +kernel, by decide +kernel⟩
theorem cal_l_sum {P : Program} {w : PySem.World} {K : PySem.W.Frag} {mg : Str → Option Value} {base : Heap} (T : Top w K mg) (D : DefAt K mg "_law_sum" s_l_sum) (c_l_drawn : Cal P w K mg base "_law_drawn" 3 G_l_drawn) : ∀ n, Cal P w K mg base "_law_sum" (4 + n) (recN F_l_sum n)
  | 0 => cal_bad (k := 3) D sc_l_sum (fun _ _ _ _ _ _ us hl => match us, hl with | [_, _, _], _ => rfl)
  | n + 1 => by
    have c_l_sum := cal_l_sum (P := P) (w := w) (base := base) T D c_l_drawn n
    have q : Cal P w K mg base "_law_sum" (4 + n + 1) (F_l_sum (recN F_l_sum n)) := cal_mk D sc_l_sum (fun _ _ _ _ _ _ us hl => match us, hl with | [_, _, _], _ => rfl) fun cdv A outer s H E hr =>
    (jss_cons (js_set (i := 3) sc_l_sum.nd (je_call c_l_drawn (hr.mono (by omega)) (takes_of rfl rfl rfl rfl) (ja_cons (je_var 0) (ja_cons (je_var 1) (ja_cons je_int ja_nil)))))
    (jss_cons (js_if (JW.jt (jw_or (jt_cmp (op_eqD (hu64 hr)) l_eq (je_var 2) je_int) (jw_or1 (jt_cmp op_lt l_cmp (je_var 3) je_int))))
    (jss_cons (js_if (jt_cmp (op_eqD (hu64 hr)) l_eq (je_call c_l_drawn (hr.mono (by omega)) (takes_of rfl rfl rfl rfl) (ja_cons (je_var 0) (ja_cons (je_op or_add l_add (je_var 1) je_int) (ja_cons je_int ja_nil)))) je_int)
    (jss_one (js_ret (je_tup (ja_cons je_str (ja_cons (je_ix ix_seq l_ix (je_lst (ja_cons je_int (ja_cons je_int (ja_cons je_int (ja_cons je_int (ja_cons je_int (ja_cons je_int ja_nil))))))) (je_call c_l_drawn (hr.mono (by omega)) (takes_of rfl rfl rfl rfl) (ja_cons (je_var 0) (ja_cons (je_op or_add l_add (je_var 1) je_int) (ja_cons je_int ja_nil))))) ja_nil)))))
    jss_nil)
    (jss_one (js_ret (je_tup (ja_cons je_str (ja_cons (je_ix ix_seq l_ix je_str (je_call c_l_drawn (hr.mono (by omega)) (takes_of rfl rfl rfl rfl) (ja_cons (je_var 0) (ja_cons (je_op or_add l_add (je_var 1) je_int) (ja_cons je_int ja_nil))))) ja_nil))))))
    jss_nil)
    (jss_cons (js_set (i := 4) sc_l_sum.nd (je_call c_l_sum (hr.mono (by omega)) (takes_of rfl rfl rfl rfl) (ja_cons (je_var 0) (ja_cons (je_op or_add l_add (je_op or_mul l_mul (je_var 1) je_int) je_int) (ja_cons (je_op op_sub l_sub (je_var 2) je_int) ja_nil)))))
    (jss_cons (js_if (jt_cmp op_lt l_cmp (je_var 3) je_int)
    (jss_one (js_ret (je_tup (ja_cons je_str (ja_cons (je_var 4) ja_nil)))))
    jss_nil)
    (jss_one (js_ret (je_tup (ja_cons (je_ix ix_seq l_ix (je_lst (ja_cons je_str (ja_cons je_str (ja_cons je_str (ja_cons je_str ja_nil))))) (je_op op_sub l_sub (je_var 3) je_int)) (ja_cons (je_var 4) (ja_cons (je_call c_l_sum (hr.mono (by omega)) (takes_of rfl rfl rfl rfl) (ja_cons (je_var 0) (ja_cons (je_op or_add l_add (je_op or_mul l_mul (je_var 1) je_int) je_int) (ja_cons (je_op op_sub l_sub (je_var 2) je_int) ja_nil)))) ja_nil))))))))))
    exact q
abbrev N_l_row : List Str := ["_law_script", "_law_at", "_law_size", "_law_way", "_law_place", "_law_name", "_law_one"]
theorem sc_l_row : FnScope N_l_row ["_law_script", "_law_at", "_law_size"] (defScope s_l_row) := ⟨rfl, rfl, rfl, by decide +kernel, rfl, by decide +kernel, by decide +kernel⟩
theorem cal_l_row {P : Program} {w : PySem.World} {K : PySem.W.Frag} {mg : Str → Option Value} {base : Heap} (T : Top w K mg) (D : DefAt K mg "_law_row" s_l_row) (c_l_drawn : Cal P w K mg base "_law_drawn" 3 G_l_drawn) (c_l_sum : Cal P w K mg base "_law_sum" 9 G_l_sum) : Cal P w K mg base "_law_row" 10 G_l_row :=
  cal_mk D sc_l_row (fun _ _ _ _ _ _ us hl => match us, hl with | [_, _, _], _ => rfl) fun cdv A outer s H E hr =>
    (jss_cons (js_set (i := 3) sc_l_row.nd (je_call c_l_drawn (hr.mono (by omega)) (takes_of rfl rfl rfl rfl) (ja_cons (je_var 0) (ja_cons (je_var 1) (ja_cons je_int ja_nil)))))
    (jss_cons (js_set (i := 4) sc_l_row.nd (je_call c_l_drawn (hr.mono (by omega)) (takes_of rfl rfl rfl rfl) (ja_cons (je_var 0) (ja_cons (je_op or_add l_add (je_var 1) je_int) (ja_cons (je_op or_add l_add (je_var 2) je_int) ja_nil)))))
    (jss_cons (js_set (i := 5) sc_l_row.nd (je_ix ix_seq l_ix je_str (je_call c_l_drawn (hr.mono (by omega)) (takes_of rfl rfl rfl rfl) (ja_cons (je_var 0) (ja_cons (je_op or_add l_add (je_var 1) je_int) (ja_cons je_int ja_nil))))))
    (jss_cons (js_set (i := 6) sc_l_row.nd (je_call c_l_sum (hr.mono (by omega)) (takes_of rfl rfl rfl rfl) (ja_cons (je_var 0) (ja_cons (je_op or_add l_add (je_var 1) je_int) (ja_cons je_int ja_nil)))))
    (jss_cons (js_if (jt_cmp op_lt l_cmp (je_var 3) je_int)
    (jss_one (js_ret (je_tup (ja_cons je_str (ja_cons (je_var 5) (ja_cons (je_var 6) ja_nil))))))
    jss_nil)
    (jss_cons (js_if (jt_cmp op_lt l_cmp (je_var 3) je_int)
    (jss_one (js_ret (je_tup (ja_cons je_str (ja_cons (je_call c_l_sum (hr.mono (by omega)) (takes_of rfl rfl rfl rfl) (ja_cons (je_var 0) (ja_cons (je_op or_add l_add (je_var 1) je_int) (ja_cons je_int ja_nil)))) (ja_cons (je_var 6) ja_nil))))))
    jss_nil)
    (jss_cons (js_if (jt_cmp op_lt l_cmp (je_var 3) je_int)
    (jss_one (js_ret (je_ix ix_seq l_ix (je_lst (ja_cons (je_tup (ja_cons je_str (ja_cons (je_var 5) ja_nil))) (ja_cons (je_tup (ja_cons je_str (ja_cons (je_var 6) ja_nil))) ja_nil))) (je_op op_sub l_sub (je_var 3) je_int))))
    jss_nil)
    (jss_cons (js_if (jt_cmp op_lt l_cmp (je_var 3) je_int)
    (jss_one (js_ret (je_ix ix_seq l_ix (je_lst (ja_cons (je_tup (ja_cons je_str (ja_cons (je_var 4) ja_nil))) (ja_cons (je_tup (ja_cons je_str (ja_cons (je_var 6) (ja_cons (je_var 4) ja_nil)))) (ja_cons (je_tup (ja_cons je_str (ja_cons (je_tup (ja_cons je_str (ja_cons (je_var 5) ja_nil))) (ja_cons (je_var 4) ja_nil)))) ja_nil)))) (je_op op_sub l_sub (je_var 3) je_int))))
    jss_nil)
    (jss_one (js_ret (je_ix ix_seq l_ix (je_lst (ja_cons (je_tup (ja_cons je_str (ja_cons (je_var 4) ja_nil))) (ja_cons (je_tup (ja_cons je_str (ja_cons (je_var 4) ja_nil))) (ja_cons (je_tup (ja_cons je_str ja_nil)) (ja_cons (je_ix ix_seq l_ix (je_lst (ja_cons (je_tup (ja_cons je_str ja_nil)) (ja_cons (je_tup (ja_cons je_str ja_nil)) ja_nil))) (je_op op_mod l_mod (je_var 4) je_int)) ja_nil))))) (je_op op_sub l_sub (je_var 3) je_int))))))))))))
abbrev N_l_program : List Str := ["_law_script", "_law_at", "_law_size", "_law_put", "_law_sign", "_law_rows", "_law_k"]
theorem sc_l_program : FnScope N_l_program ["_law_script", "_law_at"] (defScope s_l_program) := ⟨rfl, rfl, rfl, by decide +kernel, rfl, by decide +kernel, by decide +kernel⟩
theorem cal_l_program {P : Program} {w : PySem.World} {K : PySem.W.Frag} {mg : Str → Option Value} {base : Heap} (T : Top w K mg) (D : DefAt K mg "_law_program" s_l_program) (c_l_drawn : Cal P w K mg base "_law_drawn" 3 G_l_drawn) (c_l_row : Cal P w K mg base "_law_row" 10 G_l_row) : Cal P w K mg base "_law_program" 11 G_l_program :=
  cal_mk D sc_l_program (fun _ _ _ _ _ _ us hl => match us, hl with | [_, _], _ => rfl) fun cdv A outer s H E hr =>
    (jss_cons (js_set (i := 2) sc_l_program.nd (je_op or_add l_add je_int (je_call c_l_drawn (hr.mono (by omega)) (takes_of rfl rfl rfl rfl) (ja_cons (je_var 0) (ja_cons (je_var 1) (ja_cons je_int ja_nil))))))
    (jss_cons (js_if (jt_cmp (op_eqD (hu64 hr)) l_eq (je_call c_l_drawn (hr.mono (by omega)) (takes_of rfl rfl rfl rfl) (ja_cons (je_var 0) (ja_cons (je_op or_add l_add (je_var 1) je_int) (ja_cons je_int ja_nil)))) je_int)
    (jss_cons (js_set (i := 3) sc_l_program.nd (je_tup (ja_cons je_str (ja_cons (je_tup (ja_cons je_str (ja_cons je_str ja_nil))) (ja_cons (je_tup (ja_cons je_str (ja_cons (je_call c_l_drawn (hr.mono (by omega)) (takes_of rfl rfl rfl rfl) (ja_cons (je_var 0) (ja_cons (je_op or_add l_add (je_var 1) je_int) (ja_cons je_int ja_nil)))) ja_nil))) ja_nil)))))
    (jss_cons (js_set (i := 4) sc_l_program.nd (je_ix ix_seq l_ix (je_lst (ja_cons je_str (ja_cons je_str ja_nil))) (je_call c_l_drawn (hr.mono (by omega)) (takes_of rfl rfl rfl rfl) (ja_cons (je_var 0) (ja_cons (je_op or_add l_add (je_var 1) je_int) (ja_cons je_int ja_nil))))))
    (jss_cons (js_set (i := 5) sc_l_program.nd (je_tup (ja_cons (je_tup (ja_cons je_str (ja_cons je_str ja_nil))) (ja_cons (je_tup (ja_cons je_str (ja_cons je_int ja_nil))) (ja_cons (je_tup (ja_cons je_str (ja_cons (je_tup (ja_cons je_str (ja_cons je_str ja_nil))) ja_nil))) (ja_cons (je_tup (ja_cons je_str (ja_cons je_int ja_nil))) (ja_cons (je_var 3) ja_nil)))))))
    (jss_one (js_ret (je_op or_add l_add (je_var 5) (je_tup (ja_cons (je_tup (ja_cons je_str (ja_cons je_int ja_nil))) (ja_cons (je_tup (ja_cons je_str ja_nil)) (ja_cons (je_tup (ja_cons je_str (ja_cons je_str (ja_cons (je_tup (ja_cons (je_var 4) (ja_cons (je_tup (ja_cons je_str (ja_cons je_str ja_nil))) (ja_cons (je_tup (ja_cons je_str (ja_cons je_str ja_nil))) ja_nil)))) ja_nil)))) (ja_cons (je_tup (ja_cons je_str ja_nil)) ja_nil)))))))))))
    jss_nil)
    (jss_one (js_ret (je_callTy call_tuple_of l_tupOf T.f_tuple (ja_cons (je_comp [("_law_k", 6)] rfl sc_l_program.nd (ji_range1 T.f_range (je_var 2)) (blkOk_by (N := N_l_program) (sc := defScope s_l_program) (by decide +kernel)) (fun _ _ _ _ _ => (jg_name sc_l_program.nd)) (by decide) (fun _ _ _ _ _ => jts_nil) (fun _ _ _ _ _ => (je_call c_l_row (hr.mono (by omega)) takes0 (ja_cons (je_var 0) (ja_cons (je_op or_add l_add (je_op or_add l_add (je_var 1) je_int) (je_op or_mul l_mul je_int (je_var 6))) (ja_cons (je_var 2) ja_nil)))))) ja_nil))))))
abbrev N_law : List Str := ["_law_script", "_law_program_here", "_law_asked_here", "_law_most", "_law_one", "_law_other", "_law_tape", "_law_asks", "_law_k", "_law_words", "_law_word", "_law_here", "_law_moment", "_law_due"]
theorem sc_law : FnScope N_law ["_law_script"] (defScope s_law) := ⟨rfl, rfl, rfl, by decide +kernel, rfl, by decide +kernel, by decide +kernel⟩
theorem ok_law {P : Program} {w : PySem.World} {K : PySem.W.Frag} {mg : Str → Option Value} {base : Heap} {fd : FuncData} (T : Top w K mg) (F : FunD K "law" "law" (defArgs s_law) (defBody s_law) (defScope s_law) [] [] (He.ga K "law") fd) (c_Desk___init__ : KCal P w K mg base "Desk" 5 G_Desk___init__) (c_Desk_say : MCal P w K mg base "Desk" "say" 49 G_Desk_say) (c_Tape___init__ : KCal P w K mg base "Tape" 3 G_Tape___init__) (c_Tape_at : MCal P w K mg base "Tape" "at" 26 G_Tape_at) (c_Tape_end : MCal P w K mg base "Tape" "end" 26 G_Tape_end) (c_l_asked : Cal P w K mg base "_law_asked" 4 G_l_asked) (c_l_drawn : Cal P w K mg base "_law_drawn" 3 G_l_drawn) (c_l_program : Cal P w K mg base "_law_program" 11 G_l_program) (c_l_sum : Cal P w K mg base "_law_sum" 9 G_l_sum) (c_written_sum : Cal P w K mg base "written_sum" 23 G_written_sum) : FnOk P w K mg base (L2.CX P w) 50 (He.ga K "law") fd ["_law_script"] (spOf K F_law) :=
  fn_ok F sc_law fun cdv A outer s H E hr =>
    (jss_cons (js_set (i := 1) sc_law.nd (je_call c_l_program (hr.mono (by omega)) (takes_of rfl rfl rfl rfl) (ja_cons (je_var 0) (ja_cons je_int ja_nil))))
    (jss_cons (js_set (i := 2) sc_law.nd (je_call c_l_asked (hr.mono (by omega)) (takes_of rfl rfl rfl rfl) (ja_cons (je_var 0) (ja_cons je_int ja_nil))))
    (jss_cons (js_set (i := 3) sc_law.nd (je_call c_l_drawn (hr.mono (by omega)) (takes_of rfl rfl rfl rfl) (ja_cons (je_var 0) (ja_cons je_int (ja_cons je_int ja_nil)))))
    (jss_cons (js_set (i := 4) sc_law.nd (je_make c_Desk___init__ (hr.mono (by omega)) (ja_cons (je_var 1) (ja_cons (je_var 2) (ja_cons (je_var 3) ja_nil)))))
    (jss_cons (js_set (i := 5) sc_law.nd (je_make c_Desk___init__ (hr.mono (by omega)) (ja_cons (je_var 1) (ja_cons (je_var 2) (ja_cons (je_var 3) ja_nil)))))
    (jss_cons (js_set (i := 6) sc_law.nd (je_make c_Tape___init__ (hr.mono (by omega)) (ja_cons (je_var 1) (ja_cons (je_var 2) (ja_cons je_int (ja_cons (je_var 3) ja_nil))))))
    (jss_cons (js_set (i := 7) sc_law.nd (je_lst (ja_cons je_str (ja_cons (je_op or_add l_add je_str (je_call c_written_sum (hr.mono (by omega)) (takes_of rfl rfl rfl rfl) (ja_cons (je_call c_l_sum (hr.mono (by omega)) (takes_of rfl rfl rfl rfl) (ja_cons (je_var 0) (ja_cons je_int (ja_cons je_int ja_nil)))) ja_nil))) (ja_cons je_str (ja_cons je_str (ja_cons je_str (ja_cons je_str (ja_cons je_str ja_nil)))))))))
    (jss_cons (js_for (passes_of rfl) rfl (ji_range1 T.f_range (je_callB (call_max2 rfl) l_max2 T.f_max (ja_cons je_int (ja_cons (je_callB (call_min2 rfl) l_min2 T.f_min (ja_cons je_int (ja_cons (je_callB call_len l_len T.f_len (ja_cons (je_var 0) ja_nil)) ja_nil))) ja_nil)))) (jg_name sc_law.nd)
    (jss_cons (js_set (i := 9) sc_law.nd (je_lst (ja_cons je_str (ja_cons je_str (ja_cons je_str (ja_cons je_str (ja_cons je_str (ja_cons je_str (ja_cons je_str (ja_cons je_str ja_nil))))))))))
    (jss_cons (js_set (i := 10) sc_law.nd (je_ix ix_seq l_ix (je_var 9) (je_call c_l_drawn (hr.mono (by omega)) (takes_of rfl rfl rfl rfl) (ja_cons (je_var 0) (ja_cons (je_op or_add l_add je_int (je_op or_mul l_mul je_int (je_var 8))) (ja_cons je_int ja_nil))))))
    (jss_cons (js_expr (je_mcall c_Desk_say (hr.mono (by omega)) (takes_of rfl rfl rfl rfl) (je_var 4) (ja_cons (je_ix ix_seq l_ix (je_var 7) (je_call c_l_drawn (hr.mono (by omega)) (takes_of rfl rfl rfl rfl) (ja_cons (je_var 0) (ja_cons (je_op or_add l_add je_int (je_op or_mul l_mul je_int (je_var 8))) (ja_cons je_int ja_nil))))) ja_nil)))
    (jss_cons (js_if (JW.jt (jw_or (jt_cmp (op_neD (hu64 hr)) l_ne (je_mcall c_Desk_say (hr.mono (by omega)) (takes_of rfl rfl rfl rfl) (je_var 4) (ja_cons (je_var 10) ja_nil)) (je_mcall c_Desk_say (hr.mono (by omega)) (takes_of rfl rfl rfl rfl) (je_var 5) (ja_cons (je_var 10) ja_nil))) (jw_or1 (jt_cmp (op_neD (hu64 hr)) l_ne (je_mcall c_Desk_say (hr.mono (by omega)) (takes_of rfl rfl rfl rfl) (je_var 4) (ja_cons je_str ja_nil)) (je_mcall c_Desk_say (hr.mono (by omega)) (takes_of rfl rfl rfl rfl) (je_var 5) (ja_cons je_str ja_nil))))))
    (jss_one (js_ret je_bl))
    jss_nil)
    (jss_cons (js_set (i := 11) sc_law.nd (je_mcall c_Desk_say (hr.mono (by omega)) (takes_of rfl rfl rfl rfl) (je_var 4) (ja_cons je_str ja_nil)))
    (jss_one (js_if (JW.jt (jw_or (jt_cmp (op_neD (hu64 hr)) l_ne (je_mcall c_Desk_say (hr.mono (by omega)) (takes_of rfl rfl rfl rfl) (je_var 4) (ja_cons je_str ja_nil)) je_str) (jw_or (jt_cmp (op_neD (hu64 hr)) l_ne (je_mcall c_Desk_say (hr.mono (by omega)) (takes_of rfl rfl rfl rfl) (je_var 4) (ja_cons je_str ja_nil)) je_str) (jw_or1 (jt_cmp (op_neD (hu64 hr)) l_ne (je_mcall c_Desk_say (hr.mono (by omega)) (takes_of rfl rfl rfl rfl) (je_var 4) (ja_cons je_str ja_nil)) (je_var 11))))))
    (jss_one (js_ret je_bl))
    jss_nil))))))))
    (jss_cons (js_if (jt_cmp (op_neD (hu64 hr)) l_ne (je_mcall c_Desk_say (hr.mono (by omega)) (takes_of rfl rfl rfl rfl) (je_var 4) (ja_cons je_str ja_nil)) (je_callTy call_str_int l_str T.f_str (ja_cons (je_mcall0 c_Tape_end (hr.mono (by omega)) (takes_of rfl rfl rfl rfl) (je_var 6)) ja_nil)))
    (jss_one (js_ret je_bl))
    jss_nil)
    (jss_cons (js_for (passes_of rfl) rfl (ji_range1 T.f_range (je_op or_add l_add (je_mcall0 c_Tape_end (hr.mono (by omega)) (takes_of rfl rfl rfl rfl) (je_var 6)) je_int)) (jg_name sc_law.nd)
    (jss_cons (js_set (i := 13) sc_law.nd (je_op or_add l_add (je_op or_add l_add (je_op or_add l_add je_str (je_callTy call_str_int l_str T.f_str (ja_cons (je_var 12) ja_nil))) je_str) (je_callTy call_str_int l_str T.f_str (ja_cons (je_ix ix_seq l_ix (je_mcall c_Tape_at (hr.mono (by omega)) (takes_of rfl rfl rfl rfl) (je_var 6) (ja_cons (je_var 12) ja_nil)) je_int) ja_nil))))
    (jss_cons (js_if (jt_cmp (op_neD (hu64 hr)) l_ne (je_mcall c_Desk_say (hr.mono (by omega)) (takes_of rfl rfl rfl rfl) (je_var 4) (ja_cons (je_op or_add l_add je_str (je_callTy call_str_int l_str T.f_str (ja_cons (je_var 12) ja_nil))) ja_nil)) (je_var 13))
    (jss_one (js_ret je_bl))
    jss_nil)
    (jss_one (js_if (JW.jt (jw_or (jt_cmp (op_neD (hu64 hr)) l_ne (je_mcall c_Desk_say (hr.mono (by omega)) (takes_of rfl rfl rfl rfl) (je_var 4) (ja_cons (je_op or_add l_add je_str (je_callTy call_str_int l_str T.f_str (ja_cons (je_var 12) ja_nil))) ja_nil)) je_str) (jw_or1 (jt_cmp (op_neD (hu64 hr)) l_ne (je_mcall c_Desk_say (hr.mono (by omega)) (takes_of rfl rfl rfl rfl) (je_var 4) (ja_cons je_str ja_nil)) je_str))))
    (jss_one (js_ret je_bl))
    jss_nil)))))
    (jss_one (js_ret (je_and (je_cmp (op_eqD (hu64 hr)) l_eq (je_mcall c_Desk_say (hr.mono (by omega)) (takes_of rfl rfl rfl rfl) (je_var 4) (ja_cons (je_op or_add l_add je_str (je_callTy call_str_int l_str T.f_str (ja_cons (je_op or_add l_add (je_mcall0 c_Tape_end (hr.mono (by omega)) (takes_of rfl rfl rfl rfl) (je_var 6)) je_int) ja_nil))) ja_nil)) je_str) (je_one (je_cmp (op_eqD (hu64 hr)) l_eq (je_mcall c_Desk_say (hr.mono (by omega)) (takes_of rfl rfl rfl rfl) (je_var 4) (ja_cons je_str ja_nil)) je_str)))))))))))))))
end Bt
namespace Bt
open PySem PySem.Spec PyProof.Rows L2
theorem hob_eq (s : PySem.W.SharedT) : hob s = hhk.obs s.abs := obsBT_eq (HandSHeadRun.getT_eq s)
theorem hfacts {P : Program} {w : PySem.World} {K : PySem.W.Frag} {h : Heap} {mg : Str → Option Value} {f : Addr} (X : K.In h) (G : h.Ns mainGlobals mg) (hfa0 : mg ("law" : Str) = some (.ref f)) (c : He.SaysD hfa hfn K) (cx : hex K = true) (ct : tabsK K htabs = htabs.map fun t : Str × List Str => some (He.keysIn w.params t.2)) :
    ∃ fd : FuncData, (∀ (s : Shared) (v : Value), BindsTo s fd ⟨[v], []⟩ [("_law_script", v)]) ∧ ∀ base : Heap, K.In base → base.Ns mainGlobals mg → FnOk P w K mg base (L2.CX P w) 50 f fd ["_law_script"] (spOf K F_law) := by
  have T : Top w K mg := ⟨(glob_fun (He.glo_ok X G (c.fact 102 (f := .glo "MOVES") rfl)) (tab_at ct 0) (Bool.and_eq_true_iff.mp cx).2 (fun q hq => by
    simp only [List.mem_cons, List.not_mem_nil, or_false] at hq
    rcases hq with rfl | rfl | rfl | rfl
    · exact He.glo_ok X G (c.fact 30 (f := .glo "over") rfl)
    · exact He.glo_ok X G (c.fact 29 (f := .glo "out") rfl)
    · exact He.glo_ok X G (c.fact 28 (f := .glo "back_over") rfl)
    · exact He.glo_ok X G (c.fact 27 (f := .glo "back_out") rfl))), He.free_ok X G (c.fact 81 (f := .free "all") rfl), He.free_ok X G (c.fact 82 (f := .free "bool") rfl), He.free_ok X G (c.fact 83 (f := .free "dict") rfl), He.free_ok X G (c.fact 84 (f := .free "int") rfl), He.free_ok X G (c.fact 85 (f := .free "isinstance") rfl), He.free_ok X G (c.fact 86 (f := .free "len") rfl), He.free_ok X G (c.fact 87 (f := .free "list") rfl), He.free_ok X G (c.fact 88 (f := .free "max") rfl), He.free_ok X G (c.fact 89 (f := .free "min") rfl), He.free_ok X G (c.fact 90 (f := .free "range") rfl), He.free_ok X G (c.fact 91 (f := .free "str") rfl), He.free_ok X G (c.fact 92 (f := .free "tuple") rfl), (glob_int (He.int_ok X G (c.fact 93 (f := .int "CELLS" 4) rfl))), (glob_str (He.str_ok X G (c.fact 94 (f := .str "FIGURES" "0123456789") rfl))), (glob_str (He.str_ok X G (c.fact 95 (f := .str "LETTERS" "abcdefghijklmnopqrstuvwxyz") rfl))), (glob_int (He.int_ok X G (c.fact 96 (f := .int "MOST_CALLS" 6) rfl))), (glob_int (He.int_ok X G (c.fact 97 (f := .int "MOST_MARKS" 8) rfl))), (glob_int (He.int_ok X G (c.fact 98 (f := .int "MOST_PARTS" 15) rfl))), (glob_str (He.str_ok X G (c.fact 99 (f := .str "NAMES" "abcdef") rfl))), (glob_int (He.int_ok X G (c.fact 100 (f := .int "SIZE" 10007) rfl))), (glob_tup (He.glo_ok X G (c.fact 101 (f := .glo "WORDS") rfl)) (Bool.and_eq_true_iff.mp (Bool.and_eq_true_iff.mp cx).1).1 (.str (.str (.str (.str .nil))))), (He.cls_ok (c.fact 38 (f := .cls "Desk") rfl)), (He.cls_ok (c.fact 40 (f := .cls "Tape") rfl)), (He.cls_ok (c.fact 42 (f := .cls "Words") rfl)), (He.noat_ok (c.fact 44 (f := .noat "Desk" "kept") rfl)), (He.noat_ok (c.fact 45 (f := .noat "Desk" "tape") rfl)), (He.noat_ok (c.fact 46 (f := .noat "Tape" "asked") rfl)), (He.noat_ok (c.fact 47 (f := .noat "Tape" "every") rfl)), (He.noat_ok (c.fact 48 (f := .noat "Tape" "far") rfl)), (He.noat_ok (c.fact 49 (f := .noat "Tape" "here") rfl)), (He.noat_ok (c.fact 50 (f := .noat "Tape" "kept") rfl)), (He.noat_ok (c.fact 51 (f := .noat "Tape" "last") rfl)), (He.noat_ok (c.fact 52 (f := .noat "Tape" "most") rfl)), (He.noat_ok (c.fact 53 (f := .noat "Tape" "program") rfl)), (He.noat_ok (c.fact 54 (f := .noat "Words" "left") rfl)), ⟨He.glo_ok X G (c.fact 75 (f := .glo "NoMoment") rfl), He.exc_ok (c.fact 76 (f := .exc "NoMoment") rfl)⟩, ⟨He.glo_ok X G (c.fact 77 (f := .glo "NoText") rfl), He.exc_ok (c.fact 78 (f := .exc "NoText") rfl)⟩, ⟨He.glo_ok X G (c.fact 79 (f := .glo "NoThing") rfl), He.exc_ok (c.fact 80 (f := .exc "NoThing") rfl)⟩, ⟨(Bool.and_eq_true_iff.mp (Bool.and_eq_true_iff.mp cx).1).2, fun e he => (match e, he with | .moment, _ => He.glo_ok X G (c.fact 75 (f := .glo "NoMoment") rfl) | .run, he => absurd rfl he | .thing, _ => He.glo_ok X G (c.fact 79 (f := .glo "NoThing") rfl) | .text, _ => He.glo_ok X G (c.fact 77 (f := .glo "NoText") rfl))⟩⟩
  have D_begun : DefAt K mg "begun" s_begun := ⟨c.def_ 0 (d := d_begun) rfl, He.glo_ok X G (c.fact 0 (f := .glo "begun") rfl)⟩
  have D_Tape___init__ : IniAt K mg "Tape" "Tape.__init__" s_Tape___init__ := ⟨c.def_ 1 (d := d_Tape___init__) rfl, He.mkr_ok (c.fact 55 (f := .mkr "Tape") rfl), He.glo_ok X G (c.fact 41 (f := .glo "Tape") rfl)⟩
  have D_Desk___init__ : IniAt K mg "Desk" "Desk.__init__" s_Desk___init__ := ⟨c.def_ 2 (d := d_Desk___init__) rfl, He.mkr_ok (c.fact 56 (f := .mkr "Desk") rfl), He.glo_ok X G (c.fact 39 (f := .glo "Desk") rfl)⟩
  have D_Tape_moment : MetAt K "Tape" "moment" "Tape.moment" s_Tape_moment := ⟨c.def_ 3 (d := d_Tape_moment) rfl, He.meth_ok (c.fact 57 (f := .meth "Tape" "moment") rfl), He.cls_ok (c.fact 40 (f := .cls "Tape") rfl)⟩
  have D_Tape_keep : MetAt K "Tape" "keep" "Tape.keep" s_Tape_keep := ⟨c.def_ 4 (d := d_Tape_keep) rfl, He.meth_ok (c.fact 58 (f := .meth "Tape" "keep") rfl), He.cls_ok (c.fact 40 (f := .cls "Tape") rfl)⟩
  have D_is_over : DefAt K mg "is_over" s_is_over := ⟨c.def_ 5 (d := d_is_over) rfl, He.glo_ok X G (c.fact 1 (f := .glo "is_over") rfl)⟩
  have D_reckoned : DefAt K mg "reckoned" s_reckoned := ⟨c.def_ 6 (d := d_reckoned) rfl, He.glo_ok X G (c.fact 2 (f := .glo "reckoned") rfl)⟩
  have D_with_worth : DefAt K mg "with_worth" s_with_worth := ⟨c.def_ 7 (d := d_with_worth) rfl, He.glo_ok X G (c.fact 3 (f := .glo "with_worth") rfl)⟩
  have D_written_by : DefAt K mg "written_by" s_written_by := ⟨c.def_ 8 (d := d_written_by) rfl, He.glo_ok X G (c.fact 4 (f := .glo "written_by") rfl)⟩
  have D_stepped : DefAt K mg "stepped" s_stepped := ⟨c.def_ 9 (d := d_stepped) rfl, He.glo_ok X G (c.fact 5 (f := .glo "stepped") rfl)⟩
  have D_Tape_came : MetAt K "Tape" "came" "Tape.came" s_Tape_came := ⟨c.def_ 10 (d := d_Tape_came) rfl, He.meth_ok (c.fact 59 (f := .meth "Tape" "came") rfl), He.cls_ok (c.fact 40 (f := .cls "Tape") rfl)⟩
  have D_Tape_at : MetAt K "Tape" "at" "Tape.at" s_Tape_at := ⟨c.def_ 11 (d := d_Tape_at) rfl, He.meth_ok (c.fact 60 (f := .meth "Tape" "at") rfl), He.cls_ok (c.fact 40 (f := .cls "Tape") rfl)⟩
  have D_Tape_state : MetAt K "Tape" "state" "Tape.state" s_Tape_state := ⟨c.def_ 12 (d := d_Tape_state) rfl, He.meth_ok (c.fact 61 (f := .meth "Tape" "state") rfl), He.cls_ok (c.fact 40 (f := .cls "Tape") rfl)⟩
  have D_Desk_where : MetAt K "Desk" "where" "Desk.where" s_Desk_where := ⟨c.def_ 13 (d := d_Desk_where) rfl, He.meth_ok (c.fact 62 (f := .meth "Desk" "where") rfl), He.cls_ok (c.fact 38 (f := .cls "Desk") rfl)⟩
  have D_Tape_to : MetAt K "Tape" "to" "Tape.to" s_Tape_to := ⟨c.def_ 14 (d := d_Tape_to) rfl, He.meth_ok (c.fact 63 (f := .meth "Tape" "to") rfl), He.cls_ok (c.fact 40 (f := .cls "Tape") rfl)⟩
  have D_Tape_end : MetAt K "Tape" "end" "Tape.end" s_Tape_end := ⟨c.def_ 15 (d := d_Tape_end) rfl, He.meth_ok (c.fact 64 (f := .meth "Tape" "end") rfl), He.cls_ok (c.fact 40 (f := .cls "Tape") rfl)⟩
  have D_sum_at : DefAt K mg "sum_at" s_sum_at := ⟨c.def_ 16 (d := d_sum_at) rfl, He.glo_ok X G (c.fact 6 (f := .glo "sum_at") rfl)⟩
  have D_next_so : DefAt K mg "next_so" s_next_so := ⟨c.def_ 17 (d := d_next_so) rfl, He.glo_ok X G (c.fact 7 (f := .glo "next_so") rfl)⟩
  have D_reads_of : DefAt K mg "reads_of" s_reads_of := ⟨c.def_ 18 (d := d_reads_of) rfl, He.glo_ok X G (c.fact 8 (f := .glo "reads_of") rfl)⟩
  have D_step_reads : DefAt K mg "step_reads" s_step_reads := ⟨c.def_ 19 (d := d_step_reads) rfl, He.glo_ok X G (c.fact 9 (f := .glo "step_reads") rfl)⟩
  have D_thing_written : DefAt K mg "thing_written" s_thing_written := ⟨c.def_ 20 (d := d_thing_written) rfl, He.glo_ok X G (c.fact 10 (f := .glo "thing_written") rfl)⟩
  have D_reasonsU : DefAt K mg "reasons" s_reasonsU := ⟨c.def_ 21 (d := d_reasonsU) rfl, He.glo_ok X G (c.fact 11 (f := .glo "reasons") rfl)⟩
  have D_Desk_by_sum : MetAt K "Desk" "by_sum" "Desk.by_sum" s_Desk_by_sum := ⟨c.def_ 22 (d := d_Desk_by_sum) rfl, He.meth_ok (c.fact 65 (f := .meth "Desk" "by_sum") rfl), He.cls_ok (c.fact 38 (f := .cls "Desk") rfl)⟩
  have D_Tape_back : MetAt K "Tape" "back" "Tape.back" s_Tape_back := ⟨c.def_ 23 (d := d_Tape_back) rfl, He.meth_ok (c.fact 66 (f := .meth "Tape" "back") rfl), He.cls_ok (c.fact 40 (f := .cls "Tape") rfl)⟩
  have D_Tape_go : MetAt K "Tape" "go" "Tape.go" s_Tape_go := ⟨c.def_ 24 (d := d_Tape_go) rfl, He.meth_ok (c.fact 67 (f := .meth "Tape" "go") rfl), He.cls_ok (c.fact 40 (f := .cls "Tape") rfl)⟩
  have D_Words___init__ : IniAt K mg "Words" "Words.__init__" s_Words___init__ := ⟨c.def_ 25 (d := d_Words___init__) rfl, He.mkr_ok (c.fact 68 (f := .mkr "Words") rfl), He.glo_ok X G (c.fact 43 (f := .glo "Words") rfl)⟩
  have D_Words_word : MetAt K "Words" "word" "Words.word" s_Words_word := ⟨c.def_ 26 (d := d_Words_word) rfl, He.meth_ok (c.fact 69 (f := .meth "Words" "word") rfl), He.cls_ok (c.fact 42 (f := .cls "Words") rfl)⟩
  have D_Words_number : MetAt K "Words" "number" "Words.number" s_Words_number := ⟨c.def_ 27 (d := d_Words_number) rfl, He.meth_ok (c.fact 70 (f := .meth "Words" "number") rfl), He.cls_ok (c.fact 42 (f := .cls "Words") rfl)⟩
  have D_is_mark : DefAt K mg "is_mark" s_is_mark := ⟨c.def_ 28 (d := d_is_mark) rfl, He.glo_ok X G (c.fact 12 (f := .glo "is_mark") rfl)⟩
  have D_is_name : DefAt K mg "is_name" s_is_name := ⟨c.def_ 29 (d := d_is_name) rfl, He.glo_ok X G (c.fact 13 (f := .glo "is_name") rfl)⟩
  have D_is_thing : DefAt K mg "is_thing" s_is_thing := ⟨c.def_ 30 (d := d_is_thing) rfl, He.glo_ok X G (c.fact 14 (f := .glo "is_thing") rfl)⟩
  have D_need_thing : DefAt K mg "need_thing" s_need_thing := ⟨c.def_ 31 (d := d_need_thing) rfl, He.glo_ok X G (c.fact 15 (f := .glo "need_thing") rfl)⟩
  have D_worth_of : DefAt K mg "worth_of" s_worth_of := ⟨c.def_ 32 (d := d_worth_of) rfl, He.glo_ok X G (c.fact 16 (f := .glo "worth_of") rfl)⟩
  have D_changes : DefAt K mg "changes" s_changes := ⟨c.def_ 33 (d := d_changes) rfl, He.glo_ok X G (c.fact 17 (f := .glo "changes") rfl)⟩
  have D_last_change : DefAt K mg "last_change" s_last_change := ⟨c.def_ 34 (d := d_last_change) rfl, He.glo_ok X G (c.fact 18 (f := .glo "last_change") rfl)⟩
  have D_Words_sum_in : MetAt K "Words" "sum_in" "Words.sum_in" s_Words_sum_in := ⟨c.def_ 35 (d := d_Words_sum_in) rfl, He.meth_ok (c.fact 71 (f := .meth "Words" "sum_in") rfl), He.cls_ok (c.fact 42 (f := .cls "Words") rfl)⟩
  have D_is_worth : DefAt K mg "is_worth" s_is_worth := ⟨c.def_ 36 (d := d_is_worth) rfl, He.glo_ok X G (c.fact 19 (f := .glo "is_worth") rfl)⟩
  have D_left_of : DefAt K mg "left_of" s_left_of := ⟨c.def_ 37 (d := d_left_of) rfl, He.glo_ok X G (c.fact 20 (f := .glo "left_of") rfl)⟩
  have D_is_sum : DefAt K mg "is_sum" s_is_sum := ⟨c.def_ 38 (d := d_is_sum) rfl, He.glo_ok X G (c.fact 21 (f := .glo "is_sum") rfl)⟩
  have D_sum_words : DefAt K mg "sum_words" s_sum_words := ⟨c.def_ 39 (d := d_sum_words) rfl, He.glo_ok X G (c.fact 22 (f := .glo "sum_words") rfl)⟩
  have D_written_sum : DefAt K mg "written_sum" s_written_sum := ⟨c.def_ 40 (d := d_written_sum) rfl, He.glo_ok X G (c.fact 23 (f := .glo "written_sum") rfl)⟩
  have D_read_sum : DefAt K mg "read_sum" s_read_sum := ⟨c.def_ 41 (d := d_read_sum) rfl, He.glo_ok X G (c.fact 24 (f := .glo "read_sum") rfl)⟩
  have D_thing_in : DefAt K mg "thing_in" s_thing_in := ⟨c.def_ 42 (d := d_thing_in) rfl, He.glo_ok X G (c.fact 25 (f := .glo "thing_in") rfl)⟩
  have D_Desk_with_more : MetAt K "Desk" "with_more" "Desk.with_more" s_Desk_with_more := ⟨c.def_ 43 (d := d_Desk_with_more) rfl, He.meth_ok (c.fact 72 (f := .meth "Desk" "with_more") rfl), He.cls_ok (c.fact 38 (f := .cls "Desk") rfl)⟩
  have D_depth : DefAt K mg "depth" s_depth := ⟨c.def_ 44 (d := d_depth) rfl, He.glo_ok X G (c.fact 26 (f := .glo "depth") rfl)⟩
  have D_back_out : DefAt K mg "back_out" s_back_out := ⟨c.def_ 45 (d := d_back_out) rfl, He.glo_ok X G (c.fact 27 (f := .glo "back_out") rfl)⟩
  have D_back_over : DefAt K mg "back_over" s_back_over := ⟨c.def_ 46 (d := d_back_over) rfl, He.glo_ok X G (c.fact 28 (f := .glo "back_over") rfl)⟩
  have D_out : DefAt K mg "out" s_out := ⟨c.def_ 47 (d := d_out) rfl, He.glo_ok X G (c.fact 29 (f := .glo "out") rfl)⟩
  have D_over : DefAt K mg "over" s_over := ⟨c.def_ 48 (d := d_over) rfl, He.glo_ok X G (c.fact 30 (f := .glo "over") rfl)⟩
  have D_Desk_done : MetAt K "Desk" "done" "Desk.done" s_Desk_done := ⟨c.def_ 49 (d := d_Desk_done) rfl, He.meth_ok (c.fact 73 (f := .meth "Desk" "done") rfl), He.cls_ok (c.fact 38 (f := .cls "Desk") rfl)⟩
  have D_Desk_say : MetAt K "Desk" "say" "Desk.say" s_Desk_say := ⟨c.def_ 50 (d := d_Desk_say) rfl, He.meth_ok (c.fact 74 (f := .meth "Desk" "say") rfl), He.cls_ok (c.fact 38 (f := .cls "Desk") rfl)⟩
  have D_l_cell : DefAt K mg "_law_cell" s_l_cell := ⟨c.def_ 51 (d := d_l_cell) rfl, He.glo_ok X G (c.fact 31 (f := .glo "_law_cell") rfl)⟩
  have D_l_drawn : DefAt K mg "_law_drawn" s_l_drawn := ⟨c.def_ 52 (d := d_l_drawn) rfl, He.glo_ok X G (c.fact 32 (f := .glo "_law_drawn") rfl)⟩
  have D_l_asked : DefAt K mg "_law_asked" s_l_asked := ⟨c.def_ 53 (d := d_l_asked) rfl, He.glo_ok X G (c.fact 33 (f := .glo "_law_asked") rfl)⟩
  have D_l_sum : DefAt K mg "_law_sum" s_l_sum := ⟨c.def_ 54 (d := d_l_sum) rfl, He.glo_ok X G (c.fact 34 (f := .glo "_law_sum") rfl)⟩
  have D_l_row : DefAt K mg "_law_row" s_l_row := ⟨c.def_ 55 (d := d_l_row) rfl, He.glo_ok X G (c.fact 35 (f := .glo "_law_row") rfl)⟩
  have D_l_program : DefAt K mg "_law_program" s_l_program := ⟨c.def_ 56 (d := d_l_program) rfl, He.glo_ok X G (c.fact 36 (f := .glo "_law_program") rfl)⟩
  obtain ⟨fd, F⟩ := c.def_ 57 (d := d_law) rfl
  have e := hfa0.symm.trans (He.glo_ok X G (c.fact 37 (f := .glo "law") rfl))
  cases e
  have b := FunD.bindsA (ps := ["_law_script"]) F fun _ _ _ _ _ _ us hl => match us, hl with | [_], _ => rfl
  refine ⟨fd, fun s v => b s [v] rfl, fun base _ _ => ?_⟩
  have c_begun : Cal P w K mg base "begun" 2 G_begun := cal_begun T D_begun
  have c_Tape___init__ : KCal P w K mg base "Tape" 3 G_Tape___init__ := cal_Tape___init__ T D_Tape___init__ c_begun
  have c_Desk___init__ : KCal P w K mg base "Desk" 5 G_Desk___init__ := cal_Desk___init__ T D_Desk___init__ c_Tape___init__
  have c_Tape_moment : MCal P w K mg base "Tape" "moment" 2 G_Tape_moment := cal_Tape_moment T D_Tape_moment
  have c_Tape_keep : MCal P w K mg base "Tape" "keep" 2 G_Tape_keep := cal_Tape_keep T D_Tape_keep
  have c_is_over : Cal P w K mg base "is_over" 2 G_is_over := cal_is_over T D_is_over
  have c_reckoned : Cal P w K mg base "reckoned" 22 G_reckoned := cal_reckoned T D_reckoned 20
  have c_with_worth : Cal P w K mg base "with_worth" 2 G_with_worth := cal_with_worth T D_with_worth
  have c_written_by : Cal P w K mg base "written_by" 23 G_written_by := cal_written_by T D_written_by c_reckoned
  have c_stepped : Cal P w K mg base "stepped" 24 G_stepped := cal_stepped T D_stepped c_reckoned c_with_worth c_written_by
  have c_Tape_came : MCal P w K mg base "Tape" "came" 25 G_Tape_came := cal_Tape_came T D_Tape_came c_Tape_keep c_is_over c_stepped
  have c_Tape_at : MCal P w K mg base "Tape" "at" 26 G_Tape_at := cal_Tape_at T D_Tape_at c_Tape_came
  have c_Tape_state : MCal P w K mg base "Tape" "state" 27 G_Tape_state := cal_Tape_state T D_Tape_state c_Tape_at
  have c_Desk_where : MCal P w K mg base "Desk" "where" 28 G_Desk_where := cal_Desk_where T D_Desk_where c_Tape_moment c_Tape_state
  have c_Tape_to : MCal P w K mg base "Tape" "to" 27 G_Tape_to := cal_Tape_to T D_Tape_to c_Tape_at
  have c_Tape_end : MCal P w K mg base "Tape" "end" 26 G_Tape_end := cal_Tape_end T D_Tape_end c_Tape_came
  have c_sum_at : Cal P w K mg base "sum_at" 27 G_sum_at := cal_sum_at T D_sum_at c_Tape_at c_reckoned
  have c_next_so : Cal P w K mg base "next_so" 28 G_next_so := cal_next_so T D_next_so c_Tape_at c_Tape_end c_sum_at
  have c_reads_of : Cal P w K mg base "reads_of" 43 G_reads_of := cal_reads_of T D_reads_of c_reckoned 20
  have c_step_reads : Cal P w K mg base "step_reads" 44 G_step_reads := cal_step_reads T D_step_reads c_Tape_at c_reads_of
  have c_thing_written : Cal P w K mg base "thing_written" 27 G_thing_written := cal_thing_written T D_thing_written c_Tape_at c_written_by
  have c_reasonsU : Cal P w K mg base "reasons" 45 G_reasonsU := cal_reasonsU T D_reasonsU c_Tape_at c_reads_of c_step_reads c_thing_written
  have c_Desk_by_sum : MCal P w K mg base "Desk" "by_sum" 46 G_Desk_by_sum := cal_Desk_by_sum T D_Desk_by_sum c_Desk_where c_Tape_moment c_Tape_to c_next_so c_reasonsU c_sum_at
  have c_Tape_back : MCal P w K mg base "Tape" "back" 2 G_Tape_back := cal_Tape_back T D_Tape_back
  have c_Tape_go : MCal P w K mg base "Tape" "go" 27 G_Tape_go := cal_Tape_go T D_Tape_go c_Tape_end
  have c_Words___init__ : KCal P w K mg base "Words" 2 G_Words___init__ := cal_Words___init__ T D_Words___init__
  have c_Words_word : MCal P w K mg base "Words" "word" 2 G_Words_word := cal_Words_word T D_Words_word
  have c_Words_number : MCal P w K mg base "Words" "number" 3 G_Words_number := cal_Words_number T D_Words_number c_Words_word
  have c_is_mark : Cal P w K mg base "is_mark" 2 G_is_mark := cal_is_mark T D_is_mark
  have c_is_name : Cal P w K mg base "is_name" 2 G_is_name := cal_is_name T D_is_name
  have c_is_thing : Cal P w K mg base "is_thing" 3 G_is_thing := cal_is_thing T D_is_thing c_is_name
  have c_need_thing : Cal P w K mg base "need_thing" 4 G_need_thing := cal_need_thing T D_need_thing c_is_thing
  have c_worth_of : Cal P w K mg base "worth_of" 2 G_worth_of := cal_worth_of T D_worth_of
  have c_changes : Cal P w K mg base "changes" 27 G_changes := cal_changes T D_changes c_Tape_at c_Tape_end c_need_thing c_worth_of
  have c_last_change : Cal P w K mg base "last_change" 28 G_last_change := cal_last_change T D_last_change c_Tape_at c_changes
  have c_Words_sum_in : MCal P w K mg base "Words" "sum_in" 21 G_Words_sum_in := cal_Words_sum_in T D_Words_sum_in c_Words_number c_Words_word 17
  have c_is_worth : Cal P w K mg base "is_worth" 2 G_is_worth := cal_is_worth T D_is_worth
  have c_left_of : Cal P w K mg base "left_of" 23 G_left_of := cal_left_of T D_left_of c_is_name c_is_worth 20
  have c_is_sum : Cal P w K mg base "is_sum" 24 G_is_sum := cal_is_sum T D_is_sum c_left_of
  have c_sum_words : Cal P w K mg base "sum_words" 22 G_sum_words := cal_sum_words T D_sum_words 20
  have c_written_sum : Cal P w K mg base "written_sum" 23 G_written_sum := cal_written_sum T D_written_sum c_sum_words
  have c_read_sum : Cal P w K mg base "read_sum" 25 G_read_sum := cal_read_sum T D_read_sum c_Words___init__ c_Words_sum_in c_is_sum c_written_sum
  have c_thing_in : Cal P w K mg base "thing_in" 2 G_thing_in := cal_thing_in T D_thing_in
  have c_Desk_with_more : MCal P w K mg base "Desk" "with_more" 47 G_Desk_with_more := cal_Desk_with_more T D_Desk_with_more c_Desk_by_sum c_Desk_where c_Tape_back c_Tape_go c_Tape_moment c_Tape_to c_Words___init__ c_Words_number c_is_mark c_last_change c_read_sum c_thing_in
  have c_depth : Cal P w K mg base "depth" 27 G_depth := cal_depth T D_depth c_Tape_at
  have c_back_out : Cal P w K mg base "back_out" 28 G_back_out := cal_back_out T D_back_out c_depth
  have c_back_over : Cal P w K mg base "back_over" 28 G_back_over := cal_back_over T D_back_over c_depth
  have c_out : Cal P w K mg base "out" 28 G_out := cal_out T D_out c_Tape_end c_depth
  have c_over : Cal P w K mg base "over" 28 G_over := cal_over T D_over c_Tape_end c_depth
  have c_Desk_done : MCal P w K mg base "Desk" "done" 48 G_Desk_done := cal_Desk_done T D_Desk_done c_Desk_where c_Desk_with_more c_Tape_end c_Tape_moment c_Tape_to c_back_out c_back_over c_out c_over
  have c_Desk_say : MCal P w K mg base "Desk" "say" 49 G_Desk_say := cal_Desk_say T D_Desk_say c_Desk_done
  have c_l_cell : Cal P w K mg base "_law_cell" 2 G_l_cell := cal_l_cell T D_l_cell
  have c_l_drawn : Cal P w K mg base "_law_drawn" 3 G_l_drawn := cal_l_drawn T D_l_drawn c_l_cell
  have c_l_asked : Cal P w K mg base "_law_asked" 4 G_l_asked := cal_l_asked T D_l_asked c_l_drawn
  have c_l_sum : Cal P w K mg base "_law_sum" 9 G_l_sum := cal_l_sum T D_l_sum c_l_drawn 5
  have c_l_row : Cal P w K mg base "_law_row" 10 G_l_row := cal_l_row T D_l_row c_l_drawn c_l_sum
  have c_l_program : Cal P w K mg base "_law_program" 11 G_l_program := cal_l_program T D_l_program c_l_drawn c_l_row
  exact ok_law T F c_Desk___init__ c_Desk_say c_Tape___init__ c_Tape_at c_Tape_end c_l_asked c_l_drawn c_l_program c_l_sum c_written_sum
end Bt
open PySem PySem.W PySem.Calls PyProof.Rows
theorem PySem.Challenge.cw_backtape_k91_whole_desks_holds : PySem.Challenge.rw_backtape_k91_whole_desks.Holds := by
  w_on; o_law
  refine HandSHeadRun.head_any (r := OpenLaw.row PySem.Challenge.rw_backtape_k91_whole_desks) (q := view (OpenLaw.row PySem.Challenge.rw_backtape_k91_whole_desks).prog [65]) (H := Bt.hhk) (ob := Bt.hob) (M := 20000) (loose := Bt.hnames) (d := HandSHeadRun.topDef (OpenLaw.row PySem.Challenge.rw_backtape_k91_whole_desks).prog 65) (kwd := []) Bt.hob_eq
    (by kernel_rfl) (fun s => by kernel_rfl) Bt.hrun (by kernel_rfl) (by kernel_rfl) (by kernel_rfl) (by rfl) (by first | assumption | decide +kernel) (by decide +kernel) ⟨rfl, rfl, rfl, rfl, rfl, by decide +kernel⟩ ?hw ?hc
  case hw => w_witness2
  case hc =>
    refine Bt.walk_law (l := PySem.Challenge.rw_backtape_k91_whole_desks) (n := 63) (k := 50) (x := "_law_script") rfl (by decide) (by kernel_rfl) ⟨rfl, by decide, by decide⟩ ?F
    intro w mg fa h Y G hmg0
    obtain ⟨K, KX, c, cx, ct⟩ := Y
    have hmg : mg ("law" : PySem.Str) = some (.ref fa) := by
      have e : (HandSHeadRun.topDef (OpenLaw.row PySem.Challenge.rw_backtape_k91_whole_desks).prog 65).name = ("law" : PySem.Str) := by kernel_rfl
      rw [← e]
      exact hmg0
    obtain ⟨fd, hb, hF⟩ := Bt.hfacts (P := (PySem.Challenge.rw_backtape_k91_whole_desks).prog) (w := w) KX G hmg c cx ct
    exact ⟨K, fd, Bt.spOf K Bt.F_law, KX, hb, Bt.sp_law Bt.law_true, hF⟩
