import PyProof.Rows.All
import Wide.All
import OpenK.AllK
import Wide.FinOn
import HandS.ForMost
import HandS.ForExc
import HandS.TupAny
import HandS.TupMul
import HandS.Deep
import HandS.Wide
import HandS.Walk
import KE.GoesEnum
import KE.GoesZip
import KE.GoesMore
import HandS.WordsExc
import KE.KExcSuper
import KE.KExcLine
import KE.KExcInit
import HandS.TryOnly
import HandS.TryMany
import HandS.Dict
import HandS.Lambda
import HandS.WordsList
import HandS.Style
import HandS.IsInst
import HandS.Text
import HandS.RaiseMore
import HandS.Conv
import PyProof.ReprRoads
import PyProof.Rows.StrRev
import HandS.Ends
import PyProof.P3Eq
import PyProof.Rows.RegFStrParts
import HandS.Iter
import HandS.Property
import HandS.ExcField
import HandS.More
import KE.KTupSum
import PyProof.StrBlock2
import HandS.Codes
import KE.KUnpackStar
import PyProof.StrLawsRepr
import KE.KItemsList
import HandS.GenList
import PyProof.AttrMiss
import HandS.SortInts
import KE.KTryMore
import HandS.ExcIs
import HandS.EndTab
import HandS.SetFor
import HandS.DictComp
import PyProof.Rows.SortShellAny
import HandS.ListItems
import HandS.ExcValue
import HandS.Star
import KE.KStateDown
import KE.KNestM
import HandS.Head2
import HandS.Defaults
import PySem.Challenge.RW_knotbands_k58_any_line
set_option Elab.async false
set_option linter.all false
set_option maxRecDepth 100000
set_option maxHeartbeats 4000000
/-! K1: data, how a heap bears them, configurations and steps -/
namespace KB
open PySem L2
/-- Python data, by value; .hnd n: the n-th object with a state of its own; .scr: the script -/
inductive D where
  | non
  | bl (b : Bool)
  | int (i : Int)
  | str (s : List Nat)
  | lst (xs : List D)
  | tup (xs : List D)
  | dct (kvs : List (Key × D))
  | dcT (kvs : List (List Key × D))
  | dcF (kvs : List (Key × D))
  | ins (c : Str) (fs : List (Str × D))
  | exc (c f : Str) (d : D)
  | hnd (n : Nat)
  | ty (n : String)
  | scr (ns : List Int)
/-- what the written part gives: its text, the address of each class -/
structure Ctx where
  K : PySem.W.Frag
  cl : Str → Addr
/-- G: what is frozen; m: the handles; F: what belongs to the state -/
structure Cf where
  G : Hp
  m : Nat → Option Addr
  F : Hp
def sOf (l : List Nat) : Str := ⟨l.toArray⟩
theorem sOf_list (l : List Nat) : (sOf l).cps.toList = l := rfl
theorem sOf_len (l : List Nat) : (sOf l).length = l.length := by
  show l.toArray.size = l.length
  simp
theorem sOf_app (a b : List Nat) : sOf a ++ sOf b = sOf (a ++ b) := by
  show (⟨a.toArray ++ b.toArray⟩ : Str) = ⟨(a ++ b).toArray⟩
  simp
theorem sOf_inj {a b : List Nat} (h : sOf a = sOf b) : a = b := by
  have e : (sOf a).cps.toList = (sOf b).cps.toList := by rw [h]
  exact e
theorem sOf_surj (z : Str) : z = sOf z.cps.toList := by
  cases z
  simp [sOf]
/-- an error that was caught, of the class cls, its dict at d -/
def ExK (cls : Value) (d a : Addr) : HO := .ext fun h => ∃ (oe : Obj) (vs : Array Value), h.get? a = some oe ∧ Zc cls (some d) oe ∧ oe.data = .fields vs
mutual
inductive Rep (T : Ctx) (c : Cf) : D → V → Prop where
  | non : Rep T c .non .non
  | bl (b : Bool) : Rep T c (.bl b) (.bl b)
  | int (i : Int) : Rep T c (.int i) (.int i)
  | str (l : List Nat) : Rep T c (.str l) (.str (sOf l))
  | lst {a : Addr} {vs : List V} {xs : List D} : c.G a = some (.lst vs) → Reps T c xs vs → Rep T c (.lst xs) (.ref a)
  | scr {a : Addr} {ns : List Int} : SqL T.K c.G a (ns.map V.int) → Rep T c (.scr ns) (.ref a)
  | tup {a : Addr} {vs : List V} {xs : List D} : SqT T.K c.G a vs → Reps T c xs vs → Rep T c (.tup xs) (.ref a)
  | dct {a : Addr} {vs : List (Key × V)} {xs : List (Key × D)} : c.G a = some (.dK vs) → RepK T c xs vs → Rep T c (.dct xs) (.ref a)
  | dcT {a : Addr} {vs : List (List Key × V)} {xs : List (List Key × D)} : c.G a = some (.dT vs) → RepT T c xs vs → Rep T c (.dcT xs) (.ref a)
  | dcF {o : Obj} {a : Addr} {vs : List (Key × V)} {xs : List (Key × D)} : c.G a = some (.frz o (.dK vs)) → RepK T c xs vs → Rep T c (.dcF xs) (.ref a)
  | ins {n : Str} {a dx : Addr} {vs : List (Str × V)} {fs : List (Str × D)} : c.G a = some (.ins (T.cl n) dx vs) → RepF T c fs vs → Rep T c (.ins n fs) (.ref a)
  | exc {n f : Str} {a da : Addr} {v : V} {d : D} : c.G a = some (ExK (.ref (T.cl n)) da a) → c.G da = some (.xd [(f, v)]) → Rep T c d v → Rep T c (.exc n f d) (.ref a)
  | hnd {n : Nat} {a : Addr} : c.m n = some a → Rep T c (.hnd n) (.ref a)
  | ty (n : String) : Rep T c (.ty n) (.ty n)
inductive Reps (T : Ctx) (c : Cf) : List D → List V → Prop where
  | nil : Reps T c [] []
  | cons {d : D} {v : V} {ds : List D} {vs : List V} : Rep T c d v → Reps T c ds vs → Reps T c (d :: ds) (v :: vs)
inductive RepK (T : Ctx) (c : Cf) : List (Key × D) → List (Key × V) → Prop where
  | nil : RepK T c [] []
  | cons {k : Key} {d : D} {v : V} {ds : List (Key × D)} {vs : List (Key × V)} : Rep T c d v → RepK T c ds vs → RepK T c ((k, d) :: ds) ((k, v) :: vs)
inductive RepT (T : Ctx) (c : Cf) : List (List Key × D) → List (List Key × V) → Prop where
  | nil : RepT T c [] []
  | cons {k : List Key} {d : D} {v : V} {ds : List (List Key × D)} {vs : List (List Key × V)} : Rep T c d v → RepT T c ds vs → RepT T c ((k, d) :: ds) ((k, v) :: vs)
inductive RepF (T : Ctx) (c : Cf) : List (Str × D) → List (Str × V) → Prop where
  | nil : RepF T c [] []
  | cons {k : Str} {d : D} {v : V} {ds : List (Str × D)} {vs : List (Str × V)} : Rep T c d v → RepF T c ds vs → RepF T c ((k, d) :: ds) ((k, v) :: vs)
end
/-- the frozen part and the handles grow -/
structure Gx (c c' : Cf) : Prop where
  g : Same c.G c'.G
  m : ∀ n a, c.m n = some a → c'.m n = some a
theorem Gx.refl (c : Cf) : Gx c c := ⟨Same.refl _, fun _ _ h => h⟩
theorem Gx.trans {a b c : Cf} (x : Gx a b) (y : Gx b c) : Gx a c := ⟨x.g.trans y.g, fun n q h => y.m n q (x.m n q h)⟩
theorem same_l {K : PySem.W.Frag} {G G' : Hp} {a : Addr} {xs : List V} (e : Same G G') (h : SqL K G a xs) : SqL K G' a xs := e.seq h
theorem same_t {K : PySem.W.Frag} {G G' : Hp} {a : Addr} {xs : List V} (e : Same G G') (h : SqT K G a xs) : SqT K G' a xs := by
  rcases h with (h | ⟨o, h⟩) | h
  · exact .inl (.inl (e _ _ h))
  · exact .inl (.inr ⟨o, e _ _ h⟩)
  · exact .inr h
mutual
theorem Rep.mono {T : Ctx} {c c' : Cf} (e : Gx c c') : ∀ {d : D} {v : V}, Rep T c d v → Rep T c' d v
  | _, _, .non => .non
  | _, _, .bl b => .bl b
  | _, _, .int i => .int i
  | _, _, .str l => .str l
  | _, _, .lst h r => .lst (e.g _ _ h) (Reps.mono e r)
  | _, _, .scr h => .scr (same_l e.g h)
  | _, _, .tup h r => .tup (same_t e.g h) (Reps.mono e r)
  | _, _, .dct h r => .dct (e.g _ _ h) (RepK.mono e r)
  | _, _, .dcT h r => .dcT (e.g _ _ h) (RepT.mono e r)
  | _, _, .dcF h r => .dcF (e.g _ _ h) (RepK.mono e r)
  | _, _, .ins h r => .ins (e.g _ _ h) (RepF.mono e r)
  | _, _, .exc h1 h2 r => .exc (e.g _ _ h1) (e.g _ _ h2) (Rep.mono e r)
  | _, _, .hnd h => .hnd (e.m _ _ h)
  | _, _, .ty n => .ty n
theorem Reps.mono {T : Ctx} {c c' : Cf} (e : Gx c c') : ∀ {d : List D} {v : List V}, Reps T c d v → Reps T c' d v
  | _, _, .nil => .nil
  | _, _, .cons h r => .cons (Rep.mono e h) (Reps.mono e r)
theorem RepK.mono {T : Ctx} {c c' : Cf} (e : Gx c c') : ∀ {d : List (Key × D)} {v : List (Key × V)}, RepK T c d v → RepK T c' d v
  | _, _, .nil => .nil
  | _, _, .cons h r => .cons (Rep.mono e h) (RepK.mono e r)
theorem RepT.mono {T : Ctx} {c c' : Cf} (e : Gx c c') : ∀ {d : List (List Key × D)} {v : List (List Key × V)}, RepT T c d v → RepT T c' d v
  | _, _, .nil => .nil
  | _, _, .cons h r => .cons (Rep.mono e h) (RepT.mono e r)
theorem RepF.mono {T : Ctx} {c c' : Cf} (e : Gx c c') : ∀ {d : List (Str × D)} {v : List (Str × V)}, RepF T c d v → RepF T c' d v
  | _, _, .nil => .nil
  | _, _, .cons h r => .cons (Rep.mono e h) (RepF.mono e r)
end
theorem Reps.length {T : Ctx} {c : Cf} : ∀ {ds : List D} {vs : List V}, Reps T c ds vs → ds.length = vs.length
  | _, _, .nil => rfl
  | _, _, .cons _ r => by simp [Reps.length r]
theorem Reps.get {T : Ctx} {c : Cf} : ∀ {ds : List D} {vs : List V}, Reps T c ds vs → ∀ {i : Nat} {v : V}, vs[i]? = some v → ∃ d, ds[i]? = some d ∧ Rep T c d v
  | _, _, .nil, i, v, h => by simp at h
  | _, _, .cons r _, 0, v, h => by
    simp at h
    subst h
    exact ⟨_, rfl, r⟩
  | _, _, .cons _ r, i + 1, v, h => by
    obtain ⟨d, h1, h2⟩ := Reps.get r (i := i) (v := v) (by simpa using h)
    exact ⟨d, by simpa using h1, h2⟩
theorem Reps.at {T : Ctx} {c : Cf} : ∀ {ds : List D} {vs : List V}, Reps T c ds vs → ∀ {i : Nat} {d : D}, ds[i]? = some d → ∃ v, vs[i]? = some v ∧ Rep T c d v
  | _, _, .nil, i, v, h => by simp at h
  | _, _, .cons r _, 0, v, h => by
    simp at h
    subst h
    exact ⟨_, rfl, r⟩
  | _, _, .cons _ r, i + 1, v, h => by
    obtain ⟨d, h1, h2⟩ := Reps.at r (i := i) (d := v) (by simpa using h)
    exact ⟨d, by simpa using h1, h2⟩
theorem Reps.app {T : Ctx} {c : Cf} : ∀ {ds es : List D} {vs ws : List V}, Reps T c ds vs → Reps T c es ws → Reps T c (ds ++ es) (vs ++ ws)
  | _, _, _, _, .nil, s => s
  | _, _, _, _, .cons r t, s => .cons r (Reps.app t s)
theorem Reps.take {T : Ctx} {c : Cf} : ∀ {ds : List D} {vs : List V} (n : Nat), Reps T c ds vs → Reps T c (ds.take n) (vs.take n)
  | _, _, 0, _ => .nil
  | _, _, _ + 1, .nil => .nil
  | _, _, n + 1, .cons r t => .cons r (Reps.take n t)
theorem Reps.drop {T : Ctx} {c : Cf} : ∀ {ds : List D} {vs : List V} (n : Nat), Reps T c ds vs → Reps T c (ds.drop n) (vs.drop n)
  | _, _, 0, r => r
  | _, _, _ + 1, .nil => .nil
  | _, _, n + 1, .cons r t => Reps.drop n t
theorem Reps.set {T : Ctx} {c : Cf} {d : D} {v : V} (q : Rep T c d v) : ∀ {ds : List D} {vs : List V} (n : Nat), Reps T c ds vs → Reps T c (ds.set n d) (vs.set n v)
  | _, _, _, .nil => .nil
  | _, _, 0, .cons _ t => .cons q t
  | _, _, n + 1, .cons r t => .cons r (Reps.set q n t)
theorem Reps.rep {T : Ctx} {c : Cf} {ds : List D} {vs : List V} (r : Reps T c ds vs) : ∀ k : Nat, Reps T c (List.replicate k ds).flatten (List.replicate k vs).flatten
  | 0 => .nil
  | k + 1 => by
    rw [List.replicate_succ, List.replicate_succ, List.flatten_cons, List.flatten_cons]
    exact r.app (Reps.rep r k)
theorem Reps.one {T : Ctx} {c : Cf} {d : D} {vs : List V} (r : Reps T c [d] vs) : ∃ v, vs = [v] ∧ Rep T c d v := by
  cases r with
  | cons r t =>
    cases t
    exact ⟨_, rfl, r⟩
theorem Reps.two {T : Ctx} {c : Cf} {d e : D} {vs : List V} (r : Reps T c [d, e] vs) : ∃ v w, vs = [v, w] ∧ Rep T c d v ∧ Rep T c e w := by
  cases r with
  | cons r t =>
    obtain ⟨w, rfl, q⟩ := t.one
    exact ⟨_, _, rfl, r, q⟩
/-- the frozen part and the state's part stand in the heap, apart -/
structure CfOk (c : Cf) (H : Hp) : Prop where
  gh : Same c.G H
  fh : Same c.F H
  dj : ∀ a o, c.G a = some o → c.F a = none
/-- a step: what is not the state's stands -/
structure Stp (c : Cf) (H : Hp) (c' : Cf) (H' : Hp) : Prop where
  ok : CfOk c' H'
  gx : Gx c c'
  keep : ∀ a o, H a = some o → c.F a = none → H' a = some o
  dom : ∀ a o, H a = some o → ∃ o', H' a = some o'
  gn : ∀ a o, c'.G a = some o → c.G a = some o ∨ H a = none ∨ ∃ fs, o = .xd fs
  fn : ∀ a o, c'.F a = some o → (∃ o', c.F a = some o') ∨ H a = none
theorem Stp.refl {c : Cf} {H : Hp} (ok : CfOk c H) : Stp c H c H := ⟨ok, Gx.refl c, fun _ _ h _ => h, fun _ o h => ⟨o, h⟩, fun _ _ h => .inl h, fun _ o h => .inl ⟨o, h⟩⟩
theorem Stp.trans {c c1 c2 : Cf} {H H1 H2 : Hp} (x : Stp c H c1 H1) (y : Stp c1 H1 c2 H2) : Stp c H c2 H2 where
  ok := y.ok
  gx := x.gx.trans y.gx
  keep := fun a o h f => by
    have h1 := x.keep a o h f
    refine y.keep a o h1 ?_
    cases q : c1.F a with
    | none => rfl
    | some u =>
      rcases x.fn a u q with ⟨o', z⟩ | z
      · rw [f] at z; cases z
      · rw [h] at z; cases z
  dom := fun a o h => by
    obtain ⟨o1, h1⟩ := x.dom a o h
    exact y.dom a o1 h1
  gn := fun a o h => by
    rcases y.gn a o h with z | z | z
    · exact x.gn a o z
    · refine .inr (.inl ?_)
      cases q : H a with
      | none => rfl
      | some u =>
        obtain ⟨o', e⟩ := x.dom a u q
        rw [z] at e; cases e
    · exact .inr (.inr z)
  fn := fun a o h => by
    rcases y.fn a o h with ⟨o', z⟩ | z
    · exact x.fn a o' z
    · refine .inr ?_
      cases q : H a with
      | none => rfl
      | some u =>
        obtain ⟨o', e⟩ := x.dom a u q
        rw [z] at e; cases e
theorem free_of {G H : Hp} {p : Addr} (s : Same G H) (h : H p = none) : G p = none := s.free h
/-- a new thing that is frozen at once -/
def Cf.put (c : Cf) (p : Addr) (o : HO) : Cf := ⟨upd c.G p o, c.m, c.F⟩
theorem same_upd {G : Hp} {p : Addr} {o : HO} (h : G p = none) : Same G (upd G p o) := fun a u e => by
  rw [upd_ne (ne_of_none e h)]
  exact e
theorem Stp.put {c : Cf} {H : Hp} {p : Addr} {o : HO} (ok : CfOk c H) (h : H p = none) : Stp c H (c.put p o) (upd H p o) where
  ok := {
    gh := fun a u e => by
      by_cases hp : a = p
      · subst hp
        have e' : upd c.G a o a = some u := e
        rw [upd_same] at e'
        rw [upd_same]
        exact e'
      · have e' : upd c.G p o a = some u := e
        rw [upd_ne hp] at e'
        rw [upd_ne hp]
        exact ok.gh a u e'
    fh := fun a u e => by
      have e0 : c.F a = some u := e
      have hp : a ≠ p := fun z => by
        rw [z, free_of ok.fh h] at e0; cases e0
      rw [upd_ne hp]
      exact ok.fh a u e
    dj := fun a u e => by
      by_cases hp : a = p
      · rw [hp]
        exact free_of ok.fh h
      · have e' : upd c.G p o a = some u := e
        rw [upd_ne hp] at e'
        exact ok.dj a u e' }
  gx := ⟨same_upd (free_of ok.gh h), fun _ _ z => z⟩
  keep := fun a u e _ => by
    rw [upd_ne (ne_of_none e h)]
    exact e
  dom := fun a u e => ⟨u, by
    rw [upd_ne (ne_of_none e h)]
    exact e⟩
  gn := fun a u e => by
    by_cases hp : a = p
    · exact .inr (.inl (by rw [hp]; exact h))
    · have e' : upd c.G p o a = some u := e
      rw [upd_ne hp] at e'
      exact .inl e'
  fn := fun a u e => .inl ⟨u, e⟩
/-- a new thing that is not frozen -/
theorem Stp.new {c : Cf} {H : Hp} {p : Addr} {o : HO} (ok : CfOk c H) (h : H p = none) : Stp c H c (upd H p o) where
  ok := {
    gh := fun a u e => by
      rw [upd_ne (ne_of_none (ok.gh a u e) h)]
      exact ok.gh a u e
    fh := fun a u e => by
      rw [upd_ne (ne_of_none (ok.fh a u e) h)]
      exact ok.fh a u e
    dj := ok.dj }
  gx := Gx.refl c
  keep := fun a u e _ => by
    rw [upd_ne (ne_of_none e h)]
    exact e
  dom := fun a u e => ⟨u, by
    rw [upd_ne (ne_of_none e h)]
    exact e⟩
  gn := fun a u e => .inl e
  fn := fun a u e => .inl ⟨u, e⟩
/-- a thing of nobody's is frozen -/
theorem Stp.freeze {c c' : Cf} {H H' : Hp} {p : Addr} {o : HO} (x : Stp c H c' H') (hp : H' p = some o) (hg : c'.G p = none) (hf : c'.F p = none) (h0 : H p = none) : Stp c H (c'.put p o) H' where
  ok := {
    gh := fun a u e => by
      by_cases q : a = p
      · subst q
        have e' : upd c'.G a o a = some u := e
        rw [upd_same] at e'
        rw [hp]
        exact e'
      · have e' : upd c'.G p o a = some u := e
        rw [upd_ne q] at e'
        exact x.ok.gh a u e'
    fh := x.ok.fh
    dj := fun a u e => by
      by_cases q : a = p
      · rw [q]
        exact hf
      · have e' : upd c'.G p o a = some u := e
        rw [upd_ne q] at e'
        exact x.ok.dj a u e' }
  gx := x.gx.trans ⟨same_upd hg, fun _ _ z => z⟩
  keep := x.keep
  dom := x.dom
  gn := fun a u e => by
    by_cases q : a = p
    · exact .inr (.inl (by rw [q]; exact h0))
    · have e' : upd c'.G p o a = some u := e
      rw [upd_ne q] at e'
      exact x.gn a u e'
  fn := x.fn
/-- a thing that is nobody's, and no dict of an error, is frozen by its owner alone -/
theorem Stp.gnone {c c' : Cf} {H H' : Hp} {a : Addr} {o : HO} (x : Stp c H c' H') (h : H a = some o) (hg : c.G a = none) (hf : c.F a = none) (hx : ∀ fs, o ≠ .xd fs) : c'.G a = none := by
  cases e : c'.G a with
  | none => rfl
  | some u =>
    rcases x.gn a u e with z | z | ⟨fs, z⟩
    · rw [hg] at z; cases z
    · rw [h] at z; cases z
    · subst z
      have z2 := x.ok.gh a _ e
      rw [x.keep a o h hf] at z2
      exact (hx fs (Option.some.inj z2)).elim
theorem Gx.put {c : Cf} {p : Addr} {o : HO} (h : c.G p = none) : Gx c (c.put p o) := ⟨same_upd h, fun _ _ z => z⟩
theorem put_at {c : Cf} {p : Addr} {o : HO} : (c.put p o).G p = some o := upd_same
end KB
set_option Elab.async false
set_option linter.all false
set_option maxRecDepth 100000
set_option maxHeartbeats 4000000
/-! K2: environments, results, the judgements -/
namespace KB
open PySem L2
/-- a slot: unknown | shared data | a list, a dict of this frame alone -/
inductive Sl where
  | no
  | d (x : D)
  | L (xs : List D)
  | M (kvs : List (Key × D))
  | MT (kvs : List (List Key × D))
  | O (n : Str) (fs : List (Str × D))
abbrev Env := List Sl
def Sl.own : Sl → Bool
  | .no => false
  | .d _ => false
  | _ => true
/-- an error of the program's own: its class, its field -/
structure Ex where
  c : Str
  f : Str
  d : D
inductive R (S : Type) (α : Type) where
  | ok (a : α) (s : S)
  | exc (e : Ex) (s : S)
  | bad
def R.bind {S α β : Type} (x : R S α) (f : α → S → R S β) : R S β := match x with
  | .ok a s => f a s
  | .exc e s => .exc e s
  | .bad => .bad
/-- what a def hands back -/
inductive RV where
  | d (x : D)
  | L (xs : List D)
inductive RS (S : Type) where
  | nx (env : Env) (s : S)
  | rt (r : RV) (s : S)
  | bk (env : Env) (s : S)
  | ct (env : Env) (s : S)
  | exc (e : Ex) (env : Env) (s : S)
  | bad
/-- what stands at an own slot's address -/
def SlAt (T : Ctx) (c : Cf) (a : Addr) (o : HO) : Sl → Prop
  | .L xs => ∃ vs, o = .lst vs ∧ Reps T c xs vs
  | .M kvs => ∃ vs, o = .dK vs ∧ RepK T c kvs vs
  | .MT kvs => ∃ vs, o = .dT vs ∧ RepT T c kvs vs
  | .O n fs => c.m 1000 = some a ∧ ∃ dx vs, o = .ins (T.cl n) dx vs ∧ RepF T c fs vs
  | _ => False
def SlOk (T : Ctx) (c : Cf) (H : Hp) (v : Option (Option V)) (sl : Sl) : Prop := match sl with
  | .no => True
  | .d x => ∃ u, v = some (some u) ∧ Rep T c x u
  | sl => ∃ a o, v = some (some (.ref a)) ∧ H a = some o ∧ c.G a = none ∧ c.F a = none ∧ SlAt T c a o sl
def OwnAt (σ : St) (env : Env) (i : Nat) (a : Addr) : Prop := (∃ sl, env[i]? = some sl ∧ sl.own = true) ∧ σ[i]? = some (some (.ref a))
structure EnvOk (T : Ctx) (c : Cf) (H : Hp) (σ : St) (env : Env) : Prop where
  len : σ.length = env.length
  sl : ∀ (i : Nat) sl, env[i]? = some sl → SlOk T c H σ[i]? sl
  dis : ∀ (i j : Nat) a, OwnAt σ env i a → OwnAt σ env j a → i = j
theorem SlAt.own {T : Ctx} {c : Cf} {a : Addr} {o : HO} : ∀ {sl : Sl}, SlAt T c a o sl → sl.own = true
  | .no, h => h.elim
  | .d _, h => h.elim
  | .L _, _ => rfl
  | .M _, _ => rfl
  | .MT _, _ => rfl
  | .O _ _, _ => rfl
theorem SlAt.mono {T : Ctx} {c c' : Cf} (e : Gx c c') {a : Addr} {o : HO} : ∀ {sl : Sl}, SlAt T c a o sl → SlAt T c' a o sl
  | .no, h => h.elim
  | .d _, h => h.elim
  | .L _, ⟨vs, h, r⟩ => ⟨vs, h, r.mono e⟩
  | .M _, ⟨vs, h, r⟩ => ⟨vs, h, r.mono e⟩
  | .MT _, ⟨vs, h, r⟩ => ⟨vs, h, r.mono e⟩
  | .O _ _, ⟨q, dx, vs, h, r⟩ => ⟨e.m _ _ q, dx, vs, h, r.mono e⟩
theorem slOk_own {T : Ctx} {c : Cf} {H : Hp} {v : Option (Option V)} {sl : Sl} (h : SlOk T c H v sl) (w : sl.own = true) : ∃ a o, v = some (some (.ref a)) ∧ H a = some o ∧ c.G a = none ∧ c.F a = none ∧ SlAt T c a o sl := by
  cases sl with
  | no => cases w
  | d x => cases w
  | L xs => exact h
  | M xs => exact h
  | MT xs => exact h
  | O n fs => exact h
theorem slOk_of {T : Ctx} {c : Cf} {H : Hp} {v : Option (Option V)} {sl : Sl} (h : ∃ a o, v = some (some (.ref a)) ∧ H a = some o ∧ c.G a = none ∧ c.F a = none ∧ SlAt T c a o sl) : SlOk T c H v sl := by
  cases sl with
  | no => trivial
  | d x =>
    obtain ⟨a, o, _, _, _, _, h⟩ := h
    exact h.elim
  | L xs => exact h
  | M xs => exact h
  | MT xs => exact h
  | O n fs => exact h
theorem SlOk.step {T : Ctx} {c c' : Cf} {H H' : Hp} (x : Stp c H c' H') {v : Option (Option V)} {sl : Sl} (h : SlOk T c H v sl) : SlOk T c' H' v sl := by
  cases w : sl.own with
  | false =>
    cases sl with
    | no => trivial
    | d y =>
      obtain ⟨u, e, r⟩ := h
      exact ⟨u, e, r.mono x.gx⟩
    | L xs => cases w
    | M xs => cases w
    | MT xs => cases w
    | O n fs => cases w
  | true =>
    obtain ⟨a, o, e, h1, h2, h3, h4⟩ := slOk_own h w
    refine slOk_of ⟨a, o, e, x.keep a o h1 h3, ?_, ?_, h4.mono x.gx⟩
    · refine x.gnone h1 h2 h3 fun fs z => ?_
      subst z
      cases sl with
      | no => exact h4.elim
      | d y => exact h4.elim
      | L xs =>
        obtain ⟨_, z, _⟩ := h4
        cases z
      | M xs =>
        obtain ⟨_, z, _⟩ := h4
        cases z
      | MT xs =>
        obtain ⟨_, z, _⟩ := h4
        cases z
      | O n fs =>
        obtain ⟨_, _, _, z, _⟩ := h4
        cases z
    · cases q : c'.F a with
      | none => rfl
      | some u =>
        rcases x.fn a u q with ⟨_, z⟩ | z
        · rw [h3] at z; cases z
        · rw [h1] at z; cases z
theorem EnvOk.step {T : Ctx} {c c' : Cf} {H H' : Hp} (x : Stp c H c' H') {σ : St} {env : Env} (h : EnvOk T c H σ env) : EnvOk T c' H' σ env :=
  ⟨h.len, fun i sl e => (h.sl i sl e).step x, h.dis⟩
/-- how a state stands in the heap -/
structure SRel (S : Type) where
  rel : S → Cf → Prop
  mono : ∀ {s : S} {c c' : Cf}, rel s c → Gx c c' → c'.F = c.F → c'.m = c.m → rel s c'
  del : ∀ {s : S} {c : Cf} {a : Addr} {ls : List V}, rel s c → c.G a = some (.lst ls) → rel s ⟨fun b => if b = a then none else c.G b, c.m, c.F⟩
theorem SRel.put {S : Type} (SR : SRel S) {s : S} {c : Cf} {p : Addr} {o : HO} (h : SR.rel s c) (hn : c.G p = none) : SR.rel s (c.put p o) := SR.mono h ⟨same_upd hn, fun _ _ z => z⟩ rfl rfl
instance {S : Type} : CoeFun (SRel S) fun _ => S → Cf → Prop := ⟨SRel.rel⟩
section
variable (T : Ctx) {S : Type} (SR : SRel S) (W : WX)
/-- how an error lies -/
def RepX (c : Cf) (H : Hp) (e : Ex) (cls : Value) (dd : Option Addr) : Prop := cls = .ref (T.cl e.c) ∧ ∃ da v, dd = some da ∧ H da = some (.xd [(e.f, v)]) ∧ c.F da = none ∧ Rep T c e.d v
/-- an end, by what is wanted of what comes -/
def Po {α : Type} (P : α → Cf → Hp → Prop) (c : Cf) (H : Hp) (σ : St) (r : R S α) : Prop := match r with
  | .ok a s' => ∀ c' H', Stp c H c' H' → SR s' c' → P a c' H'
  | .exc e s' => ∀ cls dd c' H', Stp c H c' H' → SR s' c' → RepX T c' H' e cls dd → W cls dd σ H'
  | .bad => False
abbrev wE (Q : VK) : D → Cf → Hp → Prop := fun d c' H' => ∀ v, Rep T c' d v → Q v H'
abbrev wT (Q : Bool → Hp → Prop) : Bool → Cf → Hp → Prop := fun b _ H' => Q b H'
abbrev wA (Q : List V → Hp → Prop) : List D → Cf → Hp → Prop := fun ds c' H' => ∀ vs, Reps T c' ds vs → Q vs H'
/-- a list that is nobody's yet -/
abbrev wL (H : Hp) (Q : VK) : List D → Cf → Hp → Prop := fun ds c' H' => ∀ a vs, H' a = some (.lst vs) → c'.G a = none → c'.F a = none → H a = none → Reps T c' ds vs → Q (.ref a) H'
/-- where one stands -/
structure At (σ : St) (H : Hp) (c : Cf) (env : Env) (s : S) : Prop where
  ok : CfOk c H
  en : EnvOk T c H σ env
  sr : SR s c
def tD (f : Env → S → R S D) : TE := fun σ H Q => ∃ c env s, At T SR σ H c env s ∧ Po T SR W (wE T Q) c H σ (f env s)
def tT (f : Env → S → R S Bool) : TT := fun σ H Q => ∃ c env s, At T SR σ H c env s ∧ Po T SR W (wT Q) c H σ (f env s)
def tA (f : Env → S → R S (List D)) : TA := fun σ H Q => ∃ c env s, At T SR σ H c env s ∧ Po T SR W (wA T Q) c H σ (f env s)
def tF (f : Env → S → R S (List D)) : TE := fun σ H Q => ∃ c env s, At T SR σ H c env s ∧ Po T SR W (wL T H Q) c H σ (f env s)
/-- own things are younger than the def's entry -/
def OwnNew (H0 : Hp) (σ : St) (env : Env) : Prop := ∀ i a, OwnAt σ env i a → H0 a = none
structure AtS (c0 : Cf) (H0 : Hp) (σ : St) (H : Hp) (c : Cf) (env : Env) (s : S) : Prop where
  st : Stp c0 H0 c H
  en : EnvOk T c H σ env
  own : OwnNew H0 σ env
  sr : SR s c
def PoV (c0 : Cf) (H0 : Hp) (r : RV) (s : S) (Q : VK) : Prop := match r with
  | .d x => ∀ v c' H', Stp c0 H0 c' H' → SR s c' → Rep T c' x v → Q v H'
  | .L xs => ∀ a vs c' H', Stp c0 H0 c' H' → SR s c' → H' a = some (.lst vs) → c'.G a = none → c'.F a = none → H0 a = none → Reps T c' xs vs → Q (.ref a) H'
/-- a statement's end -/
def PoS (c0 : Cf) (H0 : Hp) (c : Cf) (r : RS S) (D : Ends) : Prop := match r with
  | .nx env' s' => ∀ σ' c' H', Gx c c' → AtS T SR c0 H0 σ' H' c' env' s' → D.nx σ' H'
  | .bk env' s' => ∀ σ' c' H', Gx c c' → AtS T SR c0 H0 σ' H' c' env' s' → D.bk σ' H'
  | .ct env' s' => ∀ σ' c' H', Gx c c' → AtS T SR c0 H0 σ' H' c' env' s' → D.ct σ' H'
  | .rt r s' => PoV T SR c0 H0 r s' D.rt
  | .exc e env' s' => ∀ cls dd σ' c' H', Gx c c' → AtS T SR c0 H0 σ' H' c' env' s' → RepX T c' H' e cls dd → W cls dd σ' H'
  | .bad => False
def tS (g : Env → S → RS S) : TS := fun D σ H => ∃ c0 H0 c env s, AtS T SR c0 H0 σ H c env s ∧ PoS T SR W c0 H0 c (g env s) D
end
theorem AtS.at {T : Ctx} {S : Type} {SR : SRel S} {c0 : Cf} {H0 : Hp} {σ : St} {H : Hp} {c : Cf} {env : Env} {s : S} (x : AtS T SR c0 H0 σ H c env s) : At T SR σ H c env s := ⟨x.st.ok, x.en, x.sr⟩
theorem AtS.step {T : Ctx} {S : Type} {SR : SRel S} {c0 : Cf} {H0 : Hp} {σ : St} {H H' : Hp} {c c' : Cf} {env : Env} {s s' : S} (x : AtS T SR c0 H0 σ H c env s) (y : Stp c H c' H') (r : SR s' c') : AtS T SR c0 H0 σ H' c' env s' :=
  ⟨x.st.trans y, x.en.step y, x.own, r⟩
theorem At.step {T : Ctx} {S : Type} {SR : SRel S} {σ : St} {H H' : Hp} {c c' : Cf} {env : Env} {s s' : S} (x : At T SR σ H c env s) (y : Stp c H c' H') (r : SR s' c') : At T SR σ H' c' env s' :=
  ⟨y.ok, x.en.step y, r⟩
/-! ### the judgements -/
section
variable (T : Ctx) {S : Type} (SR : SRel S) (W : WX) (X : Cx)
abbrev DE (e : Expr) (f : Env → S → R S D) : Prop := PE X e (tD T SR W f)
abbrev DT (e : Expr) (f : Env → S → R S Bool) : Prop := PT X e (tT T SR W f)
abbrev DW (e : Expr) (f : Env → S → R S Bool) : Prop := PW X e (tT T SR W f)
abbrev DA (es : List Expr) (f : Env → S → R S (List D)) : Prop := PA X es (tA T SR W f)
abbrev DF (e : Expr) (f : Env → S → R S (List D)) : Prop := PE X e (tF T SR W f)
abbrev DS (st : Stmt) (g : Env → S → RS S) : Prop := PS X st (tS T SR W g)
abbrev DB (st : List Stmt) (g : Env → S → RS S) : Prop := PSs X st (tS T SR W g)
end
theorem PE.imp {X : Cx} {e : Expr} {t t' : TE} (h : PE X e t) (k : ∀ σ H Q, t' σ H Q → t σ H Q) : PE X e t' := ⟨fun pins s σ H Q I q => h.run pins s σ H Q I (k σ H Q q)⟩
theorem PT.imp {X : Cx} {e : Expr} {t t' : TT} (h : PT X e t) (k : ∀ σ H Q, t' σ H Q → t σ H Q) : PT X e t' := ⟨fun pins s σ H Q I q => h.run pins s σ H Q I (k σ H Q q)⟩
theorem PW.imp {X : Cx} {e : Expr} {t t' : TT} (h : PW X e t) (k : ∀ σ H Q, t' σ H Q → t σ H Q) : PW X e t' := ⟨fun wh pins s σ H Q I q => h.run wh pins s σ H Q I (k σ H Q q)⟩
theorem PA.imp {X : Cx} {e : List Expr} {t t' : TA} (h : PA X e t) (k : ∀ σ H Q, t' σ H Q → t σ H Q) : PA X e t' := ⟨fun pos pins s σ H Q I q => h.run pos pins s σ H Q I (k σ H Q q)⟩
theorem PS.imp {X : Cx} {e : Stmt} {t t' : TS} (h : PS X e t) (k : ∀ D σ H, t' D σ H → t D σ H) : PS X e t' := ⟨fun pins s σ H D I q => h.run pins s σ H D I (k D σ H q)⟩
theorem PSs.imp {X : Cx} {e : List Stmt} {t t' : TS} (h : PSs X e t) (k : ∀ D σ H, t' D σ H → t D σ H) : PSs X e t' := ⟨fun pins s σ H D I q => h.run pins s σ H D I (k D σ H q)⟩
section
variable {T : Ctx} {S : Type} {SR : SRel S} {W : WX}
theorem Po.step {α : Type} {P P' : α → Cf → Hp → Prop} {c c1 : Cf} {H H1 : Hp} {σ : St} {r : R S α} (h : Po T SR W P c H σ r) (x : Stp c H c1 H1) (hp : ∀ a c' H', P a c' H' → P' a c' H') : Po T SR W P' c1 H1 σ r := by
  cases r with
  | ok a s' => exact fun c' H' y q => hp _ _ _ (h c' H' (x.trans y) q)
  | exc e s' => exact fun cls dd c' H' y q z => h cls dd c' H' (x.trans y) q z
  | bad => exact h
/-- an expression, then what k makes of it -/
theorem Po.run {α : Type} {P : α → Cf → Hp → Prop} {f : Env → S → R S D} {k : D → S → R S α} {c : Cf} {H : Hp} {σ : St} {env : Env} {s : S} {Z : VK} (x : At T SR σ H c env s) (h : Po T SR W P c H σ ((f env s).bind k))
    (hk : ∀ d s1 v c1 H1, Stp c H c1 H1 → At T SR σ H1 c1 env s1 → Rep T c1 d v → Po T SR W P c1 H1 σ (k d s1) → Z v H1) : tD T SR W f σ H Z := by
  refine ⟨c, env, s, x, ?_⟩
  cases e : f env s with
  | ok d s1 =>
    rw [e] at h
    exact fun c' H' y q v r => hk d s1 v c' H' y (x.step y q) r (Po.step (P := P) h y fun _ _ _ z => z)
  | exc e' s1 =>
    rw [e] at h
    exact h
  | bad =>
    rw [e] at h
    exact h
theorem Po.runA {α : Type} {P : α → Cf → Hp → Prop} {f : Env → S → R S (List D)} {k : List D → S → R S α} {c : Cf} {H : Hp} {σ : St} {env : Env} {s : S} {Z : List V → Hp → Prop} (x : At T SR σ H c env s) (h : Po T SR W P c H σ ((f env s).bind k))
    (hk : ∀ d s1 v c1 H1, Stp c H c1 H1 → At T SR σ H1 c1 env s1 → Reps T c1 d v → Po T SR W P c1 H1 σ (k d s1) → Z v H1) : tA T SR W f σ H Z := by
  refine ⟨c, env, s, x, ?_⟩
  cases e : f env s with
  | ok d s1 =>
    rw [e] at h
    exact fun c' H' y q v r => hk d s1 v c' H' y (x.step y q) r (Po.step (P := P) h y fun _ _ _ z => z)
  | exc e' s1 =>
    rw [e] at h
    exact h
  | bad =>
    rw [e] at h
    exact h
theorem Po.runT {α : Type} {P : α → Cf → Hp → Prop} {f : Env → S → R S Bool} {k : Bool → S → R S α} {c : Cf} {H : Hp} {σ : St} {env : Env} {s : S} {Z : Bool → Hp → Prop} (x : At T SR σ H c env s) (h : Po T SR W P c H σ ((f env s).bind k))
    (hk : ∀ d s1 c1 H1, Stp c H c1 H1 → At T SR σ H1 c1 env s1 → Po T SR W P c1 H1 σ (k d s1) → Z d H1) : tT T SR W f σ H Z := by
  refine ⟨c, env, s, x, ?_⟩
  cases e : f env s with
  | ok d s1 =>
    rw [e] at h
    exact fun c' H' y q => hk d s1 c' H' y (x.step y q) (Po.step (P := P) h y fun _ _ _ z => z)
  | exc e' s1 =>
    rw [e] at h
    exact h
  | bad =>
    rw [e] at h
    exact h
/-- the end is reached -/
theorem Po.done {α : Type} {P : α → Cf → Hp → Prop} {c : Cf} {H : Hp} {σ : St} {a : α} {s : S} (h : Po T SR W P c H σ (.ok a s)) (ok : CfOk c H) (q : SR s c) : P a c H := h c H (Stp.refl ok) q
/-- a list of nobody's is frozen -/
theorem de_of_df {X : Cx} {e : Expr} {f : Env → S → R S (List D)} (h : DF T SR W X e f) : DE T SR W X e (fun env s => (f env s).bind fun xs s1 => .ok (.lst xs) s1) := by
  refine PE.imp h fun σ H Q ⟨c, env, s, x, h⟩ => ⟨c, env, s, x, ?_⟩
  cases e : f env s with
  | ok xs s1 =>
    simp only [e] at h
    exact fun c' H' y q a vs h1 h2 h3 h4 r => h (c'.put a (.lst vs)) H' (y.freeze h1 h2 h3 h4) (SR.put q h2) (.ref a) (.lst put_at (r.mono (Gx.put h2)))
  | exc e' s1 =>
    simp only [e] at h
    exact h
  | bad =>
    simp only [e] at h
    exact h
end
end KB
set_option Elab.async false
set_option linter.all false
set_option maxRecDepth 100000
set_option maxHeartbeats 4000000
/-! K3: operators on data -/
namespace KB
open PySem L2
/-! ### data that == and repr know -/
mutual
def D.py : D → PyData
  | .bl b => .bool b
  | .int i => .int i
  | .str l => .str (sOf l)
  | .lst xs => .list (D.pys xs)
  | .tup xs => .tuple (D.pys xs)
  | _ => .none
def D.pys : List D → List PyData
  | [] => []
  | x :: xs => D.py x :: D.pys xs
end
mutual
def D.isPy : D → Bool
  | .non => true
  | .bl _ => true
  | .int _ => true
  | .str _ => true
  | .lst xs => D.arePy xs
  | .tup xs => D.arePy xs
  | _ => false
def D.arePy : List D → Bool
  | [] => true
  | x :: xs => D.isPy x && D.arePy xs
end
mutual
theorem Rep.dp {T : Ctx} {c : Cf} {H : Hp} (e : Same c.G H) : ∀ {d : D} {v : V}, Rep T c d v → d.isPy = true → Dp T.K H v d.py
  | _, _, .non, _ => .non
  | _, _, .bl b, _ => .bl b
  | _, _, .int i, _ => .int i
  | _, _, .str l, _ => .str _
  | _, _, .lst h r, p => .lst (.inl (.inl (e _ _ h))) (Reps.dp e r p)
  | _, _, .tup h r, p => .tup (same_t e h) (Reps.dp e r p)
  | _, _, .dct _ _, p => by cases p
  | _, _, .dcT _ _, p => by cases p
  | _, _, .dcF _ _, p => by cases p
  | _, _, .ins _ _, p => by cases p
  | _, _, .exc _ _ _, p => by cases p
  | _, _, .hnd _, p => by cases p
  | _, _, .ty _, p => by cases p
  | _, _, .scr _, p => by cases p
theorem Reps.dp {T : Ctx} {c : Cf} {H : Hp} (e : Same c.G H) : ∀ {d : List D} {v : List V}, Reps T c d v → D.arePy d = true → DpAll T.K H v (D.pys d)
  | _, _, .nil, _ => .nil
  | _, _, .cons r q, p => by
    have p' := (Bool.and_eq_true_iff.mp p)
    exact .cons (Rep.dp e r p'.1) (Reps.dp e q p'.2)
end
/-- data that may be compared -/
def D.okE (x : D) : Bool := x.isPy && SeqAt.shaped x.py
/-! ### rules by values -/
def Sem2 (T : Ctx) (r : R2) (sem : D → D → Option D) : Prop := ∀ (c : Cf) (H : Hp) (x y z : D) (u v : V) (Q : VK), CfOk c H → Rep T c x u → Rep T c y v → sem x y = some z →
  (∀ w c' H', Stp c H c' H' → c'.m = c.m → c'.F = c.F → Rep T c' z w → Q w H') → r u v H Q
def Sem1 (T : Ctx) (r : V → Hp → VK → Prop) (sem : D → Option D) : Prop := ∀ (c : Cf) (H : Hp) (x z : D) (u : V) (Q : VK), CfOk c H → Rep T c x u → sem x = some z →
  (∀ w c' H', Stp c H c' H' → c'.m = c.m → c'.F = c.F → Rep T c' z w → Q w H') → r u H Q
def SemL (T : Ctx) (r : List V → Hp → VK → Prop) (sem : List D → Option D) : Prop := ∀ (c : Cf) (H : Hp) (xs : List D) (z : D) (us : List V) (Q : VK), CfOk c H → Reps T c xs us → sem xs = some z →
  (∀ w c' H', Stp c H c' H' → c'.m = c.m → c'.F = c.F → Rep T c' z w → Q w H') → r us H Q
theorem Sem2.or {T : Ctx} {r r' : R2} {sem sem' sem2 : D → D → Option D} (h : Sem2 T r sem) (h' : Sem2 T r' sem') (e : ∀ x y z, sem2 x y = some z → sem x y = some z ∨ sem' x y = some z) : Sem2 T (fun x y H Q => r x y H Q ∨ r' x y H Q) sem2 :=
  fun c H x y z u v Q ok rx ry q k => (e x y z q).elim (fun q => .inl (h c H x y z u v Q ok rx ry q k)) (fun q => .inr (h' c H x y z u v Q ok rx ry q k))
theorem Sem1.or {T : Ctx} {r r' : V → Hp → VK → Prop} {sem sem' sem2 : D → Option D} (h : Sem1 T r sem) (h' : Sem1 T r' sem') (e : ∀ x z, sem2 x = some z → sem x = some z ∨ sem' x = some z) : Sem1 T (fun x H Q => r x H Q ∨ r' x H Q) sem2 :=
  fun c H x z u Q ok rx q k => (e x z q).elim (fun q => .inl (h c H x z u Q ok rx q k)) (fun q => .inr (h' c H x z u Q ok rx q k))
theorem SemL.or {T : Ctx} {r r' : List V → Hp → VK → Prop} {sem sem' sem2 : List D → Option D} (h : SemL T r sem) (h' : SemL T r' sem') (e : ∀ x z, sem2 x = some z → sem x = some z ∨ sem' x = some z) : SemL T (fun x H Q => r x H Q ∨ r' x H Q) sem2 :=
  fun c H x z u Q ok rx q k => (e x z q).elim (fun q => .inl (h c H x z u Q ok rx q k)) (fun q => .inr (h' c H x z u Q ok rx q k))
/-- the heap stays -/
theorem stay {T : Ctx} {c : Cf} {H : Hp} (ok : CfOk c H) {z : D} {Q : VK} {w : V} (r : Rep T c z w) (k : ∀ w c' H', Stp c H c' H' → c'.m = c.m → c'.F = c.F → Rep T c' z w → Q w H') : Q w H := k w c H (Stp.refl ok) rfl rfl r
/-- a new thing -/
theorem born {T : Ctx} {c : Cf} {H : Hp} (ok : CfOk c H) {z : D} {Q : VK} {p : Addr} {o : HO} (hp : H p = none) (r : Rep T (c.put p o) z (.ref p)) (k : ∀ w c' H', Stp c H c' H' → c'.m = c.m → c'.F = c.F → Rep T c' z w → Q w H') : Q (.ref p) (upd H p o) :=
  k _ (c.put p o) _ (Stp.put ok hp) rfl rfl r
theorem bornL {T : Ctx} {c : Cf} {H : Hp} (ok : CfOk c H) {zs : List D} {vs : List V} {Q : VK} {p : Addr} (hp : H p = none) (r : Reps T c zs vs) (k : ∀ w c' H', Stp c H c' H' → c'.m = c.m → c'.F = c.F → Rep T c' (.lst zs) w → Q w H') : Q (.ref p) (upd H p (.lst vs)) :=
  born ok hp (.lst put_at (r.mono (Gx.put (free_of ok.gh hp)))) k
theorem bornT {T : Ctx} {c : Cf} {H : Hp} (ok : CfOk c H) {zs : List D} {vs : List V} {Q : VK} {p : Addr} (hp : H p = none) (r : Reps T c zs vs) (k : ∀ w c' H', Stp c H c' H' → c'.m = c.m → c'.F = c.F → Rep T c' (.tup zs) w → Q w H') : Q (.ref p) (upd H p (.tup vs)) :=
  born ok hp (.tup (.inl (.inl put_at)) (r.mono (Gx.put (free_of ok.gh hp)))) k
/-! ### two ints -/
def intI (C : Int → Int → Bool) (g : Int → Int → D) : D → D → Option D
  | .int i, .int j => if C i j then some (g i j) else none
  | _, _ => none
theorem sem_I {T : Ctx} {C : Int → Int → Prop} {Cb : Int → Int → Bool} {g : Int → Int → V} {gd : Int → Int → D} (hc : ∀ i j, Cb i j = true → C i j) (hg : ∀ (c : Cf) i j, Rep T c (gd i j) (g i j)) : Sem2 T (rI C g) (intI Cb gd) := by
  intro c H x y z u v Q ok rx ry e k
  cases rx <;> try (cases e; done)
  cases ry <;> try (cases e; done)
  rename_i i j
  simp only [intI] at e
  split at e
  · rename_i hh
    cases e
    exact ⟨i, j, rfl, rfl, hc i j hh, stay ok (hg c i j) k⟩
  · cases e
theorem sem_I0 {T : Ctx} {g : Int → Int → V} {gd : Int → Int → D} (hg : ∀ (c : Cf) i j, Rep T c (gd i j) (g i j)) : Sem2 T (rI0 g) (intI (fun _ _ => true) gd) := by
  intro c H x y z u v Q ok rx ry e k
  cases rx <;> try (cases e; done)
  cases ry <;> try (cases e; done)
  rename_i i j
  cases e
  exact ⟨i, j, rfl, rfl, stay ok (hg c i j) k⟩
/-! ### + -/
def strA : D → D → Option D
  | .str a, .str b => if a.length + b.length ≤ 16777216 then some (.str (a ++ b)) else none
  | _, _ => none
def tupA : D → D → Option D
  | .tup a, .tup b => if a.length + b.length ≤ 16777216 then some (.tup (a ++ b)) else none
  | _, _ => none
def lstA : D → D → Option D
  | .lst a, .lst b => if a.length + b.length ≤ 16777216 then some (.lst (a ++ b)) else none
  | _, _ => none
theorem sem_strA {T : Ctx} : Sem2 T (fun x y H Q => ∃ i j, x = .str i ∧ y = .str j ∧ i.length + j.length ≤ sizeLine ∧ Q (.str (i ++ j)) H) strA := by
  intro c H x y z u v Q ok rx ry e k
  cases rx <;> try (cases e; done)
  cases ry <;> try (cases e; done)
  rename_i a b
  simp only [strA] at e
  split at e
  · rename_i hh
    cases e
    refine ⟨_, _, rfl, rfl, by rw [sOf_len, sOf_len, sizeLine_eq]; exact hh, ?_⟩
    rw [sOf_app]
    exact stay ok (.str _) k
  · cases e
theorem sem_tupA {T : Ctx} : Sem2 T (rCatA T.K) tupA := by
  intro c H x y z u v Q ok rx ry e k
  cases rx <;> try (cases e; done)
  cases ry <;> try (cases e; done)
  rename_i a vs xs h1 r1 b ws ys h2 r2
  simp only [tupA] at e
  split at e
  · rename_i hh
    cases e
    refine ⟨_, _, vs, ws, rfl, rfl, same_t ok.gh h1, same_t ok.gh h2, by rw [← r1.length, ← r2.length, sizeLine_eq]; exact hh, fun q => ?_, fun _ q => ?_, fun _ _ p hp => ?_⟩
    · subst q
      cases r1
      exact stay ok (.tup h2 r2) k
    · subst q
      cases r2
      rw [List.append_nil] at k
      exact stay ok (.tup h1 r1) k
    · exact bornT ok hp (r1.app r2) k
  · cases e
theorem sem_lstA {T : Ctx} : Sem2 T rCat lstA := by
  intro c H x y z u v Q ok rx ry e k
  cases rx <;> try (cases e; done)
  cases ry <;> try (cases e; done)
  rename_i a vs xs h1 r1 b ws ys h2 r2
  simp only [lstA] at e
  split at e
  · rename_i hh
    cases e
    exact ⟨_, _, vs, ws, rfl, rfl, ok.gh _ _ h1, ok.gh _ _ h2, by rw [← r1.length, ← r2.length, sizeLine_eq]; exact hh, fun p hp => bornL ok hp (r1.app r2) k⟩
  · cases e
def addD (x y : D) : Option D := match x with
  | .int i => match y with
    | .int j => some (.int (i + j))
    | _ => none
  | .str _ => strA x y
  | .tup _ => tupA x y
  | .lst _ => lstA x y
  | _ => none
theorem op_addD {X : Cx} {T : Ctx} (hK : X.K = T.K) : ∃ r, OpR X (binaryOp .Add) r ∧ Sem2 T r addD := by
  refine ⟨_, op_add.or (op_add_str.or (op_catA.or op_cat)), ?_⟩
  rw [hK]
  refine Sem2.or (sem_I0 (gd := fun i j => .int (i + j)) fun c i j => .int _) (Sem2.or sem_strA (Sem2.or sem_tupA sem_lstA (sem2 := fun x y => (tupA x y).or (lstA x y)) fun x y z h => ?_) (sem2 := fun x y => (strA x y).or ((tupA x y).or (lstA x y))) fun x y z h => ?_) fun x y z h => ?_
  · cases e : tupA x y with
    | none =>
      simp only [e, Option.or] at h
      exact .inr h
    | some w =>
      simp only [e, Option.or] at h
      exact .inl h
  · cases e : strA x y with
    | none =>
      simp only [e, Option.or] at h
      exact .inr h
    | some w =>
      simp only [e, Option.or] at h
      exact .inl h
  · cases x <;> try (cases h; done)
    · cases y <;> try (cases h; done)
      exact .inl h
    · refine .inr ?_
      have h' : strA (.str _) y = some z := h
      rw [h']
      rfl
    · refine .inr ?_
      have h' : lstA (.lst _) y = some z := h
      show (strA (.lst _) y).or ((tupA (.lst _) y).or (lstA (.lst _) y)) = some z
      rw [h']
      rfl
    · refine .inr ?_
      have h' : tupA (.tup _) y = some z := h
      show (strA (.tup _) y).or ((tupA (.tup _) y).or (lstA (.tup _) y)) = some z
      rw [h']
      rfl
/-! ### -, *, %, //, ** -/
def subD : D → D → Option D := intI (fun _ _ => true) fun i j => .int (i - j)
theorem op_subD {X : Cx} {T : Ctx} : ∃ r, OpR X (binaryOp .Sub) r ∧ Sem2 T r subD := ⟨_, op_sub, sem_I0 fun c i j => .int _⟩
def smallB (i : Int) : Bool := decide (-(2 ^ 64) < i) && decide (i < 2 ^ 64)
def lstR : D → D → Option D
  | .lst a, .int k => if a.length * k.toNat ≤ 16777216 ∧ k < 2 ^ 63 ∧ -(2 ^ 63) ≤ k then some (.lst (List.replicate k.toNat a).flatten) else none
  | _, _ => none
def tupR : D → D → Option D
  | .tup a, .int k => if a ≠ [] ∧ 2 ≤ k ∧ k ≤ 1000 ∧ a.length ≤ 1000 then some (.tup (List.replicate k.toNat a).flatten) else none
  | _, _ => none
def mulI : D → D → Option D := intI (fun i j => smallB i || smallB j) fun i j => .int (i * j)
def mulD (x y : D) : Option D := match x with
  | .int _ => mulI x y
  | .lst _ => lstR x y
  | .tup _ => tupR x y
  | _ => none
theorem sem_lstR {T : Ctx} : Sem2 T rRep lstR := by
  intro c H x y z u v Q ok rx ry e k
  cases rx <;> try (cases e; done)
  cases ry <;> try (cases e; done)
  rename_i a vs xs h1 r1 j
  simp only [lstR] at e
  split at e
  · rename_i hh
    cases e
    exact ⟨_, _, vs, rfl, rfl, ok.gh _ _ h1, hh.2.2, hh.2.1, by rw [← r1.length, sizeLine_eq]; exact hh.1, fun p hp => bornL ok hp (r1.rep _) k⟩
  · cases e
theorem sem_tupR {T : Ctx} : Sem2 T (rRepT T.K) tupR := by
  intro c H x y z u v Q ok rx ry e k
  cases rx <;> try (cases e; done)
  cases ry <;> try (cases e; done)
  rename_i a vs xs h1 r1 j
  simp only [tupR] at e
  split at e
  · rename_i hh
    cases e
    refine ⟨_, _, vs, rfl, rfl, same_t ok.gh h1, fun q => ?_, hh.2.1, hh.2.2.1, by rw [← r1.length]; exact hh.2.2.2, fun p hp => bornT ok hp (r1.rep _) k⟩
    subst q
    cases r1
    exact hh.1 rfl
  · cases e
theorem small_ok {i : Int} (h : smallB i = true) : -(2 ^ 64) < i ∧ i < 2 ^ 64 := by
  simp only [smallB, Bool.and_eq_true, decide_eq_true_eq] at h
  exact h
theorem op_mulD {X : Cx} {T : Ctx} (hK : X.K = T.K) : ∃ r, OpR X (binaryOp .Mult) r ∧ Sem2 T r mulD := by
  refine ⟨_, op_mul.or (op_rep.or op_repT), ?_⟩
  rw [hK]
  refine Sem2.or (sem_I (Cb := fun i j => smallB i || smallB j) (gd := fun i j => .int (i * j)) (fun i j h => ?_) fun c i j => .int _) (Sem2.or sem_lstR sem_tupR (sem2 := fun x y => (lstR x y).or (tupR x y)) fun x y z h => ?_) fun x y z h => ?_
  · rcases Bool.or_eq_true_iff.mp h with h | h
    · exact .inl (small_ok h)
    · exact .inr (small_ok h)
  · cases e : lstR x y with
    | none =>
      simp only [e, Option.or] at h
      exact .inr h
    | some w =>
      simp only [e, Option.or] at h
      exact .inl h
  · cases x <;> try (cases h; done)
    · exact .inl h
    · refine .inr ?_
      have h' : lstR (.lst _) y = some z := h
      rw [h']
      rfl
    · refine .inr ?_
      have h' : tupR (.tup _) y = some z := h
      show (lstR (.tup _) y).or (tupR (.tup _) y) = some z
      rw [h']
      rfl
def modD : D → D → Option D := intI (fun _ j => decide (0 < j)) fun i j => .int (i % j)
theorem op_modD {X : Cx} {T : Ctx} : ∃ r, OpR X (binaryOp .Mod) r ∧ Sem2 T r modD := ⟨_, op_mod, sem_I (fun i j h => of_decide_eq_true h) fun c i j => .int _⟩
def fdivD : D → D → Option D := intI (fun _ j => decide (0 < j) && decide (j.natAbs.log2 < 9000)) fun i j => .int (i / j)
theorem op_fdivD {X : Cx} {T : Ctx} : ∃ r, OpR X (binaryOp .FloorDiv) r ∧ Sem2 T r fdivD := ⟨_, op_fdivW, sem_I (fun i j h => by
  simp only [Bool.and_eq_true, decide_eq_true_eq] at h
  exact h) fun c i j => .int _⟩
def powD : D → D → Option D := intI (fun i j => decide (0 ≤ j) && decide (j ≤ 1000000) && decide (i.natAbs < 2 ^ 64)) fun i j => .int (i ^ j.toNat)
theorem op_powD {X : Cx} {T : Ctx} : ∃ r, OpR X (binaryOp .Pow) r ∧ Sem2 T r powD := ⟨_, op_pow, sem_I (fun i j h => by
  simp only [Bool.and_eq_true, decide_eq_true_eq] at h
  exact ⟨h.1.1, h.1.2, h.2⟩) fun c i j => .int _⟩
def negD : D → Option D
  | .int i => some (.int (-i))
  | _ => none
theorem op_negD {X : Cx} {T : Ctx} : ∃ r, UnR X (unaryOp .USub) r ∧ Sem1 T r negD := by
  refine ⟨_, un_neg, fun c H x z u Q ok rx e k => ?_⟩
  cases rx <;> try (cases e; done)
  cases e
  exact ⟨_, rfl, stay ok (.int _) k⟩
/-! ### comparisons -/
def eqD (x y : D) : Option D := match x, y with
  | .str a, .str b => some (.bl (a == b))
  | x, y => if x.okE = true ∧ y.okE = true then some (.bl (PyData.eqv x.py y.py)) else none
def neD (x y : D) : Option D := match x, y with
  | .str a, .str b => some (.bl (!(a == b)))
  | x, y => if x.okE = true ∧ y.okE = true then some (.bl (!PyData.eqv x.py y.py)) else none
theorem dec_sOf (a b : List Nat) : decide (V.str (sOf a) = V.str (sOf b)) = (a == b) := by
  by_cases h : a = b
  · subst h
    simp
  · have h2 : ¬ (V.str (sOf a) = V.str (sOf b)) := fun z => h (sOf_inj (V.str.inj z))
    rw [decide_eq_false h2]
    simp [h]
theorem okE_py {x : D} (h : x.okE = true) : x.isPy = true ∧ SeqAt.shaped x.py = true := Bool.and_eq_true_iff.mp h
theorem op_eqD' {X : Cx} {T : Ctx} (hK : X.K = T.K) (hu : X.A.units + 64 < cLine) : ∃ r, OpR X (compareOp .Eq) r ∧ Sem2 T r eqD := by
  refine ⟨_, op_eq.or (op_eqD hu), fun c H x y z u v Q ok rx ry e k => ?_⟩
  have els : (if x.okE = true ∧ y.okE = true then some (D.bl (PyData.eqv x.py y.py)) else none) = some z → ∃ d e, Dp X.K H u d ∧ Dp X.K H v e ∧ SeqAt.shaped d = true ∧ SeqAt.shaped e = true ∧ Q (.bl (PyData.eqv d e)) H := by
    intro e
    split at e
    · rename_i hh
      cases e
      rw [hK]
      exact ⟨_, _, rx.dp ok.gh (okE_py hh.1).1, ry.dp ok.gh (okE_py hh.2).1, (okE_py hh.1).2, (okE_py hh.2).2, stay ok (.bl _) k⟩
    · cases e
  cases rx with
  | str a =>
    cases ry with
    | str b =>
      cases e
      refine .inl ⟨rfl, ?_⟩
      rw [dec_sOf]
      exact stay ok (.bl _) k
    | _ => exact .inr (els e)
  | _ => exact .inr (els e)
theorem op_neD' {X : Cx} {T : Ctx} (hK : X.K = T.K) (hu : X.A.units + 64 < cLine) : ∃ r, OpR X (compareOp .NotEq) r ∧ Sem2 T r neD := by
  refine ⟨_, op_ne.or (op_neD hu), fun c H x y z u v Q ok rx ry e k => ?_⟩
  have els : (if x.okE = true ∧ y.okE = true then some (D.bl (!PyData.eqv x.py y.py)) else none) = some z → ∃ d e, Dp X.K H u d ∧ Dp X.K H v e ∧ SeqAt.shaped d = true ∧ SeqAt.shaped e = true ∧ Q (.bl (!PyData.eqv d e)) H := by
    intro e
    split at e
    · rename_i hh
      cases e
      rw [hK]
      exact ⟨_, _, rx.dp ok.gh (okE_py hh.1).1, ry.dp ok.gh (okE_py hh.2).1, (okE_py hh.1).2, (okE_py hh.2).2, stay ok (.bl _) k⟩
    · cases e
  cases rx with
  | str a =>
    cases ry with
    | str b =>
      cases e
      refine .inl ⟨rfl, ?_⟩
      rw [dec_sOf]
      exact stay ok (.bl _) k
    | _ => exact .inr (els e)
  | _ => exact .inr (els e)
def cmpD (gi : Int → Int → Bool) (gs : List Nat → List Nat → Bool) : D → D → Option D
  | .int i, .int j => some (.bl (gi i j))
  | .str a, .str b => some (.bl (gs a b))
  | _, _ => none
theorem sem_cmp {T : Ctx} {gi : Int → Int → Bool} {gs : List Nat → List Nat → Bool} {gS : Str → Str → Bool} (hg : ∀ a b, gS (sOf a) (sOf b) = gs a b) :
    Sem2 T (fun x y H Q => rI0 (fun i j => .bl (gi i j)) x y H Q ∨ ∃ i j, x = .str i ∧ y = .str j ∧ Q (.bl (gS i j)) H) (cmpD gi gs) := by
  intro c H x y z u v Q ok rx ry e k
  cases rx <;> try (cases e; done)
  · cases ry <;> try (cases e; done)
    cases e
    exact .inl ⟨_, _, rfl, rfl, stay ok (.bl _) k⟩
  · cases ry <;> try (cases e; done)
    cases e
    refine .inr ⟨_, _, rfl, rfl, ?_⟩
    rw [hg]
    exact stay ok (.bl _) k
def ltD : D → D → Option D := cmpD (fun i j => decide (i < j)) fun a b => decide (a < b)
def leD : D → D → Option D := cmpD (fun i j => decide (i ≤ j)) fun a b => !decide (b < a)
def gtD : D → D → Option D := cmpD (fun i j => decide (j < i)) fun a b => decide (b < a)
def geD : D → D → Option D := cmpD (fun i j => decide (j ≤ i)) fun a b => !decide (a < b)
theorem op_ltD {X : Cx} {T : Ctx} : ∃ r, OpR X (compareOp .Lt) r ∧ Sem2 T r ltD := ⟨_, op_lt.or op_lt_str, sem_cmp (gS := fun i j => decide (i.cps.toList < j.cps.toList)) fun _ _ => rfl⟩
theorem op_leD {X : Cx} {T : Ctx} : ∃ r, OpR X (compareOp .LtE) r ∧ Sem2 T r leD := ⟨_, op_le.or op_le_str, sem_cmp (gS := fun i j => !decide (j.cps.toList < i.cps.toList)) fun _ _ => rfl⟩
theorem op_gtD {X : Cx} {T : Ctx} : ∃ r, OpR X (compareOp .Gt) r ∧ Sem2 T r gtD := ⟨_, op_gt.or op_gt_str, sem_cmp (gS := fun i j => decide (j.cps.toList < i.cps.toList)) fun _ _ => rfl⟩
theorem op_geD {X : Cx} {T : Ctx} : ∃ r, OpR X (compareOp .GtE) r ∧ Sem2 T r geD := ⟨_, op_ge.or op_ge_str, sem_cmp (gS := fun i j => !decide (i.cps.toList < j.cps.toList)) fun _ _ => rfl⟩
def isNonD : D → Option D
  | .non => some (.bl true)
  | _ => some (.bl false)
def notNonD : D → Option D
  | .non => some (.bl false)
  | _ => some (.bl true)
end KB
set_option Elab.async false
set_option linter.all false
set_option maxRecDepth 100000
set_option maxHeartbeats 4000000
/-! K4: expressions -/
namespace KB
open PySem L2
section
variable {S : Type}
/-! ### what expressions are worth -/
def eVar (i : Nat) : Env → S → R S D := fun env s => match env[i]? with
  | some (.d x) => .ok x s
  | _ => .bad
def eC (d : D) : Env → S → R S D := fun _ s => .ok d s
def R.of {α : Type} (o : Option α) (s : S) : R S α := match o with
  | some a => .ok a s
  | none => .bad
def eOp2 (sem : D → D → Option D) (f g : Env → S → R S D) : Env → S → R S D := fun env s => (f env s).bind fun x s1 => (g env s1).bind fun y s2 => R.of (sem x y) s2
def eOp1 (sem : D → Option D) (f : Env → S → R S D) : Env → S → R S D := fun env s => (f env s).bind fun x s1 => R.of (sem x) s1
def aNil : Env → S → R S (List D) := fun _ s => .ok [] s
def aCons (f : Env → S → R S D) (g : Env → S → R S (List D)) : Env → S → R S (List D) := fun env s => (f env s).bind fun x s1 => (g env s1).bind fun xs s2 => .ok (x :: xs) s2
def eTup (f : Env → S → R S (List D)) : Env → S → R S D := fun env s => (f env s).bind fun xs s1 => if xs.length ≤ 16777216 then .ok (.tup xs) s1 else .bad
def fLst (f : Env → S → R S (List D)) : Env → S → R S (List D) := fun env s => (f env s).bind fun xs s1 => if xs.length ≤ 16777216 then .ok xs s1 else .bad
def eFz (f : Env → S → R S (List D)) : Env → S → R S D := fun env s => (f env s).bind fun xs s1 => .ok (.lst xs) s1
def eAnd (f g : Env → S → R S D) : Env → S → R S D := fun env s => (f env s).bind fun x s1 => match x with
  | .bl true => g env s1
  | .bl false => .ok (.bl false) s1
  | _ => .bad
def eOr (f g : Env → S → R S D) : Env → S → R S D := fun env s => (f env s).bind fun x s1 => match x with
  | .bl true => .ok (.bl true) s1
  | .bl false => g env s1
  | _ => .bad
def notD : D → Option D
  | .bl b => some (.bl (!b))
  | _ => none
def eIf (t : Env → S → R S Bool) (f g : Env → S → R S D) : Env → S → R S D := fun env s => (t env s).bind fun b s1 => if b = true then f env s1 else g env s1
def eChain (sem sem' : D → D → Option D) (f g h : Env → S → R S D) : Env → S → R S D := fun env s => (f env s).bind fun x s1 => (g env s1).bind fun y s2 => (R.of (sem x y) s2).bind fun b s3 => match b with
  | .bl true => (h env s3).bind fun z s4 => R.of (sem' y z) s4
  | .bl false => .ok (.bl false) s3
  | _ => .bad
def truD : D → Option Bool
  | .non => some false
  | .bl b => some b
  | .int i => some (i != 0)
  | .str l => if l.length ≤ 16777216 then some (!l.isEmpty) else none
  | .lst xs => some (!xs.isEmpty)
  | .tup xs => some (!xs.isEmpty)
  | .dct xs => some (!xs.isEmpty)
  | _ => none
def tTru (f : Env → S → R S D) : Env → S → R S Bool := fun env s => (f env s).bind fun x s1 => R.of (truD x) s1
def tBl (f : Env → S → R S D) : Env → S → R S Bool := fun env s => (f env s).bind fun x s1 => match x with
  | .bl b => .ok b s1
  | _ => .bad
def bAnd (f g : Env → S → R S Bool) : Env → S → R S Bool := fun env s => (f env s).bind fun b s1 => if b = true then g env s1 else .ok false s1
def bOr (f g : Env → S → R S Bool) : Env → S → R S Bool := fun env s => (f env s).bind fun b s1 => if b = true then .ok true s1 else g env s1
def bNot (f : Env → S → R S Bool) : Env → S → R S Bool := fun env s => (f env s).bind fun b s1 => .ok (!b) s1
/-- a call on values -/
def eCl (sem : List D → Option D) (f : Env → S → R S (List D)) : Env → S → R S D := fun env s => (f env s).bind fun xs s1 => R.of (sem xs) s1
/-- an optional part of a slice -/
def pNone : Env → S → R S (Option Int) := fun _ s => .ok none s
def pSome (f : Env → S → R S D) : Env → S → R S (Option Int) := fun env s => (f env s).bind fun x s1 => match x with
  | .int i => .ok (some i) s1
  | _ => .bad
def eSl (sem : D → Option Int → Option Int → Option D) (f : Env → S → R S D) (g h : Env → S → R S (Option Int)) : Env → S → R S D := fun env s => (f env s).bind fun x s1 => (g env s1).bind fun l s2 => (h env s2).bind fun u s3 => R.of (sem x l u) s3
end
section
variable {T : Ctx} {S : Type} {SR : SRel S} {W : WX} {X : Cx}
variable {a b c : Expr} {es : List Expr} {f g h : Env → S → R S D} {fs : Env → S → R S (List D)} {t u : Env → S → R S Bool} {pos : Pos}
/-- an answer by values, reached -/
theorem Po.value {sem : Option D} {c : Cf} {H : Hp} {σ : St} {env : Env} {s : S} {Q : VK} (x : At T SR σ H c env s) (p : Po T SR W (wE T Q) c H σ (R.of sem s)) :
    ∃ z, sem = some z ∧ ∀ w c' H', Stp c H c' H' → c'.m = c.m → c'.F = c.F → Rep T c' z w → Q w H' := by
  cases e : sem with
  | none =>
    rw [e] at p
    exact p.elim
  | some z =>
    rw [e] at p
    exact ⟨z, rfl, fun w c' H' y hm hf r => p c' H' y (SR.mono x.sr y.gx hf hm) w r⟩
theorem de_var {i : Nat} {x : Str} (hN : X.N[i]? = some x) (hv : Vis X.env.scope x) (hd : (x == ("__debug__" : Str)) = false := by decide) (hcd : (x == ("__classdict__" : Str)) = false := by decide) : DE T SR W X (.Name x pos) (eVar i) := by
  refine PE.imp (pe_var hN hv hd hcd) fun σ H Q ⟨c, env, s, x, p⟩ => ?_
  unfold eVar at p
  split at p
  · rename_i d e
    obtain ⟨v, ev, r⟩ := x.en.sl i _ e
    exact ⟨v, ev, p.done x.ok x.sr v r⟩
  · exact p.elim
theorem de_int {i : Int} {j : Nat} : DE T SR W X (.Constant (.int i) j pos) (eC (.int i)) := PE.imp pe_int fun σ H Q ⟨c, env, s, x, p⟩ => p.done x.ok x.sr _ (.int i)
theorem de_bl {i : Bool} {j : Nat} : DE T SR W X (.Constant (.bool i) j pos) (eC (.bl i)) := PE.imp pe_bl fun σ H Q ⟨c, env, s, x, p⟩ => p.done x.ok x.sr _ (.bl i)
theorem de_non {j : Nat} : DE T SR W X (.Constant .none j pos) (eC .non) := PE.imp pe_non fun σ H Q ⟨c, env, s, x, p⟩ => p.done x.ok x.sr _ .non
theorem de_str {z : Str} {l : List Nat} {j : Nat} (e : z = sOf l) : DE T SR W X (.Constant (.str z) j pos) (eC (.str l)) := by
  subst e
  exact PE.imp pe_str fun σ H Q ⟨c, env, s, x, p⟩ => p.done x.ok x.sr _ (.str l)
/-- a constant of the module -/
theorem de_glob {x : Str} {v : V} {w : Value} {d : D} (hg : Gl X x) (hm : X.mg x = some w) (r : RelV v w) (hd : ∀ c, Rep T c d v) (hdb : (x == ("__debug__" : Str)) = false := by decide) : DE T SR W X (.Name x pos) (eC d) :=
  PE.imp (pe_glob hg hm r hdb) fun σ H Q ⟨c, env, s, x, p⟩ => p.done x.ok x.sr _ (hd c)
theorem da_nil : DA T SR W X [] aNil := PA.imp pa_nil fun σ H Q ⟨c, env, s, x, p⟩ => p.done x.ok x.sr _ .nil
theorem da_cons (ha : DE T SR W X a f) (hr : DA T SR W X es fs) (hs : starEach (a :: es) X.env = (false, eval a X.env) :: starEach es X.env := by rfl) : DA T SR W X (a :: es) (aCons f fs) := by
  refine PA.imp (pa_cons ha hr hs) fun σ H Q ⟨c, env, s, x, p⟩ => ?_
  refine Po.run x p fun d s1 v c1 H1 st1 x1 r1 p1 => ?_
  refine Po.runA x1 p1 fun ds s2 vs c2 H2 st2 x2 r2 p2 => ?_
  exact p2.done x2.ok x2.sr _ (.cons (r1.mono st2.gx) r2)
theorem de_tup {k : Nat} (hf : DA T SR W X es fs) : DE T SR W X (.Tuple es k pos) (eTup fs) := by
  refine PE.imp (pe_tup hf) fun σ H Q ⟨c, env, s, x, p⟩ => ?_
  refine Po.runA x p fun ds s2 vs c2 H2 st2 x2 r2 p2 => ?_
  split at p2
  · rename_i hl
    refine ⟨by rw [← r2.length, sizeLine_eq]; exact hl, fun q hq => ?_⟩
    exact p2 (c2.put q (.tup vs)) _ (Stp.put x2.ok hq) (SR.put x2.sr (free_of x2.ok.gh hq)) _ (.tup (.inl (.inl put_at)) (r2.mono (Gx.put (free_of x2.ok.gh hq))))
  · exact p2.elim
theorem df_lst (hf : DA T SR W X es fs) : DF T SR W X (.List es pos) (fLst fs) := by
  refine PE.imp (pe_lst hf) fun σ H Q ⟨c, env, s, x, p⟩ => ?_
  refine Po.runA x p fun ds s2 vs c2 H2 st2 x2 r2 p2 => ?_
  split at p2
  · rename_i hl
    refine ⟨by rw [← r2.length, sizeLine_eq]; exact hl, fun q hq => ?_⟩
    refine p2 c2 _ (Stp.new x2.ok hq) x2.sr q vs upd_same (free_of x2.ok.gh hq) (free_of x2.ok.fh hq) ?_ r2
    cases e : H q with
    | none => rfl
    | some o =>
      obtain ⟨o1, e1⟩ := st2.dom q o e
      rw [hq] at e1; cases e1
  · exact p2.elim
theorem de_fz (hf : DF T SR W X a fs) : DE T SR W X a (eFz fs) := de_of_df hf
theorem de_bin {op : Operator} {sem : D → D → Option D} (ho : ∃ r, OpR X (binaryOp op) r ∧ Sem2 T r sem) (ha : DE T SR W X a f) (hb : DE T SR W X b g) : DE T SR W X (.BinOp a op b pos) (eOp2 sem f g) := by
  obtain ⟨r, hr, hs⟩ := ho
  refine PE.imp (pe_op hr ha hb) fun σ H Q ⟨c, env, s, x, p⟩ => ?_
  refine Po.run x p fun d s1 v c1 H1 st1 x1 r1 p1 => ?_
  refine Po.run x1 p1 fun e s2 w c2 H2 st2 x2 r2 p2 => ?_
  obtain ⟨z, hz, k⟩ := p2.value x2
  exact hs c2 H2 d e z v w Q x2.ok (r1.mono st2.gx) r2 hz k
theorem de_cmp {op : CmpOp} {sem : D → D → Option D} (ho : ∃ r, OpR X (compareOp op) r ∧ Sem2 T r sem) (ha : DE T SR W X a f) (hb : DE T SR W X b g) (hm : behindInMarks op b = false) : DE T SR W X (.Compare a [op] [b] pos) (eOp2 sem f g) := by
  obtain ⟨r, hr, hs⟩ := ho
  refine PE.imp (pe_cmpR hr ha hb hm) fun σ H Q ⟨c, env, s, x, p⟩ => ?_
  refine Po.run x p fun d s1 v c1 H1 st1 x1 r1 p1 => ?_
  refine Po.run x1 p1 fun e s2 w c2 H2 st2 x2 r2 p2 => ?_
  obtain ⟨z, hz, k⟩ := p2.value x2
  exact hs c2 H2 d e z v w Q x2.ok (r1.mono st2.gx) r2 hz k
theorem de_un {op : UnaryOp} {sem : D → Option D} (ho : ∃ r, UnR X (unaryOp op) r ∧ Sem1 T r sem) (ha : DE T SR W X a f) : DE T SR W X (.UnaryOp op a pos) (eOp1 sem f) := by
  obtain ⟨r, hr, hs⟩ := ho
  refine PE.imp (pe_un hr ha) fun σ H Q ⟨c, env, s, x, p⟩ => ?_
  refine Po.run x p fun d s1 v c1 H1 st1 x1 r1 p1 => ?_
  obtain ⟨z, hz, k⟩ := p1.value x1
  exact hs c1 H1 d z v Q x1.ok r1 hz k
theorem de_one {op : BoolOp} (ha : DE T SR W X a f) : DE T SR W X (.BoolOp op [a] pos) f := pe_one ha
theorem de_and (ha : DE T SR W X a f) (hb : DE T SR W X (.BoolOp .And (b :: es) pos) g) : DE T SR W X (.BoolOp .And (a :: b :: es) pos) (eAnd f g) := by
  refine PE.imp (pe_and ha hb) fun σ H Q ⟨c, env, s, x, p⟩ => ?_
  refine Po.run x p fun d s1 v c1 H1 st1 x1 r1 p1 => ?_
  cases r1 <;> try (exact p1.elim)
  rename_i k
  refine ⟨k, rfl, ?_⟩
  cases k with
  | true => exact ⟨c1, env, s1, x1, p1⟩
  | false => exact p1.done x1.ok x1.sr _ (.bl false)
theorem de_or (ha : DE T SR W X a f) (hb : DE T SR W X (.BoolOp .Or (b :: es) pos) g) : DE T SR W X (.BoolOp .Or (a :: b :: es) pos) (eOr f g) := by
  refine PE.imp (pe_or ha hb) fun σ H Q ⟨c, env, s, x, p⟩ => ?_
  refine Po.run x p fun d s1 v c1 H1 st1 x1 r1 p1 => ?_
  cases r1 <;> try (exact p1.elim)
  rename_i k
  refine ⟨k, rfl, ?_⟩
  cases k with
  | true => exact p1.done x1.ok x1.sr _ (.bl true)
  | false => exact ⟨c1, env, s1, x1, p1⟩
theorem de_if (hc : DT T SR W X c t) (ha : DE T SR W X a f) (hb : DE T SR W X b g) : DE T SR W X (.IfExp c a b pos) (eIf t f g) := by
  refine PE.imp (pe_ifExp hc ha hb) fun σ H Q ⟨c, env, s, x, p⟩ => ?_
  refine Po.runT x p fun d s1 c1 H1 st1 x1 p1 => ?_
  cases d with
  | true => exact ⟨c1, env, s1, x1, p1⟩
  | false => exact ⟨c1, env, s1, x1, p1⟩
/-! ### tests -/
theorem dt_cmp {op : CmpOp} {sem : D → D → Option D} (ho : ∃ r, OpR X (compareOp op) r ∧ Sem2 T r sem) (ha : DE T SR W X a f) (hb : DE T SR W X b g) (hm : behindInMarks op b = false) : DT T SR W X (.Compare a [op] [b] pos) (tBl (eOp2 sem f g)) := by
  obtain ⟨r, hr, hs⟩ := ho
  refine PT.imp (pt_cmpR hr ha hb hm) fun σ H Q ⟨c, env, s, x, p⟩ => ?_
  have p' : Po T SR W (wT Q) c H σ ((f env s).bind fun x s1 => (g env s1).bind fun y s2 => (R.of (sem x y) s2).bind fun x s1 => match x with
    | .bl b => .ok b s1
    | _ => .bad) := by
    have e : tBl (eOp2 sem f g) env s = ((f env s).bind fun x s1 => (g env s1).bind fun y s2 => (R.of (sem x y) s2).bind fun x s1 => match x with
    | .bl b => .ok b s1
    | _ => .bad) := by
      show R.bind (R.bind _ _) _ = _
      cases f env s with
      | ok a s1 =>
        show R.bind (R.bind (g env s1) _) _ = R.bind (g env s1) _
        cases g env s1 <;> rfl
      | exc e s1 => rfl
      | bad => rfl
    rw [← e]
    exact p
  refine Po.run x p' fun d s1 v c1 H1 st1 x1 r1 p1 => ?_
  refine Po.run x1 p1 fun e s2 w c2 H2 st2 x2 r2 p2 => ?_
  cases hz : sem d e with
  | none =>
    rw [hz] at p2
    exact p2.elim
  | some z =>
    rw [hz] at p2
    refine hs c2 H2 d e z v w _ x2.ok (r1.mono st2.gx) r2 hz fun z' c3 H3 st3 hm hf r3 => ?_
    have x3 : At T SR σ H3 c3 env s2 := x2.step st3 (SR.mono x2.sr st3.gx hf hm)
    have p3 := Po.step (P := wT Q) (P' := wT Q) p2 st3 fun _ _ _ q => q
    cases r3 <;> try (exact p3.elim)
    rename_i k
    exact ⟨k, rfl, p3.done x3.ok x3.sr⟩
theorem tru_ok2 {c : Cf} {H : Hp} (ok : CfOk c H) {d : D} {v : V} {k : Bool} (r : Rep T c d v) (e : truD d = some k) : TruV T.K v H k := by
  cases r with
  | non => cases e; rfl
  | bl b => cases e; rfl
  | int i => cases e; rfl
  | str l =>
    have e' : (if l.length ≤ 16777216 then some (!l.isEmpty) else none) = some k := e
    split at e'
    · rename_i hl
      cases e'
      refine ⟨by rw [sOf_len, sizeLine_eq]; exact hl, ?_⟩
      rw [sOf_len]
      cases l with
      | nil => rfl
      | cons n r =>
        show true = _
        have z : (((n :: r).length : Nat) : Int) ≠ 0 := by simp; omega
        exact (bne_iff_ne.mpr z).symm
    · cases e'
  | lst h r =>
    cases e
    refine .inl ⟨_, SqL.of (ok.gh _ _ h), ?_⟩
    cases r <;> rfl
  | tup h r =>
    cases e
    refine .inr (.inl ⟨_, same_t ok.gh h, ?_⟩)
    cases r <;> rfl
  | dct h r =>
    cases e
    refine .inr (.inr ⟨_, ok.gh _ _ h, ?_⟩)
    cases r <;> rfl
  | dcT h r => cases e
  | dcF h r => cases e
  | ins h r => cases e
  | exc h1 h2 r => cases e
  | hnd h => cases e
  | ty n => cases e
  | scr h => cases e
theorem dt_tru (hK : X.K = T.K) (ha : DE T SR W X a f) (he : ∀ whole, isTrue a X.env whole = (do let v ← whole; standAt a.pos; holding [v] (truthy v)) := by intro _; rfl) : DT T SR W X a (tTru f) := by
  refine PT.imp (pt_truth ha he) fun σ H Q ⟨c, env, s, x, p⟩ => ?_
  refine Po.run x p fun d s1 v c1 H1 st1 x1 r1 p1 => ?_
  cases e : truD d with
  | none =>
    rw [e] at p1
    exact p1.elim
  | some k =>
    rw [e] at p1
    rw [hK]
    exact ⟨k, tru_ok2 x1.ok r1 e, p1.done x1.ok x1.sr⟩
theorem dt_and (ha : DT T SR W X a t) (hb : DW T SR W X (.BoolOp .And (b :: es) pos) u) : DW T SR W X (.BoolOp .And (a :: b :: es) pos) (bAnd t u) := by
  refine PW.imp (pw_and ha hb) fun σ H Q ⟨c, env, s, x, p⟩ => ?_
  refine Po.runT x p fun d s1 c1 H1 st1 x1 p1 => ?_
  cases d with
  | true => exact ⟨c1, env, s1, x1, p1⟩
  | false => exact p1.done x1.ok x1.sr
theorem dt_or (ha : DT T SR W X a t) (hb : DW T SR W X (.BoolOp .Or (b :: es) pos) u) : DW T SR W X (.BoolOp .Or (a :: b :: es) pos) (bOr t u) := by
  refine PW.imp (pw_or ha hb) fun σ H Q ⟨c, env, s, x, p⟩ => ?_
  refine Po.runT x p fun d s1 c1 H1 st1 x1 p1 => ?_
  cases d with
  | true => exact p1.done x1.ok x1.sr
  | false => exact ⟨c1, env, s1, x1, p1⟩
theorem dw_and1 (ha : DT T SR W X a t) : DW T SR W X (.BoolOp .And [a] pos) t := pw_and1 ha
theorem dw_or1 (ha : DT T SR W X a t) : DW T SR W X (.BoolOp .Or [a] pos) t := pw_or1 ha
theorem dt_w (ha : DW T SR W X a t) : DT T SR W X a t := ha.pt
theorem dt_not (ha : DT T SR W X a t) : DT T SR W X (.UnaryOp .Not a pos) (bNot t) := by
  refine PT.imp (pt_not ha) fun σ H Q ⟨c, env, s, x, p⟩ => ?_
  refine Po.runT x p fun d s1 c1 H1 st1 x1 p1 => ?_
  exact p1.done x1.ok x1.sr
/-! ### calls of built-ins by values; subscripts; slices -/
theorem de_callB {r : List V → Hp → VK → Prop} {id : String} {x : Str} {p : Pos} {sem : List D → Option D} (hc : CallR X (.builtin id) r) (hs : SemL T r sem) (hg : Gl X x) (hm : X.mg x = none) (hv : bootBuiltins x = some (.builtin id)) (ha : DA T SR W X (a :: es) fs)
    (hn : x ≠ "__name__" := by decide) (hdb : (x == ("__debug__" : Str)) = false := by decide) (he : starEach (a :: es) X.env = (false, eval a X.env) :: starEach es X.env := by rfl) (hpl : (backTo pos (starEach es X.env)).any (·.1) = false := by rfl) : DE T SR W X (.Call (.Name x p) (a :: es) [] pos) (eCl sem fs) := by
  refine PE.imp (pe_callB hc hg hm hv ha hn hdb he hpl) fun σ H Q ⟨c, env, s, x, p⟩ => ?_
  refine Po.runA x p fun ds s1 vs c1 H1 st1 x1 r1 p1 => ?_
  obtain ⟨z, hz, k⟩ := p1.value x1
  exact hs c1 H1 ds z vs Q x1.ok r1 hz k
theorem de_callTy {r : List V → Hp → VK → Prop} {id : String} {x : Str} {p : Pos} {sem : List D → Option D} (hc : CallR X (.type id) r) (hs : SemL T r sem) (hg : Gl X x) (hm : X.mg x = none) (hv : bootBuiltins x = some (.type id)) (ha : DA T SR W X (a :: es) fs)
    (hn : x ≠ "__name__" := by decide) (hdb : (x == ("__debug__" : Str)) = false := by decide) (he : starEach (a :: es) X.env = (false, eval a X.env) :: starEach es X.env := by rfl) (hpl : (backTo pos (starEach es X.env)).any (·.1) = false := by rfl) : DE T SR W X (.Call (.Name x p) (a :: es) [] pos) (eCl sem fs) := by
  refine PE.imp (pe_callTy hc hg hm hv ha hn hdb he hpl) fun σ H Q ⟨c, env, s, x, p⟩ => ?_
  refine Po.runA x p fun ds s1 vs c1 H1 st1 x1 r1 p1 => ?_
  obtain ⟨z, hz, k⟩ := p1.value x1
  exact hs c1 H1 ds z vs Q x1.ok r1 hz k
theorem de_ix {sem : D → D → Option D} (ho : ∃ r, IxR X r ∧ Sem2 T r sem) (ha : DE T SR W X a f) (hb : DE T SR W X b g) (hs : PlainIx b := by exact fun _ _ => rfl) : DE T SR W X (.Subscript a b pos) (eOp2 sem f g) := by
  obtain ⟨r, hr, hq⟩ := ho
  refine PE.imp (pe_ix hr ha hb hs) fun σ H Q ⟨c, env, s, x, p⟩ => ?_
  refine Po.run x p fun d s1 v c1 H1 st1 x1 r1 p1 => ?_
  refine Po.run x1 p1 fun e s2 w c2 H2 st2 x2 r2 p2 => ?_
  obtain ⟨z, hz, k⟩ := p2.value x2
  exact hq c2 H2 d e z v w Q x2.ok (r1.mono st2.gx) r2 hz k
def tO (T : Ctx) (SR : SRel S) (W : WX) (f : Env → S → R S (Option Int)) : TO := fun σ H Q => ∃ c env s, At T SR σ H c env s ∧ Po T SR W (fun o _ H' => Q o H') c H σ (f env s)
abbrev DO (T : Ctx) (SR : SRel S) (W : WX) (X : Cx) (e : Option Expr) (f : Env → S → R S (Option Int)) : Prop := PO X e (tO T SR W f)
theorem do_none : DO T SR W X none pNone := ⟨fun pins s σ H Q I ⟨c, env, st, x, p⟩ => po_none.run pins s σ H Q I (p.done x.ok x.sr)⟩
theorem do_some (ha : DE T SR W X a f) : DO T SR W X (some a) (pSome f) := by
  refine ⟨fun pins s0 σ H Q I ⟨c, env, s, x, p⟩ => (po_some ha).run pins s0 σ H Q I ?_⟩
  refine Po.run x p fun d s1 v c1 H1 st1 x1 r1 p1 => ?_
  cases r1 <;> try (exact p1.elim)
  exact ⟨_, rfl, p1.done x1.ok x1.sr⟩
def Sem3 (T : Ctx) (r : V → Option Int → Option Int → Hp → VK → Prop) (sem : D → Option Int → Option Int → Option D) : Prop := ∀ (c : Cf) (H : Hp) (x z : D) (lo hi : Option Int) (u : V) (Q : VK), CfOk c H → Rep T c x u → sem x lo hi = some z →
  (∀ w c' H', Stp c H c' H' → c'.m = c.m → c'.F = c.F → Rep T c' z w → Q w H') → r u lo hi H Q
theorem Po.runO {α : Type} {P : α → Cf → Hp → Prop} {f : Env → S → R S (Option Int)} {k : Option Int → S → R S α} {c : Cf} {H : Hp} {σ : St} {env : Env} {s : S} {Z : Option Int → Hp → Prop} (x : At T SR σ H c env s) (h : Po T SR W P c H σ ((f env s).bind k))
    (hk : ∀ d s1 c1 H1, Stp c H c1 H1 → At T SR σ H1 c1 env s1 → Po T SR W P c1 H1 σ (k d s1) → Z d H1) : tO T SR W f σ H Z := by
  refine ⟨c, env, s, x, ?_⟩
  cases e : f env s with
  | ok d s1 =>
    rw [e] at h
    exact fun c' H' y q => hk d s1 c' H' y (x.step y q) (Po.step (P := P) h y fun _ _ _ z => z)
  | exc e' s1 =>
    rw [e] at h
    exact h
  | bad =>
    rw [e] at h
    exact h
theorem de_slice {sem : D → Option Int → Option Int → Option D} {lo hi : Option Expr} {p2 : Pos} {fl fh : Env → S → R S (Option Int)} (ho : ∃ r, SlR X r ∧ Sem3 T r sem) (ha : DE T SR W X a f) (hl : DO T SR W X lo fl) (hh : DO T SR W X hi fh) : DE T SR W X (.Subscript a (.Slice lo hi none p2) pos) (eSl sem f fl fh) := by
  obtain ⟨r, hr, hq⟩ := ho
  refine PE.imp (pe_slice hr ha hl hh) fun σ H Q ⟨c, env, s, x, p⟩ => ?_
  refine Po.run x p fun d s1 v c1 H1 st1 x1 r1 p1 => ?_
  refine Po.runO x1 p1 fun l s2 c2 H2 st2 x2 p2 => ?_
  refine Po.runO x2 p2 fun u s3 c3 H3 st3 x3 p3 => ?_
  obtain ⟨z, hz, k⟩ := p3.value x3
  exact hq c3 H3 d z l u v Q x3.ok (r1.mono (st2.gx.trans st3.gx)) hz k
end
end KB
set_option Elab.async false
set_option linter.all false
set_option maxRecDepth 100000
set_option maxHeartbeats 4000000
/-! K5: statements -/
namespace KB
open PySem L2
section
variable {S : Type}
def R.toS {α : Type} (x : R S α) (env : Env) (k : α → S → RS S) : RS S := match x with
  | .ok a s => k a s
  | .exc e s => .exc e env s
  | .bad => .bad
def sNil : Env → S → RS S := fun env s => .nx env s
def RS.seq (r : RS S) (h : Env → S → RS S) : RS S := match r with
  | .nx env s => h env s
  | r => r
def sSeq (g h : Env → S → RS S) : Env → S → RS S := fun env s => (g env s).seq h
def sDrop (f : Env → S → R S D) : Env → S → RS S := fun env s => (f env s).toS env fun _ s1 => .nx env s1
def sRet (f : Env → S → R S D) : Env → S → RS S := fun env s => (f env s).toS env fun d s1 => .rt (.d d) s1
def sRetL (f : Env → S → R S (List D)) : Env → S → RS S := fun env s => (f env s).toS env fun d s1 => .rt (.L d) s1
def sRetO (i : Nat) : Env → S → RS S := fun env s => match env[i]? with
  | some (.L xs) => .rt (.L xs) s
  | _ => .bad
def sIf (t : Env → S → R S Bool) (g h : Env → S → RS S) : Env → S → RS S := fun env s => (t env s).toS env fun b s1 => if b = true then g env s1 else h env s1
def sSet (i : Nat) (f : Env → S → R S D) : Env → S → RS S := fun env s => (f env s).toS env fun d s1 => .nx (env.set i (.d d)) s1
def sSetL (i : Nat) (f : Env → S → R S (List D)) : Env → S → RS S := fun env s => (f env s).toS env fun d s1 => .nx (env.set i (.L d)) s1
def sApp (i : Nat) (f : Env → S → R S D) : Env → S → RS S := fun env s => match env[i]? with
  | some (.L xs) => (f env s).toS env fun d s1 => if xs.length < 16777216 then .nx (env.set i (.L (xs ++ [d]))) s1 else .bad
  | _ => .bad
def sExt (i : Nat) (f : Env → S → R S D) : Env → S → RS S := fun env s => match env[i]? with
  | some (.L xs) => (f env s).toS env fun d s1 => match d with
    | .lst ys => if xs.length + ys.length ≤ 16777216 then .nx (env.set i (.L (xs ++ ys))) s1 else .bad
    | _ => .bad
  | _ => .bad
end
mutual
/-- no list within -/
def D.noL : D → Bool
  | .lst _ => false
  | .scr _ => false
  | .tup xs => D.noLs xs
  | .dct kvs => D.noLk kvs
  | .dcT kvs => D.noLt kvs
  | .dcF kvs => D.noLk kvs
  | .ins _ fs => D.noLf fs
  | .exc _ _ d => D.noL d
  | _ => true
def D.noLs : List D → Bool
  | [] => true
  | x :: xs => D.noL x && D.noLs xs
def D.noLk : List (Key × D) → Bool
  | [] => true
  | x :: xs => D.noL x.2 && D.noLk xs
def D.noLt : List (List Key × D) → Bool
  | [] => true
  | x :: xs => D.noL x.2 && D.noLt xs
def D.noLf : List (Str × D) → Bool
  | [] => true
  | x :: xs => D.noL x.2 && D.noLf xs
end
section
variable {S : Type}
/-- what may be told when a list that was lent is given back -/
def R.chk {α : Type} (ok : α → Bool) (x : R S α) : R S α := match x with
  | .ok a s => if ok a = true then .ok a s else .bad
  | .exc e s => if e.d.noL = true then .exc e s else .bad
  | .bad => .bad
def eBor (i : Nat) (f : Env → S → R S D) : Env → S → R S D := fun env s => match env[i]? with
  | some (.L xs) => (f (env.set i (.d (.lst xs))) s).chk D.noL
  | _ => .bad
def tBor (i : Nat) (f : Env → S → R S Bool) : Env → S → R S Bool := fun env s => match env[i]? with
  | some (.L xs) => (f (env.set i (.d (.lst xs))) s).chk fun _ => true
  | _ => .bad
def fBor (i : Nat) (f : Env → S → R S (List D)) : Env → S → R S (List D) := fun env s => match env[i]? with
  | some (.L xs) => (f (env.set i (.d (.lst xs))) s).chk D.noLs
  | _ => .bad
end
/-- without what stands at a -/
def Cf.del (c : Cf) (a : Addr) : Cf := ⟨fun b => if b = a then none else c.G b, c.m, c.F⟩
theorem del_ne {c : Cf} {a b : Addr} (h : b ≠ a) : (c.del a).G b = c.G b := if_neg h
theorem del_at {c : Cf} {a : Addr} : (c.del a).G a = none := if_pos rfl
theorem del_of {c : Cf} {a b : Addr} {o : HO} (h : (c.del a).G b = some o) : b ≠ a ∧ c.G b = some o := by
  by_cases e : b = a
  · subst e
    rw [del_at] at h; cases h
  · rw [del_ne e] at h
    exact ⟨e, h⟩
theorem del_g {c : Cf} {a b : Addr} {o u : HO} (ha : c.G a = some u) (h : c.G b = some o) (d : o ≠ u) : (c.del a).G b = some o := by
  rw [del_ne fun e => d (by subst e; rw [ha] at h; exact (Option.some.inj h).symm)]
  exact h
mutual
theorem Rep.del {T : Ctx} {c : Cf} {a : Addr} {ls : List V} (ha : c.G a = some (.lst ls)) : ∀ {d : D} {v : V}, Rep T c d v → d.noL = true → Rep T (c.del a) d v
  | _, _, .non, _ => .non
  | _, _, .bl b, _ => .bl b
  | _, _, .int i, _ => .int i
  | _, _, .str l, _ => .str l
  | _, _, .lst h r, p => by cases p
  | _, _, .scr h, p => by cases p
  | _, _, .tup h r, p => by
    refine .tup ?_ (Reps.del ha r p)
    rcases h with (h | ⟨o, h⟩) | h
    · exact .inl (.inl (del_g ha h (fun z => nomatch z)))
    · exact .inl (.inr ⟨o, del_g ha h (fun z => nomatch z)⟩)
    · exact .inr h
  | _, _, .dct h r, p => .dct (del_g ha h (fun z => nomatch z)) (RepK.del ha r p)
  | _, _, .dcT h r, p => .dcT (del_g ha h (fun z => nomatch z)) (RepT.del ha r p)
  | _, _, .dcF h r, p => .dcF (del_g ha h (fun z => nomatch z)) (RepK.del ha r p)
  | _, _, .ins h r, p => .ins (del_g ha h (fun z => nomatch z)) (RepF.del ha r p)
  | _, _, .exc h1 h2 r, p => .exc (del_g ha h1 (fun z => nomatch z)) (del_g ha h2 (fun z => nomatch z)) (Rep.del ha r p)
  | _, _, .hnd h, _ => .hnd h
  | _, _, .ty n, _ => .ty n
theorem Reps.del {T : Ctx} {c : Cf} {a : Addr} {ls : List V} (ha : c.G a = some (.lst ls)) : ∀ {d : List D} {v : List V}, Reps T c d v → D.noLs d = true → Reps T (c.del a) d v
  | _, _, .nil, _ => .nil
  | _, _, .cons r q, p => .cons (Rep.del ha r (Bool.and_eq_true_iff.mp p).1) (Reps.del ha q (Bool.and_eq_true_iff.mp p).2)
theorem RepK.del {T : Ctx} {c : Cf} {a : Addr} {ls : List V} (ha : c.G a = some (.lst ls)) : ∀ {d : List (Key × D)} {v : List (Key × V)}, RepK T c d v → D.noLk d = true → RepK T (c.del a) d v
  | _, _, .nil, _ => .nil
  | _, _, .cons r q, p => .cons (Rep.del ha r (Bool.and_eq_true_iff.mp p).1) (RepK.del ha q (Bool.and_eq_true_iff.mp p).2)
theorem RepT.del {T : Ctx} {c : Cf} {a : Addr} {ls : List V} (ha : c.G a = some (.lst ls)) : ∀ {d : List (List Key × D)} {v : List (List Key × V)}, RepT T c d v → D.noLt d = true → RepT T (c.del a) d v
  | _, _, .nil, _ => .nil
  | _, _, .cons r q, p => .cons (Rep.del ha r (Bool.and_eq_true_iff.mp p).1) (RepT.del ha q (Bool.and_eq_true_iff.mp p).2)
theorem RepF.del {T : Ctx} {c : Cf} {a : Addr} {ls : List V} (ha : c.G a = some (.lst ls)) : ∀ {d : List (Str × D)} {v : List (Str × V)}, RepF T c d v → D.noLf d = true → RepF T (c.del a) d v
  | _, _, .nil, _ => .nil
  | _, _, .cons r q, p => .cons (Rep.del ha r (Bool.and_eq_true_iff.mp p).1) (RepF.del ha q (Bool.and_eq_true_iff.mp p).2)
end
/-! ### environments change -/
theorem get_set {α : Type} {l : List α} {i j : Nat} {x y : α} (h : (l.set i x)[j]? = some y) : (j = i ∧ y = x) ∨ (j ≠ i ∧ l[j]? = some y) := by
  by_cases e : j = i
  · subst e
    rw [List.getElem?_set_self'] at h
    cases q : l[j]? with
    | none =>
      rw [q] at h
      cases h
    | some z =>
      rw [q] at h
      exact .inl ⟨rfl, (Option.some.inj h).symm⟩
  · rw [List.getElem?_set_ne (Ne.symm e)] at h
    exact .inr ⟨e, h⟩
theorem get_ne {α : Type} {l : List α} {i j : Nat} {x : α} (h : j ≠ i) : (l.set i x)[j]? = l[j]? := List.getElem?_set_ne (Ne.symm h)
theorem get_eq {α : Type} {l : List α} {i : Nat} {x y : α} (h : l[i]? = some y) : (l.set i x)[i]? = some x := by
  rw [List.getElem?_set_self']
  rw [h]
  rfl
section
variable {T : Ctx} {S : Type} {SR : SRel S} {W : WX} {c0 c : Cf} {H0 H : Hp} {σ : St} {env : Env} {s : S}
theorem in_env {σ : St} {env : Env} {i : Nat} (l : σ.length = env.length) {sl sl' : Sl} (h : (env.set i sl)[i]? = some sl') : ∃ v, σ[i]? = some v := by
  have h1 : i < (env.set i sl).length := (List.getElem?_eq_some_iff.mp h).1
  rw [List.length_set, ← l] at h1
  exact ⟨σ[i], by simp [h1]⟩
/-- shared data into a slot -/
theorem EnvOk.setD (x : EnvOk T c H σ env) {i : Nat} {d : D} {v : V} (r : Rep T c d v) : EnvOk T c H (σ.set i (some v)) (env.set i (.d d)) where
  len := by rw [List.length_set, List.length_set]; exact x.len
  sl := fun j sl e => by
    rcases get_set e with ⟨e1, e2⟩ | ⟨e1, e2⟩
    · subst e1
      subst e2
      obtain ⟨w, hw⟩ := in_env x.len e
      exact ⟨v, get_eq hw, r⟩
    · rw [get_ne e1]
      exact x.sl j sl e2
  dis := fun j k a ⟨⟨sl, e1, o1⟩, h1⟩ ⟨⟨sl', e2, o2⟩, h2⟩ => by
    rcases get_set e1 with ⟨_, z⟩ | ⟨n1, q1⟩
    · subst z; cases o1
    · rcases get_set e2 with ⟨_, z⟩ | ⟨n2, q2⟩
      · subst z; cases o2
      · rw [get_ne n1] at h1
        rw [get_ne n2] at h2
        exact x.dis j k a ⟨⟨sl, q1, o1⟩, h1⟩ ⟨⟨sl', q2, o2⟩, h2⟩
theorem OwnNew.setD (x : OwnNew H0 σ env) {i : Nat} {d : D} {v : V} : OwnNew H0 (σ.set i (some v)) (env.set i (.d d)) := fun j a ⟨⟨sl, e1, o1⟩, h1⟩ => by
  rcases get_set e1 with ⟨_, z⟩ | ⟨n1, q1⟩
  · subst z; cases o1
  · rw [get_ne n1] at h1
    exact x j a ⟨⟨sl, q1, o1⟩, h1⟩
theorem AtS.setD (x : AtS T SR c0 H0 σ H c env s) {i : Nat} {d : D} {v : V} (r : Rep T c d v) : AtS T SR c0 H0 (σ.set i (some v)) H c (env.set i (.d d)) s := ⟨x.st, x.en.setD r, x.own.setD, x.sr⟩
/-- a thing of one's own into a slot: nobody's yet -/
theorem EnvOk.setO (x : EnvOk T c H σ env) {i : Nat} {sl : Sl} {a : Addr} {o : HO} (ho : H a = some o) (hg : c.G a = none) (hf : c.F a = none) (hs : SlAt T c a o sl) (hn : ∀ j, ¬ OwnAt σ env j a) : EnvOk T c H (σ.set i (some (.ref a))) (env.set i sl) where
  len := by rw [List.length_set, List.length_set]; exact x.len
  sl := fun j sl' e => by
    rcases get_set e with ⟨e1, e2⟩ | ⟨e1, e2⟩
    · subst e1
      subst e2
      obtain ⟨w, hw⟩ := in_env x.len e
      exact slOk_of ⟨a, o, get_eq hw, ho, hg, hf, hs⟩
    · rw [get_ne e1]
      exact x.sl j sl' e2
  dis := fun j k b ⟨⟨sl1, e1, o1⟩, h1⟩ ⟨⟨sl2, e2, o2⟩, h2⟩ => by
    rcases get_set e1 with ⟨z1, _⟩ | ⟨n1, q1⟩
    · rcases get_set e2 with ⟨z2, _⟩ | ⟨n2, q2⟩
      · rw [z1, z2]
      · subst z1
        obtain ⟨w, hw⟩ := in_env x.len e1
        rw [get_eq hw] at h1
        cases h1
        rw [get_ne n2] at h2
        exact absurd ⟨⟨sl2, q2, o2⟩, h2⟩ (hn k)
    · rcases get_set e2 with ⟨z2, _⟩ | ⟨n2, q2⟩
      · subst z2
        obtain ⟨w, hw⟩ := in_env x.len e2
        rw [get_eq hw] at h2
        cases h2
        rw [get_ne n1] at h1
        exact absurd ⟨⟨sl1, q1, o1⟩, h1⟩ (hn j)
      · rw [get_ne n1] at h1
        rw [get_ne n2] at h2
        exact x.dis j k b ⟨⟨sl1, q1, o1⟩, h1⟩ ⟨⟨sl2, q2, o2⟩, h2⟩
theorem OwnNew.setO (x : OwnNew H0 σ env) (l : σ.length = env.length) {i : Nat} {sl : Sl} {a : Addr} (h : H0 a = none) : OwnNew H0 (σ.set i (some (.ref a))) (env.set i sl) := fun j b ⟨⟨sl1, e1, o1⟩, h1⟩ => by
  rcases get_set e1 with ⟨z1, _⟩ | ⟨n1, q1⟩
  · subst z1
    obtain ⟨w, hw⟩ := in_env l e1
    rw [get_eq hw] at h1
    cases h1
    exact h
  · rw [get_ne n1] at h1
    exact x j b ⟨⟨sl1, q1, o1⟩, h1⟩
theorem own_there (x : EnvOk T c H σ env) {j : Nat} {a : Addr} (h : OwnAt σ env j a) : ∃ o, H a = some o := by
  obtain ⟨⟨sl, e, o⟩, h1⟩ := h
  obtain ⟨b, o', e1, e2, _⟩ := slOk_own (x.sl j sl e) o
  rw [h1] at e1
  cases e1
  exact ⟨o', e2⟩
theorem none_back {c1 : Cf} {H1 : Hp} (x : Stp c H c1 H1) {a : Addr} (h : H1 a = none) : H a = none := by
  cases q : H a with
  | none => rfl
  | some o =>
    obtain ⟨o', e⟩ := x.dom a o q
    rw [h] at e; cases e
/-- what one's own thing holds is written anew -/
theorem Stp.write (x : Stp c0 H0 c H) {a : Addr} {o : HO} (hg : c.G a = none) (hf : c.F a = none) (h0 : H0 a = none) : Stp c0 H0 c (upd H a o) where
  ok := ⟨fun b u e => by
      rw [upd_ne (ne_of_none e hg)]
      exact x.ok.gh b u e, fun b u e => by
      rw [upd_ne (ne_of_none e hf)]
      exact x.ok.fh b u e, x.ok.dj⟩
  gx := x.gx
  keep := fun b u e f => by
    rw [upd_ne (ne_of_none e h0)]
    exact x.keep b u e f
  dom := fun b u e => by
    obtain ⟨o', e'⟩ := x.dom b u e
    exact ⟨o', by
      rw [upd_ne (ne_of_none e h0)]
      exact e'⟩
  gn := x.gn
  fn := x.fn
theorem EnvOk.write (x : EnvOk T c H σ env) {i : Nat} {sl0 sl : Sl} {a : Addr} {o : HO} (hi : env[i]? = some sl0) (ho0 : sl0.own = true) (ha : σ[i]? = some (some (.ref a))) (hs : SlAt T c a o sl) : EnvOk T c (upd H a o) σ (env.set i sl) where
  len := by rw [List.length_set]; exact x.len
  sl := fun j sl' e => by
    rcases get_set e with ⟨e1, e2⟩ | ⟨e1, e2⟩
    · subst e1
      subst e2
      obtain ⟨b, o', z1, z2, z3, z4, _⟩ := slOk_own (x.sl j sl0 hi) ho0
      rw [ha] at z1
      cases z1
      exact slOk_of ⟨a, o, ha, upd_same, z3, z4, hs⟩
    · have q := x.sl j sl' e2
      cases w : sl'.own with
      | false =>
        cases sl' with
        | no => trivial
        | d y => exact q
        | L xs => cases w
        | M xs => cases w
        | MT xs => cases w
        | O n fs => cases w
      | true =>
        obtain ⟨b, o', z1, z2, z3, z4, z5⟩ := slOk_own q w
        refine slOk_of ⟨b, o', z1, ?_, z3, z4, z5⟩
        rw [upd_ne fun e => e1 (by
          subst e
          exact x.dis j i b ⟨⟨sl', e2, w⟩, z1⟩ ⟨⟨sl0, hi, ho0⟩, ha⟩)]
        exact z2
  dis := fun j k b ⟨⟨sl1, e1, o1⟩, h1⟩ ⟨⟨sl2, e2, o2⟩, h2⟩ => by
    have f1 : ∃ sl, env[j]? = some sl ∧ sl.own = true := by
      rcases get_set e1 with ⟨z1, _⟩ | ⟨n1, q1⟩
      · exact ⟨sl0, by rw [z1]; exact hi, ho0⟩
      · exact ⟨sl1, q1, o1⟩
    have f2 : ∃ sl, env[k]? = some sl ∧ sl.own = true := by
      rcases get_set e2 with ⟨z1, _⟩ | ⟨n1, q1⟩
      · exact ⟨sl0, by rw [z1]; exact hi, ho0⟩
      · exact ⟨sl2, q1, o2⟩
    exact x.dis j k b ⟨f1, h1⟩ ⟨f2, h2⟩
theorem OwnNew.write (x : OwnNew H0 σ env) {i : Nat} {sl0 sl : Sl} (hi : env[i]? = some sl0) (ho0 : sl0.own = true) : OwnNew H0 σ (env.set i sl) := fun j b ⟨⟨sl1, e1, o1⟩, h1⟩ => by
  rcases get_set e1 with ⟨z1, _⟩ | ⟨n1, q1⟩
  · exact x j b ⟨⟨sl0, by rw [z1]; exact hi, ho0⟩, h1⟩
  · exact x j b ⟨⟨sl1, q1, o1⟩, h1⟩
theorem AtS.write (x : AtS T SR c0 H0 σ H c env s) {i : Nat} {sl0 sl : Sl} {a : Addr} {o : HO} (hi : env[i]? = some sl0) (ho0 : sl0.own = true) (ha : σ[i]? = some (some (.ref a))) (hs : SlAt T c a o sl) : AtS T SR c0 H0 σ (upd H a o) c (env.set i sl) s := by
  obtain ⟨b, o', z1, z2, z3, z4, _⟩ := slOk_own (x.en.sl i sl0 hi) ho0
  rw [ha] at z1
  cases z1
  exact ⟨x.st.write z3 z4 (x.own i a ⟨⟨sl0, hi, ho0⟩, ha⟩), x.en.write hi ho0 ha hs, x.own.write hi ho0, x.sr⟩
/-- one's own thing is shared from now on -/
def Sl.shut : Sl → Option D
  | .L xs => some (.lst xs)
  | .M xs => some (.dct xs)
  | .MT xs => some (.dcT xs)
  | .O n fs => some (.ins n fs)
  | _ => none
theorem shut_rep {a : Addr} {o : HO} : ∀ {sl : Sl} {d : D}, sl.shut = some d → SlAt T c a o sl → c.G a = none → Rep T (c.put a o) d (.ref a)
  | .no, _, e, _, _ => by cases e
  | .d _, _, e, _, _ => by cases e
  | .L xs, d, e, ⟨vs, h, r⟩, g => by
    cases e
    subst h
    exact .lst put_at (r.mono (Gx.put g))
  | .M xs, d, e, ⟨vs, h, r⟩, g => by
    cases e
    subst h
    exact .dct put_at (r.mono (Gx.put g))
  | .MT xs, d, e, ⟨vs, h, r⟩, g => by
    cases e
    subst h
    exact .dcT put_at (r.mono (Gx.put g))
  | .O n fs, d, e, ⟨_, dx, vs, h, r⟩, g => by
    cases e
    subst h
    exact .ins put_at (r.mono (Gx.put g))
theorem shut_own : ∀ {sl : Sl} {d : D}, sl.shut = some d → sl.own = true
  | .no, _, e => by cases e
  | .d _, _, e => by cases e
  | .L _, _, _ => rfl
  | .M _, _, _ => rfl
  | .MT _, _, _ => rfl
  | .O _ _, _, _ => rfl
theorem EnvOk.shut (x : EnvOk T c H σ env) {i : Nat} {sl : Sl} {d : D} {a : Addr} {o : HO} (hi : env[i]? = some sl) (hd : sl.shut = some d) (ha : σ[i]? = some (some (.ref a))) (hg : c.G a = none) (hs : SlAt T c a o sl) : EnvOk T (c.put a o) H σ (env.set i (.d d)) where
  len := by rw [List.length_set]; exact x.len
  sl := fun j sl' e => by
    rcases get_set e with ⟨e1, e2⟩ | ⟨e1, e2⟩
    · subst e1
      subst e2
      exact ⟨.ref a, ha, shut_rep hd hs hg⟩
    · have q := x.sl j sl' e2
      cases w : sl'.own with
      | false =>
        cases sl' with
        | no => trivial
        | d y =>
          obtain ⟨u, q1, q2⟩ := q
          exact ⟨u, q1, q2.mono (Gx.put hg)⟩
        | L xs => cases w
        | M xs => cases w
        | MT xs => cases w
        | O n fs => cases w
      | true =>
        obtain ⟨b, o', z1, z2, z3, z4, z5⟩ := slOk_own q w
        refine slOk_of ⟨b, o', z1, z2, ?_, z4, z5.mono (Gx.put hg)⟩
        have hba : b ≠ a := fun e => e1 (by
          subst e
          exact x.dis j i b ⟨⟨sl', e2, w⟩, z1⟩ ⟨⟨sl, hi, shut_own hd⟩, ha⟩)
        show upd c.G a o b = none
        rw [upd_ne hba]
        exact z3
  dis := fun j k b ⟨⟨sl1, e1, o1⟩, h1⟩ ⟨⟨sl2, e2, o2⟩, h2⟩ => by
    rcases get_set e1 with ⟨_, z⟩ | ⟨n1, q1⟩
    · subst z; cases o1
    · rcases get_set e2 with ⟨_, z⟩ | ⟨n2, q2⟩
      · subst z; cases o2
      · exact x.dis j k b ⟨⟨sl1, q1, o1⟩, h1⟩ ⟨⟨sl2, q2, o2⟩, h2⟩
theorem CfOk.freeze (ok : CfOk c H) {a : Addr} {o : HO} (ha : H a = some o) (hf : c.F a = none) : CfOk (c.put a o) H where
  gh := fun b u e => by
    by_cases q : b = a
    · subst q
      have e' : upd c.G b o b = some u := e
      rw [upd_same] at e'
      rw [ha]
      exact e'
    · have e' : upd c.G a o b = some u := e
      rw [upd_ne q] at e'
      exact ok.gh b u e'
  fh := ok.fh
  dj := fun b u e => by
    by_cases q : b = a
    · rw [q]
      exact hf
    · have e' : upd c.G a o b = some u := e
      rw [upd_ne q] at e'
      exact ok.dj b u e'
theorem AtS.shut (x : AtS T SR c0 H0 σ H c env s) {i : Nat} {sl : Sl} {d : D} (hi : env[i]? = some sl) (hd : sl.shut = some d) : ∃ c', Gx c c' ∧ AtS T SR c0 H0 σ H c' (env.set i (.d d)) s := by
  obtain ⟨a, o, z1, z2, z3, z4, z5⟩ := slOk_own (x.en.sl i sl hi) (shut_own hd)
  refine ⟨c.put a o, Gx.put z3, x.st.freeze z2 z3 z4 (x.own i a ⟨⟨sl, hi, shut_own hd⟩, z1⟩), x.en.shut hi hd z1 z3 z5, fun j b ⟨⟨sl1, e1, o1⟩, h1⟩ => ?_, SR.put x.sr z3⟩
  rcases get_set e1 with ⟨_, z⟩ | ⟨n1, q1⟩
  · subst z; cases o1
  · exact x.own j b ⟨⟨sl1, q1, o1⟩, h1⟩
end
end KB
set_option Elab.async false
set_option linter.all false
set_option maxRecDepth 100000
set_option maxHeartbeats 4000000
/-! K6: the rules of statements; own things lent to an expression -/
namespace KB
open PySem L2
section
variable {T : Ctx} {S : Type} {SR : SRel S} {W : WX} {X : Cx} {c0 c : Cf} {H0 H : Hp} {σ : St} {env : Env} {s : S}
theorem PoS.step {c1 : Cf} {r : RS S} {D : Ends} (h : PoS T SR W c0 H0 c r D) (x : Gx c c1) : PoS T SR W c0 H0 c1 r D := by
  cases r with
  | nx env' s' => exact fun σ' c' H' y q => h σ' c' H' (x.trans y) q
  | bk env' s' => exact fun σ' c' H' y q => h σ' c' H' (x.trans y) q
  | ct env' s' => exact fun σ' c' H' y q => h σ' c' H' (x.trans y) q
  | rt r s' => exact h
  | exc e env' s' => exact fun cls dd σ' c' H' y q z => h cls dd σ' c' H' (x.trans y) q z
  | bad => exact h
theorem PoS.next {env' : Env} {s' : S} {D : Ends} {σ' : St} (h : PoS T SR W c0 H0 c (.nx env' s') D) (x : AtS T SR c0 H0 σ' H c env' s') : D.nx σ' H := h σ' c H (Gx.refl c) x
theorem Po.exc_of {α : Type} {P : α → Cf → Hp → Prop} (x : AtS T SR c0 H0 σ H c env s) {e : Ex} {s1 : S} {D : Ends} (h : PoS T SR W c0 H0 c (.exc e env s1) D) : Po T SR W P c H σ (.exc e s1) :=
  fun cls dd c' H' y q z => h cls dd σ c' H' y.gx (x.step y q) z
theorem PoS.run {f : Env → S → R S D} {k : D → S → RS S} {D' : Ends} {Z : VK} (x : AtS T SR c0 H0 σ H c env s) (h : PoS T SR W c0 H0 c ((f env s).toS env k) D')
    (hk : ∀ d s1 v c1 H1, Stp c H c1 H1 → AtS T SR c0 H0 σ H1 c1 env s1 → Rep T c1 d v → PoS T SR W c0 H0 c1 (k d s1) D' → Z v H1) : tD T SR W f σ H Z := by
  refine ⟨c, env, s, x.at, ?_⟩
  cases e : f env s with
  | ok d s1 =>
    rw [e] at h
    exact fun c' H' y q v r => hk d s1 v c' H' y (x.step y q) r (PoS.step h y.gx)
  | exc e' s1 =>
    rw [e] at h
    exact Po.exc_of x h
  | bad =>
    rw [e] at h
    exact h
theorem PoS.runT {f : Env → S → R S Bool} {k : Bool → S → RS S} {D' : Ends} {Z : Bool → Hp → Prop} (x : AtS T SR c0 H0 σ H c env s) (h : PoS T SR W c0 H0 c ((f env s).toS env k) D')
    (hk : ∀ d s1 c1 H1, Stp c H c1 H1 → AtS T SR c0 H0 σ H1 c1 env s1 → PoS T SR W c0 H0 c1 (k d s1) D' → Z d H1) : tT T SR W f σ H Z := by
  refine ⟨c, env, s, x.at, ?_⟩
  cases e : f env s with
  | ok d s1 =>
    rw [e] at h
    exact fun c' H' y q => hk d s1 c' H' y (x.step y q) (PoS.step h y.gx)
  | exc e' s1 =>
    rw [e] at h
    exact Po.exc_of x h
  | bad =>
    rw [e] at h
    exact h
theorem PoS.runL {f : Env → S → R S (List D)} {k : List D → S → RS S} {D' : Ends} {Z : VK} (x : AtS T SR c0 H0 σ H c env s) (h : PoS T SR W c0 H0 c ((f env s).toS env k) D')
    (hk : ∀ d s1 a vs c1 H1, Stp c H c1 H1 → AtS T SR c0 H0 σ H1 c1 env s1 → H1 a = some (.lst vs) → c1.G a = none → c1.F a = none → H a = none → Reps T c1 d vs → PoS T SR W c0 H0 c1 (k d s1) D' → Z (.ref a) H1) : tF T SR W f σ H Z := by
  refine ⟨c, env, s, x.at, ?_⟩
  cases e : f env s with
  | ok d s1 =>
    rw [e] at h
    exact fun c' H' y q a vs h1 h2 h3 h4 r => hk d s1 a vs c' H' y (x.step y q) h1 h2 h3 h4 r (PoS.step h y.gx)
  | exc e' s1 =>
    rw [e] at h
    exact Po.exc_of x h
  | bad =>
    rw [e] at h
    exact h
variable {a b : Expr} {es : List Expr} {st : Stmt} {sts : List Stmt} {f g : Env → S → R S D} {fs : Env → S → R S (List D)} {t : Env → S → R S Bool} {pos : Pos} {p q : Env → S → RS S}
theorem db_nil : DB T SR W X [] sNil := PSs.imp pss_nil fun D σ H ⟨c0, H0, c, env, s, x, p⟩ => p.next x
theorem db_cons (h1 : DS T SR W X st p) (h2 : DB T SR W X sts q) : DB T SR W X (st :: sts) (sSeq p q) := by
  refine PSs.imp (pss_cons h1 h2) fun D σ H ⟨c0, H0, c, env, s, x, po⟩ => ⟨c0, H0, c, env, s, x, ?_⟩
  have po' : PoS T SR W c0 H0 c ((p env s).seq q) D := po
  cases e : p env s with
  | nx env' s' =>
    rw [e] at po'
    exact fun σ' c' H' y z => ⟨c0, H0, c', env', s', z, PoS.step po' y⟩
  | bk env' s' =>
    rw [e] at po'
    exact po'
  | ct env' s' =>
    rw [e] at po'
    exact po'
  | rt r s' =>
    rw [e] at po'
    exact po'
  | exc e' env' s' =>
    rw [e] at po'
    exact po'
  | bad =>
    rw [e] at po'
    exact po'
theorem db_one (h1 : DS T SR W X st p) : DB T SR W X [st] p := pss_one h1
theorem ds_drop (ha : DE T SR W X a f) (hs : swapsWith a none pos.line X.env = pure false := by rfl) : DS T SR W X (.Expr a pos) (sDrop f) := by
  refine PS.imp (ps_expr ha hs) fun D σ H ⟨c0, H0, c, env, s, x, po⟩ => ?_
  exact PoS.run x po fun d s1 v c1 H1 y x1 r1 p1 => p1.next x1
theorem ds_ret (ha : DE T SR W X a f) : DS T SR W X (.Return (some a) pos) (sRet f) := by
  refine PS.imp (ps_ret ha) fun D σ H ⟨c0, H0, c, env, s, x, po⟩ => ?_
  exact PoS.run x po fun d s1 v c1 H1 y x1 r1 p1 => p1 v c1 H1 x1.st x1.sr r1
theorem ds_retL (ha : DF T SR W X a fs) : DS T SR W X (.Return (some a) pos) (sRetL fs) := by
  refine PS.imp (ps_ret ha) fun D σ H ⟨c0, H0, c, env, s, x, po⟩ => ?_
  exact PoS.runL x po fun d s1 a vs c1 H1 y x1 h1 h2 h3 h4 r1 p1 => p1 a vs c1 H1 x1.st x1.sr h1 h2 h3 (none_back x.st h4) r1
theorem ds_retO {i : Nat} {x : Str} {pos' : Pos} (hN : X.N[i]? = some x) (hv : Vis X.env.scope x) (hd : (x == ("__debug__" : Str)) = false := by decide) (hcd : (x == ("__classdict__" : Str)) = false := by decide) : DS T SR W X (.Return (some (.Name x pos')) pos) (sRetO i) := by
  refine PS.imp (ps_ret (pe_var hN hv hd hcd)) fun D σ H ⟨c0, H0, c, env, s, x, po⟩ => ?_
  unfold sRetO at po
  split at po
  · rename_i xs e
    obtain ⟨a, o, z1, z2, z3, z4, vs, rfl, r⟩ := slOk_own (x.en.sl i _ e) rfl
    exact ⟨.ref a, z1, po a vs c H x.st x.sr z2 z3 z4 (x.own i a ⟨⟨_, e, rfl⟩, z1⟩) r⟩
  · exact po.elim
theorem ds_if {sts' : List Stmt} (hc : DT T SR W X a t) (h1 : DB T SR W X sts' p) (h2 : DB T SR W X sts q) : DS T SR W X (.If a sts' sts pos) (sIf t p q) := by
  refine PS.imp (ps_if hc h1 h2) fun D σ H ⟨c0, H0, c, env, s, x, po⟩ => ?_
  refine PoS.runT x po fun d s1 c1 H1 y x1 p1 => ?_
  cases d with
  | true => exact ⟨c0, H0, c1, env, s1, x1, p1⟩
  | false => exact ⟨c0, H0, c1, env, s1, x1, p1⟩
theorem ds_set {i : Nat} {x : Str} {pos' : Pos} (hN : X.N.Nodup) (hi : X.N[i]? = some x) (hx : Loc X.env.scope x) (ha : DE T SR W X a f) (hs : swapsWith a (some (.Name x pos')) pos.line X.env = pure false := by rfl)
    (hf : X.fn x = true ∨ X.env.scope.names.lookup x = some .local := by first | exact .inl rfl | exact .inr rfl) : DS T SR W X (.Assign [.Name x pos'] a pos) (sSet i f) := by
  refine PS.imp (ps_set hN hi hx ha hs hf) fun D σ H ⟨c0, H0, c, env, s, x, po⟩ => ?_
  exact PoS.run x po fun d s1 v c1 H1 y x1 r1 p1 => p1.next (x1.setD r1)
theorem AtS.setO (x : AtS T SR c0 H0 σ H c env s) {c1 : Cf} {H1 : Hp} {s1 : S} (y : Stp c H c1 H1) (x1 : AtS T SR c0 H0 σ H1 c1 env s1) {i : Nat} {sl : Sl} {a : Addr} {o : HO} (ho : H1 a = some o) (hg : c1.G a = none) (hf : c1.F a = none) (hn : H a = none) (hs : SlAt T c1 a o sl) :
    AtS T SR c0 H0 (σ.set i (some (.ref a))) H1 c1 (env.set i sl) s1 :=
  ⟨x1.st, x1.en.setO ho hg hf hs (fun j h => by
    obtain ⟨o', e⟩ := own_there x.en h
    rw [hn] at e
    cases e), x1.own.setO x1.en.len (none_back x.st hn), x1.sr⟩
theorem ds_setL {i : Nat} {x : Str} {pos' : Pos} (hN : X.N.Nodup) (hi : X.N[i]? = some x) (hx : Loc X.env.scope x) (ha : DF T SR W X a fs) (hs : swapsWith a (some (.Name x pos')) pos.line X.env = pure false := by rfl)
    (hf : X.fn x = true ∨ X.env.scope.names.lookup x = some .local := by first | exact .inl rfl | exact .inr rfl) : DS T SR W X (.Assign [.Name x pos'] a pos) (sSetL i fs) := by
  refine PS.imp (ps_set hN hi hx ha hs hf) fun D σ H ⟨c0, H0, c, env, s, x, po⟩ => ?_
  exact PoS.runL x po fun d s1 a vs c1 H1 y x1 h1 h2 h3 h4 r1 p1 => p1.next (x.setO y x1 h1 h2 h3 h4 ⟨vs, rfl, r1⟩)
/-! ### lent to an expression -/
theorem lend (x : At T SR σ H c env s) {i : Nat} {xs : List D} (e : env[i]? = some (.L xs)) : ∃ a vs, c.G a = none ∧ c.F a = none ∧ H a = some (.lst vs) ∧ At T SR σ H (c.put a (.lst vs)) (env.set i (.d (.lst xs))) s := by
  obtain ⟨a, o, z1, z2, z3, z4, vs, rfl, r⟩ := slOk_own (x.en.sl i _ e) rfl
  exact ⟨a, vs, z3, z4, z2, x.ok.freeze z2 z4, x.en.shut e rfl z1 z3 ⟨vs, rfl, r⟩, SR.put x.sr z3⟩
/-- given back -/
theorem back {a : Addr} {vs : List V} (hg : c.G a = none) (hf : c.F a = none) (ha : H a = some (.lst vs)) {c1 : Cf} {H1 : Hp} (y : Stp (c.put a (.lst vs)) H c1 H1) : Stp c H (c1.del a) H1 ∧ c1.G a = some (.lst vs) where
  left := {
    ok := ⟨fun b u e => y.ok.gh b u (del_of e).2, y.ok.fh, fun b u e => y.ok.dj b u (del_of e).2⟩
    gx := ⟨fun b u e => by
      have hb : b ≠ a := ne_of_none e hg
      rw [del_ne hb]
      refine y.gx.g b u ?_
      show upd c.G a (.lst vs) b = some u
      rw [upd_ne hb]
      exact e, y.gx.m⟩
    keep := y.keep
    dom := y.dom
    gn := fun b u e => by
      obtain ⟨n, e'⟩ := del_of e
      rcases y.gn b u e' with z | z
      · have z' : upd c.G a (.lst vs) b = some u := z
        rw [upd_ne n] at z'
        exact .inl z'
      · exact .inr z
    fn := y.fn }
  right := y.gx.g a _ put_at
theorem Po.lent {α : Type} {P P' : α → Cf → Hp → Prop} {r : R S α} {okf : α → Bool} {b : Addr} {vs : List V} (hg : c.G b = none) (hf : c.F b = none) (hb : H b = some (.lst vs)) (po : Po T SR W P c H σ (r.chk okf))
    (h : ∀ d c' H', c'.G b = some (.lst vs) → okf d = true → Stp (c.put b (.lst vs)) H c' H' → P d (c'.del b) H' → P' d c' H') : Po T SR W P' (c.put b (.lst vs)) H σ r := by
  cases r with
  | ok d s1 =>
    intro c' H' y q
    obtain ⟨z1, z2⟩ := back hg hf hb y
    have po' : Po T SR W P c H σ (if okf d = true then .ok d s1 else .bad) := po
    split at po'
    · rename_i hn
      exact h d c' H' z2 hn y (po' _ _ z1 (SR.del q z2))
    · exact po'.elim
  | exc e' s1 =>
    intro cls dd c' H' y q z
    obtain ⟨z1, z2⟩ := back hg hf hb y
    have po' : Po T SR W P c H σ (if e'.d.noL = true then .exc e' s1 else .bad) := po
    split at po'
    · rename_i hn
      obtain ⟨w1, da, v, w2, w3, w5, w4⟩ := z
      exact po' cls dd _ _ z1 (SR.del q z2) ⟨w1, da, v, w2, w3, w5, w4.del z2 hn⟩
    · exact po'.elim
  | bad => exact po
theorem de_bor {i : Nat} (h : DE T SR W X a f) : DE T SR W X a (eBor i f) := by
  refine PE.imp h fun σ H Q ⟨c, env, s, x, po⟩ => ?_
  unfold eBor at po
  split at po
  · rename_i xs e
    obtain ⟨b, vs, hg, hf, hb, x1⟩ := lend x e
    exact ⟨_, _, s, x1, Po.lent hg hf hb po fun d c' H' z2 hn _ k v r => k v (r.del z2 hn)⟩
  · exact po.elim
/-! ### own lists written -/
variable {o : Expr} {apos cpos : Pos}
theorem ds_ext {i : Nat} {x : Str} {p1 p2 : Pos} (hN : X.N[i]? = some x) (hv : Vis X.env.scope x) (ha : DE T SR W X a f) (hd : (x == ("__debug__" : Str)) = false := by decide) (hcd : (x == ("__classdict__" : Str)) = false := by decide)
    (hbase : attributeBase (.Name x p1) "extend" X.env (eval (.Name x p1) X.env) = eval (.Name x p1) X.env := by rfl)
    (hfew : ((backTo cpos (starEach (a :: []) X.env)).all (fun x => !x.1) && (backToKw cpos (keywordEach [] X.env)).all (fun x => x.1.isSome)
      && decide ((a :: ([] : List Expr)).length + ([] : List Keyword).length + (if ([] : List Keyword).isEmpty then 0 else 1) < 30)) = true := by rfl)
    (hline : (p2.endLine == cpos.line) = true := by rfl) (hs : starEach (a :: []) X.env = (false, eval a X.env) :: starEach [] X.env := by rfl) (hplain : (backTo cpos (starEach [] X.env)).any (·.1) = false := by rfl)
    (hsw : swapsWith (.Call (.Attribute (.Name x p1) "extend" p2) [a] [] cpos) none pos.line X.env = pure false := by rfl) : DS T SR W X (.Expr (.Call (.Attribute (.Name x p1) "extend" p2) [a] [] cpos) pos) (sExt i f) := by
  refine PS.imp (ps_expr (pe_bm PySem.F.plainAttrs_list PySem.F.slot_list_extend PySem.F.type_list_extend mt_extend (pe_var hN hv hd hcd) (pa_cons ha pa_nil hs) hbase hfew hline hs hplain) hsw) fun D σ H ⟨c0, H0, c, env, s, x, po⟩ => ?_
  unfold sExt at po
  split at po
  · rename_i xs e
    obtain ⟨l, o, z1, z2, z3, z4, vs, rfl, r⟩ := slOk_own (x.en.sl i _ e) rfl
    refine ⟨.ref l, z1, .inl ⟨rfl, vs, SqL.of z2⟩, ?_⟩
    refine PoS.run x po fun d s1 v c1 H1 y x1 r1 p1 => ?_
    cases r1 <;> try (exact p1.elim)
    rename_i b ws ys hb rb
    have p1' : PoS T SR W c0 H0 c1 (if xs.length + ys.length ≤ 16777216 then .nx (env.set i (.L (xs ++ ys))) s1 else .bad) D := p1
    split at p1'
    · rename_i hl
      exact ⟨l, b, vs, ws, rfl, rfl, y.keep _ _ z2 z4, x1.st.ok.gh _ _ hb, by rw [← r.length, ← rb.length, sizeLine_eq]; exact hl, p1'.next (x1.write e rfl z1 ⟨_, rfl, (r.mono y.gx).app rb⟩)⟩
    · exact p1'.elim
  · exact po.elim
end
end KB
set_option Elab.async false
set_option linter.all false
set_option maxRecDepth 100000
set_option maxHeartbeats 4000000
/-! K7: targets, loops, comprehensions -/
namespace KB
open PySem L2
/-! ### targets -/
abbrev Pt := D → Env → Option Env
abbrev Pts := List D → Env → Option Env
def pName (i : Nat) : Pt := fun d env => some (env.set i (.d d))
def psNil : Pts := fun ds env => match ds with
  | [] => some env
  | _ => none
def psCons (h : Pt) (hs : Pts) : Pts := fun ds env => match ds with
  | d :: r => (h d env).bind (hs r)
  | [] => none
def pTup (n : Nat) (hs : Pts) : Pt := fun d env => match d with
  | .tup xs => if xs.length = n then hs xs env else none
  | .lst xs => if xs.length = n then hs xs env else none
  | _ => none
section
variable (T : Ctx) {S : Type} (SR : SRel S) (W : WX)
/-- what a target leaves; is: the slots that it stores -/
structure Left (c : Cf) (H : Hp) (σ : St) (env : Env) (is : List Nat) (σ' : St) (env' : Env) : Prop where
  en : EnvOk T c H σ' env'
  own : ∀ H0, OwnNew H0 σ env → OwnNew H0 σ' env'
  wip : ∀ vs, (∀ i ∈ is, i ∈ vs) → wipe σ' vs = wipe σ vs
def tP (is : List Nat) (h : Pt) : TG := fun v σ H Q => ∃ c env d env', CfOk c H ∧ EnvOk T c H σ env ∧ Rep T c d v ∧ h d env = some env' ∧ ∀ σ', Left T c H σ env is σ' env' → Q σ' H
def tPs (is : List Nat) (h : Pts) : TGs := fun vs σ H Q => ∃ c env ds env', CfOk c H ∧ EnvOk T c H σ env ∧ Reps T c ds vs ∧ h ds env = some env' ∧ ∀ σ', Left T c H σ env is σ' env' → Q σ' H
abbrev DP (X : Cx) (e : Expr) (is : List Nat) (h : Pt) : Prop := PG X e (tP T is h)
abbrev DPs (X : Cx) (es : List Expr) (is : List Nat) (h : Pts) : Prop := PGs X es (tPs T is h)
end
theorem wipe_set {σ : St} {i : Nat} {x : Option V} : ∀ {vs : List Nat}, i ∈ vs → wipe (σ.set i x) vs = wipe σ vs
  | v :: vs, h => by
    show (wipe (σ.set i x) vs).set v none = (wipe σ vs).set v none
    by_cases hi : i ∈ vs
    · rw [wipe_set hi]
    · have e : i = v := by
        rcases List.mem_cons.mp h with e | e
        · exact e
        · exact absurd e hi
      subst e
      have q : ∀ vs : List Nat, i ∉ vs → wipe (σ.set i x) vs = (wipe σ vs).set i x := by
        intro vs
        induction vs with
        | nil => intro _; rfl
        | cons w ws ih =>
          intro hn
          show (wipe (σ.set i x) ws).set w none = ((wipe σ ws).set w none).set i x
          rw [ih fun z => hn (List.mem_cons_of_mem _ z)]
          exact List.set_comm _ _ fun e => hn (by rw [e]; exact List.mem_cons_self)
      rw [q vs hi, List.set_set]
section
variable {T : Ctx} {S : Type} {SR : SRel S} {W : WX} {X : Cx} {c0 c : Cf} {H0 H : Hp} {σ : St} {env : Env} {s : S} {pos : Pos}
theorem dp_name {i : Nat} {x : Str} (hN : X.N.Nodup) (hi : X.N[i]? = some x) (hx : Loc X.env.scope x) (hf : X.fn x = true ∨ X.env.scope.names.lookup x = some .local := by first | exact .inl rfl | exact .inr rfl) : DP T X (.Name x pos) [i] (pName i) := by
  refine ⟨fun pins s σ H v u Q I r ⟨c, env, d, env', ok, en, rd, e, k⟩ => (pg_name hN hi hx hf).run pins s σ H v u Q I r ?_⟩
  cases e
  exact k _ ⟨en.setD rd, fun H0 o => o.setD, fun vs h => wipe_set (h i (by simp))⟩
theorem dps_nil : DPs T X [] [] psNil := by
  refine ⟨fun pins s σ H vs us Q I r ⟨c, env, d, env', ok, en, rd, e, k⟩ => pgs_nil.run pins s σ H vs us Q I r ?_⟩
  cases rd with
  | nil =>
    cases e
    exact ⟨rfl, k _ ⟨en, fun _ o => o, fun _ _ => rfl⟩⟩
  | cons _ _ => cases e
theorem dps_cons {e : Expr} {es : List Expr} {is js : List Nat} {h : Pt} {hs : Pts} (h1 : DP T X e is h) (h2 : DPs T X es js hs)
    (hq : (assignEach (e :: es) X.env).map (·.2) = assign e X.env :: (assignEach es X.env).map (·.2) := by rfl) : DPs T X (e :: es) (is ++ js) (psCons h hs) := by
  refine ⟨fun pins s σ H vs us Q I r ⟨c, env, d, env', ok, en, rd, e, k⟩ => (pgs_cons h1 h2 hq).run pins s σ H vs us Q I r ?_⟩
  cases rd with
  | nil => cases e
  | @cons d1 v1 ds vs r1 r2 =>
    have e' : (h d1 env).bind (hs ds) = some env' := e
    cases q : h d1 env with
    | none =>
      rw [q] at e'
      cases e'
    | some env1 =>
      rw [q] at e'
      refine ⟨v1, vs, rfl, c, env, d1, env1, ok, en, r1, q, fun σ1 l1 => ?_⟩
      refine ⟨c, env1, ds, env', ok, l1.en, r2, e', fun σ2 l2 => k _ ⟨l2.en, fun H0 o => l2.own H0 (l1.own H0 o), fun vs hv => ?_⟩⟩
      rw [l2.wip vs fun i hi => hv i (List.mem_append_right _ hi), l1.wip vs fun i hi => hv i (List.mem_append_left _ hi)]
theorem dp_tup {es : List Expr} {k n : Nat} {is : List Nat} {hs : Pts} (hK : X.K = T.K) (hc : X.calm = true) (h : DPs T X es is hs)
    (hn : (assignEach es X.env).length = n := by rfl) (hst : (assignEach es X.env).findIdx? (·.1) = none := by rfl) : DP T X (.Tuple es k pos) is (pTup n hs) := by
  refine ⟨fun pins s σ H v u Q I r ⟨c, env, d, env', ok, en, rd, e, k⟩ => ?_⟩
  cases rd with
  | @lst a vs xs h1 r1 =>
    have e' : (if xs.length = n then hs xs env else none) = some env' := e
    split at e'
    · rename_i hl
      refine (pg_lst hc h hn hst).run pins s σ H _ u Q I r ⟨a, vs, rfl, SqL.of (ok.gh _ _ h1), by rw [← r1.length]; exact hl, ?_⟩
      exact ⟨c, env, xs, env', ok, en, r1, e', k⟩
    · cases e'
  | @tup a vs xs h1 r1 =>
    have e' : (if xs.length = n then hs xs env else none) = some env' := e
    split at e'
    · rename_i hl
      refine (pg_tup hc h hn hst).run pins s σ H _ u Q I r ⟨a, vs, rfl, ?_, by rw [← r1.length]; exact hl, ?_⟩
      · rw [hK]
        exact same_t ok.gh h1
      · exact ⟨c, env, xs, env', ok, en, r1, e', k⟩
    · cases e'
  | _ => cases e
end
/-! ### what is walked -/
section
variable {S : Type}
def sAsg (f : Env → S → R S D) (h : Pt) : Env → S → RS S := fun env s => (f env s).toS env fun d s1 => match h d env with
  | some env' => .nx env' s1
  | none => .bad
def forL (h : Pt) (g : Env → S → RS S) : List D → Env → S → RS S
  | [], env, s => .nx env s
  | x :: xs, env, s => match h x env with
    | none => .bad
    | some env1 => match g env1 s with
      | .nx env' s' => forL h g xs env' s'
      | .ct env' s' => forL h g xs env' s'
      | .bk env' s' => .nx env' s'
      | .rt r s' => .rt r s'
      | .exc e env' s' => .exc e env' s'
      | .bad => .bad
def sFor (f : Env → S → R S (List D)) (h : Pt) (g : Env → S → RS S) : Env → S → RS S := fun env s => (f env s).toS env fun xs s1 => forL h g xs env s1
def whlN (t : Env → S → R S Bool) (g : Env → S → RS S) : Nat → Env → S → RS S
  | 0, _, _ => .bad
  | n + 1, env, s => (t env s).toS env fun b s1 => if b = true then (match g env s1 with
      | .nx env' s' => whlN t g n env' s'
      | .ct env' s' => whlN t g n env' s'
      | .bk env' s' => .nx env' s'
      | .rt r s' => .rt r s'
      | .exc e env' s' => .exc e env' s'
      | .bad => .bad) else .nx env s1
def sWhl (n : Nat) (t : Env → S → R S Bool) (g : Env → S → RS S) : Env → S → RS S := whlN t g n
def R.noX {α : Type} (x : R S α) : R S α := match x with
  | .ok a s => .ok a s
  | _ => .bad
def wipeE (env : Env) : List Nat → Env
  | [] => env
  | v :: vs => (wipeE env vs).set v .no
def compL (h : Pt) (t : Env → S → R S Bool) (f : Env → S → R S D) (env : Env) : List D → S → R S (List D)
  | [], s => .ok [] s
  | x :: xs, s => match h x env with
    | none => .bad
    | some env1 => (t env1 s).noX.bind fun b s1 => if b = true then (f env1 s1).noX.bind fun y s2 => (compL h t f env xs s2).bind fun ys s3 => .ok (y :: ys) s3 else compL h t f env xs s1
def fComp (w : Env → S → R S (List D)) (h : Pt) (t : Env → S → R S Bool) (f : Env → S → R S D) (vs : List Nat) : Env → S → R S (List D) := fun env s => (w env s).bind fun xs s1 => if xs.length ≤ 16777216 then compL h t f (wipeE env vs) xs s1 else .bad
def bYes : Env → S → R S Bool := fun _ s => .ok true s
end
structure Yl (T : Ctx) (J : It) (c1 : Cf) (items : List D) : Prop where
  goes : ∀ i c2 H2, i < items.length → Gx c1 c2 → CfOk c2 H2 → J.go i H2
  stops : ∀ c2 H2, Gx c1 c2 → CfOk c2 H2 → J.stop items.length H2
  yields : ∀ (i : Nat) d c2 H2 x H3, items[i]? = some d → Gx c1 c2 → CfOk c2 H2 → J.yld i H2 x H3 → ∃ c3, Stp c2 H2 c3 H3 ∧ c3.m = c2.m ∧ c3.F = c2.F ∧ Rep T c3 d x
section
variable (T : Ctx) {S : Type} (SR : SRel S) (W : WX)
abbrev wI (R' : It → Hp → Prop) : List D → Cf → Hp → Prop := fun items c' H' => ∀ J, Yl T J c' items → R' J H'
def tI (f : Env → S → R S (List D)) : TI := fun σ H R' => ∃ c env s, At T SR σ H c env s ∧ Po T SR W (wI T R') c H σ (f env s)
abbrev DI (X : Cx) (tg e : Expr) (f : Env → S → R S (List D)) : Prop := PI X tg e (tI T SR W f)
end
section
variable {T : Ctx} {S : Type} {SR : SRel S} {W : WX} {X : Cx} {c0 c : Cf} {H0 H : Hp} {σ : St} {env : Env} {s : S} {pos : Pos}
theorem PI.imp {tg e : Expr} {t t' : TI} (h : PI X tg e t) (k : ∀ σ H Q, t' σ H Q → t σ H Q) : PI X tg e t' := ⟨fun pins s σ H Q I q => h.run pins s σ H Q I (k σ H Q q)⟩
theorem PoS.runI {f : Env → S → R S (List D)} {k : List D → S → RS S} {D' : Ends} {Z : It → Hp → Prop} (x : AtS T SR c0 H0 σ H c env s) (h : PoS T SR W c0 H0 c ((f env s).toS env k) D')
    (hk : ∀ d s1 c1 H1 J, Stp c H c1 H1 → AtS T SR c0 H0 σ H1 c1 env s1 → Yl T J c1 d → PoS T SR W c0 H0 c1 (k d s1) D' → Z J H1) : tI T SR W f σ H Z := by
  refine ⟨c, env, s, x.at, ?_⟩
  cases e : f env s with
  | ok d s1 =>
    rw [e] at h
    exact fun c' H' y q J r => hk d s1 c' H' J y (x.step y q) r (PoS.step h y.gx)
  | exc e' s1 =>
    rw [e] at h
    exact Po.exc_of x h
  | bad =>
    rw [e] at h
    exact h
theorem Po.runI {α : Type} {P : α → Cf → Hp → Prop} {f : Env → S → R S (List D)} {k : List D → S → R S α} {Z : It → Hp → Prop} (x : At T SR σ H c env s) (h : Po T SR W P c H σ ((f env s).bind k))
    (hk : ∀ d s1 c1 H1 J, Stp c H c1 H1 → At T SR σ H1 c1 env s1 → Yl T J c1 d → Po T SR W P c1 H1 σ (k d s1) → Z J H1) : tI T SR W f σ H Z := by
  refine ⟨c, env, s, x, ?_⟩
  cases e : f env s with
  | ok d s1 =>
    rw [e] at h
    exact fun c' H' y q J r => hk d s1 c' H' J y (x.step y q) r (Po.step (P := P) h y fun _ _ _ z => z)
  | exc e' s1 =>
    rw [e] at h
    exact h
  | bad =>
    rw [e] at h
    exact h
theorem ds_for {tg iter : Expr} {body : List Stmt} {f : Env → S → R S (List D)} {is : List Nat} {h : Pt} {g : Env → S → RS S} (hp : PassesOwn (model X.prog X.w) X.A X.env X.xe) (hc : X.calm = true) (hi : DI T SR W X tg iter f) (hg : DP T X tg is h) (hb : DB T SR W X body g)
    (hs : ∀ x, foldedSetIterable iter X.env x = pure x := by intro _; rfl) : DS T SR W X (.For tg iter body [] pos) (sFor f h g) := by
  refine PS.imp (ps_for hp hc hi hg hb hs) fun D σ H ⟨c0, H0, c, env, s, x, po⟩ => ?_
  refine PoS.runI x po fun items s1 c1 H1 J y x1 yl p1 => ?_
  refine ⟨fun i m σ H => ∃ c env s, Gx c1 c ∧ AtS T SR c0 H0 σ H c env s ∧ i ≤ items.length ∧ m = items.length - i ∧ PoS T SR W c0 H0 c (forL h g (items.drop i) env s) D, ⟨_, c1, env, s1, Gx.refl c1, x1, Nat.zero_le _, rfl, p1⟩, ?_⟩
  rintro i m σ H ⟨c, env, s, gx, x, hi, rfl, po⟩
  by_cases hlt : i < items.length
  · refine .inr ⟨yl.goes i c H hlt gx x.st.ok, fun σ' H' => ∃ c' env' s', Gx c1 c' ∧ AtS T SR c0 H0 σ' H' c' env' s' ∧ PoS T SR W c0 H0 c' (forL h g (items.drop (i + 1)) env' s') D,
      fun σ' H' ⟨c', env', s', g', x', p'⟩ => ⟨items.length - (i + 1), by omega, c', env', s', g', x', hlt, rfl, p'⟩, fun v H3 yy => ?_⟩
    obtain ⟨c3, st3, hm, hf, r3⟩ := yl.yields i items[i] c H v H3 (by simp [hlt]) gx x.st.ok yy
    have x3 : AtS T SR c0 H0 σ H3 c3 env s := x.step st3 (SR.mono x.sr st3.gx hf hm)
    rw [List.drop_eq_getElem_cons hlt] at po
    have po' : PoS T SR W c0 H0 c (match h items[i] env with
    | none => .bad
    | some env1 => match g env1 s with
      | .nx env' s' => forL h g (items.drop (i + 1)) env' s'
      | .ct env' s' => forL h g (items.drop (i + 1)) env' s'
      | .bk env' s' => .nx env' s'
      | .rt r s' => .rt r s'
      | .exc e env' s' => .exc e env' s'
      | .bad => .bad) D := po
    cases q : h items[i] env with
    | none =>
      simp only [q] at po'
      exact po'.elim
    | some env1 =>
      simp only [q] at po'
      refine ⟨c3, env, items[i], env1, x3.st.ok, x3.en, r3, q, fun σ' l => ?_⟩
      refine ⟨c0, H0, c3, env1, s, ⟨x3.st, l.en, l.own _ x3.own, x3.sr⟩, ?_⟩
      have po2 := PoS.step po' st3.gx
      have gx3 := gx.trans st3.gx
      cases w : g env1 s with
      | nx env' s' =>
        simp only [w] at po2
        exact fun σ4 c4 H4 y4 x4 => ⟨c4, env', s', gx3.trans y4, x4, PoS.step po2 y4⟩
      | ct env' s' =>
        simp only [w] at po2
        exact fun σ4 c4 H4 y4 x4 => ⟨c4, env', s', gx3.trans y4, x4, PoS.step po2 y4⟩
      | bk env' s' =>
        simp only [w] at po2
        exact po2
      | rt r s' =>
        simp only [w] at po2
        exact po2
      | exc e env' s' =>
        simp only [w] at po2
        exact po2
      | bad =>
        simp only [w] at po2
        exact po2
  · have e : i = items.length := by omega
    subst e
    rw [List.drop_length] at po
    exact .inl ⟨yl.stops c H gx x.st.ok, po.next x⟩
theorem ds_while {a : Expr} {body : List Stmt} {t : Env → S → R S Bool} {g : Env → S → RS S} (n : Nat) (hp : PassesOwn (model X.prog X.w) X.A X.env X.xe) (hc : DT T SR W X a t) (hb : DB T SR W X body g) : DS T SR W X (.While a body [] pos) (sWhl n t g) := by
  refine PS.imp (ps_while hp hc hb) fun D σ H ⟨c0, H0, c, env, s, x, po⟩ => ?_
  refine ⟨fun m σ H => ∃ c env s, AtS T SR c0 H0 σ H c env s ∧ PoS T SR W c0 H0 c (whlN t g m env s) D, ⟨n, c, env, s, x, po⟩, ?_⟩
  rintro m σ H ⟨c, env, s, x, po⟩
  cases m with
  | zero => exact po.elim
  | succ m =>
    refine PoS.runT x po fun b s1 c1 H1 y x1 p1 => ?_
    cases b with
    | false => exact p1.next x1
    | true =>
      refine ⟨fun σ' H' => ∃ c env s, AtS T SR c0 H0 σ' H' c env s ∧ PoS T SR W c0 H0 c (whlN t g m env s) D, fun σ' H' h => ⟨m, Nat.lt_succ_self m, h⟩, ?_⟩
      refine ⟨c0, H0, c1, env, s1, x1, ?_⟩
      have p2 : PoS T SR W c0 H0 c1 (match g env s1 with
      | .nx env' s' => whlN t g m env' s'
      | .ct env' s' => whlN t g m env' s'
      | .bk env' s' => .nx env' s'
      | .rt r s' => .rt r s'
      | .exc e env' s' => .exc e env' s'
      | .bad => .bad) D := p1
      cases w : g env s1 with
      | nx env' s' =>
        simp only [w] at p2
        exact fun σ4 c4 H4 y4 x4 => ⟨c4, env', s', x4, PoS.step p2 y4⟩
      | ct env' s' =>
        simp only [w] at p2
        exact fun σ4 c4 H4 y4 x4 => ⟨c4, env', s', x4, PoS.step p2 y4⟩
      | bk env' s' =>
        simp only [w] at p2
        exact p2
      | rt r s' =>
        simp only [w] at p2
        exact p2
      | exc e env' s' =>
        simp only [w] at p2
        exact p2
      | bad =>
        simp only [w] at p2
        exact p2
end
end KB
set_option Elab.async false
set_option linter.all false
set_option maxRecDepth 100000
set_option maxHeartbeats 4000000
/-! K8: comprehensions; what may be walked -/
namespace KB
open PySem L2
/-- nothing may be raised -/
abbrev WX0 : WX := fun _ _ _ _ => False
section
variable {T : Ctx} {S : Type} {SR : SRel S} {W : WX} {X : Cx} {c0 c : Cf} {H0 H : Hp} {σ : St} {env : Env} {s : S} {pos : Pos}
theorem EnvOk.wipe1 (x : EnvOk T c H σ env) {i : Nat} : EnvOk T c H (σ.set i none) (env.set i .no) where
  len := by rw [List.length_set, List.length_set]; exact x.len
  sl := fun j sl e => by
    rcases get_set e with ⟨e1, e2⟩ | ⟨e1, e2⟩
    · subst e2
      trivial
    · rw [get_ne e1]
      exact x.sl j sl e2
  dis := fun j k a ⟨⟨sl, e1, o1⟩, h1⟩ ⟨⟨sl', e2, o2⟩, h2⟩ => by
    rcases get_set e1 with ⟨_, z⟩ | ⟨n1, q1⟩
    · subst z; cases o1
    · rcases get_set e2 with ⟨_, z⟩ | ⟨n2, q2⟩
      · subst z; cases o2
      · rw [get_ne n1] at h1
        rw [get_ne n2] at h2
        exact x.dis j k a ⟨⟨sl, q1, o1⟩, h1⟩ ⟨⟨sl', q2, o2⟩, h2⟩
theorem EnvOk.wipe (x : EnvOk T c H σ env) : ∀ vs : List Nat, EnvOk T c H (L2.wipe σ vs) (wipeE env vs)
  | [] => x
  | v :: vs => (EnvOk.wipe x vs).wipe1
/-- a written list of nobody's -/
theorem Stp.grow {c c1 : Cf} {H H1 : Hp} (x : Stp c H c1 H1) {a : Addr} {o : HO} (hg : c1.G a = none) (hf : c1.F a = none) (h0 : H a = none) : Stp c H c1 (upd H1 a o) := Stp.write x hg hf h0
theorem Po.noX {α : Type} {P : α → Cf → Hp → Prop} {r : R S α} (h : Po T SR W P c H σ (r.noX)) : Po T SR WX0 P c H σ r := by
  cases r with
  | ok a s1 => exact h
  | exc e s1 => exact h.elim
  | bad => exact h
/-- what pe_lc reads, from what a comprehension computes -/
theorem lc_imp {w : Env → S → R S (List D)} {is : List Nat} {h : Pt} {t : Env → S → R S Bool} {f : Env → S → R S D} {vs0 : List Nat} (his : ∀ i ∈ is, i ∈ vs0) {σ : St} {H : Hp} {Q : VK} (hq : tF T SR W (fComp w h t f vs0) σ H Q) :
    tLc (tI T SR W w) (tP T is h) (tT T SR WX0 t) (tD T SR WX0 f) vs0 σ H Q := by
  obtain ⟨c, env, s, x, po⟩ := hq
  refine Po.runI x po fun items s1 c1 H1 J y x1 yl p1 => ?_
  intro Dl hD
  split at p1
  · rename_i hlen
    have hDH : H Dl = none := none_back y hD
    obtain ⟨we, hwe⟩ : ∃ we, we = wipeE env vs0 := ⟨_, rfl⟩
    rw [← hwe] at p1
    have ww : ∀ (vs : List Nat), L2.wipe (L2.wipe σ vs) vs = L2.wipe σ vs := by
      intro vs
      apply List.ext_getElem?
      intro k
      have hw : ∀ (us : List Nat) (τ : St), (L2.wipe τ us)[k]? = if k ∈ us then τ[k]?.map (fun _ => none) else τ[k]? := by
        intro us
        induction us with
        | nil => intro τ; simp [L2.wipe]
        | cons u us ih =>
          intro τ
          show ((L2.wipe τ us).set u none)[k]? = _
          by_cases e : k = u
          · subst e
            rw [List.getElem?_set_self', ih τ]
            by_cases hk : k ∈ us <;> simp [hk] <;> (cases τ[k]? <;> rfl)
          · rw [List.getElem?_set_ne (Ne.symm e), ih τ]
            simp [e]
      rw [hw vs, hw vs]
      by_cases hk : k ∈ vs <;> simp [hk] <;> (cases σ[k]? <;> rfl)
    refine ⟨fun i m H2 => ∃ c2 s2 ds acc, Stp c1 H1 c2 H2 ∧ SR s2 c2 ∧ H2 Dl = some (.lst acc) ∧ c2.G Dl = none ∧ c2.F Dl = none ∧ Reps T c2 ds acc ∧ i ≤ items.length ∧ ds.length ≤ i ∧ m = items.length - i ∧
        Po T SR W (wL T H Q) c1 H1 σ ((compL h t f we (items.drop i) s2).bind fun ys s3 => .ok (ds ++ ys) s3), ⟨_, c1, s1, [], [], Stp.new x1.ok hD, x1.sr, upd_same, free_of x1.ok.gh hD, free_of x1.ok.fh hD, .nil, Nat.zero_le _, Nat.le_refl _, rfl, ?_⟩, ?_⟩
    · rw [List.drop_zero]
      cases q : compL h t f we items s1 with
      | ok ys s3 =>
        rw [q] at p1
        exact p1
      | exc e s3 =>
        rw [q] at p1
        exact p1
      | bad =>
        rw [q] at p1
        exact p1
    · rintro i m H2 ⟨c2, s2, ds, acc, st2, sr2, hD2, g2, f2, rd, hi2, hle, rfl, p2⟩
      have x2 : EnvOk T c2 H2 σ env := x1.en.step st2
      by_cases hlt : i < items.length
      · refine .inr ⟨yl.goes i c2 H2 hlt st2.gx st2.ok, fun H' => ∃ c2 s2 ds acc, Stp c1 H1 c2 H' ∧ SR s2 c2 ∧ H' Dl = some (.lst acc) ∧ c2.G Dl = none ∧ c2.F Dl = none ∧ Reps T c2 ds acc ∧ ds.length ≤ i + 1 ∧
            Po T SR W (wL T H Q) c1 H1 σ ((compL h t f we (items.drop (i + 1)) s2).bind fun ys s3 => .ok (ds ++ ys) s3),
          fun H' ⟨c', s', ds', acc', h1, h2, h3, h4, h5, h6, h7, h8⟩ => ⟨items.length - (i + 1), by omega, c', s', ds', acc', h1, h2, h3, h4, h5, h6, hlt, h7, rfl, h8⟩, fun v H3 yy => ?_⟩
        obtain ⟨c3, st3, hm, hf, r3⟩ := yl.yields i items[i] c2 H2 v H3 (by simp [hlt]) st2.gx st2.ok yy
        have sr3 : SR s2 c3 := SR.mono sr2 st3.gx hf hm
        have hD3 := st3.keep _ _ hD2 f2
        rw [List.drop_eq_getElem_cons hlt, compL] at p2
        cases q : h items[i] we with
        | none =>
          simp only [q] at p2
          exact p2.elim
        | some env1 =>
          simp only [q] at p2
          rw [hwe] at q
          refine ⟨c3, wipeE env vs0, items[i], env1, st3.ok, (x2.step st3).wipe _, r3, q, fun σ2 l => ⟨?_, ?_⟩⟩
          · rw [l.wip _ his]
            exact ww _
          · refine ⟨c3, env1, s2, ⟨st3.ok, l.en, sr3⟩, ?_⟩
            cases qt : t env1 s2 with
            | exc e s' =>
              simp only [qt] at p2
              exact p2.elim
            | bad =>
              simp only [qt] at p2
              exact p2
            | ok b s4 =>
              simp only [qt] at p2
              intro c4 H4 st4 sr4
              have en4 : EnvOk T c4 H4 σ2 env1 := l.en.step st4
              have f3 : c3.F Dl = none := by rw [hf]; exact f2
              have hD4 := st4.keep _ _ hD3 f3
              have g4 : c4.G Dl = none := st4.gnone hD3 (st3.gnone hD2 g2 f2 fun _ z => nomatch z) f3 fun _ z => nomatch z
              have f4 : c4.F Dl = none := by
                cases e : c4.F Dl with
                | none => rfl
                | some u =>
                  rcases st4.fn _ u e with ⟨u', z⟩ | z
                  · rw [f3] at z; cases z
                  · rw [hD3] at z; cases z
              cases b with
              | false => exact ⟨c4, s4, ds, acc, (st2.trans st3).trans st4, sr4, hD4, g4, f4, rd.mono (st3.gx.trans st4.gx), Nat.le_succ_of_le hle, p2⟩
              | true =>
                refine ⟨c4, env1, s4, ⟨st4.ok, en4, sr4⟩, ?_⟩
                have p5 : Po T SR W (wL T H Q) c1 H1 σ (((f env1 s4).noX.bind fun y s2 => (compL h t f we (items.drop (i + 1)) s2).bind fun ys s3 => .ok (y :: ys) s3).bind fun ys s3 => .ok (ds ++ ys) s3) := p2
                cases qf : f env1 s4 with
                | exc e s' =>
                  simp only [qf] at p5
                  exact p5.elim
                | bad =>
                  simp only [qf] at p5
                  exact p5
                | ok yd s5 =>
                  simp only [qf] at p5
                  intro c5 H5 st5 sr5 yv yr
                  have hD5 := st5.keep _ _ hD4 f4
                  have g5 : c5.G Dl = none := st5.gnone hD4 g4 f4 fun _ z => nomatch z
                  have f5 : c5.F Dl = none := by
                    cases e : c5.F Dl with
                    | none => rfl
                    | some u =>
                      rcases st5.fn _ u e with ⟨u', z⟩ | z
                      · rw [f4] at z; cases z
                      · rw [hD4] at z; cases z
                  have stA : Stp c1 H1 c5 H5 := ((st2.trans st3).trans st4).trans st5
                  refine ⟨acc, hD5, by rw [← rd.length, sizeLine_eq]; omega, c5, s5, ds ++ [yd], acc ++ [yv], stA.grow g5 f5 hD, sr5, upd_same, g5, f5, (rd.mono ((st3.gx.trans st4.gx).trans st5.gx)).app (.cons yr .nil), by rw [List.length_append]; simp; omega, ?_⟩
                  have p6 : Po T SR W (wL T H Q) c1 H1 σ (((compL h t f we (items.drop (i + 1)) s5).bind fun ys s3 => .ok (yd :: ys) s3).bind fun ys s3 => .ok (ds ++ ys) s3) := p5
                  cases qc : compL h t f we (items.drop (i + 1)) s5 with
                  | ok ys s6 =>
                    rw [qc] at p6
                    show Po T SR W (wL T H Q) c1 H1 σ (.ok ((ds ++ [yd]) ++ ys) s6)
                    rw [List.append_assoc]
                    exact p6
                  | exc e s6 =>
                    rw [qc] at p6
                    exact p6
                  | bad =>
                    rw [qc] at p6
                    exact p6
      · have e : i = items.length := by omega
        subst e
        rw [List.drop_length] at p2
        refine .inl ⟨yl.stops c2 H2 st2.gx st2.ok, ?_⟩
        have p3 : Po T SR W (wL T H Q) c1 H1 σ (.ok (ds ++ []) s2) := p2
        rw [List.append_nil] at p3
        exact p3 c2 H2 st2 sr2 Dl acc hD2 g2 f2 hDH rd
  · exact p1.elim
/-- [elt for target in iter if test] -/
theorem df_lc {elt tg iter : Expr} {ifs : List Expr} {scope : Scope} {own : List (Str × Nat)} {w : Env → S → R S (List D)} {is : List Nat} {h : Pt} {t : Env → S → R S Bool} {f : Env → S → R S D} (hc : X.calm = true) (hN : X.N.Nodup) (hi : DI T SR W X tg iter w) (ok : BlkOk X.N X.env.scope scope own)
    (hg : ∀ (s : Shared) (H : Hp) (C : Addr) (cl : List (Str × Addr)) (fp : List Addr), DP T (X.blk s H scope (compEnvC scope cl C X.env) fp) tg is h)
    (ht : ∀ (s : Shared) (H : Hp) (C : Addr) (cl : List (Str × Addr)) (fp : List Addr), PTs (X.blk s H scope (compEnvC scope cl C X.env) fp) ifs (tT T SR WX0 t))
    (he : ∀ (s : Shared) (H : Hp) (C : Addr) (cl : List (Str × Addr)) (fp : List Addr), DE T SR WX0 (X.blk s H scope (compEnvC scope cl C X.env) fp) elt f) (his : ∀ i ∈ is, i ∈ own.map (·.2))
    (hs : ∀ x, foldedSetIterable iter X.env x = pure x := by intro _; rfl) : DF T SR W X (.ListComp elt [⟨tg, iter, ifs, 0⟩] scope pos) (fComp w h t f (own.map (·.2))) := by
  exact PE.imp (pe_lc hc hN hi ok hg ht he hs) fun σ H Q h => lc_imp his h
theorem tF_of_tD {f : Env → S → R S (List D)} {σ : St} {H : Hp} {Q : VK} (h : tD T SR W (eFz f) σ H Q) : tF T SR W f σ H Q := by
  obtain ⟨c, env, s, x, h⟩ := h
  refine ⟨c, env, s, x, ?_⟩
  unfold eFz at h
  cases e : f env s with
  | ok xs s1 =>
    rw [e] at h
    exact fun c' H' y q a vs h1 h2 h3 h4 r => h (c'.put a (.lst vs)) H' (y.freeze h1 h2 h3 h4) (SR.put q h2) (.ref a) (.lst put_at (r.mono (Gx.put h2)))
  | exc e' s1 =>
    rw [e] at h
    exact h
  | bad =>
    rw [e] at h
    exact h
/-- name = [..], a list of one's own; shared -/
theorem ds_setLc {i : Nat} {y : Str} {py spos : Pos} {elt tg iter : Expr} {ifs : List Expr} {scope : Scope} {own : List (Str × Nat)} {w : Env → S → R S (List D)} {is : List Nat} {h : Pt} {t : Env → S → R S Bool} {f : Env → S → R S D} (hc : X.calm = true) (hN : X.N.Nodup) (hy : X.N[i]? = some y) (hyl : X.env.scope.names.lookup y = some .local)
    (hsw : swapsWith (.ListComp elt [⟨tg, iter, ifs, 0⟩] scope pos) (some (.Name y py)) spos.line X.env = pure true) (hi : DI T SR W X tg iter w) (ok : BlkOk X.N X.env.scope scope own)
    (hg : ∀ (s : Shared) (H : Hp) (C : Addr) (cl : List (Str × Addr)) (fp : List Addr), DP T (X.blk s H scope (compEnvC scope cl C X.env) fp) tg is h)
    (ht : ∀ (s : Shared) (H : Hp) (C : Addr) (cl : List (Str × Addr)) (fp : List Addr), PTs (X.blk s H scope (compEnvC scope cl C X.env) fp) ifs (tT T SR WX0 t))
    (he : ∀ (s : Shared) (H : Hp) (C : Addr) (cl : List (Str × Addr)) (fp : List Addr), DE T SR WX0 (X.blk s H scope (compEnvC scope cl C X.env) fp) elt f) (his : ∀ i ∈ is, i ∈ own.map (·.2))
    (hs : ∀ x, foldedSetIterable iter X.env x = pure x := by intro _; rfl) : DS T SR W X (.Assign [.Name y py] (.ListComp elt [⟨tg, iter, ifs, 0⟩] scope pos) spos) (sSet i (eFz (fComp w h t f (own.map (·.2))))) := by
  refine PS.imp (ps_setLc hc hN hy hyl hsw hi ok hg ht he hs) fun D σ H ⟨c0, H0, c, env, s, x, po⟩ => lc_imp his (tF_of_tD ?_)
  exact PoS.run x po fun d s1 v c1 H1 y x1 r1 p1 => p1.next (x1.setD r1)
end
end KB
set_option Elab.async false
set_option linter.all false
set_option maxRecDepth 100000
set_option maxHeartbeats 4000000
/-! K9: what may be walked: lists, tuples, texts; enumerate, zip of any of these -/
namespace KB
open PySem L2
inductive Src where
  | L (a : Addr)
  | U (a : Addr)
  | Z (z : Str)
def signs (z : Str) : List V := z.cps.toList.map fun c => V.str ⟨#[c]⟩
def Src.at (K : PySem.W.Frag) (H : Hp) : Src → List V → Prop
  | .L a, xs => SqL K H a xs
  | .U a, xs => SqT K H a xs
  | .Z z, xs => xs = signs z
def Src.val : Src → V
  | .L a => .ref a
  | .U a => .ref a
  | .Z z => .str z
def Src.addr : Src → Option Addr
  | .L a => some a
  | .U a => some a
  | .Z _ => none
def Src.it (t : Tok) (it : Addr) (i : Nat) (h : Heap) : Src → Prop
  | .L a => h.IsListIter it a i
  | .U a => h.IsTupleIter it a i
  | .Z z => h.IsStrIter it (PySem.strIterType z) z t i
section
variable {X : Cx} {pins : List (Addr × Obj)} {σ : St} {H : Hp} {s : Shared}
theorem src_inj (I : Inv X pins σ H s) : ∀ {src : Src} {xs ys : List V}, src.at X.K H xs → src.at X.K H ys → xs = ys
  | .L _, _, _, h, h' => I.list_inj h h'
  | .U _, _, _, h, h' => I.tuple_inj h h'
  | .Z _, _, _, h, h' => h.trans h'.symm
theorem src_it_obj {src : Src} {t : Tok} {it : Addr} {i : Nat} {h : Heap} (x : src.it t it i h) : ∃ o, h.get? it = some o ∧ ∀ v, o.data ≠ .cell v := by
  cases src with
  | L a =>
    obtain ⟨o, e, c, d⟩ := x
    exact ⟨o, e, fun v z => by rw [d] at z; cases z⟩
  | U a =>
    obtain ⟨o, e, c, d⟩ := x
    exact ⟨o, e, fun v z => by rw [d] at z; cases z⟩
  | Z z =>
    obtain ⟨o, e, c, d⟩ := x
    exact ⟨o, e, fun v z => by rw [d] at z; cases z⟩
theorem src_it_keep {src : Src} {t : Tok} {it : Addr} {i : Nat} {h h' : Heap} (x : src.it t it i h) (k : ∀ o, h.get? it = some o → h'.get? it = some o) : src.it t it i h' := by
  cases src with
  | L a =>
    obtain ⟨o, e, r⟩ := x
    exact ⟨o, k o e, r⟩
  | U a =>
    obtain ⟨o, e, r⟩ := x
    exact ⟨o, k o e, r⟩
  | Z z =>
    obtain ⟨o, e, r⟩ := x
    exact ⟨o, k o e, r⟩
/-- what a source is made of lies apart from what only we have -/
theorem src_apart (I : Inv X pins σ H s) {src : Src} {xs : List V} {a b : Addr} (h : src.at X.K H xs) (ha : src.addr = some a) (hb : FpOk X pins H b) : a ≠ b := by
  have kk : ∀ o, X.K.lookup a = some o → a ≠ b := fun o e z => by
    have e1 := I.ok.mod.kin a o e
    have e2 := (I.ok.bs a o e1).1
    rcases hb.2.2.2.1 with q | q
    · exact I.ok.noex a o e1 (by rw [z]; exact q)
    · exact absurd (Nat.lt_of_lt_of_le (Heap.lt_size e2) (by rw [z]; exact q)) (Nat.lt_irrefl _)
  have hh : ∀ o, H a = some o → a ≠ b := fun o e z => by
    have q := hb.1
    rw [← z, e] at q; cases q
  cases src with
  | L a' =>
    cases ha
    rcases h with (h | ⟨o, h⟩) | ⟨o, its, n, h, _⟩
    · exact hh _ h
    · exact hh _ h
    · exact kk o h
  | U a' =>
    cases ha
    rcases h with (h | ⟨o, h⟩) | ⟨o, its, n, h, _⟩
    · exact hh _ h
    · exact hh _ h
    · exact kk o h
  | Z z => cases ha
/-- the source's iterator draws its things -/
theorem src_drawsA (I : Inv X pins σ H s) {A2 : Around} (hh : A2.handled = none) {src : Src} {xs : List V} {t : Tok} {it : Addr} {i : Nat} (h : src.at X.K H xs) (hi : src.it t it i s.heap) (hf : FpOk X pins H it) :
    ∃ (fp : List Addr) (P : Nat → Value → Prop) (St : Nat → Heap → Prop), Draws X.prog X.w A2 it fp xs.length P St ∧ St i s.heap ∧ it ∈ fp ∧ (∀ b ∈ fp, b = it ∨ src.addr = some b) ∧
      (∀ j v, P j v → ∃ x, xs[j]? = some x ∧ RelV x v) ∧ ∀ j h, St j h → src.it t it j h := by
  cases src with
  | L a =>
    obtain ⟨its, rv, p, hz⟩ := I.list h
    have hne : a ≠ it := src_apart I (src := .L a) h rfl hf
    have hl := rv.length
    have hs : its.toArray.size = xs.length := by simp only [List.size_toArray]; omega
    have Dr := Draws.list (prog := X.prog) (w := X.w) hh it a hne its.toArray
    rw [hs] at Dr
    refine ⟨[it, a], _, _, Dr, ⟨hi, p.isList⟩, by simp, fun b hb => ?_, fun j v hv => ?_, fun j h' q => q.1⟩
    · have e : b = it ∨ b = a := by simpa using hb
      exact e.imp id fun e => by rw [e]; rfl
    · have hv' : its[j]? = some v := by simpa using hv
      have hj : j < its.length := (List.getElem?_eq_some_iff.mp hv').1
      have hx : xs[j]? = some (xs[j]'(by omega)) := List.getElem?_eq_getElem (by omega)
      obtain ⟨u, hu, ru⟩ := rv.get hx
      rw [hv'] at hu
      cases hu
      exact ⟨_, hx, ru⟩
  | U a =>
    obtain ⟨its, rv, p, hz⟩ := I.tuple h
    have hne : a ≠ it := src_apart I (src := .U a) h rfl hf
    have hl := rv.length
    have hs : its.toArray.size = xs.length := by simp only [List.size_toArray]; omega
    have Dr := Draws.tuple (prog := X.prog) (w := X.w) hh it a hne its.toArray
    rw [hs] at Dr
    refine ⟨[it, a], _, _, Dr, ⟨hi, p⟩, by simp, fun b hb => ?_, fun j v hv => ?_, fun j h' q => q.1⟩
    · have e : b = it ∨ b = a := by simpa using hb
      exact e.imp id fun e => by rw [e]; rfl
    · have hv' : its[j]? = some v := by simpa using hv
      have hj : j < its.length := (List.getElem?_eq_some_iff.mp hv').1
      have hx : xs[j]? = some (xs[j]'(by omega)) := List.getElem?_eq_getElem (by omega)
      obtain ⟨u, hu, ru⟩ := rv.get hx
      rw [hv'] at hu
      cases hu
      exact ⟨_, hx, ru⟩
  | Z z =>
    cases h
    have hs : z.cps.size = (signs z).length := by simp [signs]
    have Dr := Draws.text (prog := X.prog) (w := X.w) hh it z t
    rw [hs] at Dr
    refine ⟨[it], _, _, Dr, hi, by simp, fun b hb => ?_, fun j v hv => ?_, fun j h' q => q⟩
    · exact .inl (by simpa using hb)
    · obtain ⟨c, u, hcx, rfl⟩ := hv
      refine ⟨.str ⟨#[c]⟩, ?_, ⟨u, rfl⟩⟩
      unfold signs
      rw [List.getElem?_map, Array.getElem?_toList, hcx]
      rfl
theorem src_draws (I : Inv X pins σ H s) (hc : X.calm = true) {src : Src} {xs : List V} {t : Tok} {it : Addr} {i : Nat} (h : src.at X.K H xs) (hi : src.it t it i s.heap) (hf : FpOk X pins H it) :
    ∃ (fp : List Addr) (P : Nat → Value → Prop) (St : Nat → Heap → Prop), Draws X.prog X.w X.A.in1 it fp xs.length P St ∧ St i s.heap ∧ it ∈ fp ∧ (∀ b ∈ fp, b = it ∨ src.addr = some b) ∧
      (∀ j v, P j v → ∃ x, xs[j]? = some x ∧ RelV x v) ∧ ∀ j h, St j h → src.it t it j h :=
  src_drawsA I (A2 := X.A.in1) (I.ok.hd hc) h hi hf
theorem src_len_it {src : Src} {t : Tok} {it : Addr} {i : Nat} {h : Heap} (x : src.it t it i h) : it < h.objs.size := by
  obtain ⟨o, e, _⟩ := src_it_obj x
  exact Heap.lt_size e
end
/-- enumerate -/
def ItE (K : PySem.W.Frag) (src : Src) : It :=
  ⟨fun i H => ∃ (xs : List V) (x : V), src.at K H xs ∧ xs[i]? = some x, fun i H v H' => ∃ T x, v = .ref T ∧ H T = none ∧ H' = upd H T (.tup [.int (i : Nat), x]) ∧ ∀ xs, src.at K H xs → xs[i]? = some x, fun i H => ∃ xs : List V, src.at K H xs ∧ xs.length = i⟩
theorem turn_E {P : Program} {w : World} {K : PySem.W.Frag} {elts : List Expr} {kk : Nat} {tpos : Pos} (src : Src) (t : Tok) (e it : Addr) :
    Turn P w K (.Tuple elts kk tpos) (ItE K src) [e, it] e (fun i h => (∃ old, IsEnum h e it ((i : Nat) : Int) old) ∧ src.it t it i h ∧ e ≠ it) where
  mem := by simp
  obj := fun i h st b hb => by
    obtain ⟨⟨old, he⟩, hi, _⟩ := st
    have e' : b = e ∨ b = it := by simpa using hb
    rcases e' with z | z
    · rw [z]
      exact ⟨_, he, fun v q => nomatch q⟩
    · rw [z]
      exact src_it_obj hi
  keep := fun i h h' st k => by
    obtain ⟨⟨old, he⟩, hi, hne⟩ := st
    exact ⟨⟨old, k e (by simp) _ he⟩, src_it_keep hi fun o q => k it (by simp) o q, hne⟩
  item := by
    intro X hP hw hK hc i pins s σ H E I hf st hg
    subst hP hw hK
    obtain ⟨⟨old, he⟩, hit, hne⟩ := st
    obtain ⟨xs, x, hq, hx⟩ := hg
    have hlt : i < xs.length := (List.getElem?_eq_some_iff.mp hx).1
    obtain ⟨fp, P, St, Dr, hst, hmem, hfp, hval, hback⟩ := src_draws I hc hq hit (hf it (by simp))
    have hef : e ∉ fp := fun z => by
      rcases hfp e z with q | q
      · exact hne q
      · exact src_apart I hq q (hf e (by simp)) rfl
    have hel : e < s.heap.objs.size := Heap.lt_size he
    have hil : it < s.heap.objs.size := src_len_it hit
    refine wpAny_pyNext_enum_itemC Dr he hst hlt hne hef fun u h' tk hu ho hs' hT hsz hk => ?_
    obtain ⟨x', hx', ru⟩ := hval i u hu
    rw [hx] at hx'
    cases hx'
    refine ⟨_, rfl, wpAny_letOwnedTupleGo_enum (s := { s with heap := h', toks := tk + 1 }) ho fun h'' he' sb => ?_⟩
    have hT2 : h''.get? s.heap.objs.size = some { cls := .type "tuple", data := .seq #[.int i tk, u] } := (sb.2 _ (Nat.ne_of_gt hel)).trans hT
    have new : ObjOk X.prog X.w (upd H s.heap.objs.size (.tup [.int (i : Nat), x])) h'' s.heap.objs.size (.tup [.int (i : Nat), x]) :=
      ⟨by show 2 ≤ sizeLine; decide, [.int i tk, u], .cons ⟨_, rfl⟩ (.cons ru .nil), ⟨_, hT2, rfl, _, rfl⟩⟩
    have I1 : Inv X pins σ (upd H s.heap.objs.size (.tup [.int (i : Nat), x])) { s with heap := h'', toks := tk + 1 } :=
      I.turnedNew (ch := [e, it]) (fun b ob hb q => (sb.2 b (fun z => hb (by simp [z]))).trans (hk b ob (fun z => hb (by simp [z])) (fun z => hb (by simp [z])) q)) hf (Nat.le_refl _) new
    refine ⟨.ref s.heap.objs.size, _, I1, rfl, ⟨_, x, rfl, I.hok.fresh (Nat.le_refl _), rfl, fun ys hy => by rw [src_inj I hy hq]; exact hx⟩, ⟨⟨u, ?_⟩, src_it_keep (hback _ _ hs') fun o q => (sb.2 it (Ne.symm hne)).trans q, hne⟩, fun b hb => ?_⟩
    · have e1 : ((i + 1 : Nat) : Int) = (i : Int) + 1 := by omega
      rw [e1]
      exact he'
    · have hb' : b < s.heap.objs.size := by
        have e' : b = e ∨ b = it := by simpa using hb
        rcases e' with z | z
        · rw [z]; exact hel
        · rw [z]; exact hil
      rw [upd_ne (Nat.ne_of_lt hb')]
      exact (hf b hb).1
  done := by
    intro X hP hw hK hc i pins s σ H E I hf st hg
    subst hP hw hK
    obtain ⟨⟨old, he⟩, hit, hne⟩ := st
    obtain ⟨xs, hq, rfl⟩ := hg
    obtain ⟨fp, P, St, Dr, hst, hmem, hfp, hval, hback⟩ := src_draws I hc hq hit (hf it (by simp))
    exact wpAny_pyNext_enum_endD Dr he hst fun h' hx => ⟨rfl, I.turnedL (t' := s.toks) (ch := [e, it]) (fun b o hb q => hx b o (fun z => hb (by simp [z])) q) hf⟩
  self := fun A i s Q E st h => by
    obtain ⟨⟨_, he⟩, _⟩ := st
    exact wpAny_pyIter_enum he h
end KB
set_option Elab.async false
set_option linter.all false
set_option maxRecDepth 100000
set_option maxHeartbeats 4000000
/-! K10: zip; the rules of what is walked -/
namespace KB
open PySem L2
def ItP (K : PySem.W.Frag) (a b : Src) : It :=
  ⟨fun i H => ∃ (xs ys : List V) (x y : V), a.at K H xs ∧ b.at K H ys ∧ xs[i]? = some x ∧ ys[i]? = some y,
    fun i H v H' => ∃ T x y, v = .ref T ∧ H T = none ∧ H' = upd H T (.tup [x, y]) ∧ (∀ xs, a.at K H xs → xs[i]? = some x) ∧ ∀ ys, b.at K H ys → ys[i]? = some y,
    fun i H => ∃ xs ys : List V, a.at K H xs ∧ b.at K H ys ∧ i = min xs.length ys.length⟩
structure Five (z TI TO i1 i2 : Addr) : Prop where
  a1 : TI ≠ z
  a2 : TO ≠ z
  a3 : TI ≠ TO
  a4 : TI ≠ i1
  a5 : TI ≠ i2
  a6 : z ≠ i1
  a7 : z ≠ i2
  a8 : TO ≠ i1
  a9 : TO ≠ i2
  a10 : i1 ≠ i2
theorem turn_P {P : Program} {w : World} {K : PySem.W.Frag} {elts : List Expr} {kk : Nat} {tpos : Pos} (a b : Src) (t1 t2 : Tok) {z TI TO i1 i2 : Addr} (F : Five z TI TO i1 i2) :
    Turn P w K (.Tuple elts kk tpos) (ItP K a b) [z, TI, TO, i1, i2] z (fun i h => IsZip h z TI TO .none ∧ IsTupOf2 h TI (.ref i1) (.ref i2) ∧ (∃ x y, IsTupOf2 h TO x y) ∧ a.it t1 i1 i h ∧ b.it t2 i2 i h) where
  mem := by simp
  obj := fun i h st c hc => by
    obtain ⟨hz, hTI, ⟨x, y, hTO⟩, h1, h2⟩ := st
    have e' : c = z ∨ c = TI ∨ c = TO ∨ c = i1 ∨ c = i2 := by simpa using hc
    rcases e' with q | q | q | q | q
    · rw [q]; exact ⟨_, hz, fun v q => nomatch q⟩
    · rw [q]; exact ⟨_, hTI, fun v q => nomatch q⟩
    · rw [q]; exact ⟨_, hTO, fun v q => nomatch q⟩
    · rw [q]; exact src_it_obj h1
    · rw [q]; exact src_it_obj h2
  keep := fun i h h' st k => by
    obtain ⟨hz, hTI, ⟨x, y, hTO⟩, h1, h2⟩ := st
    exact ⟨k z (by simp) _ hz, k TI (by simp) _ hTI, ⟨x, y, k TO (by simp) _ hTO⟩, src_it_keep h1 fun o q => k i1 (by simp) o q, src_it_keep h2 fun o q => k i2 (by simp) o q⟩
  item := by
    intro X hP hw hK hc i pins s σ H E I hf st hg
    subst hP hw hK
    obtain ⟨hz, hTI, ⟨x0, y0, hTO⟩, h1, h2⟩ := st
    obtain ⟨xs, ys, x, y, hqx, hqy, hx, hy⟩ := hg
    have l1 : i < xs.length := (List.getElem?_eq_some_iff.mp hx).1
    have l2 : i < ys.length := (List.getElem?_eq_some_iff.mp hy).1
    obtain ⟨fp1, P1, St1, D1, hs1, m1, q1, v1, b1⟩ := src_draws I hc hqx h1 (hf i1 (by simp))
    obtain ⟨fp2, P2, St2, D2, hs2, m2, q2, v2, b2⟩ := src_draws I hc hqy h2 (hf i2 (by simp))
    have out1 : ∀ c, FpOk X pins H c → c ≠ i1 → c ∉ fp1 := fun c hf' hn hm => by
      rcases q1 c hm with q | q
      · exact hn q
      · exact src_apart I hqx q hf' rfl
    have out2 : ∀ c, FpOk X pins H c → c ≠ i2 → c ∉ fp2 := fun c hf' hn hm => by
      rcases q2 c hm with q | q
      · exact hn q
      · exact src_apart I hqy q hf' rfl
    have Sp : ZipSep2 z TI TO i1 i2 fp1 fp2 := ⟨F.a1, F.a2, F.a3, F.a4, m1, out1 z (hf z (by simp)) F.a6, out1 TO (hf TO (by simp)) F.a8, F.a5, m2, out2 z (hf z (by simp)) F.a7, out2 TO (hf TO (by simp)) F.a9, out2 i1 (hf i1 (by simp)) F.a10, out1 i2 (hf i2 (by simp)) (Ne.symm F.a10)⟩
    have hzl : z < s.heap.objs.size := Heap.lt_size hz
    refine wpAny_pyNext_zipD2_item Sp D1 D2 hz hTI hTO hs1 hs2 l1 l2 fun u u2 h' tk hu hu2 z' TO' h1' h2' hT hsz hk => ?_
    obtain ⟨x', hx', ru⟩ := v1 i u hu
    rw [hx] at hx'
    cases hx'
    obtain ⟨y', hy', ru2⟩ := v2 i u2 hu2
    rw [hy] at hy'
    cases hy'
    refine ⟨_, rfl, wpAny_letOwnedTupleGo_zip (s := { s with heap := h', toks := tk }) z' fun h'' z'' sb => ?_⟩
    have hT2 : h''.get? s.heap.objs.size = some { cls := .type "tuple", data := .seq #[u, u2] } := (sb.2 _ (Nat.ne_of_gt hzl)).trans hT
    have new : ObjOk X.prog X.w (upd H s.heap.objs.size (.tup [x, y])) h'' s.heap.objs.size (.tup [x, y]) :=
      ⟨by show 2 ≤ sizeLine; decide, [u, u2], .cons ru (.cons ru2 .nil), ⟨_, hT2, rfl, _, rfl⟩⟩
    have I1 : Inv X pins σ (upd H s.heap.objs.size (.tup [x, y])) { s with heap := h'', toks := tk } :=
      I.turnedNew (ch := [z, TI, TO, i1, i2]) (fun c o hb q => (sb.2 c (fun q' => hb (by simp [q']))).trans (hk c o (fun q' => hb (by simp [q'])) (fun q' => hb (by simp [q'])) (fun q' => hb (by simp [q'])) (fun q' => hb (by simp [q'])) q)) hf (Nat.le_refl _) new
    refine ⟨.ref s.heap.objs.size, _, I1, rfl, ⟨_, x, y, rfl, I.hok.fresh (Nat.le_refl _), rfl, fun l hl => by rw [src_inj I hl hqx]; exact hx, fun l hl => by rw [src_inj I hl hqy]; exact hy⟩, ⟨z'', ?_, ⟨u, u2, ?_⟩, ?_, ?_⟩, fun c hcm => ?_⟩
    · exact (sb.2 _ F.a1).trans (hk _ _ F.a1 F.a3 F.a4 F.a5 hTI)
    · exact (sb.2 _ F.a2).trans TO'
    · exact src_it_keep (b1 _ _ h1') fun o q => (sb.2 _ (Ne.symm F.a6)).trans q
    · exact src_it_keep (b2 _ _ h2') fun o q => (sb.2 _ (Ne.symm F.a7)).trans q
    · have hlt : c < s.heap.objs.size := by
        have e' : c = z ∨ c = TI ∨ c = TO ∨ c = i1 ∨ c = i2 := by simpa using hcm
        rcases e' with q | q | q | q | q
        · rw [q]; exact hzl
        · rw [q]; exact Heap.lt_size hTI
        · rw [q]; exact Heap.lt_size hTO
        · rw [q]; exact src_len_it h1
        · rw [q]; exact src_len_it h2
      rw [upd_ne (Nat.ne_of_lt hlt)]
      exact (hf c hcm).1
  done := by
    intro X hP hw hK hc i pins s σ H E I hf st hg
    subst hP hw hK
    obtain ⟨hz, hTI, ⟨x0, y0, hTO⟩, h1, h2⟩ := st
    obtain ⟨xs, ys, hqx, hqy, hend⟩ := hg
    obtain ⟨fp1, P1, St1, D1, hs1, m1, q1, v1, b1⟩ := src_draws I hc hqx h1 (hf i1 (by simp))
    obtain ⟨fp2, P2, St2, D2, hs2, m2, q2, v2, b2⟩ := src_draws I hc hqy h2 (hf i2 (by simp))
    have out1 : ∀ c, FpOk X pins H c → c ≠ i1 → c ∉ fp1 := fun c hf' hn hm => by
      rcases q1 c hm with q | q
      · exact hn q
      · exact src_apart I hqx q hf' rfl
    have out2 : ∀ c, FpOk X pins H c → c ≠ i2 → c ∉ fp2 := fun c hf' hn hm => by
      rcases q2 c hm with q | q
      · exact hn q
      · exact src_apart I hqy q hf' rfl
    have Sp : ZipSep2 z TI TO i1 i2 fp1 fp2 := ⟨F.a1, F.a2, F.a3, F.a4, m1, out1 z (hf z (by simp)) F.a6, out1 TO (hf TO (by simp)) F.a8, F.a5, m2, out2 z (hf z (by simp)) F.a7, out2 TO (hf TO (by simp)) F.a9, out2 i1 (hf i1 (by simp)) F.a10, out1 i2 (hf i2 (by simp)) (Ne.symm F.a10)⟩
    exact wpAny_pyNext_zipD2_end Sp D1 D2 hz hTI hTO hs1 hs2 (by omega) (by omega) (by omega) fun h' tk hk => ⟨rfl, I.turnedL (ch := [z, TI, TO, i1, i2]) (fun c o hb q =>
      hk c o (fun q' => hb (by simp [q'])) (fun q' => hb (by simp [q'])) (fun q' => hb (by simp [q'])) (fun q' => hb (by simp [q'])) q) hf⟩
  self := fun A i s Q E st h => wpAny_pyIter_zip st.1 h
section
variable {X : Cx} {pins : List (Addr × Obj)} {σ : St} {H : Hp} {s : Shared}
/-- a source begins -/
theorem src_begin (I : Inv X pins σ H s) {src : Src} {xs : List V} {u : Value} (h : src.at X.K H xs) (r : RelV src.val u) : ∃ (o : Obj) (Hh : Heap → Prop) (t : Tok), Begins u o Hh ∧ Hh s.heap ∧ ∀ h' it, h'.get? it = some o → src.it t it 0 h' := by
  cases src with
  | L a =>
    cases r
    obtain ⟨its, rv, p, hz⟩ := I.list h
    exact ⟨_, _, 0, begins_list a its.toArray, p.isList, fun h' it e => ⟨_, e, rfl, rfl⟩⟩
  | U a =>
    cases r
    obtain ⟨its, rv, p, hz⟩ := I.tuple h
    exact ⟨_, _, 0, begins_tuple a its.toArray, p, fun h' it e => ⟨_, e, rfl, rfl⟩⟩
  | Z z =>
    obtain ⟨t, rfl⟩ := r
    exact ⟨_, _, t, begins_text z t, trivial, fun h' it e => ⟨_, e, rfl, rfl⟩⟩
end
/-- enumerate(v) makes its cell over v's iterator -/
theorem enum_new {v : Value} {o : Obj} {Hh : Heap → Prop} (B : Begins v o Hh) : Meets (Builtin.«enumerate.__new__» ⟨[.type "enumerate", v], []⟩) (fun _ Rr st => Hh st.heap ∧
      Rr (.ok (.ret (.ref (st.heap.push o).objs.size))) { st with heap := (st.heap.push o).push { cls := .type "enumerate", data := .fields #[.none, .bool false, .ref st.heap.objs.size, rawInt 0, .none, .none] } }) :=
  .of_wp fun prog w A Rr st h => by
    obtain ⟨hp, g, d, tk, os⟩ := st
    obtain ⟨h1, h⟩ := h
    have hsub := sub_enumerate
    have it1 : ∀ {A2 : Around} {E2 : Value → Shared → Prop} {Q2 : Value → Shared → Prop}, Q2 (.ref hp.objs.size) ⟨hp.push o, g, d, tk, os⟩ → wpAny (model prog w) A2 (pyIter v) Q2 E2 ⟨hp, g, d, tk, os⟩ :=
      fun z => B.iter prog w _ _ ⟨hp, g, d, tk, os⟩ _ h1 z
    wp_walk using it1
    refine wpAny_stack_any fun stk => wpAny_pure ?_
    split
    · rename_i cl _ _ _ _ _
      cases (cl == Value.type "enumerate")
      · wp_walk using it1
        exact ⟨_, rfl, h⟩
      · wp_walk using it1
        exact ⟨_, rfl, h⟩
    · wp_walk using it1
      exact ⟨_, rfl, h⟩
theorem five_of (n : Nat) : Five (n + 4) (n + 2) (n + 3) n (n + 1) := by
  have k : ∀ i j : Nat, i ≠ j → (show Addr from i) ≠ j := fun i j h => h
  exact ⟨k _ _ (by omega), k _ _ (by omega), k _ _ (by omega), k _ _ (by omega), k _ _ (by omega), k _ _ (by omega), k _ _ (by omega), k _ _ (by omega), k _ _ (by omega), k _ _ (by omega)⟩
theorem le_of2 (n b : Nat) (h : b = n + 1 ∨ b = n) : n ≤ b := by omega
theorem le_of5 (n b : Nat) (h : b = n + 4 ∨ b = n + 2 ∨ b = n + 3 ∨ b = n ∨ b = n + 1) : n ≤ b := by omega
def iSrcE (K : PySem.W.Frag) (ta : TA) : TI := fun σ H R' => ta σ H fun vs H1 => ∃ src xs, vs = [Src.val src] ∧ src.at K H1 xs ∧ R' (ItE K src) H1
def iSrcP (K : PySem.W.Frag) (ta : TA) : TI := fun σ H R' => ta σ H fun vs H1 => ∃ a b xs ys, vs = [Src.val a, Src.val b] ∧ a.at K H1 xs ∧ b.at K H1 ys ∧ R' (ItP K a b) H1
def iSeq (K : PySem.W.Frag) (t : TE) : TI := fun σ H R' => t σ H fun v H1 => (∃ a xs, v = .ref a ∧ SqL K H1 a xs ∧ R' (Itl K a) H1) ∨ (∃ a xs, v = .ref a ∧ SqT K H1 a xs ∧ R' (Itt K a) H1) ∨ ∃ z, v = .str z ∧ R' (Its z) H1
section
variable {X : Cx} {tg : Expr}
theorem pi_seq {l : Expr} {tl : TE} (hl : PE X l tl) : PI X tg l (iSeq X.K tl) := by
  refine ⟨fun pins s σ H R' I h => ?_⟩
  refine thn (hl.run pins s σ H _ I h) fun v s1 ⟨x, H1, I1, r1, q1⟩ => ?_
  rcases q1 with ⟨a, xs, rfl, hq, q⟩ | ⟨a, xs, rfl, hq, q⟩ | ⟨z, rfl, q⟩
  · cases r1
    obtain ⟨its, rv, p, hz⟩ := I1.list hq
    exact wpAny_pyIter_list p.isList (pi_one (tk := s1.toks) I1 _ (turn_list a _) ⟨_, Heap.get?_push_size _ rfl, rfl, rfl⟩ q)
  · cases r1
    obtain ⟨its, rv, p, hz⟩ := I1.tuple hq
    exact wpAny_pyIter_tuple (show s1.heap.IsTuple a its.toArray from p) (pi_one (tk := s1.toks) I1 _ (turn_tuple a _) ⟨_, Heap.get?_push_size _ rfl, rfl, rfl⟩ q)
  · obtain ⟨t, rfl⟩ := r1
    cases ha : z.cps.all (· < 128)
    · exact wpAny_pyIter_wide ha (pi_one (tk := s1.toks) I1 _ (turn_str _ z t "str_iterator" (.inr rfl)) ⟨_, Heap.get?_push_size _ rfl, rfl, rfl⟩ q)
    · exact wpAny_pyIter_ascii ha (pi_one (tk := s1.toks) I1 _ (turn_str _ z t "str_ascii_iterator" (.inl rfl)) ⟨_, Heap.get?_push_size _ rfl, rfl, rfl⟩ q)
theorem call_enum {prog : Program} {w : World} {A : Around} {E : Value → Shared → Prop} {s : Shared} {v : Value} {o : Obj} {Hh : Heap → Prop} {Q : Value → Shared → Prop} (B : Begins v o Hh) (h1 : Hh s.heap)
    (h : ∀ h', IsEnum h' (s.heap.objs.size + 1) s.heap.objs.size 0 .none → h'.get? s.heap.objs.size = some o → (∀ b u, s.heap.get? b = some u → h'.get? b = some u) → Q (.ref (s.heap.objs.size + 1)) { s with heap := h' }) :
    wpAny (model prog w) A (call (.type "enumerate") [v]) Q E s := by
  refine callType_new F.called_enumerate (by decide) (F.typeCall_enumerate_1 _) (F.newCall_enumerate_1 _) (fun ob => F.args_object_init_2 ob _) F.entry_enumerate_new (enum_new B) ⟨h1, ?_⟩
  have z1 : (s.heap.push o).objs.size = s.heap.objs.size + 1 := Heap.size_push ..
  have he : IsEnum ((s.heap.push o).push { cls := .type "enumerate", data := .fields #[.none, .bool false, .ref s.heap.objs.size, rawInt 0, .none, .none] }) (s.heap.push o).objs.size s.heap.objs.size 0 .none :=
    Heap.get?_push_size (s.heap.push o) rfl
  rw [z1] at he
  show _ ∧ _
  rw [z1]
  exact ⟨⟨_, he, rfl⟩, h _ he (Heap.get?_push_of_some _ (Heap.get?_push_size _ B.free)) fun b u x => Heap.get?_push_of_some _ (Heap.get?_push_of_some _ x)⟩
theorem pi_srcE {e : Expr} {ta : TA} {p pos tpos : Pos} {elts : List Expr} {kk : Nat} (hg : Gl X "enumerate") (hm : X.mg "enumerate" = none) (ha : PA X [e] ta) (hs : starEach [e] X.env = [(false, eval e X.env)] := by rfl) :
    PI X (.Tuple elts kk tpos) (.Call (.Name "enumerate" p) [e] [] pos) (iSrcE X.K ta) := by
  refine ⟨fun pins s σ H R' I h => ?_⟩
  refine PyProof.Rows.Call_ (ld_blt I hg hm PyProof.Rows.boot_enumerate (PyProof.Rows.callWith_type1 (thn (ha.run pos pins s σ H _ I h) fun us s1 ⟨vs, H1, I1, r1, q1⟩ => ?_) hs rfl))
  obtain ⟨src, xs, rfl, hq, q⟩ := q1
  obtain ⟨u, rfl, ru⟩ := Vals.one r1
  obtain ⟨o, Hh, t, B, hH, hit⟩ := src_begin I1 hq ru
  refine call_enum B hH fun h' he ho hk => wpAny_pyIter_enum he ?_
  have I2 : Inv X pins σ H1 { s1 with heap := h' } := I1.kept (t' := s1.toks) hk
  refine ⟨s1.heap.objs.size + 1, [s1.heap.objs.size + 1, s1.heap.objs.size], _, _, H1, rfl, I2, turn_E src t (s1.heap.objs.size + 1) s1.heap.objs.size, ⟨⟨.none, he⟩, hit h' _ ho, Nat.succ_ne_self _⟩, fun b hb => ?_, q⟩
  have hle : s1.heap.objs.size ≤ b := le_of2 _ _ (by simpa using hb)
  exact I1.fpOk hle (I1.hok.fresh hle)
theorem pi_srcP {e e2 : Expr} {ta : TA} {p pos tpos : Pos} {elts : List Expr} {kk : Nat} (hg : Gl X "zip") (hm : X.mg "zip" = none) (ha : PA X [e, e2] ta)
    (hs : starEach [e, e2] X.env = (false, eval e X.env) :: starEach [e2] X.env := by rfl) (hpl : (backTo pos (starEach [e2] X.env)).any (·.1) = false := by rfl) :
    PI X (.Tuple elts kk tpos) (.Call (.Name "zip" p) [e, e2] [] pos) (iSrcP X.K ta) := by
  refine ⟨fun pins s σ H R' I h => ?_⟩
  refine PyProof.Rows.Call_ (ld_blt I hg hm PyProof.Rows.boot_zip (PyProof.Rows.callWith_type1 (thn (ha.run pos pins s σ H _ I h) fun us s1 ⟨vs, H1, I1, r1, q1⟩ => ?_) hs hpl))
  obtain ⟨a, b, xs, ys, rfl, hqx, hqy, q⟩ := q1
  obtain ⟨u, u2, rfl, ru, ru2⟩ := Vals.two r1
  obtain ⟨o, Hh, t, B, hH, hit⟩ := src_begin I1 hqx ru
  obtain ⟨o2, Hh2, t2, B2, hH2, hit2⟩ := src_begin I1 hqy ru2
  refine zip_begins2 B B2 hH hH2 fun h' hz hTI hTO h1 h2 hsz hk => wpAny_pyIter_zip hz ?_
  have I2 : Inv X pins σ H1 { s1 with heap := h' } := I1.kept (t' := s1.toks) hk
  refine ⟨s1.heap.objs.size + 4, [s1.heap.objs.size + 4, s1.heap.objs.size + 2, s1.heap.objs.size + 3, s1.heap.objs.size, s1.heap.objs.size + 1], _, _, H1, rfl, I2,
    turn_P a b t t2 (five_of _), ⟨hz, hTI, ⟨_, _, hTO⟩, hit h' _ h1, hit2 h' _ h2⟩, fun c hcm => ?_, q⟩
  have hle : s1.heap.objs.size ≤ c := le_of5 _ _ (by simpa using hcm)
  exact I1.fpOk hle (I1.hok.fresh hle)
end
/-! ### the rules by data -/
section
variable {S : Type}
def seqD : D → Option (List D)
  | .lst xs => some xs
  | .tup xs => some xs
  | .str l => some (l.map fun c => .str [c])
  | .scr ns => some (ns.map .int)
  | _ => none
def iSq (f : Env → S → R S D) : Env → S → R S (List D) := fun env s => (f env s).bind fun d s1 => R.of (seqD d) s1
def rng (lo : Int) (n : Nat) : List D := (List.range n).map fun i => .int (lo + (i : Nat))
def iR1 (f : Env → S → R S (List D)) : Env → S → R S (List D) := fun env s => (f env s).bind fun xs s1 => match xs with
  | [.int j] => if -(2 ^ 62) ≤ j ∧ j < 2 ^ 62 then .ok (rng 0 j.toNat) s1 else .bad
  | _ => .bad
def enumD (xs : List D) : List D := (List.range xs.length).zipWith (fun i x => .tup [.int ((i : Nat) : Int), x]) xs
def zipD (xs ys : List D) : List D := xs.zipWith (fun x y => .tup [x, y]) ys
def iEn (f : Env → S → R S (List D)) : Env → S → R S (List D) := fun env s => (f env s).bind fun xs s1 => match xs with
  | [d] => (R.of (seqD d) s1).bind fun ys s2 => .ok (enumD ys) s2
  | _ => .bad
def iZp (f : Env → S → R S (List D)) : Env → S → R S (List D) := fun env s => (f env s).bind fun xs s1 => match xs with
  | [d, e] => (R.of (seqD d) s1).bind fun ys s2 => (R.of (seqD e) s2).bind fun zs s3 => .ok (zipD ys zs) s3
  | _ => .bad
end
section
variable {T : Ctx} {S : Type} {SR : SRel S} {W : WX} {X : Cx} {c : Cf} {H : Hp}
/-- data that may be walked are a source -/
theorem src_of {d : D} {v : V} {xs : List D} (r : Rep T c d v) (e : seqD d = some xs) : ∃ (src : Src) (vs : List V), v = src.val ∧ Reps T c xs vs ∧ ∀ c2 H2, Gx c c2 → CfOk c2 H2 → src.at T.K H2 vs := by
  cases r with
  | str l =>
    cases e
    refine ⟨.Z (sOf l), signs (sOf l), rfl, ?_, fun _ _ _ _ => rfl⟩
    unfold signs
    rw [sOf_list]
    induction l with
    | nil => exact .nil
    | cons a l ih => exact .cons (.str [a]) ih
  | @lst a vs ys h r =>
    cases e
    exact ⟨.L a, vs, rfl, r, fun c2 H2 g ok => SqL.of (ok.gh _ _ (g.g _ _ h))⟩
  | @scr a ns h =>
    cases e
    refine ⟨.L a, ns.map V.int, rfl, ?_, fun c2 H2 g ok => same_l ok.gh (same_l g.g h)⟩
    clear h
    induction ns with
    | nil => exact .nil
    | cons n l ih => exact .cons (.int n) ih
  | @tup a vs ys h r =>
    cases e
    exact ⟨.U a, vs, rfl, r, fun c2 H2 g ok => same_t ok.gh (same_t g.g h)⟩
  | _ => cases e
end
end KB
set_option Elab.async false
set_option linter.all false
set_option maxRecDepth 100000
set_option maxHeartbeats 4000000
/-! K11: the rules of what is walked, by data -/
namespace KB
open PySem L2
section
variable {T : Ctx} {S : Type} {SR : SRel S} {W : WX} {X : Cx} {c : Cf} {H : Hp}
theorem yl_L {K : PySem.W.Frag} (hK : K = T.K) {a : Addr} {xs : List D} {vs : List V} (r : Reps T c xs vs) (h : ∀ c2 H2, Gx c c2 → CfOk c2 H2 → SqL T.K H2 a vs) : Yl T (Itl K a) c xs where
  goes := fun i c2 H2 hi g ok => by
    subst hK
    have hl : i < vs.length := by rw [← r.length]; exact hi
    exact ⟨vs, vs[i], h c2 H2 g ok, List.getElem?_eq_getElem hl⟩
  stops := fun c2 H2 g ok => by
    subst hK
    exact ⟨vs, h c2 H2 g ok, by rw [r.length]; exact Nat.le_refl _⟩
  yields := fun i d c2 H2 x H3 hd g ok y => by
    subst hK
    obtain ⟨e1, e2⟩ := y
    subst e1
    obtain ⟨v, hv, rv⟩ := (r.mono g).at hd
    have q := e2 vs (h c2 H3 g ok)
    rw [hv] at q
    cases q
    exact ⟨c2, Stp.refl ok, rfl, rfl, rv⟩
theorem yl_U {K : PySem.W.Frag} (hK : K = T.K) {a : Addr} {xs : List D} {vs : List V} (r : Reps T c xs vs) (h : ∀ c2 H2, Gx c c2 → CfOk c2 H2 → SqT T.K H2 a vs) : Yl T (Itt K a) c xs where
  goes := fun i c2 H2 hi g ok => by
    subst hK
    have hl : i < vs.length := by rw [← r.length]; exact hi
    exact ⟨vs, vs[i], h c2 H2 g ok, List.getElem?_eq_getElem hl⟩
  stops := fun c2 H2 g ok => by
    subst hK
    exact ⟨vs, h c2 H2 g ok, by rw [r.length]; exact Nat.le_refl _⟩
  yields := fun i d c2 H2 x H3 hd g ok y => by
    subst hK
    obtain ⟨e1, e2⟩ := y
    subst e1
    obtain ⟨v, hv, rv⟩ := (r.mono g).at hd
    have q := e2 vs (h c2 H3 g ok)
    rw [hv] at q
    cases q
    exact ⟨c2, Stp.refl ok, rfl, rfl, rv⟩
theorem yl_S {z : Str} {xs : List D} (r : Reps T c xs (signs z)) : Yl T (Its z) c xs where
  goes := fun i c2 H2 hi g ok => by
    have hl := r.length
    simp only [signs, List.length_map, Array.length_toList] at hl
    show i < z.cps.size
    omega
  stops := fun c2 H2 g ok => by
    have hl := r.length
    simp only [signs, List.length_map, Array.length_toList] at hl
    show z.cps.size ≤ _
    omega
  yields := fun i d c2 H2 x H3 hd g ok y => by
    obtain ⟨e1, k, hk, rfl⟩ := y
    subst e1
    obtain ⟨v, hv, rv⟩ := (r.mono g).at hd
    unfold signs at hv
    rw [List.getElem?_map, Array.getElem?_toList, hk] at hv
    cases hv
    exact ⟨c2, Stp.refl ok, rfl, rfl, rv⟩
theorem yl_r {lo : Int} {n : Nat} : Yl T (Itr lo n) c (rng lo n) where
  goes := fun i c2 H2 hi g ok => by
    have hi' : i < ((List.range n).map fun i => D.int (lo + (i : Nat))).length := hi
    rw [List.length_map, List.length_range] at hi'
    exact hi'
  stops := fun c2 H2 g ok => by
    show n ≤ ((List.range n).map fun i => D.int (lo + (i : Nat))).length
    rw [List.length_map, List.length_range]
    exact Nat.le_refl _
  yields := fun i d c2 H2 x H3 hd g ok y => by
    obtain ⟨e1, rfl⟩ := y
    subst e1
    have hd' : ((List.range n).map fun i => D.int (lo + (i : Nat)))[i]? = some d := hd
    rw [List.getElem?_map] at hd'
    cases q : (List.range n)[i]? with
    | none =>
      rw [q] at hd'
      cases hd'
    | some j =>
      have hj : j = i := by
        rw [List.getElem?_eq_some_iff] at q
        obtain ⟨h1, h2⟩ := q
        rw [List.getElem_range] at h2
        exact h2.symm
      subst hj
      rw [q] at hd'
      cases hd'
      exact ⟨c2, Stp.refl ok, rfl, rfl, .int _⟩
/-- a new pair -/
theorem yl_pair {c2 : Cf} {H2 : Hp} (ok : CfOk c2 H2) {p : Addr} {x y : V} {d e : D} (hp : H2 p = none) (r1 : Rep T c2 d x) (r2 : Rep T c2 e y) : ∃ c3, Stp c2 H2 c3 (upd H2 p (.tup [x, y])) ∧ c3.m = c2.m ∧ c3.F = c2.F ∧ Rep T c3 (.tup [d, e]) (.ref p) :=
  ⟨c2.put p (.tup [x, y]), Stp.put ok hp, rfl, rfl, .tup (.inl (.inl put_at)) (.cons (r1.mono (Gx.put (free_of ok.gh hp))) (.cons (r2.mono (Gx.put (free_of ok.gh hp))) .nil))⟩
theorem enumD_at {xs : List D} {i : Nat} {d : D} (h : (enumD xs)[i]? = some d) : ∃ x, xs[i]? = some x ∧ d = .tup [.int ((i : Nat) : Int), x] := by
  unfold enumD at h
  rw [List.getElem?_zipWith] at h
  cases q : xs[i]? with
  | none =>
    rw [q] at h
    cases w : (List.range xs.length)[i]? <;> rw [w] at h <;> cases h
  | some x =>
    rw [q] at h
    have hi : i < xs.length := (List.getElem?_eq_some_iff.mp q).1
    rw [List.getElem?_range hi] at h
    cases h
    exact ⟨x, rfl, rfl⟩
theorem enumD_len (xs : List D) : (enumD xs).length = xs.length := by
  unfold enumD
  rw [List.length_zipWith, List.length_range]
  exact Nat.min_self _
theorem zipD_at {xs ys : List D} {i : Nat} {d : D} (h : (zipD xs ys)[i]? = some d) : ∃ x y, xs[i]? = some x ∧ ys[i]? = some y ∧ d = .tup [x, y] := by
  unfold zipD at h
  rw [List.getElem?_zipWith] at h
  cases q : xs[i]? with
  | none =>
    rw [q] at h
    cases h
  | some x =>
    cases w : ys[i]? with
    | none =>
      rw [q, w] at h
      cases h
    | some y =>
      rw [q, w] at h
      cases h
      exact ⟨x, y, rfl, rfl, rfl⟩
theorem zipD_len (xs ys : List D) : (zipD xs ys).length = min xs.length ys.length := List.length_zipWith ..
theorem yl_E {K : PySem.W.Frag} (hK : K = T.K) {src : Src} {xs : List D} {vs : List V} (r : Reps T c xs vs) (h : ∀ c2 H2, Gx c c2 → CfOk c2 H2 → src.at T.K H2 vs) : Yl T (ItE K src) c (enumD xs) where
  goes := fun i c2 H2 hi g ok => by
    subst hK
    rw [enumD_len, r.length] at hi
    exact ⟨vs, vs[i], h c2 H2 g ok, List.getElem?_eq_getElem hi⟩
  stops := fun c2 H2 g ok => by
    subst hK
    exact ⟨vs, h c2 H2 g ok, by rw [enumD_len, r.length]⟩
  yields := fun i d c2 H2 x H3 hd g ok y => by
    subst hK
    obtain ⟨p, v, rfl, hp, rfl, hv⟩ := y
    obtain ⟨d', hd', rfl⟩ := enumD_at hd
    obtain ⟨v', hv', rv⟩ := (r.mono g).at hd'
    have q := hv vs (h c2 H2 g ok)
    rw [hv'] at q
    cases q
    exact yl_pair ok hp (.int _) rv
theorem yl_P {K : PySem.W.Frag} (hK : K = T.K) {a b : Src} {xs ys : List D} {vs ws : List V} (r : Reps T c xs vs) (r2 : Reps T c ys ws) (h : ∀ c2 H2, Gx c c2 → CfOk c2 H2 → a.at T.K H2 vs) (h2 : ∀ c2 H2, Gx c c2 → CfOk c2 H2 → b.at T.K H2 ws) : Yl T (ItP K a b) c (zipD xs ys) where
  goes := fun i c2 H2 hi g ok => by
    subst hK
    rw [zipD_len, r.length, r2.length] at hi
    have h1 : i < vs.length := by omega
    have h3 : i < ws.length := by omega
    exact ⟨vs, ws, vs[i], ws[i], h c2 H2 g ok, h2 c2 H2 g ok, List.getElem?_eq_getElem h1, List.getElem?_eq_getElem h3⟩
  stops := fun c2 H2 g ok => by
    subst hK
    exact ⟨vs, ws, h c2 H2 g ok, h2 c2 H2 g ok, by rw [zipD_len, r.length, r2.length]⟩
  yields := fun i d c2 H2 x H3 hd g ok y => by
    subst hK
    obtain ⟨p, v, w, rfl, hp, rfl, hv, hw⟩ := y
    obtain ⟨d1, d2, hd1, hd2, rfl⟩ := zipD_at hd
    obtain ⟨v', hv', rv⟩ := (r.mono g).at hd1
    obtain ⟨w', hw', rw'⟩ := (r2.mono g).at hd2
    have q := hv vs (h c2 H2 g ok)
    rw [hv'] at q
    cases q
    have q := hw ws (h2 c2 H2 g ok)
    rw [hw'] at q
    cases q
    exact yl_pair ok hp rv rw'
variable {a b tg : Expr} {f g : Env → S → R S D} {fs : Env → S → R S (List D)} {pos : Pos}
theorem di_seq (hK : X.K = T.K) (ha : DE T SR W X a f) : DI T SR W X tg a (iSq f) := by
  refine PI.imp (pi_seq ha) fun σ H R' ⟨c, env, s, x, po⟩ => ?_
  refine Po.run x po fun d s1 v c1 H1 st1 x1 r1 p1 => ?_
  cases e : seqD d with
  | none =>
    rw [e] at p1
    exact p1.elim
  | some xs =>
    rw [e] at p1
    obtain ⟨src, vs, rfl, rv, hat⟩ := src_of r1 e
    have fin := p1.done x1.ok x1.sr
    cases src with
    | L l =>
      refine .inl ⟨l, vs, rfl, ?_, fin _ (yl_L hK rv hat)⟩
      rw [hK]
      exact hat c1 H1 (Gx.refl _) x1.ok
    | U l =>
      refine .inr (.inl ⟨l, vs, rfl, ?_, fin _ (yl_U hK rv hat)⟩)
      rw [hK]
      exact hat c1 H1 (Gx.refl _) x1.ok
    | Z z =>
      have q := hat c1 H1 (Gx.refl _) x1.ok
      cases q
      exact .inr (.inr ⟨z, rfl, fin _ (yl_S rv)⟩)
theorem di_r1 {p : Pos} (hg : Gl X "range") (hm : X.mg "range" = none) (ha : DA T SR W X [a] fs) (hs : starEach [a] X.env = [(false, eval a X.env)] := by rfl) : DI T SR W X tg (.Call (.Name "range" p) [a] [] pos) (iR1 fs) := by
  refine PI.imp (pi_range1 hg hm ha hs) fun σ H R' ⟨c, env, s, x, po⟩ => ?_
  refine Po.runA x po fun ds s1 vs c1 H1 st1 x1 r1 p1 => ?_
  split at p1
  · rename_i j
    obtain ⟨v, rfl, rv⟩ := r1.one
    cases rv
    split at p1
    · rename_i hj
      exact ⟨j, rfl, hj.1, hj.2, p1.done x1.ok x1.sr _ yl_r⟩
    · exact p1.elim
  · exact p1.elim
theorem di_en {p tpos : Pos} {elts : List Expr} {kk : Nat} (hK : X.K = T.K) (hg : Gl X "enumerate") (hm : X.mg "enumerate" = none) (ha : DA T SR W X [a] fs) (hs : starEach [a] X.env = [(false, eval a X.env)] := by rfl) : DI T SR W X (.Tuple elts kk tpos) (.Call (.Name "enumerate" p) [a] [] pos) (iEn fs) := by
  refine PI.imp (pi_srcE hg hm ha hs) fun σ H R' ⟨c, env, s, x, po⟩ => ?_
  refine Po.runA x po fun ds s1 vs c1 H1 st1 x1 r1 p1 => ?_
  split at p1
  · rename_i d
    obtain ⟨v, rfl, rv⟩ := r1.one
    cases e : seqD d with
    | none =>
      rw [e] at p1
      exact p1.elim
    | some xs =>
      rw [e] at p1
      obtain ⟨src, vs, rfl, rv, hat⟩ := src_of rv e
      have p2 : Po T SR W (wI T R') c1 H1 σ (.ok (enumD xs) s1) := p1
      refine ⟨src, vs, rfl, ?_, p2.done x1.ok x1.sr _ (yl_E hK rv hat)⟩
      rw [hK]
      exact hat c1 H1 (Gx.refl _) x1.ok
  · exact p1.elim
theorem di_zp {p tpos : Pos} {elts : List Expr} {kk : Nat} (hK : X.K = T.K) (hg : Gl X "zip") (hm : X.mg "zip" = none) (ha : DA T SR W X [a, b] fs) (hs : starEach [a, b] X.env = (false, eval a X.env) :: starEach [b] X.env := by rfl)
    (hpl : (backTo pos (starEach [b] X.env)).any (·.1) = false := by rfl) : DI T SR W X (.Tuple elts kk tpos) (.Call (.Name "zip" p) [a, b] [] pos) (iZp fs) := by
  refine PI.imp (pi_srcP hg hm ha hs hpl) fun σ H R' ⟨c, env, s, x, po⟩ => ?_
  refine Po.runA x po fun ds s1 vs c1 H1 st1 x1 r1 p1 => ?_
  split at p1
  · rename_i d d'
    obtain ⟨v, w, rfl, rv, rw'⟩ := r1.two
    cases e : seqD d with
    | none =>
      rw [e] at p1
      exact p1.elim
    | some xs =>
      cases e' : seqD d' with
      | none =>
        rw [e, e'] at p1
        exact p1.elim
      | some ys =>
        rw [e, e'] at p1
        obtain ⟨src, vs, rfl, rv, hat⟩ := src_of rv e
        obtain ⟨src', ws, rfl, rw', hat'⟩ := src_of rw' e'
        have p2 : Po T SR W (wI T R') c1 H1 σ (.ok (zipD xs ys) s1) := p1
        refine ⟨src, src', vs, ws, rfl, ?_, ?_, p2.done x1.ok x1.sr _ (yl_P hK rv rw' hat hat')⟩
        · rw [hK]
          exact hat c1 H1 (Gx.refl _) x1.ok
        · rw [hK]
          exact hat' c1 H1 (Gx.refl _) x1.ok
  · exact p1.elim
end
end KB
set_option Elab.async false
set_option linter.all false
set_option maxRecDepth 100000
set_option maxHeartbeats 4000000
/-! K12: defs and calls of them -/
namespace KB
open PySem PySem.Spec PyProof.Rows L2
/-- a def keeps its promise; g: where nothing guards (repr) -/
structure FnG (g : Bool) (P : Program) (w : World) (K : PySem.W.Frag) (mg : Str → Option Value) (base : Heap) (k : Nat) (f : Addr) (fd : FuncData) (ps : List Str) (sp : Sp) : Prop where
  len : ∀ vs H Q E, sp vs H Q E → vs.length = ps.length
  run : ∀ (A : Around) (out : List PySem.Env) (s : Shared) (H : Hp) (args : Args) (us : List Value) (vs : List V) (Q : VK) (E : XK), Room k A → (g = true → A.guards = some []) →
    Env0 P w K mg base A out s H → BindsTo s fd args (ps.zip us) → Vals vs us → sp vs H Q E → codeAny (model P w) A (.call (.ref f) args) (CR (L2.CX P w) out P w H s Q E) s
theorem FnG.ok {P : Program} {w : World} {K : PySem.W.Frag} {mg : Str → Option Value} {base : Heap} {k : Nat} {f : Addr} {fd : FuncData} {ps : List Str} {sp : Sp} (F : FnG false P w K mg base k f fd ps sp) : FnOk P w K mg base (L2.CX P w) k f fd ps sp :=
  ⟨F.len, fun A out s H args us vs Q E hr => F.run A out s H args us vs Q E hr (fun z => nomatch z)⟩
theorem FnG.of {g : Bool} {P : Program} {w : World} {K : PySem.W.Frag} {mg : Str → Option Value} {base : Heap} {k : Nat} {f : Addr} {fd : FuncData} {ps : List Str} {sp : Sp} (F : FnOk P w K mg base (L2.CX P w) k f fd ps sp) : FnG g P w K mg base k f fd ps sp :=
  ⟨F.len, fun A out s H args us vs Q E hr _ => F.run A out s H args us vs Q E hr⟩
/-- a def's body, by HandS's judgement of statements -/
theorem fnG_ofC {g : Bool} {P : Program} {w : World} {K : PySem.W.Frag} {mg : Str → Option Value} {base : Heap} {k : Nat} {x qual : Str} {st : Stmt} {f : Addr} {fd : FuncData} {N ps : List Str} {sp : Sp} (F : Fun K x qual st f fd) (Sc : FnScope N ps (defScope st))
    (len : ∀ vs H Q E, sp vs H Q E → vs.length = ps.length)
    (hb : ∀ (cdv : Value), fd.code = cdv → ∀ (A : Around) (out : List PySem.Env) (s : Shared) (H : Hp) (vs : List V) (Q : VK) (E : XK), Room k (A.deeper (envOfC qual (defScope st) s.heap.objs.size f cdv)) → (g = true → A.guards = some []) → sp vs H Q E →
      ∃ t, PSs (cxOf (L2.CX P w) P w K mg base N qual (defScope st) f cdv A out s H E) (defBody st) t ∧ t { nx := fun _ H' => Q .non H', rt := Q } (L2.start N vs) H) : FnG g P w K mg base (k + 1) f fd ps sp := by
  obtain ⟨oc, od, kV, doc, pm, an, cdv, ct, osl, rfl, lk, hcd⟩ := F.ex
  constructor
  · exact len
  intro A out s H args us vs Q E room gd e0 bt vu want
  obtain ⟨t, body, holds⟩ := hb cdv rfl A out s H vs Q E (room.deeper _) gd want
  have heap := e0.mod.kin.keeps fun b o e => (e0.bs b o e).1
  have nl := e0.mod.nolimit.keeps fun b o e => (e0.bs b o e).1
  have named : ∀ y ∈ ps.zip us, (defScope st).names.lookup y.1 = some .local ∨
      ((defScope st).names.lookup y.1 = some .cell ∧ ((cellsFrom (s.heap.objs.size + 1) (defScope st).names []).lookup y.1).isSome = true) := by
    rintro ⟨n, v⟩ hy
    refine (Sc.par n (List.of_mem_zip hy).1).imp id fun q => ⟨q, ?_⟩
    exact PySem.W.cellsFrom_some _ _ _ (.inl q)
  refine codeAny_call_function room.depth (heap _ _ lk) rfl Sc.co Sc.gen rfl
    (PySem.W.codeRec_of heap hcd) (bt _ _ _ _ (wpAny_newFunctionEnv_cells Sc.kind named fun env he s1 x => ?_))
  subst he
  constructor
  · exact nl.keeps x.toInCall.keep
  have I := inv_start (CX := L2.CX P w) (P := P) (w := w) (E := E) Sc room.hd e0 (len _ _ _ _ want) vu x
  refine codeAny_func (wpAny_mono (body.run [] s1 (L2.start N vs) H _ I holds) (fun fl s' hs => ?_) fun e s' hs => hs)
  cases fl with
  | brk => exact hs.elim fun _ z => z.elim fun _ z => z.2.elim
  | cont => exact hs.elim fun _ z => z.elim fun _ z => z.2.elim
  | next =>
    obtain ⟨σ', H', J, q⟩ := hs
    exact ⟨.non, H', J.os, J.bare, J.base, J.hok, rfl, q⟩
  | ret u =>
    obtain ⟨v, σ', H', J, rv, q⟩ := hs
    exact ⟨v, H', J.os, J.bare, J.base, J.hok, rv, q⟩
theorem fnG_of {g : Bool} {P : Program} {w : World} {K : PySem.W.Frag} {mg : Str → Option Value} {base : Heap} {k : Nat} {x qual : Str} {st : Stmt} {f : Addr} {fd : FuncData} {N ps : List Str} {sp : Sp} (F : Fun K x qual st f fd) (Sc : FnScope N ps (defScope st))
    (len : ∀ vs H Q E, sp vs H Q E → vs.length = ps.length)
    (hb : ∀ (cdv : Value) (A : Around) (out : List PySem.Env) (s : Shared) (H : Hp) (vs : List V) (Q : VK) (E : XK), Room k (A.deeper (envOfC qual (defScope st) s.heap.objs.size f cdv)) → (g = true → A.guards = some []) → sp vs H Q E →
      ∃ t, PSs (cxOf (L2.CX P w) P w K mg base N qual (defScope st) f cdv A out s H E) (defBody st) t ∧ t { nx := fun _ H' => Q .non H', rt := Q } (L2.start N vs) H) : FnG g P w K mg base (k + 1) f fd ps sp :=
  fnG_ofC F Sc len fun cdv _ => hb cdv
/-! ### promises by what a def computes -/
def envOf (n : Nat) (ds : List D) : Env := ds.map Sl.d ++ List.replicate (n - ds.length) .no
def defR {S : Type} (r : RS S) : R S RV := match r with
  | .nx _ s => .ok (.d .non) s
  | .rt r s => .ok r s
  | .exc e _ s => .exc e s
  | _ => .bad
def semOf {S : Type} (n : Nat) (g : Env → S → RS S) (ds : List D) (s : S) : R S RV := defR (g (envOf n ds) s)
section
variable (T : Ctx) {S : Type} (SR : SRel S)
def PoF (c : Cf) (H : Hp) (r : R S RV) (Q : VK) (E : XK) : Prop := match r with
  | .ok r s' => PoV T SR c H r s' Q
  | .exc e s' => ∀ cls dd c' H', Stp c H c' H' → SR s' c' → RepX T c' H' e cls dd → E cls dd H'
  | .bad => False
def spD (n : Nat) (sem : List D → S → R S RV) : Sp := fun vs H Q E => ∃ c ds s, CfOk c H ∧ SR s c ∧ Reps T c ds vs ∧ ds.length = n ∧ PoF T SR c H (sem ds s) Q E
end
section
variable {T : Ctx} {S : Type} {SR : SRel S}
theorem env_start {c : Cf} {H : Hp} {N : List Str} {ds : List D} {vs : List V} (r : Reps T c ds vs) (h : ds.length ≤ N.length) : EnvOk T c H (L2.start N vs) (envOf N.length ds) where
  len := by
    have := r.length
    unfold L2.start envOf
    simp [this]
  sl := fun i sl e => by
    unfold envOf at e
    by_cases hi : i < ds.length
    · rw [List.getElem?_append_left (by simpa using hi), List.getElem?_map] at e
      cases q : ds[i]? with
      | none =>
        rw [q] at e
        cases e
      | some d =>
        rw [q] at e
        cases e
        obtain ⟨v, hv, rv⟩ := r.at q
        refine ⟨v, ?_, rv⟩
        unfold L2.start
        rw [List.getElem?_append_left (by rw [List.length_map, ← r.length]; exact hi), List.getElem?_map, hv]
        rfl
    · rw [List.getElem?_append_right (by simpa using hi), List.getElem?_replicate] at e
      split at e
      · cases e
        trivial
      · cases e
  dis := fun i j a ⟨⟨sl, e, o⟩, _⟩ => by
    unfold envOf at e
    by_cases hi : i < ds.length
    · rw [List.getElem?_append_left (by simpa using hi), List.getElem?_map] at e
      cases q : ds[i]? with
      | none =>
        rw [q] at e
        cases e
      | some d =>
        rw [q] at e
        cases e
        cases o
    · rw [List.getElem?_append_right (by simpa using hi), List.getElem?_replicate] at e
      split at e
      · cases e
        cases o
      · cases e
theorem own_start {H0 : Hp} {N : List Str} {ds : List D} {σ : L2.St} : OwnNew H0 σ (envOf N.length ds) := fun i a ⟨⟨sl, e, o⟩, _⟩ => by
    unfold envOf at e
    by_cases hi : i < ds.length
    · rw [List.getElem?_append_left (by simpa using hi), List.getElem?_map] at e
      cases q : ds[i]? with
      | none =>
        rw [q] at e
        cases e
      | some d =>
        rw [q] at e
        cases e
        cases o
    · rw [List.getElem?_append_right (by simpa using hi), List.getElem?_replicate] at e
      split at e
      · cases e
        cases o
      · cases e
theorem poS_of {c : Cf} {H : Hp} {Q : VK} {E : XK} {r : RS S} (h : PoF T SR c H (defR r) Q E) : PoS T SR (fun cls d _ H => E cls d H) c H c r { nx := fun _ H' => Q .non H', rt := Q } := by
  cases r with
  | nx env' s' => exact fun σ' c' H' y x => h .non c' H' x.st x.sr .non
  | rt r s' => exact h
  | bk env' s' => exact h.elim
  | ct env' s' => exact h.elim
  | exc e env' s' => exact fun cls dd σ' c' H' y x rx => h cls dd c' H' x.st x.sr rx
  | bad => exact h
/-- THE RULE for a def -/
theorem ok_defC {g : Bool} {P : Program} {w : World} {K : PySem.W.Frag} {mg : Str → Option Value} {base : Heap} {k : Nat} {x qual : Str} {st : Stmt} {f : Addr} {fd : FuncData} {N ps : List Str} {gb : Env → S → RS S} (F : Fun K x qual st f fd) (Sc : FnScope N ps (defScope st))
    (hb : ∀ (cdv : Value), fd.code = cdv → ∀ (A : Around) (out : List PySem.Env) (s : Shared) (H : Hp) (E : XK), Room k (A.deeper (envOfC qual (defScope st) s.heap.objs.size f cdv)) → (g = true → A.guards = some []) →
      DB T SR (fun cls d _ H => E cls d H) (cxOf (L2.CX P w) P w K mg base N qual (defScope st) f cdv A out s H E) (defBody st) gb) : FnG g P w K mg base (k + 1) f fd ps (spD T SR ps.length (semOf N.length gb)) := by
  refine fnG_ofC F Sc (fun vs H Q E ⟨c, ds, s, _, _, r, l, _⟩ => by rw [← r.length]; exact l) fun cdv hcv A out s H vs Q E hr hg ⟨c, ds, s', ok, sr, r, l, p⟩ => ?_
  refine ⟨_, hb cdv hcv A out s H E hr hg, c, H, c, envOf N.length ds, s', ⟨Stp.refl ok, env_start r ?_, own_start, sr⟩, poS_of p⟩
  have e := congrArg List.length Sc.pre
  rw [List.length_take] at e
  omega
theorem ok_def {g : Bool} {P : Program} {w : World} {K : PySem.W.Frag} {mg : Str → Option Value} {base : Heap} {k : Nat} {x qual : Str} {st : Stmt} {f : Addr} {fd : FuncData} {N ps : List Str} {gb : Env → S → RS S} (F : Fun K x qual st f fd) (Sc : FnScope N ps (defScope st))
    (hb : ∀ (cdv : Value) (A : Around) (out : List PySem.Env) (s : Shared) (H : Hp) (E : XK), Room k (A.deeper (envOfC qual (defScope st) s.heap.objs.size f cdv)) → (g = true → A.guards = some []) →
      DB T SR (fun cls d _ H => E cls d H) (cxOf (L2.CX P w) P w K mg base N qual (defScope st) f cdv A out s H E) (defBody st) gb) : FnG g P w K mg base (k + 1) f fd ps (spD T SR ps.length (semOf N.length gb)) :=
  ok_defC F Sc fun cdv _ => hb cdv
/-! ### calls -/
/-- a def by its name -/
structure Dfn (g : Bool) (P : Program) (w : World) (K : PySem.W.Frag) (mg : Str → Option Value) (base : Heap) (k : Nat) (x : Str) (sp : Sp) : Prop where
  ex : ∃ f fd ps, FnG g P w K mg base k f fd ps sp ∧ mg x = some (.ref f) ∧ PySem.W.keepIn K (.ref f) = true ∧ Binds K fd ps []
section
variable {g : Bool} {X : Cx} {W : WX} {k : Nat} {x : Str} {sp : Sp} {p pos : Pos} {e : Expr} {es : List Expr} {t : TA}
theorem run_fnG {f : Addr} {fd : FuncData} {ps : List Str} {pins : List (Addr × Obj)} {σ : L2.St} {H : Hp} {s : Shared} {Q : VK} {us : List Value} {vs : List V} (F : FnG g X.prog X.w X.K X.mg X.base k f fd ps sp) (hr : Room k X.A) (hG : g = true → X.A.guards = some [])
    (hb : Binds X.K fd ps []) (tk : Takes X W) (I : Inv X pins σ H s) (r : Vals vs us) (h : sp vs H Q (WE W σ)) : wpAny (model X.prog X.w) X.A (call (.ref f) us) (EP X pins σ Q) X.xe s := by
  have b := hb s us I.kIn (by rw [List.append_nil, ← r.length]; exact F.len _ _ _ _ h)
  rw [List.append_nil] at b
  refine wpAny_call (codeAny_mono (F.run X.A X.stack s H _ us vs Q (WE W σ) hr hG I.env0 b r h) ?_)
  rintro (e | fl) s' hq
  · exact passAt tk σ pins H s e s' I hq
  · cases fl with
    | ret u => exact I.after hq
    | next => exact hq.elim
    | brk => exact hq.elim
    | cont => exact hq.elim
theorem pe_callG (F : Dfn g X.prog X.w X.K X.mg X.base k x sp) (hr : Room k X.A) (hG : g = true → X.A.guards = some []) (hg : Gl X x) (tk : Takes X W) (ha : PA X (e :: es) t) (hdb : (x == ("__debug__" : Str)) = false := by decide)
    (he : starEach (e :: es) X.env = (false, eval e X.env) :: starEach es X.env := by rfl) (hpl : (backTo pos (starEach es X.env)).any (·.1) = false := by rfl) : PE X (.Call (.Name x p) (e :: es) [] pos) (tCallS sp (WE W) t) := by
  obtain ⟨f, fd, ps, F, hm, hk, hb⟩ := F.ex
  constructor
  intro pins s σ H Q I h
  refine wpAny_Call_Name_kw (ld_glob I hg hm (PySem.W.callWith_K (h₀ := X.base) I.ok.mod.kin hk (thn (ha.run pos pins s σ H _ I h) ?_) he hpl) hdb)
  rintro us s1 ⟨vs, H1, I1, r, q⟩
  exact ⟨I1.kIn, run_fnG F hr hG hb tk I1 r q⟩
end
def RV.toD : RV → D
  | .d x => x
  | .L xs => .lst xs
def eCall (sem : List D → S → R S RV) (fs : Env → S → R S (List D)) : Env → S → R S D := fun env s => (fs env s).bind fun ds s1 => (sem ds s1).bind fun r s2 => .ok r.toD s2
def fCall (sem : List D → S → R S RV) (fs : Env → S → R S (List D)) : Env → S → R S (List D) := fun env s => (fs env s).bind fun ds s1 => (sem ds s1).bind fun r s2 => match r with
  | .L xs => .ok xs s2
  | .d _ => .bad
def aNo : Env → S → R S (List D) := fun _ s => .ok [] s
theorem poF_D {c : Cf} {H : Hp} {σ : L2.St} {W : WX} {r : R S RV} {Q : VK} (h : Po T SR W (wE T Q) c H σ (r.bind fun r s2 => .ok r.toD s2)) : PoF T SR c H r Q (WE W σ) := by
  cases r with
  | bad => exact h
  | exc e s' => exact fun cls dd c' H' y q z => h cls dd c' H' y q z
  | ok r s' =>
    cases r with
    | d x => exact fun v c' H' y q r => h c' H' y q v r
    | L xs => exact fun a vs c' H' y q h1 h2 h3 h4 r => h (c'.put a (.lst vs)) H' (y.freeze h1 h2 h3 h4) (SR.put q h2) (.ref a) (.lst put_at (r.mono (Gx.put h2)))
section
variable {g : Bool} {X : Cx} {W : WX} {k n : Nat} {x : Str} {p pos : Pos} {e : Expr} {es : List Expr} {fs : Env → S → R S (List D)} {sem : List D → S → R S RV}
/-- the number of arguments -/
def nArg (n : Nat) (fs : Env → S → R S (List D)) : Prop := ∀ env s ds s1, fs env s = .ok ds s1 → ds.length = n
theorem nArg_nil : nArg 0 (aNil (S := S)) := fun env s ds s1 h => by
  cases h
  rfl
theorem nArg_cons {n : Nat} {f : Env → S → R S D} {fs : Env → S → R S (List D)} (h : nArg n fs) : nArg (n + 1) (aCons f fs) := fun env s ds s1 q => by
  unfold aCons at q
  cases e : f env s with
  | ok d s2 =>
    rw [e] at q
    cases e2 : fs env s2 with
    | ok ds2 s3 =>
      simp only [R.bind, e2] at q
      cases q
      rw [List.length_cons, h env s2 ds2 _ e2]
    | exc e' s3 =>
      simp only [R.bind, e2] at q
      cases q
    | bad =>
      simp only [R.bind, e2] at q
      cases q
  | exc e' s3 =>
    rw [e] at q
    cases q
  | bad =>
    rw [e] at q
    cases q
theorem Po.runN {α : Type} {n : Nat} {P : α → Cf → Hp → Prop} {f : Env → S → R S (List D)} {k : List D → S → R S α} {c : Cf} {H : Hp} {σ : L2.St} {env : Env} {s : S} {Z : List V → Hp → Prop} (hn : nArg n f) (x : At T SR σ H c env s) (h : Po T SR W P c H σ ((f env s).bind k))
    (hk : ∀ d s1 v c1 H1, d.length = n → Stp c H c1 H1 → At T SR σ H1 c1 env s1 → Reps T c1 d v → Po T SR W P c1 H1 σ (k d s1) → Z v H1) : tA T SR W f σ H Z := by
  refine ⟨c, env, s, x, ?_⟩
  cases e : f env s with
  | ok d s1 =>
    rw [e] at h
    exact fun c' H' y q v r => hk d s1 v c' H' (hn env s d s1 e) y (x.step y q) r (Po.step (P := P) h y fun _ _ _ z => z)
  | exc e' s1 =>
    rw [e] at h
    exact h
  | bad =>
    rw [e] at h
    exact h
theorem de_call (F : Dfn g X.prog X.w X.K X.mg X.base k x (spD T SR n sem)) (hr : Room k X.A) (hG : g = true → X.A.guards = some []) (hg : Gl X x) (tk : Takes X W) (ha : DA T SR W X (e :: es) fs) (hn : nArg n fs) (hdb : (x == ("__debug__" : Str)) = false := by decide)
    (he : starEach (e :: es) X.env = (false, eval e X.env) :: starEach es X.env := by rfl) (hpl : (backTo pos (starEach es X.env)).any (·.1) = false := by rfl) : DE T SR W X (.Call (.Name x p) (e :: es) [] pos) (eCall sem fs) := by
  refine PE.imp (pe_callG F hr hG hg tk ha hdb he hpl) fun σ H Q ⟨c, env, s, x, po⟩ => ?_
  refine Po.runN hn x po fun ds s1 vs c1 H1 hl st1 x1 r1 p1 => ?_
  exact ⟨c1, ds, s1, x1.ok, x1.sr, r1, hl, poF_D p1⟩
end
end
end KB
set_option Elab.async false
set_option linter.all false
set_option maxRecDepth 100000
set_option maxHeartbeats 4000000
/-! K13: own errors whose __init__ says super().__init__('..') and keeps its argument -/
namespace KB
open PySem PySem.W PySem.Calls PyProof.Rows PySem.HandSPX
def xA (par : Str) (p1 p2 : Pos) : Arguments := { posonlyargs := [], args := [⟨"self", none, p1⟩, ⟨par, none, p2⟩], vararg := none, kwonlyargs := [], kw_defaults := [], kwarg := none, defaults := [] }
def xB (par msg : Str) (j : Nat) (p0 p1 p2 p3 p4 p5 q1 q2 q3 q4 : Pos) : List Stmt :=
  [.Expr (.Call (.Attribute (.Call (.Name "super" p0) [] [] p1) "__init__" p2) [.Constant (.str msg) j p3] [] p4) p5, .Assign [.Attribute (.Name "self" q1) par q2] (.Name par q3) q4]
def xS (par : Str) : Scope := ⟨.function, [("self", .local), (par, .local), ("__class__", .free), ("super", .globalImplicit)], false, false, []⟩
/-- how an error's parameters are bound: by intros; rfl -/
def XBind (par : Str) : Prop := ∀ (qual : Str) (b : List Stmt) (doc pm ct cdv x v : Value) (an : Option Addr) (cc : Addr) (a1 a2 : Pos), bindArgs (ksFn "__init__" qual (xA par a1 a2) b (xS par) .none .none doc pm an cdv ct cc) ⟨[x, v], []⟩ = pure [(("self" : Str), x), (par, v)]
structure XPar (par : Str) : Prop where
  bd : XBind par
  ps : (par == ("self" : Str)) = false
  kS : (xS par).names.lookup ("super" : Str) = some .globalImplicit
  kK : (xS par).names.lookup ("__class__" : Str) = some .free
  kV : (xS par).names.lookup par = some .local
  kD : (par == ("__debug__" : Str)) = false
theorem xp_text : XPar "text" := ⟨by unfold XBind; intros; rfl, by decide, rfl, rfl, rfl, by decide⟩
theorem xp_value : XPar "value" := ⟨by unfold XBind; intros; rfl, by decide, rfl, rfl, rfl, by decide⟩
theorem xp_place : XPar "place" := ⟨by unfold XBind; intros; rfl, by decide, rfl, rfl, rfl, by decide⟩
theorem xp_most : XPar "most" := ⟨by unfold XBind; intros; rfl, by decide, rfl, rfl, rfl, by decide⟩
/-- how super().__init__(..) is called: by intro env; exact ⟨_, rfl⟩ -/
def XCall (msg : Str) (j : Nat) (p0 p1 p2 p3 p4 : Pos) : Prop := ∀ env : PySem.Env, ∃ pl : Sem Bool, eval (.Call (.Attribute (.Call (.Name "super" p0) [] [] p1) "__init__" p2) [.Constant (.str msg) j p3] [] p4) env = (do
      let ov ← attributeBase (.Call (.Name "super" p0) [] [] p1) "__init__" env (eval (.Call (.Name "super" p0) [] [] p1) env)
      standAt p2.atName
      let (f, first) ← holding [ov] (getMethod ov "__init__" pl)
      callWith p4 f first (backTo p4 (starEach [.Constant (.str msg) j p3] env)) [])
structure XTxt (P : Program) (K : Frag) (mg : Str → Option Value) (B newId ini : String) (bmB : List Value) (nm par : Str) (C : Addr) : Prop where
  gC : mg nm = some (.ref C)
  q : excInitIn K C bmB newId = true
  ov : excOver K C bmB = true
  sa : findIn K (.ref C) "__setattr__" = some (some (.builtin "object.__setattr__"))
  ga : findIn K (.ref C) "__getattribute__" = some (some (.builtin "BaseException.__getattribute__"))
  gg : findIn K (.ref C) "__getattr__" = some none
  noN : findIn K (.ref C) par = some none
  kC : keepIn K (.ref C) = true
  exC : subIn K (.ref C) (.type "BaseException") = some true
  tyC : typeIn K (.ref C) = some (.type "type")
  hdC : hasDictIn K C = true
  subB : subIn K (.ref C) (.type B) = some true
  sup : ks_superIn K C C "__init__" = some (some (.builtin ini))
  anyC : nsIn K cStatics "thirdparty.any" = some none
  noS : mg "super" = none
  cls : ∃ cd, clsIn K C = some cd ∧ cd.hasDict = true
  own : mroIn K C (.ref C) = some true
  top : (P.main.scope.names.lookup ("super" : Str)).isSome = false
  pr : XPar par
  fn : ∃ (fI cda cc : Addr) (oc ccl cl : Value) (od cdd cld : Option Addr) (doc pm ct : Value) (an : Option Addr) (osl ccs csl : Array (Option Value)) (qual msg file : Str) (j : Nat) (tf : Tok) (vs : Array Value) (a1 a2 p0 p1 p2 p3 p4 p5 q1 q2 q3 q4 : Pos),
    findIn K (.ref C) "__init__" = some (some (.ref fI)) ∧ typeIn K (.ref fI) = some (.type "function") ∧
    K.lookup fI = some ⟨oc, od, .func (ksFn "__init__" qual (xA par a1 a2) (xB par msg j p0 p1 p2 p3 p4 p5 q1 q2 q3 q4) (xS par) .none .none doc pm an (.ref cda) ct cc), osl⟩ ∧ codeIn K (.ref cda) qual = true ∧
    K.lookup cda = some ⟨ccl, cdd, .fields vs, ccs⟩ ∧ vs[2]? = some (.str file tf) ∧ ((P.main.file : Str) == file) = true ∧ K.lookup cc = some ⟨cl, cld, .cell (some (.ref C)), csl⟩ ∧ XCall msg j p0 p1 p2 p3 p4
/-- a made error -/
structure XMade (hp h' : Heap) (x C dx : Addr) (par : Str) (v : Value) : Prop where
  keep : ∀ b o, hp.get? b = some o → h'.get? b = some o
  obj : ∃ t1, h'.get? x = some (excObj C t1 (some dx) .none)
  dbig : hp.objs.size ≤ dx
  dne : dx ≠ x
  ns : h'.Ns1 dx (fun y => if y = par then some v else none)
section
variable {P : Program} {w : World} {A : Around} {E : Value → Shared → Prop} {K : Frag} {mg : Str → Option Value} {B newId ini : String} {bmB : List Value} {nm par : Str} {C : Addr}
open Builtin Builtin.ObjectAttr in
theorem xi_store {hp : Heap} {g : Array GenState} {d : Drawn} {t : Nat} {os : OsState} {R : Result → Shared → Prop} {tk : Tok} {v : Value} {x t1 : Addr} (SF : StoreFacts B bmB "object.__setattr__" "object") (T : XTxt P K mg B newId ini bmB nm par C)
    (X : K.In hp) (hx : hp.get? x = some (excObj C t1 none .none))
    (hq : ∀ h' tk' dx, (∀ b o, b ≠ x → hp.get? b = some o → h'.get? b = some o) → hp.objs.size ≤ dx → dx ≠ x → h'.get? x = some (excObj C t1 (some dx) .none) →
      h'.Ns1 dx (fun y => if y = par then some v else none) → R (.ok (.ret .none)) ⟨h', g, d, tk', os⟩) :
    codeAny (model P w) A (.call (.builtin "object.__setattr__") ⟨[.ref x, .str par tk, v], []⟩) R ⟨hp, g, d, t, os⟩ := by
  have I : InstAt hp x (excObj C t1 none .none) C none := ⟨hx, rfl, rfl, trivial⟩
  have hxs : x ≠ hp.objs.size := Nat.ne_of_lt (Heap.lt_size hx)
  have tkn : takerIn K C par = some none := by
    unfold takerIn
    rw [T.noN]
    rfl
  refine osa_openX (s := ⟨hp, g, d, t, os⟩) SF X I T.ov tkn fun bb => ?_
  obtain ⟨cd, hcd, hh⟩ := T.cls
  have hcls : Looks (model P w) hp (classData C) cd := looks_clsIn X hcd
  obtain ⟨nm', bs, mro, ns, qn, hd, sn, sb, ab, col, del⟩ := cd
  dsimp only at hh
  subst hh
  show wpAny _ _ (storeInOwnDict _ _ _ _ _ _) _ _ _
  unfold storeInOwnDict ownDictForStores
  repeat (first | with_reducible refine HandSPX.store_in_new ?_ ?_ | with_reducible refine wpAny_loadPart_at hx ?_ | with_reducible refine hcls.at ?_ | wp_step)
  · exact ⟨_, #[], _, (Heap.get?_update_ne _ _ _ _ hxs.symm).trans (Heap.get?_push_at rfl rfl), rfl, fun e he => absurd he (by simp), fun _ => rfl⟩
  · intro h' tk' hn' hs
    refine hq h' tk' hp.objs.size (fun b o hb ho => ?_) (Nat.le_refl _) hxs.symm ?_ hn'
    · exact (hs.2 b (Nat.ne_of_lt (Heap.lt_size ho))).trans ((Heap.get?_update_ne _ _ _ _ hb).trans (Heap.get?_push_of_some _ ho))
    · exact (hs.2 x hxs).trans (Heap.get?_update_self _ (Heap.get?_push_of_some _ hx) rfl)
theorem xk_self {par : Str} (h : (par == ("self" : Str)) = false) : (("self" : Str) == par) = false := by
  rw [beq_eq_false_iff_ne] at h ⊢
  exact Ne.symm h
theorem boot_super : bootBuiltins "super" = some (.type "super") := by first | rfl | kernel_rfl
theorem xi_body {fI L cda cc x t0 : Addr} {hp h1 : Heap} {g : Array GenState} {d : Drawn} {tk : Nat} {os : OsState} {Q : Flow → Shared → Prop} {v : Value} {oc ccl cl : Value} {od cdd cld : Option Addr} {doc pm ct : Value} {an : Option Addr} {osl ccs csl : Array (Option Value)} {qual msg file : Str} {j : Nat} {tf : Tok} {vs : Array Value} {a1 a2 p0 p1 p2 p3 p4 p5 q1 q2 q3 q4 : Pos}
    (FB : ExcBaseFacts B newId ini bmB) (KF : KxsFacts B ini) (SF : StoreFacts B bmB "object.__setattr__" "object") (T : XTxt P K mg B newId ini bmB nm par C)
    (i3 : K.lookup fI = some ⟨oc, od, .func (ksFn "__init__" qual (xA par a1 a2) (xB par msg j p0 p1 p2 p3 p4 p5 q1 q2 q3 q4) (xS par) .none .none doc pm an (.ref cda) ct cc), osl⟩)
    (i5 : K.lookup cda = some ⟨ccl, cdd, .fields vs, ccs⟩) (i6 : vs[2]? = some (.str file tf)) (i7 : ((P.main.file : Str) == file) = true) (i8 : K.lookup cc = some ⟨cl, cld, .cell (some (.ref C)), csl⟩) (i9 : XCall msg j p0 p1 p2 p3 p4)
    (X0 : K.In hp) (md : L2.Mod K mg h1) {m : Str → Option Value} (F1 : Fr hp L h1 m) (N1 : News hp L h1 [(x, excObj C t0 none .none)]) (ms : m ("self" : Str) = some (.ref x)) (mp : m par = some v) (hz : hp.objs.size ≤ x)
    (hq : ∀ h' tk dx, XMade hp h' x C dx par v → Q .next ⟨h', g, d, tk, os⟩) :
    PySem.wpAt (model P w) A (.func (xB par msg j p0 p1 p2 p3 p4 p5 q1 q2 q3 q4) (ksEnv qual (xS par) L fI (.ref cda) cc)) (execs (xB par msg j p0 p1 p2 p3 p4 p5 q1 q2 q3 q4) (ksEnv qual (xS par) L fI (.ref cda) cc)) Q E ⟨h1, g, d, tk, os⟩ := by
  obtain ⟨cd, hcd, hhd⟩ := T.cls
  have X1 := md.kin
  have hx1 := (N1 _ List.mem_cons_self).1
  obtain ⟨oD, hD1, hD2⟩ : ∃ oD, h1.get? C = some oD ∧ oD.data = .cls cd := by
    unfold clsIn at hcd
    split at hcd
    · rename_i c d cd' sl ho
      cases hcd
      exact ⟨_, X1 _ _ ho, rfl⟩
    · cases hcd
  have I : InstAt h1 x (excObj C t0 none .none) C none := ⟨hx1, rfl, rfl, trivial⟩
  obtain ⟨pl, he⟩ := i9 (ksEnv qual (xS par) L fI (.ref cda) cc)
  refine ks_wpAt_execs_cons (ks_wpAt_Expr_any (ks_wpAt_MethodCall (pl := pl) ?_ he))
  refine ks_wpAt_super_base (env := ksEnv qual (xS par) L fI (.ref cda) cc) T.pr.kS T.pr.kK rfl rfl (X1 _ _ i3) rfl rfl rfl (X1 _ _ i5) rfl i6 i7 T.top ?_
  obtain ⟨mb, hb1, hb2⟩ := md.blt
  refine ks_loadName_global rfl T.pr.kS (loadGlobal_builtin (env := ksEnv qual (xS par) L fI (.ref cda) cc) md.glob T.noS hb1 ((hb2 _ (by decide +kernel)).trans boot_super) ⟨rfl, ?_⟩)
  refine wpAny_loadName_free rfl T.pr.kK rfl ⟨_, X1 _ _ i8, rfl⟩ ?_
  refine wpAny_loadName_local rfl (by rfl) F1.ns ms ?_
  refine ks_wpAny_isType_cls hD1 hD2 ⟨rfl, ?_⟩
  refine ks_wpAny_call_super hD1 hD2 I.at_ I.cls (fun c e => nomatch e) (looks_mroIn X1 T.own) (fun h2 e k => ?_)
  obtain ⟨F2, N2, l2⟩ := ks_newsPush (s := ⟨h1, g, d, tk, os⟩) F1 N1 rfl e k
  have I2 : InstAt h2 x (excObj C t0 none .none) C none := ⟨(N2 _ (List.mem_cons_of_mem _ List.mem_cons_self)).1, rfl, rfl, trivial⟩
  refine kxs_method (s := ⟨h2, g, d, tk, os⟩) KF F2 X0 N2 List.mem_cons_self I2 T.anyC T.sup T.subB rfl (fun u h3 F3 N3 l3 => ?_)
  have I3 : InstAt h3 x (excObj C t0 none .none) C none := ⟨(N3 _ (List.mem_cons_of_mem _ (List.mem_cons_of_mem _ List.mem_cons_self))).1, rfl, rfl, trivial⟩
  refine kxs_callWith1 N3 List.mem_cons_self ?_
  show wpAny _ _ (spliced ((false, eval (.Constant (.str msg) j p3) (ksEnv qual (xS par) L fI (.ref cda) cc)) :: backTo p4 (starEach [] (ksEnv qual (xS par) L fI (.ref cda) cc)))) _ _ _
  refine Calls.spliced_cons (Calls.Constant_str (pos := p3) ?_)
  refine Calls.spliced_nil ⟨(N3 _ List.mem_cons_self).1, ?_⟩
  have l21 : x < h1.objs.size := l2 _ List.mem_cons_self
  have l31 : h1.objs.size < u := l3 _ List.mem_cons_self
  have U : UpdF x (excObj C t0 none .none) [(u, kxs_mw ini x), (h1.objs.size, ks_superObj C x C), (x, excObj C t0 none .none)] (fun o' => [(u, kxs_mw ini x), (h1.objs.size, ks_superObj C x C), (x, o')]) :=
    .tail (Nat.ne_of_gt (Nat.lt_trans l21 l31)) (.tail (Nat.ne_of_gt l21) (.head fun p hp' => nomatch hp'))
  refine kxs_call F3 X0 N3 FB T.q List.mem_cons_self U (by rw [sizeLine_eq]; exact Nat.le_of_ble_eq_true rfl) (fun t' h4 F4 N4 l4 => ?_)
  have hx4 : h4.get? x = some (excObj C t' none .none) := (N4 _ (List.mem_cons_of_mem _ (List.mem_cons_of_mem _ (List.mem_cons_of_mem _ List.mem_cons_self)))).1
  have X4 : K.In h4 := X0.keeps F4.keep
  show PySem.wpAt _ _ _ (execs [.Assign [.Attribute (.Name "self" q1) par q2] (.Name par q3) q4] _) _ _ _
  refine wpAt_of_wpAny (wpAny_execs_cons (plainObj_wpAny_Assign_Attribute ?_))
  refine wpAny_Name (wpAny_loadName_local rfl T.pr.kV F4.ns mp ?_) T.pr.kD
  refine wpAny_Name (wpAny_loadName_local rfl (by rfl) F4.ns ms ?_) (by decide)
  refine set_plain X4 (ox := excObj C t' none .none) (od := none) ⟨hx4, rfl, rfl, trivial⟩ T.sa ?_
  refine xi_store SF T X4 hx4 (fun h5 tk5 dx k5 dn dne hx5 hn5 => ?_)
  refine wpAny_execs_nil (hq h5 tk5 dx ⟨fun b o e => k5 b o (fun z => ?_) (F4.keep b o e), ⟨t', hx5⟩, Nat.le_trans (Nat.le_trans F4.above (Nat.le_of_lt F4.ns.lt)) dn, dne, hn5⟩)
  have nx := (N4 _ (List.mem_cons_of_mem _ (List.mem_cons_of_mem _ (List.mem_cons_of_mem _ List.mem_cons_self)))).2.2
  rw [z] at e
  have nx' : hp.get? x = none := nx
  rw [nx'] at e
  cases e
theorem xi_init {fI : Addr} {s : Shared} {hp : Heap} {R : Result → Shared → Prop} {x t0 : Addr} {v : Value} (FB : ExcBaseFacts B newId ini bmB) (KF : KxsFacts B ini) (SF : StoreFacts B bmB "object.__setattr__" "object") (T : XTxt P K mg B newId ini bmB nm par C) (hi : findIn K (.ref C) "__init__" = some (some (.ref fI)))
    (md : L2.Mod K mg hp) (k : ∀ b o, hp.get? b = some o → s.heap.get? b = some o) (hx : s.heap.get? x = some (excObj C t0 none .none)) (hn : hp.get? x = none) (hz : hp.objs.size ≤ x) (room : A.depth < recursionLimit)
    (hq : ∀ h' tk dx, XMade hp h' x C dx par v → R (.ok (.ret .none)) { s with heap := h', toks := tk }) : codeAny (model P w) A (.call (.ref fI) ⟨[.ref x, v], []⟩) R s := by
  obtain ⟨fI', cda, cc, oc, ccl, cl, od, cdd, cld, doc, pm, ct, an, osl, ccs, csl, qual, msg, file, j, tf, vs, a1, a2, p0, p1, p2, p3, p4, p5, q1, q2, q3, q4, i1, i2, i3, i4, i5, i6, i7, i8, i9⟩ := T.fn
  have ef : fI = fI' := by
    rw [i1] at hi
    exact (Value.ref.inj (Option.some.inj (Option.some.inj hi))).symm
  subst ef
  have XK : K.In s.heap := md.kin.keeps k
  have sf := xk_self T.pr.ps
  have hL := T.pr.kV
  refine ks_codeAny_call_defAt (fd := ksFn "__init__" qual (xA par a1 a2) (xB par msg j p0 p1 p2 p3 p4 p5 q1 q2 q3 q4) (xS par) .none .none doc pm an (.ref cda) ct cc) (binds := [("self", .ref x), (par, v)]) room (XK _ _ i3) rfl
    (md.nolimit.keeps k) (codeRec_of XK i4) rfl (.of_eq (T.pr.bd _ _ _ _ _ _ _ _ _ _ _ _)) (fun y hy => ?_) (fun y hy => ?_) (fun h1 hns k1 => ?_)
  · have hy' : y ∈ (xS par).names := hy
    simp only [xS, List.mem_cons, List.not_mem_nil, or_false] at hy'
    rcases hy' with rfl | rfl | rfl | rfl <;> exact fun z => nomatch z
  · simp only [List.mem_cons, List.not_mem_nil, or_false] at hy
    rcases hy with rfl | rfl
    · rfl
    · exact hL
  obtain ⟨hh, g, d, tk, os⟩ := s
  show PySem.wpAt _ _ _ (execs (xB par msg j p0 p1 p2 p3 p4 p5 q1 q2 q3 q4) (ksEnv qual (xS par) hh.objs.size fI (.ref cda) cc)) _ _ _
  have k2 : ∀ b o, hp.get? b = some o → h1.get? b = some o := fun b o e => k1 b o (k b o e)
  have md1 : L2.Mod K mg h1 := ⟨md.kin.keeps k2, md.glob.keeps k2, md.blt.imp fun mb z => ⟨z.1.keeps k2, z.2⟩, md.nolimit.keeps k2⟩
  have hx1 := k1 _ _ hx
  have hszL : hp.objs.size ≤ hh.objs.size := Nat.le_trans hz (Nat.le_of_lt (Heap.lt_size hx))
  have hxL : x ≠ hh.objs.size := Nat.ne_of_lt (Heap.lt_size hx)
  have F1 : Fr hp hh.objs.size h1 (fun y => [(("self" : Str), Value.ref x), (par, v)].reverse.lookup y) := ⟨hns, k2, hszL⟩
  have N1 : News hp hh.objs.size h1 [(x, excObj C t0 none .none)] := fun p hp' => by
    simp only [List.mem_cons, List.not_mem_nil, or_false] at hp'
    subst hp'
    exact ⟨hx1, hxL, hn⟩
  have ms : (fun y => [(("self" : Str), Value.ref x), (par, v)].reverse.lookup y) ("self" : Str) = some (.ref x) := by
    show List.lookup ("self" : Str) [(par, v), (("self" : Str), Value.ref x)] = _
    rw [List.lookup_cons, sf]
    rfl
  have mp : (fun y => [(("self" : Str), Value.ref x), (par, v)].reverse.lookup y) par = some v := by
    show List.lookup par [(par, v), (("self" : Str), Value.ref x)] = _
    simp [List.lookup_cons]
  have n2 : ∀ h' tk' dx, XMade hp h' x C dx par v → (fun (f : Flow) s' => R (Except.ok (Flow.ret (match f with
    | Flow.ret v => v
    | _ => Value.none))) s') .next (⟨h', g, d, tk', os⟩ : Shared) := fun h' tk' dx z => hq h' tk' dx z
  exact xi_body FB KF SF T i3 i5 i6 i7 i8 i9 md.kin md1 F1 N1 ms mp hz n2
end
end KB
set_option Elab.async false
set_option linter.all false
set_option maxRecDepth 100000
set_option maxHeartbeats 4000000
/-! K14: raise C(v); try: .. except C: .. -/
namespace KB
section
open PySem PySem.W PySem.Calls PyProof.Rows PySem.HandSPX
variable {P : Program} {w : World} {A : Around} {E : Value → Shared → Prop} {K : Frag} {mg : Str → Option Value} {B newId ini : String} {bmB : List Value} {nm par : Str} {C : Addr}
theorem x_made {s : Shared} {R : Result → Shared → Prop} {v : Value} (FB : ExcBaseFacts B newId ini bmB) (KF : KxsFacts B ini) (SF : StoreFacts B bmB "object.__setattr__" "object") (T : XTxt P K mg B newId ini bmB nm par C)
    (md : L2.Mod K mg s.heap) (room : A.depth + 1 < recursionLimit)
    (hq : ∀ h' tk e dx, s.heap.objs.size ≤ e → XMade s.heap h' e C dx par v → R (.ok (.ret (.ref e))) { s with heap := h', toks := tk }) : codeAny (model P w) A (.call (.ref C) ⟨[v], []⟩) R s := by
  obtain ⟨hp, g, d, tk, os⟩ := s
  obtain ⟨nm', N', qn, bs, bm, hdct, sn, sub, ab, col, dd, k0, k1, k2, k3, k5, hC, hT⟩ := excInit_of md.kin T.q
  have T' := T
  obtain ⟨fI, cda, cc, oc, ccl, cl, od, cdd, cld, doc, pm, ct, an, osl, ccs, csl, qual, msg, file, j, tf, vs, a1, a2, p0, p1, p2, p3, p4, p5, q1, q2, q3, q4, i1, i2, _⟩ := T'.fn
  have old : ∀ b o, hp.get? b = some o → ((hp.push (kdv_tup [v])).push (excO C hp.objs.size)).get? b = some o := fun b o e => Heap.get?_push_of_some _ (Heap.get?_push_of_some _ e)
  have here : ((hp.push (kdv_tup [v])).push (excO C hp.objs.size)).get? (hp.objs.size + 1) = some (excObj C hp.objs.size none .none) := by heap_get
  have nx : hp.get? (hp.objs.size + 1) = none := by
    cases e : hp.get? (hp.objs.size + 1) with
    | none => rfl
    | some o => exact absurd (Nat.lt_of_succ_lt (Heap.lt_size e)) (Nat.lt_irrefl _)
  refine call_own FB hT hC (looks_findIn md.kin i1) (fun self => bind_fn md.kin self i2) (by rw [sizeLine_eq]; exact Nat.le_of_ble_eq_true rfl) ?_
  refine xi_init (s := ⟨(hp.push (kdv_tup [v])).push (excO C hp.objs.size), g, d, tk, os⟩) (hp := hp) FB KF SF T i1 md old here nx (Nat.le_succ _) ?_ fun h' tk' dx M => ?_
  · show A.depth + 1 < recursionLimit
    exact room
  · exact ⟨rfl, hq h' tk' _ dx (Nat.le_succ _) M⟩
end
section
open PySem PySem.Spec PyProof.Rows L2
theorem relO_x {par : Str} {v : V} {v' : Value} (r : RelV v v') (f : Str) : RelO (List.lookup f [(par, v)]) (if f = par then some v' else none) := by
  by_cases hw : f = par
  · subst hw
    rw [if_pos rfl, show List.lookup f [(f, v)] = some v by simp [List.lookup]]
    exact r
  · rw [if_neg hw, show List.lookup f [(par, v)] = none by
      have qw : (f == par) = false := by simpa using hw
      simp [List.lookup, qw]]
    trivial
variable {X : Cx} {B newId ini : String} {bmB : List Value} {nm par : Str} {C : Addr} {W : WX} {p pos pos2 : Pos} {a : Expr}
/-- C(e) -/
def tMkX (C : Addr) (par : Str) (ta : TA) : L2.St → Hp → XK → Prop := fun σ H Q => ta σ H fun vs H1 => ∃ v, vs = [v] ∧ ∀ d, H1 d = none → Q (.ref C) (some d) (upd H1 d (.xd [(par, v)]))
theorem pmk_x {ta : TA} {k : Nat} (FB : ExcBaseFacts B newId ini bmB) (KF : PySem.W.KxsFacts B ini) (SF : StoreFacts B bmB "object.__setattr__" "object") (T : XTxt X.prog X.K X.mg B newId ini bmB nm par C) (hr : Room k X.A) (hg : Gl X nm) (ha : PA X [a] ta)
    (hdb : (nm == ("__debug__" : Str)) = false := by decide) (he : starEach [a] X.env = (false, eval a X.env) :: starEach [] X.env := by rfl) (hpl : (backTo pos (starEach [] X.env)).any (·.1) = false := by rfl) : PMk X (.Call (.Name nm p) [a] [] pos) (tMkX C par ta) := by
  intro pins s σ H Q I h
  refine wpAny_Call_Name_kw (ld_glob I hg T.gC (PySem.W.callWith_K (h₀ := X.base) I.ok.mod.kin T.kC (thn (ha.run pos pins s σ H _ I h) ?_) he hpl) hdb)
  rintro us s1 ⟨vs, H1, I1, r1, v, rfl, q1⟩
  refine ⟨I1.kIn, ?_⟩
  obtain ⟨v', rfl, rv⟩ := vals1 r1
  have md : L2.Mod X.K X.mg s1.heap := ⟨I1.kIn, I1.mod.glob.keeps I1.bk, I1.mod.blt.imp fun mb z => ⟨z.1.keeps I1.bk, z.2⟩, I1.nolimit⟩
  show wpAny _ _ (call (.ref C) [v']) _ _ _
  obtain ⟨hp, g, dr, tk, os⟩ := s1
  refine wpAny_call (x_made FB KF SF T md (by have := hr.dp; omega) fun h' tk' e d ne M => ?_)
  obtain ⟨t1, hoe⟩ := M.obj
  obtain ⟨G', g1, g2⟩ := restrict h' fun b => decide (b ≠ e)
  have gk : ∀ b, b ≠ e → G'.get? b = h'.get? b := fun b hb => g1 b (decide_eq_true hb)
  have ge : G'.get? e = none := g2 e (by simp)
  have old : ∀ b o, hp.get? b = some o → G'.get? b = some o := fun b o q => (gk b (Nat.ne_of_lt (Nat.lt_of_lt_of_le (Heap.lt_size q) ne))).trans (M.keep b o q)
  have ob : ObjOk X.prog X.w (upd H1 d (.xd [(par, v)])) G' d (.xd [(par, v)]) := ⟨_, M.ns.at (fun o q => (gk d M.dne).trans q), relO_x rv⟩
  have J : Inv X pins σ (upd H1 d (.xd [(par, v)])) ⟨G', g, dr, tk', os⟩ := I1.laid (t' := tk') old M.dbig ob
  refine ⟨e, _, _, ⟨G', g, dr, tk', os⟩, _, .ref C, some d, rfl, J, fun b o q => ?_, ge, hoe, ⟨rfl, rfl⟩, rfl, rfl, ?_, rfl, I1.bare, raises_own T.exC T.tyC, q1 d (I1.hok.fresh M.dbig)⟩
  · by_cases hb : b = e
    · have q' : G'.get? b = some o := q
      rw [hb, ge] at q'
      cases q'
    · exact (gk b hb).symm.trans q
  · rw [upd_ne (Ne.symm M.dne)]
    exact I1.hok.fresh ne
end
section
open PySem PySem.Spec PyProof.Rows L2
variable {T : Ctx} {S : Type} {SR : SRel S} {W : WX} {X : Cx} {B newId ini : String} {bmB : List Value} {nm par : Str} {p pos pos2 : Pos} {a : Expr} {f : KB.Env → S → R S D}
def sRaise (nm par : Str) (f : KB.Env → S → R S D) : KB.Env → S → RS S := fun env s => (f env s).toS env fun d s1 => .exc ⟨nm, par, d⟩ env s1
theorem ds_raise {k : Nat} (FB : ExcBaseFacts B newId ini bmB) (KF : PySem.W.KxsFacts B ini) (SF : StoreFacts B bmB "object.__setattr__" "object") (TX : XTxt X.prog X.K X.mg B newId ini bmB nm par (T.cl nm)) (hr : Room k X.A) (hc : X.calm = true) (tk : Takes X W) (hg : Gl X nm) (ha : DE T SR W X a f)
    (hdb : (nm == ("__debug__" : Str)) = false := by decide) (he : starEach [a] X.env = (false, eval a X.env) :: starEach [] X.env := by rfl) (hpl : (backTo pos (starEach [] X.env)).any (·.1) = false := by rfl) : DS T SR W X (.Raise (some (.Call (.Name nm p) [a] [] pos)) none pos2) (sRaise nm par f) := by
  refine PS.imp (ps_raise hc tk (pmk_x FB KF SF TX hr hg (pa_cons ha pa_nil he) hdb he hpl)) fun Dn σ H ⟨c0, H0, c, env, s, x, po⟩ => ?_
  refine PoS.run x po fun d s1 v c1 H1 y x1 r1 p1 => ?_
  refine ⟨v, rfl, fun da hd => ?_⟩
  have x2 : AtS T SR c0 H0 σ (upd H1 da (.xd [(par, v)])) c1 env s1 := x1.step (Stp.new x1.st.ok hd) x1.sr
  exact p1 _ _ _ _ _ (Gx.refl _) x2 ⟨rfl, da, v, rfl, upd_same, free_of x1.st.ok.fh hd, r1⟩
def RS.noX (r : RS S) : RS S := match r with
  | .exc _ _ _ => .bad
  | r => r
def sTry (cs : List Str) (c : Str) (g h : KB.Env → S → RS S) : KB.Env → S → RS S := fun env s => match g env s with
  | .exc e env' s' => if e.c = c then (h env' s').noX else if e.c ∈ cs then .exc e env' s' else .bad
  | r => r
theorem PoS.noX {c0 c : Cf} {H0 : Hp} {r : RS S} {D : Ends} (h : PoS T SR W c0 H0 c r.noX D) : PoS T SR WX0 c0 H0 c r D := by
  cases r with
  | exc e env' s' => exact h.elim
  | nx env' s' => exact h
  | bk env' s' => exact h
  | ct env' s' => exact h
  | rt r s' => exact h
  | bad => exact h
/-- try: .. except C: .. -/
theorem ds_try {cn : Str} {cs : List Str} {b₀ : Stmt} {body suite : List Stmt} {np pos' : Pos} {g h : KB.Env → S → RS S} (hs : X.stack = X.env :: X.outer) (hf : X.env.frame = some X.env.locals) (hc : Names X cn (.ref (T.cl cn))) (tk : Takes X W)
    (hx : ∀ n ∈ cn :: cs, PySem.W.exmOne X.K (.ref (T.cl n)) (.ref (T.cl cn)) = some (decide (n = cn)))
    (hb : ∀ (W : WX) (pn : List (Addr × Obj)) (xe : Value → Shared → Prop), Takes (X.tr pn xe) W → PassesOwn (model X.prog X.w) X.A X.env xe → DB T SR W (X.tr pn xe) body g)
    (hsu : ∀ (a : Addr) (pn : List (Addr × Obj)), DB T SR WX0 (X.suite a pn) (b₀ :: suite) h) : DS T SR W X (.Try body [.ExceptHandler (some (.Name cn np)) none (b₀ :: suite) pos'] [] [] pos) (sTry cs cn g h) := by
  refine PS.imp (ps_try_only (tb := fun W => tS T SR W g) (ts := fun _ _ _ => tS T SR WX0 h) hs hf hc tk hb fun a oe cls d pn _ _ => hsu a _) fun Dn σ H ⟨c0, H0, c, env, s, x, po⟩ => ⟨c0, H0, c, env, s, x, ?_⟩
  unfold sTry at po
  cases q : g env s with
  | nx env' s' =>
    rw [q] at po
    exact po
  | rt r s' =>
    rw [q] at po
    exact po
  | bk env' s' =>
    rw [q] at po
    exact po
  | ct env' s' =>
    rw [q] at po
    exact po
  | bad =>
    rw [q] at po
    exact po
  | exc e env' s' =>
    rw [q] at po
    intro cls dd σ' c' H' gx x' rx
    obtain ⟨rfl, da, v, rfl, hda, hdf, rv⟩ := rx
    by_cases hh : e.c = cn
    · refine ⟨true, ?_, fun _ a ha => ?_, fun z => nomatch z⟩
      · rw [hx e.c (by rw [hh]; exact List.mem_cons_self), decide_eq_true hh]
      · simp only [if_pos hh] at po
        exact ⟨c0, H0, c', env', s', x', PoS.step (PoS.noX po) gx⟩
    · simp only [if_neg hh] at po
      by_cases hm : e.c ∈ cs
      · refine ⟨false, ?_, (fun z => nomatch z), fun _ => ?_⟩
        · rw [hx e.c (List.mem_cons_of_mem _ hm), decide_eq_false hh]
        · simp only [if_pos hm] at po
          exact po _ _ _ _ _ gx x' ⟨rfl, da, v, rfl, hda, hdf, rv⟩
      · simp only [if_neg hm] at po
        exact po.elim
end
end KB
set_option Elab.async false
set_option linter.all false
set_option maxRecDepth 100000
set_option maxHeartbeats 4000000
/-! K15: the script's state: {'cells': .., 'left': .., 'at': ..}, the first handle -/
namespace KB
open PySem L2
theorem bt_int : bootBuiltins "int" = some (.type "int") := by decide +kernel
theorem bt_len : bootBuiltins "len" = some (.builtin "len") := by decide +kernel
structure LS where
  cells : List Int
  left : List Int
  pl : Int
def kvL (p q : Addr) (n : Int) : List (Key × V) := [(.inr "cells", .ref p), (.inr "left", .ref q), (.inr "at", .int n)]
/-- the tables of code objects, each with the name of its lambdas: they belong to the state -/
def TabC (ts : Addr → Option Str) (F : Hp) : Prop := ∀ P q, ts P = some q → LamX.TabS F P q
theorem tabC_upd {ts : Addr → Option Str} {F : Hp} {a : Addr} {o : HO} (h : TabC ts F) (h1 : ∀ ps, F a ≠ some (.tbl ps)) (h2 : ∀ q, F a ≠ some (LamX.CodeO a q)) : TabC ts (upd F a o) := fun P q e => by
  obtain ⟨ps, e1, e2, e3⟩ := h P q e
  refine ⟨ps, ?_, e2, fun pos cv hc => ?_⟩
  · rw [upd_ne fun z => by subst z; exact h1 ps e1]
    exact e1
  · obtain ⟨c, z1, z2⟩ := e3 pos cv hc
    exact ⟨c, z1, by
      rw [upd_ne fun z => by subst z; exact h2 _ z2]
      exact z2⟩
theorem tabC_none {F : Hp} : TabC (fun _ => none) F := fun _ _ e => nomatch e
/-- none: nothing is begun yet -/
def srlR (ts : Addr → Option Str) : Option LS → (Nat → Option Addr) → Hp → Prop
  | none, m, F => m 0 = none ∧ TabC ts F
  | some st, m, F => ∃ a p q, m 0 = some a ∧ F a = some (.dK (kvL p q st.pl)) ∧ F p = some (.lst (st.cells.map V.int)) ∧ F q = some (.lst (st.left.map V.int)) ∧ p ≠ q ∧ TabC ts F
def SRL (ts : Addr → Option Str) : SRel (Option LS) where
  rel s c := srlR ts s c.m c.F
  mono {s c c'} h g hf hm := by rw [hf, hm]; exact h
  del h _ := h
theorem srlR_tab {ts : Addr → Option Str} {s : Option LS} {m : Nat → Option Addr} {F : Hp} (h : srlR ts s m F) : TabC ts F := by
  cases s with
  | none => exact h.2
  | some st =>
    obtain ⟨a, p, q, _, _, _, _, _, h⟩ := h
    exact h
theorem kvL_c {p q : Addr} {n : Int} : valV (kvL p q n) (.inr "cells") = some (.ref p) := by rfl
theorem kvL_l {p q : Addr} {n : Int} : valV (kvL p q n) (.inr "left") = some (.ref q) := by rfl
theorem kvL_a {p q : Addr} {n : Int} : valV (kvL p q n) (.inr "at") = some (.int n) := by rfl
theorem kvL_pl {p q q' : Addr} {n : Int} : putK (kvL p q n) (.inr "left") (.ref q') = kvL p q' n := by rfl
theorem kvL_pa {p q : Addr} {n m : Int} : putK (kvL p q n) (.inr "at") (.int m) = kvL p q m := by rfl
theorem dg_c {H : Hp} {a p q : Addr} {n : Int} (h : H a = some (.dK (kvL p q n))) : DGet H a (.str "cells") (some (.ref p)) := kvL_c ▸ DGet.k (k := .inr "cells") h
theorem dg_l {H : Hp} {a p q : Addr} {n : Int} (h : H a = some (.dK (kvL p q n))) : DGet H a (.str "left") (some (.ref q)) := kvL_l ▸ DGet.k (k := .inr "left") h
theorem dg_a {H : Hp} {a p q : Addr} {n : Int} (h : H a = some (.dK (kvL p q n))) : DGet H a (.str "at") (some (.int n)) := kvL_a ▸ DGet.k (k := .inr "at") h
section
variable {T : Ctx} {ts : Addr → Option Str} {W : WX} {X : Cx} {σ : St} {H : Hp} {c : Cf} {env : Env} {s : Option LS}
variable {pos : Pos} {i : Nat} {x : Str} {p0 p1 p2 p3 p4 p5 p6 : Pos} {j j2 : Nat}
theorem dp_ints {K : PySem.W.Frag} : ∀ {ns : List Int}, DpAll K H (ns.map V.int) (ns.map PyData.int)
  | [] => .nil
  | n :: ns => .cons (.int n) dp_ints
theorem eqv_emp : ∀ ns : List Int, PyData.eqv (.list (ns.map PyData.int)) (.list []) = ns.isEmpty
  | [] => by rfl
  | n :: ns => by rfl
theorem shp_ints : ∀ ns : List Int, SeqAt.shaped (.list (ns.map PyData.int)) = true := by
  intro ns
  have h : ∀ ns : List Int, PyData.canLayAll0 (ns.map PyData.int) = true ∧ PyData.depthAll (ns.map PyData.int) = 0 := by
    intro ns
    induction ns with
    | nil => exact ⟨by rfl, by rfl⟩
    | cons n ns ih =>
      refine ⟨?_, ?_⟩
      · rw [List.map_cons, PyData.canLayAll0, PyData.canLay0, ih.1]
        rfl
      · rw [List.map_cons, PyData.depthAll, PyData.depth, ih.2]
        rfl
  unfold SeqAt.shaped
  rw [PyData.canLay0, (h ns).1, PyData.depth, (h ns).2]
  rfl
/-! ### the state is changed -/
theorem putF_step {c : Cf} {H : Hp} (ok : CfOk c H) {a : Addr} {o o' : HO} (h : c.F a = some o) : Stp c H ⟨c.G, c.m, upd c.F a o'⟩ (upd H a o') where
  ok := {
    gh := fun b u e => by
      rw [upd_ne fun z => by
        subst z
        have e' : c.G b = some u := e
        rw [ok.dj b u e'] at h
        cases h]
      exact ok.gh b u e
    fh := fun b u e => by
      by_cases z : b = a
      · subst z
        have e' : upd c.F b o' b = some u := e
        rw [upd_same] at e' ⊢
        exact e'
      · have e' : upd c.F a o' b = some u := e
        rw [upd_ne z] at e' ⊢
        exact ok.fh b u e'
    dj := fun b u e => by
      have e' : c.G b = some u := e
      show upd c.F a o' b = none
      rw [upd_ne fun z => by
        subst z
        rw [ok.dj b u e'] at h
        cases h]
      exact ok.dj b u e' }
  gx := ⟨Same.refl _, fun _ _ z => z⟩
  keep := fun b u e f => by
    rw [upd_ne fun z => by
      subst z
      rw [f] at h
      cases h]
    exact e
  dom := fun b u e => by
    by_cases z : b = a
    · subst z
      exact ⟨_, upd_same⟩
    · exact ⟨u, by rw [upd_ne z]; exact e⟩
  gn := fun b u e => .inl e
  fn := fun b u e => by
    by_cases z : b = a
    · subst z
      exact .inl ⟨o, h⟩
    · have e' : upd c.F a o' b = some u := e
      rw [upd_ne z] at e'
      exact .inl ⟨u, e'⟩
/-- a new thing that is the state's -/
theorem newF_step {c : Cf} {H : Hp} (ok : CfOk c H) {a : Addr} {o : HO} (h : H a = none) : Stp c H ⟨c.G, c.m, upd c.F a o⟩ (upd H a o) where
  ok := {
    gh := fun b u e => by
      rw [upd_ne (ne_of_none (ok.gh b u e) h)]
      exact ok.gh b u e
    fh := fun b u e => by
      by_cases z : b = a
      · subst z
        have e' : upd c.F b o b = some u := e
        rw [upd_same] at e' ⊢
        exact e'
      · have e' : upd c.F a o b = some u := e
        rw [upd_ne z] at e' ⊢
        exact ok.fh b u e'
    dj := fun b u e => by
      have e' : c.G b = some u := e
      show upd c.F a o b = none
      rw [upd_ne (ne_of_none (ok.gh b u e') h)]
      exact ok.dj b u e' }
  gx := ⟨Same.refl _, fun _ _ z => z⟩
  keep := fun b u e f => by
    rw [upd_ne (ne_of_none e h)]
    exact e
  dom := fun b u e => ⟨u, by
    rw [upd_ne (ne_of_none e h)]
    exact e⟩
  gn := fun b u e => .inl e
  fn := fun b u e => by
    by_cases z : b = a
    · subst z
      exact .inr h
    · have e' : upd c.F a o b = some u := e
      rw [upd_ne z] at e'
      exact .inl ⟨u, e'⟩
theorem own_of {c : Cf} {H : Hp} (ok : CfOk c H) {a : Addr} {o : HO} (h : H a = none) : c.F a = none := free_of ok.fh h
end
section
variable {T : Ctx} {ts : Addr → Option Str} {W : WX} {X : Cx} {pos : Pos} {i : Nat} {x : Str} {p0 p1 p2 p3 p4 p5 p6 q0 q1 q2 q3 : Pos} {j j2 j3 : Nat}
theorem cut1 {ns : List Int} : cutV (ns.map V.int) (some 1) none = ns.tail.map V.int := by
  cases ns with
  | nil => rfl
  | cons n ns =>
    unfold cutV
    simp [HT.sIx]
    exact List.take_of_length_le (by simp)
end
end KB
set_option Elab.async false
set_option linter.all false
set_option maxRecDepth 100000
set_option maxHeartbeats 4000000
/-! K16: the script's state is made -/
namespace KB
open PySem L2
theorem bt_list : bootBuiltins "list" = some (.type "list") := by decide +kernel
def intsD : List D → Option (List Int)
  | [] => some []
  | .int i :: ds => (intsD ds).map (i :: ·)
  | _ :: _ => none
theorem intsD_rep {T : Ctx} {c : Cf} : ∀ {ds : List D} {vs : List V} {ns : List Int}, Reps T c ds vs → intsD ds = some ns → vs = ns.map V.int
  | _, _, _, .nil, e => by
    cases e
    rfl
  | _, _, ns, .cons (d := d) r rs, e => by
    cases d <;> try (cases e; done)
    rename_i i
    cases r
    have e' : (intsD _).map (i :: ·) = some ns := e
    cases q : intsD _ with
    | none =>
      rw [q] at e'
      cases e'
    | some ms =>
      rw [q] at e'
      cases e'
      rw [intsD_rep rs q]
      rfl
theorem merge_kvL {p q : Addr} {n : Int} : mergeK [] (kvL p q n) = kvL p q n := by rfl
end KB
set_option Elab.async false
set_option linter.all false
set_option maxRecDepth 100000
set_option maxHeartbeats 4000000
/-! K17: a, b = e1, e2: shared data and things of this frame's own -/
namespace KB
open PySem L2
/-- new things of nobody's (younger than H0), and data -/
inductive SlsOk (T : Ctx) (c : Cf) (H : Hp) : Hp → List Sl → List V → Prop
  | nil {H0 : Hp} : SlsOk T c H H0 [] []
  | d {H0 : Hp} {x : D} {v : V} {sls : List Sl} {vs : List V} : Rep T c x v → SlsOk T c H H0 sls vs → SlsOk T c H H0 (.d x :: sls) (v :: vs)
  | o {H0 H1 : Hp} {sl : Sl} {a : Addr} {o o1 : HO} {sls : List Sl} {vs : List V} : H a = some o → c.G a = none → c.F a = none → H0 a = none → SlAt T c a o sl → H1 a = some o1 → (∀ b, H1 b = none → H0 b = none) → SlsOk T c H H1 sls vs → SlsOk T c H H0 (sl :: sls) (.ref a :: vs)
theorem SlsOk.weak {T : Ctx} {c : Cf} {H : Hp} : ∀ {H1 : Hp} {sls : List Sl} {vs : List V}, SlsOk T c H H1 sls vs → ∀ {H0 : Hp}, (∀ b, H1 b = none → H0 b = none) → SlsOk T c H H0 sls vs
  | _, _, _, .nil, _, _ => .nil
  | _, _, _, .d r t, _, k => .d r (t.weak k)
  | _, _, _, .o h1 h2 h3 h4 h5 h6 h7 t, _, k => .o h1 h2 h3 (k _ h4) h5 h6 (fun b z => k b (h7 b z)) t
def setS : L2.St → List Nat → List V → L2.St
  | σ, i :: is, v :: vs => setS (σ.set i (some v)) is vs
  | σ, _, _ => σ
def setE : Env → List Nat → List Sl → Env
  | e, i :: is, v :: vs => setE (e.set i v) is vs
  | e, _, _ => e
section
variable (T : Ctx) {S : Type} (SR : SRel S) (W : WX)
abbrev wZ (H : Hp) (Q : List V → Hp → Prop) : List Sl → Cf → Hp → Prop := fun sls c' H' => ∀ vs, SlsOk T c' H' H sls vs → Q vs H'
def tZ (f : Env → S → R S (List Sl)) : TA := fun σ H Q => ∃ c env s, At T SR σ H c env s ∧ Po T SR W (wZ T H Q) c H σ (f env s)
abbrev DZ (X : Cx) (es : List Expr) (f : Env → S → R S (List Sl)) : Prop := PA X es (tZ T SR W f)
end
section
variable {S : Type}
def zNil : Env → S → R S (List Sl) := fun _ s => .ok [] s
def zD (f : Env → S → R S D) (g : Env → S → R S (List Sl)) : Env → S → R S (List Sl) := fun env s => (f env s).bind fun x s1 => (g env s1).bind fun r s2 => .ok (.d x :: r) s2
def zL (f : Env → S → R S (List D)) (g : Env → S → R S (List Sl)) : Env → S → R S (List Sl) := fun env s => (f env s).bind fun x s1 => (g env s1).bind fun r s2 => .ok (.L x :: r) s2
def sPar (is : List Nat) (g : Env → S → R S (List Sl)) : Env → S → RS S := fun env s => (g env s).toS env fun sls s1 => if sls.length = is.length then .nx (setE env is sls) s1 else .bad
end
section
variable {T : Ctx} {S : Type} {SR : SRel S} {W : WX} {X : Cx} {a b : Expr} {es : List Expr} {f : Env → S → R S D} {fl : Env → S → R S (List D)} {g : Env → S → R S (List Sl)}
theorem dz_nil : DZ T SR W X [] zNil := PA.imp pa_nil fun σ H Q ⟨c, env, s, x, p⟩ => p.done x.ok x.sr _ .nil
theorem dz_d (ha : DE T SR W X a f) (hr : DZ T SR W X es g) (hs : starEach (a :: es) X.env = (false, eval a X.env) :: starEach es X.env := by rfl) : DZ T SR W X (a :: es) (zD f g) := by
  refine PA.imp (pa_cons ha hr hs) fun σ H Q ⟨c, env, s, x, p⟩ => ?_
  refine Po.run x p fun d s1 v c1 H1 st1 x1 r1 p1 => ⟨c1, env, s1, x1, ?_⟩
  cases q : g env s1 with
  | ok r s2 =>
    rw [q] at p1
    exact fun c2 H2 y sr vs ok => p1 c2 H2 y sr _ (.d (r1.mono y.gx) (ok.weak fun b z => none_back st1 z))
  | exc e s2 =>
    rw [q] at p1
    exact p1
  | bad =>
    rw [q] at p1
    exact p1
theorem dz_l (ha : DF T SR W X a fl) (hr : DZ T SR W X es g) (hs : starEach (a :: es) X.env = (false, eval a X.env) :: starEach es X.env := by rfl) : DZ T SR W X (a :: es) (zL fl g) := by
  refine PA.imp (pa_cons ha hr hs) fun σ H Q ⟨c, env, s, x, p⟩ => ⟨c, env, s, x, ?_⟩
  unfold zL at p
  cases q1 : fl env s with
  | exc e s2 =>
    rw [q1] at p
    exact p
  | bad =>
    rw [q1] at p
    exact p
  | ok xs s1 =>
  rw [q1] at p
  intro c1 H1 y sr a vs h1 h2 h3 h4 r
  refine ⟨c1, env, s1, x.step y sr, ?_⟩
  have p1 : Po T SR W (wZ T H Q) c H σ ((g env s1).bind fun r s2 => .ok (.L xs :: r) s2) := p
  cases q : g env s1 with
  | exc e s2 =>
    rw [q] at p1
    exact fun cls dd c' H' y' sr' rx => p1 cls dd c' H' (y.trans y') sr' rx
  | bad =>
    rw [q] at p1
    exact p1
  | ok r2 s2 =>
    rw [q] at p1
    intro c2 H2 y2 sr2 vs2 ok
    have so : SlOk T c2 H2 (some (some (.ref a))) (.L xs) := SlOk.step y2 (slOk_of ⟨a, _, rfl, h1, h2, h3, vs, rfl, r⟩)
    obtain ⟨a', o, ea, g1, g2, g3, g4⟩ := slOk_own so rfl
    cases ea
    exact p1 c2 H2 (y.trans y2) sr2 _ (.o g1 g2 g3 h4 g4 h1 (fun b z => none_back y z) ok)
theorem setMany {c0 c : Cf} {H0 H : Hp} {s : S} : ∀ {Hb : Hp} {sls : List Sl} {vs : List V}, SlsOk T c H Hb sls vs → ∀ {σ : L2.St} {env : Env} (is : List Nat), is.length = sls.length → AtS T SR c0 H0 σ H c env s → (∀ j a, OwnAt σ env j a → Hb a ≠ none) → (∀ b, Hb b = none → H0 b = none) →
    AtS T SR c0 H0 (setS σ is vs) H c (setE env is sls) s
  | _, _, _, .nil, σ, env, is, hl, x, _, _ => by
    cases is with
    | nil => exact x
    | cons i is => cases hl
  | Hb, _, _, .d (x := d) (v := v) r t, σ, env, is, hl, x, ho, h0 => by
    cases is with
    | nil => cases hl
    | cons i is =>
      refine setMany t is (Nat.succ.inj hl) (x.setD r) (fun j a h => ?_) h0
      obtain ⟨⟨sl, e1, o1⟩, h1⟩ := h
      rcases get_set e1 with ⟨_, z⟩ | ⟨n1, q1⟩
      · subst z
        cases o1
      · rw [get_ne n1] at h1
        exact ho j a ⟨⟨sl, q1, o1⟩, h1⟩
  | Hb, _, _, .o (sl := sl) (a := a) g1 g2 g3 h4 g4 h6 h7 t, σ, env, is, hl, x, ho, h0 => by
    cases is with
    | nil => cases hl
    | cons i is =>
      have hn : ∀ j, ¬ OwnAt σ env j a := fun j z => ho j a z h4
      refine setMany t is (Nat.succ.inj hl) ⟨x.st, x.en.setO g1 g2 g3 g4 hn, OwnNew.setO x.own x.en.len (h0 a h4), x.sr⟩ (fun j b h z => ?_) fun b z => h0 b (h7 b z)
      obtain ⟨⟨sl', e1, o1⟩, h1⟩ := h
      rcases get_set e1 with ⟨z1, z2⟩ | ⟨n1, q1⟩
      · subst z1
        obtain ⟨w, hw⟩ := in_env x.en.len e1
        rw [get_eq hw] at h1
        cases h1
        rw [h6] at z
        cases z
      · rw [get_ne n1] at h1
        exact ho j b ⟨⟨sl', q1, o1⟩, h1⟩ (h7 b z)
theorem sPar_go {c0 c : Cf} {H0 H : Hp} {σ : L2.St} {env : Env} {s : S} {is : List Nat} {D : Ends} {Z : List V → Hp → Prop} (x : AtS T SR c0 H0 σ H c env s) (po : PoS T SR W c0 H0 c (sPar is g env s) D)
    (k : ∀ vs H', vs.length = is.length → (D.nx (setS σ is vs) H') → Z vs H') : tZ T SR W g σ H Z := by
  refine ⟨c, env, s, x.at, ?_⟩
  unfold sPar at po
  cases q : g env s with
  | exc e s1 =>
    rw [q] at po
    exact fun cls dd c' H' y sr rx => po cls dd σ c' H' y.gx (x.step y sr) rx
  | bad =>
    rw [q] at po
    exact po
  | ok sls s1 =>
    rw [q] at po
    have po' : PoS T SR W c0 H0 c (if sls.length = is.length then .nx (setE env is sls) s1 else .bad) D := po
    split at po'
    · rename_i hl
      intro c' H' y sr vs ok
      have lv : ∀ {Hb : Hp} {sls : List Sl} {vs : List V}, SlsOk T c' H' Hb sls vs → vs.length = sls.length := by
        intro Hb sls vs z
        induction z with
        | nil => rfl
        | d _ _ ih => simp [ih]
        | o _ _ _ _ _ _ _ _ ih => simp [ih]
      refine k vs H' (by rw [lv ok, hl]) (po' _ c' H' y.gx (setMany ok is hl.symm (x.step y sr) (fun j a h z => ?_) fun b z => none_back x.st z))
      obtain ⟨o, e⟩ := own_there x.en h
      rw [z] at e
      cases e
    · exact po'.elim
theorem ds_par2 {i j : Nat} {x y : Str} {px py pt pos : Pos} {kt k2 pt2} (hc : X.calm = true) (hN : X.N.Nodup) (hi : X.N[i]? = some x) (hj : X.N[j]? = some y) (hij : i ≠ j) (hx : X.env.scope.names.lookup x = some .local) (hy : X.env.scope.names.lookup y = some .local)
    (ha : DZ T SR W X [a, b] g) (hw : swappedStores [.Tuple [.Name x px, .Name y py] kt pt] (.Tuple [a, b] k2 pt2) X.env = pure (some [x, y])) (hs : swapsWithSole [.Tuple [.Name x px, .Name y py] kt pt] (.Tuple [a, b] k2 pt2) pos.line X.env = pure false := by rfl) :
    DS T SR W X (.Assign [.Tuple [.Name x px, .Name y py] kt pt] (.Tuple [a, b] k2 pt2) pos) (sPar [i, j] g) := by
  refine PS.imp (ps_par hc hN hi hj hij hx hy ha hw hs) fun D σ H ⟨c0, H0, c, env, s, x, po⟩ => ?_
  refine sPar_go x po fun vs H' hl hd => ?_
  match vs, hl with
  | [v, w], _ => exact ⟨v, w, rfl, hd⟩
end
end KB
set_option Elab.async false
set_option linter.all false
set_option maxRecDepth 100000
set_option maxHeartbeats 4000000
/-! K18: built-ins by values -/
namespace KB
open PySem L2
theorem bt_tuple : bootBuiltins "tuple" = some (.type "tuple") := by decide +kernel
theorem bt_min : bootBuiltins "min" = some (.builtin "min") := by decide +kernel
theorem bt_all : bootBuiltins "all" = some (.builtin "all") := by decide +kernel
theorem bt_isinstance : bootBuiltins "isinstance" = some (.builtin "isinstance") := by decide +kernel
theorem bt_str : bootBuiltins "str" = some (.type "str") := by decide +kernel
theorem bt_bool : bootBuiltins "bool" = some (.type "bool") := by decide +kernel
section
variable {T : Ctx} {X : Cx}
def on1 (f : D → Option D) : List D → Option D
  | [d] => f d
  | _ => none
def on2 (f : D → D → Option D) : List D → Option D
  | [d, e] => f d e
  | _ => none
theorem sem_on1 {r : List V → Hp → VK → Prop} {f : D → Option D} (h : Sem1 T (fun v H Q => r [v] H Q) f) : SemL T r (on1 f) := by
  intro c H xs z us Q ok rs e k
  cases rs with
  | nil => cases e
  | cons r1 r2 =>
    cases r2 with
    | nil => exact h c H _ z _ Q ok r1 e k
    | cons _ _ => cases e
theorem sem_on2 {r : List V → Hp → VK → Prop} {f : D → D → Option D} (h : Sem2 T (fun v w H Q => r [v, w] H Q) f) : SemL T r (on2 f) := by
  intro c H xs z us Q ok rs e k
  cases rs with
  | nil => cases e
  | cons r1 r2 =>
    cases r2 with
    | nil => cases e
    | cons r2 r3 =>
      cases r3 with
      | nil => exact h c H _ _ z _ _ Q ok r1 r2 e k
      | cons _ _ => cases e
/-! ### len, int, tuple, min, max, all, any -/
def lenD1 : D → Option D
  | .str l => if l.length ≤ 16777216 then some (.int l.length) else none
  | .lst xs => some (.int xs.length)
  | .tup xs => some (.int xs.length)
  | .scr ns => some (.int ns.length)
  | _ => none
abbrev lenD := on1 lenD1
theorem cl_len (hK : X.K = T.K) : ∃ r, CallR X (.builtin "len") r ∧ SemL T r lenD := by
  refine ⟨_, call_len, ?_⟩
  rw [hK]
  refine sem_on1 fun c H x z u Q ok rv e k => ?_
  cases rv with
  | str l =>
    have e' : (if l.length ≤ 16777216 then some (D.int l.length) else none) = some z := e
    split at e'
    · rename_i hl
      cases e'
      exact ⟨_, l.length, rfl, ⟨by rw [sOf_len, sizeLine_eq]; exact hl, (sOf_len l).symm⟩, stay ok (.int _) k⟩
    · cases e'
  | lst h r =>
    cases e
    exact ⟨_, _, rfl, .inl ⟨_, SqL.of (ok.gh _ _ h), r.length⟩, stay ok (.int _) k⟩
  | scr h =>
    cases e
    exact ⟨_, _, rfl, .inl ⟨_, same_l ok.gh h, (List.length_map _).symm⟩, stay ok (.int _) k⟩
  | tup h r =>
    cases e
    exact ⟨_, _, rfl, .inr ⟨_, same_t ok.gh h, r.length⟩, stay ok (.int _) k⟩
  | _ => cases e
def intD1 : D → Option D
  | .int i => some (.int i)
  | .bl b => some (.int (if b then 1 else 0))
  | _ => none
abbrev intD := on1 intD1
theorem cl_int : ∃ r, CallR X (.type "int") r ∧ SemL T r intD := by
  refine ⟨_, call_int1, sem_on1 fun c H x z u Q ok rv e k => ?_⟩
  cases rv with
  | int i =>
    cases e
    exact .inl ⟨_, rfl, stay ok (.int _) k⟩
  | bl b =>
    cases e
    exact .inr ⟨_, rfl, stay ok (.int _) k⟩
  | _ => cases e
def tupleD1 : D → Option D
  | .lst xs => some (.tup xs)
  | .tup xs => some (.tup xs)
  | _ => none
abbrev tupleD := on1 tupleD1
theorem cl_tuple (hK : X.K = T.K) : ∃ r, CallR X (.type "tuple") r ∧ SemL T r tupleD := by
  refine ⟨_, call_tuple_of, ?_⟩
  rw [hK]
  refine sem_on1 fun c H x z u Q ok rv e k => ?_
  cases rv with
  | lst h r =>
    cases e
    exact ⟨_, _, rfl, .inl ⟨SqL.of (ok.gh _ _ h), fun p hp => bornT ok hp r k⟩⟩
  | tup h r =>
    cases e
    exact ⟨_, _, rfl, .inr ⟨same_t ok.gh h, stay ok (.tup h r) k⟩⟩
  | _ => cases e
def minD2 : D → D → Option D
  | .int i, .int j => some (.int (if j < i then j else i))
  | _, _ => none
abbrev minD := on2 minD2
theorem cl_min (hc : X.calm = true) : ∃ r, CallR X (.builtin "min") r ∧ SemL T r minD := by
  refine ⟨_, call_min2 hc, sem_on2 fun c H x y z u v Q ok rv rw' e k => ?_⟩
  cases rv <;> try (cases e; done)
  cases rw' <;> try (cases e; done)
  cases e
  exact ⟨_, _, rfl, stay ok (.int _) k⟩
def maxD2 : D → D → Option D
  | .int i, .int j => some (.int (if j > i then j else i))
  | _, _ => none
def blsD : List D → Option (List Bool)
  | [] => some []
  | .bl b :: ds => (blsD ds).map (b :: ·)
  | _ :: _ => none
theorem blsD_rep {c : Cf} : ∀ {ds : List D} {vs : List V} {bs : List Bool}, Reps T c ds vs → blsD ds = some bs → vs = bs.map V.bl
  | _, _, _, .nil, e => by
    cases e
    rfl
  | _, _, ns, .cons (d := d) r rs, e => by
    cases d <;> try (cases e; done)
    rename_i i
    cases r
    have e' : (blsD _).map (i :: ·) = some ns := e
    cases q : blsD _ with
    | none =>
      rw [q] at e'
      cases e'
    | some ms =>
      rw [q] at e'
      cases e'
      rw [blsD_rep rs q]
      rfl
def allD1 : D → Option D
  | .lst xs => (blsD xs).map fun bs => .bl (bs.all id)
  | _ => none
abbrev allD := on1 allD1
def anyD1 : D → Option D
  | .lst xs => (blsD xs).map fun bs => .bl (bs.any id)
  | _ => none
theorem cl_all (hK : X.K = T.K) (hc : X.calm = true) : ∃ r, CallR X (.builtin "all") r ∧ SemL T r allD := by
  refine ⟨_, cr_all hc, ?_⟩
  rw [hK]
  refine sem_on1 fun c H x z u Q ok rv e k => ?_
  cases rv with
  | @lst a vs ys h r =>
    have e' : (blsD ys).map (fun bs => D.bl (bs.all id)) = some z := e
    cases q : blsD ys with
    | none =>
      rw [q] at e'
      cases e'
    | some bs =>
      rw [q] at e'
      cases e'
      exact ⟨_, bs, rfl, SqL.of (blsD_rep r q ▸ ok.gh _ _ h), stay ok (.bl _) k⟩
  | _ => cases e
/-! ### isinstance(x, a built-in type) -/
def tyD : D → Option String
  | .non => some "NoneType"
  | .bl _ => some "bool"
  | .int _ => some "int"
  | .str _ => some "str"
  | .lst _ => some "list"
  | .tup _ => some "tuple"
  | .dct _ => some "dict"
  | .dcT _ => some "dict"
  | _ => none
theorem tyX_of {c : Cf} {H : Hp} (ok : CfOk c H) {d : D} {v : V} {t : String} (r : Rep T c d v) (e : tyD d = some t) : TyX T.K H v (.type t) := by
  cases r with
  | non =>
    cases e
    exact .base .non
  | bl b =>
    cases e
    exact .base (.bl b)
  | int i =>
    cases e
    exact .base (.int i)
  | str l =>
    cases e
    exact .base (.str _)
  | lst h r =>
    cases e
    exact .base (.lst (ok.gh _ _ h))
  | tup h r =>
    cases e
    rcases same_t ok.gh h with (h | ⟨o, h⟩) | h
    · exact .base (.tup h)
    · exact .fTuple h
    · obtain ⟨o, its, n, h1, h2, _⟩ := h
      exact .kTuple h1 h2
  | dct h r =>
    cases e
    exact .base (.dK (ok.gh _ _ h))
  | dcT h r =>
    cases e
    exact .base (.dT (ok.gh _ _ h))
  | _ => cases e
def isiD2 (n : String) : D → Option D := fun d => (tyD d).bind fun t => (kitB t n).map D.bl
abbrev isiD := on2 fun d e => match e with
  | .ty n => isiD2 n d
  | _ => none
theorem cl_isi (hK : X.K = T.K) : ∃ r, CallR X (.builtin "isinstance") r ∧ SemL T r isiD := by
  refine ⟨_, call_isi, ?_⟩
  rw [hK]
  refine sem_on2 fun c H x y z u v Q ok rv rw' e k => ?_
  cases rw' with
  | ty n =>
    have e' : (tyD x).bind (fun t => (kitB t n).map D.bl) = some z := e
    cases q : tyD x with
    | none =>
      rw [q] at e'
      cases e'
    | some t =>
      rw [q] at e'
      have e2 : (kitB t n).map D.bl = some z := e'
      cases q2 : kitB t n with
      | none =>
        rw [q2] at e2
        cases e2
      | some b =>
        rw [q2] at e2
        cases e2
        exact ⟨_, _, .type t, .type n, b, rfl, .ty n, tyX_of ok rv q, kit_ty q2, stay ok (.bl b) k⟩
  | _ => cases e
/-! ### repr -/
def reprOk (d : D) : Bool := d.isPy && d.py.showable && decide (d.py.depth ≤ 64) && decide (d.py.shown.length ≤ 16777216)
def reprD1 (d : D) : Option D := match d with
  | .lst _ => if reprOk d = true ∧ d.py.hasDict = false then some (.str d.py.shown.cps.toList) else none
  | .tup _ => if reprOk d = true ∧ d.py.hasDict = false then some (.str d.py.shown.cps.toList) else none
  | _ => none
end
end KB
set_option Elab.async false
set_option linter.all false
set_option maxRecDepth 100000
set_option maxHeartbeats 4000000
/-! K19: join, [::-1], list(..), tuple(range(..)), subscripts, slices, in -/
namespace KB
open PySem PySem.Spec PyProof.Rows L2
def strsD : List D → Option (List (List Nat))
  | [] => some []
  | .str l :: ds => (strsD ds).map (l :: ·)
  | _ :: _ => none
theorem strsD_rep {T : Ctx} {c : Cf} : ∀ {ds : List D} {vs : List V} {ls : List (List Nat)}, Reps T c ds vs → strsD ds = some ls → vs = (ls.map sOf).map V.str
  | _, _, _, .nil, e => by
    cases e
    rfl
  | _, _, ns, .cons (d := d) r rs, e => by
    cases d <;> try (cases e; done)
    rename_i i
    cases r
    have e' : (strsD _).map (i :: ·) = some ns := e
    cases q : strsD _ with
    | none =>
      rw [q] at e'
      cases e'
    | some ms =>
      rw [q] at e'
      cases e'
      rw [strsD_rep rs q]
      rfl
def joinL (sep : List Nat) : List (List Nat) → List Nat
  | [] => []
  | [x] => x
  | x :: y :: r => x ++ sep ++ joinL sep (y :: r)
theorem join_sOf (sep : List Nat) : ∀ ls : List (List Nat), Txt.join (sOf sep) (ls.map sOf) = sOf (joinL sep ls)
  | [] => by
    show Builtin.Str.glued _ _ = _
    rw [StrLaws.glued_eq_join]
    rfl
  | [x] => by
    show Builtin.Str.glued _ _ = _
    rw [StrLaws.glued_eq_join]
    rfl
  | x :: y :: r => by
    have ih := join_sOf sep (y :: r)
    have ih' : Str.join (sOf sep) ((y :: r).map sOf) = sOf (joinL sep (y :: r)) := by
      rw [← StrLaws.glued_eq_join]
      exact ih
    show Builtin.Str.glued _ _ = _
    rw [StrLaws.glued_eq_join]
    show sOf x ++ sOf sep ++ Str.join (sOf sep) ((y :: r).map sOf) = _
    rw [ih', sOf_app, sOf_app]
    rfl
def joinD (sep : List Nat) : D → Option D
  | .lst xs => (strsD xs).bind fun ls => if (ls.map (·.length)).sum + ls.length * sep.length ≤ 16777216 then some (.str (joinL sep ls)) else none
  | .tup xs => (strsD xs).bind fun ls => if (ls.map (·.length)).sum + ls.length * sep.length ≤ 16777216 then some (.str (joinL sep ls)) else none
  | _ => none
section
variable {S : Type}
def eJoin (f g : KB.Env → S → R S D) : KB.Env → S → R S D := fun env s => (f env s).bind fun x s1 => match x with
  | .str sep => (g env s1).bind fun y s2 => R.of (joinD sep y) s2
  | _ => .bad
end
theorem sum_sOf : ∀ ls : List (List Nat), ((ls.map sOf).map (·.length)).sum = (ls.map (·.length)).sum
  | [] => rfl
  | l :: ls => by
    simp only [List.map_cons, List.sum_cons]
    rw [sum_sOf ls, sOf_len]
section
variable {T : Ctx} {S : Type} {SR : SRel S} {W : WX} {X : Cx} {a b o : Expr} {f g : KB.Env → S → R S D} {fs : KB.Env → S → R S (List D)} {pos apos p : Pos}
/-- o.join(a) -/
theorem de_join (hK : X.K = T.K) (ho : DE T SR W X o f) (ha : DE T SR W X a g) (hs : starEach [a] X.env = [(false, eval a X.env)] := by rfl) (hbase : attributeBase o "join" X.env (eval o X.env) = eval o X.env := by rfl) (hline : (apos.endLine == pos.line) = true := by rfl) :
    DE T SR W X (.Call (.Attribute o "join" apos) [a] [] pos) (eJoin f g) := by
  refine PE.imp (pe_join ho ha hs hbase hline) fun σ H Q ⟨c, env, s, x, p⟩ => ?_
  refine Po.run x p fun d s1 v c1 H1 st1 x1 r1 p1 => ?_
  cases r1 with
  | str sep =>
    refine ⟨⟨_, rfl⟩, ?_⟩
    refine Po.run x1 p1 fun e s2 w c2 H2 st2 x2 r2 p2 => ?_
    obtain ⟨z, hz, k⟩ := p2.value x2
    have fin : ∀ {xs : List D} {vs : List V} {a : Addr}, Reps T c2 xs vs → ((strsD xs).bind fun ls => if (ls.map (·.length)).sum + ls.length * sep.length ≤ 16777216 then some (D.str (joinL sep ls)) else none) = some z →
        ∃ ys : List Str, vs = ys.map V.str ∧ (ys.map (·.length)).sum + ys.length * (sOf sep).length ≤ 16777216 ∧ Q (.str (Txt.join (sOf sep) ys)) H2 := by
      intro xs vs a r e
      cases q : strsD xs with
      | none =>
        rw [q] at e
        cases e
      | some ls =>
        rw [q] at e
        have e' : (if (ls.map (·.length)).sum + ls.length * sep.length ≤ 16777216 then some (D.str (joinL sep ls)) else none) = some z := e
        split at e'
        · rename_i hl
          cases e'
          refine ⟨ls.map sOf, strsD_rep r q, ?_, ?_⟩
          · rw [sum_sOf, List.length_map, sOf_len]
            exact hl
          · rw [join_sOf]
            exact stay x2.ok (.str _) k
        · cases e'
    cases r2 with
    | lst h r =>
      obtain ⟨ys, e1, e2, e3⟩ := fin (a := 0) r hz
      subst e1
      exact ⟨_, _, ys, rfl, rfl, .inl (SqL.of (x2.ok.gh _ _ h)), e2, e3⟩
    | tup h r =>
      obtain ⟨ys, e1, e2, e3⟩ := fin (a := 0) r hz
      subst e1
      exact ⟨_, _, ys, rfl, rfl, .inr (hK ▸ same_t x2.ok.gh h), e2, e3⟩
    | _ => cases hz
  | _ => exact p1.elim
/-! ### list(a), list(range(..)), tuple(range(..)) -/
def fList (f : KB.Env → S → R S D) : KB.Env → S → R S (List D) := fun env s => (f env s).bind fun d s1 => match d with
  | .lst xs => .ok xs s1
  | .tup xs => .ok xs s1
  | .scr ns => .ok (ns.map .int) s1
  | _ => .bad
theorem df_list (hK : X.K = T.K) (hg : Gl X "list") (hm : X.mg "list" = none) (ha : DE T SR W X a f) (he : starEach [a] X.env = (false, eval a X.env) :: starEach [] X.env := by rfl) :
    DF T SR W X (.Call (.Name "list" p) [a] [] pos) (fList f) := by
  refine PE.imp (pe_callTy call_list_of hg hm bt_list (pa_cons ha pa_nil he) (by decide) (by decide) he) fun σ H Q ⟨c, env, s, x, p⟩ => ?_
  refine Po.run x p fun d s1 v c1 H1 st1 x1 r1 p1 => ?_
  have fin : ∀ {xs : List D} {vs : List V}, Reps T c1 xs vs → Po T SR W (wL T H Q) c1 H1 σ (.ok xs s1) → ∀ l, H1 l = none → Q (.ref l) (upd H1 l (.lst vs)) := fun {xs vs} r po l hl =>
    po c1 _ (Stp.new x1.ok hl) x1.sr l vs upd_same (free_of x1.ok.gh hl) (free_of x1.ok.fh hl) (none_back st1 hl) r
  cases r1 with
  | lst h r => exact ⟨_, _, rfl, .inl (SqL.of (x1.ok.gh _ _ h)), fin r p1⟩
  | tup h r => exact ⟨_, _, rfl, .inr (hK ▸ same_t x1.ok.gh h), fin r p1⟩
  | @scr a' ns h =>
    refine ⟨_, _, rfl, .inl (hK ▸ same_l x1.ok.gh h), fin ?_ p1⟩
    clear h p1
    induction ns with
    | nil => exact .nil
    | cons n ns ih => exact .cons (.int n) ih
  | _ => exact p1.elim
theorem rng_rep {c : Cf} (lo hi : Int) : Reps T c (rng lo (hi - lo).toNat) (rgV lo hi) := by
  unfold rng rgV
  generalize (hi - lo).toNat = n
  have : ∀ l : List Nat, Reps T c (l.map fun i => D.int (lo + (i : Nat))) (l.map fun i => V.int (lo + (i : Nat))) := by
    intro l
    induction l with
    | nil => exact .nil
    | cons i l ih => exact .cons (.int _) ih
  exact this _
/-- a range's bounds: -/
def tRD (T : Ctx) (SR : SRel S) (W : WX) (f : KB.Env → S → R S (Int × Int)) : L2.St → Hp → (Int → Int → Hp → Prop) → Prop := fun σ H Q => ∃ c env s, At T SR σ H c env s ∧
  Po T SR W (fun p c' H' => Q p.1 p.2 H') c H σ (f env s)
abbrev DRg (T : Ctx) (SR : SRel S) (W : WX) (X : Cx) (e : Expr) (f : KB.Env → S → R S (Int × Int)) : Prop := PRg X e (tRD T SR W f)
def gR1 (f : KB.Env → S → R S D) : KB.Env → S → R S (Int × Int) := fun env s => (f env s).bind fun d s1 => match d with
  | .int n => .ok (0, n) s1
  | _ => .bad
theorem dr_1 (hg : Gl X "range") (hm : X.mg "range" = none) (ha : DE T SR W X a f) (na : starEach [a] X.env = (false, eval a X.env) :: starEach [] X.env := by rfl) : DRg T SR W X (.Call (.Name "range" p) [a] [] pos) (gR1 f) := by
  intro pins s0 σ H Q I ⟨c, env, s, x, po⟩
  refine prg_1 hg hm ha na pins s0 σ H Q I ?_
  refine Po.run x po fun d s1 v c1 H1 st1 x1 r1 p1 => ?_
  cases r1 with
  | int n => exact ⟨n, rfl, p1.done x1.ok x1.sr⟩
  | _ => exact p1.elim
def rgB (p : Int × Int) : Bool := decide (-(2 ^ 62) ≤ p.1) && decide (p.1 < 2 ^ 62) && decide (-(2 ^ 62) ≤ p.2) && decide (p.2 < 2 ^ 62) && decide ((p.2 - p.1).toNat ≤ 2 ^ 24)
theorem rgB_ok {p : Int × Int} (h : rgB p = true) : RgOk p.1 p.2 := by
  unfold rgB at h
  simp only [Bool.and_eq_true, decide_eq_true_eq] at h
  exact ⟨h.1.1.1.1, h.1.1.1.2, h.1.1.2, h.1.2, h.2⟩
def fListR (h : KB.Env → S → R S (Int × Int)) : KB.Env → S → R S (List D) := fun env s => (h env s).bind fun p s1 => if rgB p = true then .ok (rng p.1 (p.2 - p.1).toNat) s1 else .bad
def eTupR (h : KB.Env → S → R S (Int × Int)) : KB.Env → S → R S D := fun env s => (h env s).bind fun p s1 => if rgB p = true then .ok (.tup (rng p.1 (p.2 - p.1).toNat)) s1 else .bad
theorem df_listR {h : KB.Env → S → R S (Int × Int)} (hc : X.calm = true) (hg : Gl X "list") (hm : X.mg "list" = none) (he : DRg T SR W X a h) (na : starEach [a] X.env = (false, eval a X.env) :: starEach [] X.env := by rfl) : DF T SR W X (.Call (.Name "list" p) [a] [] pos) (fListR h) := by
  refine PE.imp (pe_listRg hc hg hm he na) fun σ H Q ⟨c, env, s, x, po⟩ => ⟨c, env, s, x, ?_⟩
  unfold fListR at po
  cases q : h env s with
  | bad =>
    rw [q] at po
    exact po.elim
  | exc e s' =>
    rw [q] at po
    exact po
  | ok p s1 =>
    rw [q] at po
    have po' : Po T SR W (wL T H Q) c H σ (if rgB p = true then .ok (rng p.1 (p.2 - p.1).toNat) s1 else .bad) := po
    split at po'
    · rename_i hr
      intro c1 H1 y sr
      exact ⟨rgB_ok hr, fun l hl => po' c1 _ (y.trans (Stp.new y.ok hl)) sr l _ upd_same (free_of y.ok.gh hl) (free_of y.ok.fh hl) (none_back y hl) (rng_rep _ _)⟩
    · exact po'.elim
theorem de_tupR {h : KB.Env → S → R S (Int × Int)} (hc : X.calm = true) (hg : Gl X "tuple") (hm : X.mg "tuple" = none) (he : DRg T SR W X a h) (na : starEach [a] X.env = (false, eval a X.env) :: starEach [] X.env := by rfl) : DE T SR W X (.Call (.Name "tuple" p) [a] [] pos) (eTupR h) := by
  refine PE.imp (pe_tupRg hc hg hm he na) fun σ H Q ⟨c, env, s, x, po⟩ => ⟨c, env, s, x, ?_⟩
  unfold eTupR at po
  cases q : h env s with
  | bad =>
    rw [q] at po
    exact po.elim
  | exc e s' =>
    rw [q] at po
    exact po
  | ok p s1 =>
    rw [q] at po
    have po' : Po T SR W (wE T Q) c H σ (if rgB p = true then .ok (.tup (rng p.1 (p.2 - p.1).toNat)) s1 else .bad) := po
    split at po'
    · rename_i hr
      intro c1 H1 y sr
      refine ⟨rgB_ok hr, fun l hl => po' (c1.put l (.tup (rgV p.1 p.2))) _ (y.trans (Stp.put y.ok hl)) (SR.put sr (free_of y.ok.gh hl)) _ (.tup (.inl (.inl put_at)) (rng_rep _ _))⟩
    · exact po'.elim
end
end KB
set_option Elab.async false
set_option linter.all false
set_option maxRecDepth 100000
set_option maxHeartbeats 4000000
/-! K20: text[::-1], subscripts, slices, in -/
namespace KB
open PySem PySem.Spec PyProof.Rows L2
section
variable {T : Ctx} {S : Type} {SR : SRel S} {W : WX} {X : Cx} {a b o : Expr} {f g : KB.Env → S → R S D} {pos apos p : Pos}
/-! ### subscripts -/
def ixD (x y : D) : Option D := match y with
  | .int i => match x with
    | .lst xs => atI xs i
    | .tup xs => atI xs i
    | .scr ns => (atI ns i).map .int
    | .str l => if l.length ≤ 16777216 then (atI l i).map fun c => .str [c] else none
    | _ => none
  | _ => none
theorem Reps.ix {c : Cf} {ds : List D} {vs : List V} (r : Reps T c ds vs) {i : Int} {d : D} (e : atI ds i = some d) : ∃ v, atI vs i = some v ∧ Rep T c d v := by
  unfold atI at e ⊢
  rw [← r.length]
  cases q : ixN ds.length i with
  | none =>
    rw [q] at e
    cases e
  | some j =>
    rw [q] at e
    exact r.at e
theorem ix_D (hK : X.K = T.K) : ∃ r, IxR X r ∧ Sem2 T r ixD := by
  refine ⟨_, ix_seq, ?_⟩
  rw [hK]
  intro c H x y z u v Q ok rx ry e k
  cases ry with
  | int i =>
    cases rx with
    | lst h r =>
      obtain ⟨w, ew, rw'⟩ := r.ix e
      exact .inl ⟨_, _, i, w, rfl, rfl, SqL.of (ok.gh _ _ h), ew, stay ok rw' k⟩
    | tup h r =>
      obtain ⟨w, ew, rw'⟩ := r.ix e
      exact .inr (.inl ⟨_, _, i, w, rfl, rfl, same_t ok.gh h, ew, stay ok rw' k⟩)
    | @scr a' ns h =>
      have e' : (atI ns i).map D.int = some z := e
      cases q : atI ns i with
      | none =>
        rw [q] at e'
        cases e'
      | some n =>
        rw [q] at e'
        cases e'
        refine .inl ⟨_, _, i, .int n, rfl, rfl, same_l ok.gh h, ?_, stay ok (.int n) k⟩
        unfold atI at q ⊢
        rw [List.length_map]
        cases q2 : ixN ns.length i with
        | none =>
          rw [q2] at q
          cases q
        | some j =>
          rw [q2] at q
          have q' : ns[j]? = some n := q
          show (ns.map V.int)[j]? = _
          rw [List.getElem?_map, q']
          rfl
    | str l =>
      have e' : (if l.length ≤ 16777216 then (atI l i).map fun c => D.str [c] else none) = some z := e
      split at e'
      · rename_i hl
        cases q : atI l i with
        | none =>
          rw [q] at e'
          cases e'
        | some n =>
          rw [q] at e'
          cases e'
          exact .inr (.inr ⟨sOf l, i, n, rfl, rfl, by rw [sOf_len, sizeLine_eq]; exact hl, q, stay ok (.str [n]) k⟩)
      · cases e'
    | _ => cases e
  | _ => cases e
/-! ### slices -/
def cutL {α : Type} (xs : List α) (lo hi : Option Int) : List α := (xs.drop (HT.sIx xs.length 0 lo)).take (HT.sIx xs.length xs.length hi - HT.sIx xs.length 0 lo)
theorem Reps.cut {c : Cf} {ds : List D} {vs : List V} (r : Reps T c ds vs) (lo hi : Option Int) : Reps T c (cutL ds lo hi) (cutV vs lo hi) := by
  unfold cutL cutV
  rw [← r.length]
  exact (r.drop _).take _
def slD (x : D) (lo hi : Option Int) : Option D := match x with
  | .lst xs => some (.lst (cutL xs lo hi))
  | .tup xs => some (.tup (cutL xs lo hi))
  | .str l => if l.length ≤ 16777216 then some (.str (cutL l lo hi)) else none
  | _ => none
theorem cut_all {α : Type} (xs : List α) (lo hi : Option Int) (h : HT.sIx xs.length 0 lo = 0 ∧ HT.sIx xs.length xs.length hi = xs.length) : cutL xs lo hi = xs := by
  unfold cutL
  rw [h.1, h.2]
  simp
theorem sl_D (hK : X.K = T.K) : ∃ r, SlR X r ∧ Sem3 T r slD := by
  refine ⟨_, sl_list.or (sl_tupA.or sl_str), ?_⟩
  rw [hK]
  intro c H x z lo hi u Q ok rx e k
  cases rx with
  | lst h r =>
    cases e
    exact .inl ⟨_, _, rfl, SqL.of (ok.gh _ _ h), fun p hp => bornL ok hp (r.cut lo hi) k⟩
  | tup h r =>
    cases e
    refine .inr (.inl ⟨_, _, rfl, same_t ok.gh h, fun hw => ?_, fun hw p hp => bornT ok hp (r.cut lo hi) k⟩)
    rw [← r.length] at hw
    rw [cut_all _ _ _ hw] at k
    exact stay ok (.tup h r) k
  | str l =>
    have e' : (if l.length ≤ 16777216 then some (D.str (cutL l lo hi)) else none) = some z := e
    split at e'
    · rename_i hl
      cases e'
      refine .inr (.inr ⟨sOf l, rfl, by rw [sOf_len, sizeLine_eq]; exact hl, ?_⟩)
      have ec : cutS (sOf l) lo hi = sOf (cutL l lo hi) := by
        unfold cutS cutL
        rw [sOf_len, sOf_list]
        rfl
      rw [ec]
      exact stay ok (.str _) k
    · cases e'
  | _ => cases e
end
end KB
set_option Elab.async false
set_option linter.all false
set_option maxRecDepth 100000
set_option maxHeartbeats 4000000
/-! K21: short forms; the law's end -/
namespace KB
section
open PySem PySem.Spec PyProof.Rows L2
variable {T : Ctx} {S : Type} {SR : SRel S} {W : WX} {X : Cx} {a : Expr} {es : List Expr} {f : KB.Env → S → R S D} {fs : KB.Env → S → R S (List D)} {t : KB.Env → S → R S Bool} {pos p : Pos}
/-- a built-in function's call -/
theorem deB {id : String} {x : Str} {sem : List D → Option D} (ho : ∃ r, CallR X (.builtin id) r ∧ SemL T r sem) (hm : X.mg x = none) (hv : bootBuiltins x = some (.builtin id)) (ha : DA T SR W X (a :: es) fs) (hg : Gl X x := by rfl)
    (hn : x ≠ "__name__" := by decide) (hdb : (x == ("__debug__" : Str)) = false := by decide) (he : starEach (a :: es) X.env = (false, eval a X.env) :: starEach es X.env := by rfl) (hpl : (backTo pos (starEach es X.env)).any (·.1) = false := by rfl) :
    DE T SR W X (.Call (.Name x p) (a :: es) [] pos) (eCl sem fs) := by
  obtain ⟨r, h1, h2⟩ := ho
  exact de_callB h1 h2 hg hm hv ha hn hdb he hpl
theorem deT {id : String} {x : Str} {sem : List D → Option D} (ho : ∃ r, CallR X (.type id) r ∧ SemL T r sem) (hm : X.mg x = none) (hv : bootBuiltins x = some (.type id)) (ha : DA T SR W X (a :: es) fs) (hg : Gl X x := by rfl)
    (hn : x ≠ "__name__" := by decide) (hdb : (x == ("__debug__" : Str)) = false := by decide) (he : starEach (a :: es) X.env = (false, eval a X.env) :: starEach es X.env := by rfl) (hpl : (backTo pos (starEach es X.env)).any (·.1) = false := by rfl) :
    DE T SR W X (.Call (.Name x p) (a :: es) [] pos) (eCl sem fs) := by
  obtain ⟨r, h1, h2⟩ := ho
  exact de_callTy h1 h2 hg hm hv ha hn hdb he hpl
/-- a built-in type, named -/
theorem de_ty {x : Str} {n : String} (hm : X.mg x = none) (hv : bootBuiltins x = some (.type n)) (hg : Gl X x := by rfl) (hn : x ≠ "__name__" := by decide) (hd : (x == ("__debug__" : Str)) = false := by decide) : DE T SR W X (.Name x pos) (eC (.ty n)) :=
  PE.imp (pe_bltn (v := .ty n) hg hm hv rfl hn hd) fun σ H Q ⟨c, env, s, x, p⟩ => p.done x.ok x.sr _ (.ty n)
/-- {} -/
theorem de_dict0 : DE T SR W X (.Dict [] [] pos) (eC (.dct [])) :=
  PE.imp pe_dnewK fun σ H Q ⟨c, env, s, x, po⟩ p hp => po (c.put p (.dK [])) _ (Stp.put x.ok hp) (SR.put x.sr (free_of x.ok.gh hp)) _ (.dct put_at .nil)
theorem dts_nil : PTs X [] (tT T SR W bYes) := ⟨fun pins s0 σ H Q I ⟨c, env, s, x, po⟩ => pts_nil.run pins s0 σ H Q I (po.done x.ok x.sr)⟩
theorem dts_one (h : DT T SR W X a t) : PTs X [a] (tT T SR W t) := pts_one h
/-- a local name's slot -/
theorem dv (i : Nat) {x : Str} (hN : X.N[i]? = some x := by rfl) (hv : Vis X.env.scope x := by first | exact Or.inl rfl | exact Or.inr (Or.inl rfl) | exact Or.inr (Or.inr rfl)) (hd : (x == ("__debug__" : Str)) = false := by decide) (hcd : (x == ("__classdict__" : Str)) = false := by decide) :
    DE T SR W X (.Name x pos) (eVar i) := de_var hN hv hd hcd
end
section
open PySem PySem.Spec PyProof.Rows L2
/-- the law is called, where nothing guards -/
theorem lawG {P : Program} {w : World} {K : PySem.W.Frag} {mg mb : Str → Option Value} {k : Nat} {fa a : Addr} {fd : FuncData} {x : Str} {sp : Sp} {s1 : Shared} {vs : List Value} {ns : List Int} (KX : K.In s1.heap) (hns : s1.heap.Ns mainGlobals mg) (hb : s1.heap.Ns builtinsNs mb)
    (hbb : ∀ x : Str, x ≠ "__name__" → mb x = bootBuiltins x) (hlim : s1.heap.NoLimit) (hg : s1.gens = #[]) (ha : s1.heap.get? a = some { cls := .type "list", data := .seq vs.toArray }) (hi : IntsAre vs ns) (hl : ns.length ≤ sizeLine) (hr : Room k callerA)
    (F : ∀ base : Heap, K.In base → base.Ns mainGlobals mg → FnG true P w K mg base k fa fd [x] sp) (hbind : ∀ (s : Shared) (u : Value), BindsTo s fd ⟨[u], []⟩ [(x, u)])
    (hsp : ∀ H : Hp, SqL K H a (ns.map V.int) → sp [.ref a] H (fun v _ => v = .bl true) fun _ _ _ => False) :
    codeAny (model P w) callerA (.call (.ref fa) ⟨[.ref a], []⟩) (fun r s' => r = .ok (.ret (.bool true)) ∧ OldK s1.heap s'.heap ∧ s'.os = s1.os ∧ AllBare s'.gens) s1 := by
  have rv := vals_ints hi
  have len := hi.length
  have go : ∀ H : Hp, (∀ b u, H b = some u → b = a ∧ K.lookup a = none ∧ ∃ o xs, u = .frz o (.lst xs)) → SqL K H a (ns.map V.int) → HOk P w H s1.heap →
      codeAny (model P w) callerA (.call (.ref fa) ⟨[.ref a], []⟩) (fun r s' => r = .ok (.ret (.bool true)) ∧ OldK s1.heap s'.heap ∧ s'.os = s1.os ∧ AllBare s'.gens) s1 := by
    intro H only hS ok
    have there : ∀ {b : Addr} {o : Obj}, s1.heap.get? b = some o → H b = none → (hidT s1.heap H).get? b = some o := fun e n => hidT_get e n
    have nsOf : ∀ {b : Addr} {m : Str → Option Value}, s1.heap.Ns b m → (hidT s1.heap H).Ns b m := by
      rintro b m ⟨o, es, ep, e, d, r⟩
      refine ⟨o, es, ep, there e ?_, d, r⟩
      cases q : H b with
      | none => rfl
      | some u =>
        obtain ⟨rfl, _, _⟩ := only b u q
        rw [ha] at e
        cases e
        cases d
    have kin : K.In (hidT s1.heap H) := fun b o e => there (KX b o e) (by
      cases q : H b with
      | none => rfl
      | some u =>
        obtain ⟨rfl, z, _⟩ := only b u q
        rw [z] at e
        cases e)
    have md : L2.Mod K mg (hidT s1.heap H) := ⟨kin, nsOf hns, ⟨mb, nsOf hb, hbb⟩, hlim.elim fun mc h => ⟨mc, nsOf h.1, h.2⟩⟩
    have e0 : Env0 P w K mg (hidT s1.heap H) callerA [] s1 H := by
      refine ⟨rfl, md, fun b o e => of_hidT e, Nat.le_of_eq (hidT_size _ _), trivial, ?_, ok, .of_eq hg⟩
      intro b hb
      cases hb
    refine codeAny_mono ((F _ kin md.glob).run callerA [] s1 H ⟨[.ref a], []⟩ [.ref a] [.ref a] _ _ hr (fun _ => rfl) e0 (hbind s1 (.ref a)) (.cons rfl .nil) (hsp H hS)) ?_
    rintro (e | fl) s' h
    · obtain ⟨_, _, _, _, _, _, _, _, _, _, _, _, z⟩ := h
      exact z.elim
    · cases fl with
      | next => exact h.elim
      | brk => exact h.elim
      | cont => exact h.elim
      | ret u =>
        obtain ⟨v, H', os, bare, un, ok', r', q⟩ := h
        have q' : v = .bl true := q
        subst q'
        obtain rfl : u = Value.bool true := r'
        refine ⟨rfl, OldK.of_keep fun b o e => ?_, os, bare⟩
        cases q : H b with
        | none => exact un.keep b o e q (by intro z; cases z) (by intro z; cases z)
        | some u =>
          obtain ⟨rfl, _, ob, xs, rfl⟩ := only b u q
          have q2 := un.frzs _ ob _ q
          obtain ⟨e1, _⟩ := ok _ _ q
          obtain ⟨e2, _⟩ := ok' _ _ q2
          rw [e] at e1
          cases e1
          exact e2
  cases hk : K.lookup a with
  | some o =>
    have e := KX a o hk
    rw [ha] at e
    cases e
    refine go (fun _ => none) (fun b u z => nomatch z) (.inr ⟨_, vs.toArray, _, hk, rfl, rfl, rfl, by rw [List.size_toArray, len]; exact hl, by simpa using rv⟩) (fun b u z => ?_)
    have z' : (none : Option HO) = some u := z
    cases z'
  | none =>
    obtain ⟨H, hH⟩ : ∃ H : Hp, H = fun b => if b = a then some (.frz { cls := .type "list", data := .seq vs.toArray } (.lst (ns.map V.int))) else none := ⟨_, rfl⟩
    have at_ : H a = some (.frz { cls := .type "list", data := .seq vs.toArray } (.lst (ns.map V.int))) := by
      rw [hH]
      exact if_pos rfl
    have els : ∀ b u, H b = some u → b = a := fun b u e => by
      by_cases z : b = a
      · exact z
      · rw [hH] at e
        have e' := (if_neg z).symm.trans e
        cases e'
    refine go H (fun b u e => ?_) (.inl (.inr ⟨_, at_⟩)) fun b u e => ?_
    · obtain rfl := els b u e
      rw [at_] at e
      cases e
      exact ⟨rfl, hk, _, _, rfl⟩
    · obtain rfl := els b u e
      rw [at_] at e
      cases e
      exact ⟨ha, by rw [List.length_map]; exact hl, vs, _, rv, ha⟩
theorem okDef {g : Bool} {T : Ctx} {S : Type} {SR : SRel S} {P : Program} {w : World} {K : PySem.W.Frag} {mg : Str → Option Value} {base : Heap} {k n m : Nat} {x qual : Str} {st : Stmt} {f : Addr} {fd : FuncData} {N ps : List Str} {gb : KB.Env → S → RS S} (F : Fun K x qual st f fd) (Sc : FnScope N ps (defScope st))
    (hn : N.length = n) (hm : ps.length = m)
    (hb : ∀ (cdv : Value) (A : Around) (out : List PySem.Env) (s : Shared) (H : Hp) (E : XK), Room k (A.deeper (envOfC qual (defScope st) s.heap.objs.size f cdv)) → (g = true → A.guards = some []) →
      DB T SR (fun cls d _ H => E cls d H) (cxOf (L2.CX P w) P w K mg base N qual (defScope st) f cdv A out s H E) (defBody st) gb) : FnG g P w K mg base (k + 1) f fd ps (spD T SR m (semOf n gb)) := by
  subst hn hm
  exact ok_def F Sc hb
def clOf (l : List (Str × Addr)) (n : Str) : Addr := (l.lookup n).getD 0
theorem cls_of {K : PySem.W.Frag} {C : Addr} (h : PySem.W.hasDictIn K C = true) : ∃ cd, PySem.W.clsIn K C = some cd ∧ cd.hasDict = true := by
  unfold PySem.W.hasDictIn at h
  cases e : PySem.W.clsIn K C with
  | none =>
    rw [e] at h
    cases h
  | some cd =>
    rw [e] at h
    exact ⟨cd, rfl, h⟩
end
end KB
set_option Elab.async false
set_option linter.all false
set_option maxRecDepth 100000
set_option maxHeartbeats 4000000
/-! K22: plain laws: evaluation, loops, draws -/
namespace KB
open PySem L2
@[simp] theorem kit_NoneType_str : kitB "NoneType" "str" = some false := by decide +kernel
@[simp] theorem kit_NoneType_int : kitB "NoneType" "int" = some false := by decide +kernel
@[simp] theorem kit_NoneType_tuple : kitB "NoneType" "tuple" = some false := by decide +kernel
@[simp] theorem kit_NoneType_list : kitB "NoneType" "list" = some false := by decide +kernel
@[simp] theorem kit_NoneType_dict : kitB "NoneType" "dict" = some false := by decide +kernel
@[simp] theorem kit_NoneType_bool : kitB "NoneType" "bool" = some false := by decide +kernel
@[simp] theorem kit_bool_str : kitB "bool" "str" = some false := by decide +kernel
@[simp] theorem kit_bool_int : kitB "bool" "int" = some true := by decide +kernel
@[simp] theorem kit_bool_tuple : kitB "bool" "tuple" = some false := by decide +kernel
@[simp] theorem kit_bool_list : kitB "bool" "list" = some false := by decide +kernel
@[simp] theorem kit_bool_dict : kitB "bool" "dict" = some false := by decide +kernel
@[simp] theorem kit_bool_bool : kitB "bool" "bool" = some true := by decide +kernel
@[simp] theorem kit_int_str : kitB "int" "str" = some false := by decide +kernel
@[simp] theorem kit_int_int : kitB "int" "int" = some true := by decide +kernel
@[simp] theorem kit_int_tuple : kitB "int" "tuple" = some false := by decide +kernel
@[simp] theorem kit_int_list : kitB "int" "list" = some false := by decide +kernel
@[simp] theorem kit_int_dict : kitB "int" "dict" = some false := by decide +kernel
@[simp] theorem kit_int_bool : kitB "int" "bool" = some false := by decide +kernel
@[simp] theorem kit_str_str : kitB "str" "str" = some true := by decide +kernel
@[simp] theorem kit_str_int : kitB "str" "int" = some false := by decide +kernel
@[simp] theorem kit_str_tuple : kitB "str" "tuple" = some false := by decide +kernel
@[simp] theorem kit_str_list : kitB "str" "list" = some false := by decide +kernel
@[simp] theorem kit_str_dict : kitB "str" "dict" = some false := by decide +kernel
@[simp] theorem kit_str_bool : kitB "str" "bool" = some false := by decide +kernel
@[simp] theorem kit_list_str : kitB "list" "str" = some false := by decide +kernel
@[simp] theorem kit_list_int : kitB "list" "int" = some false := by decide +kernel
@[simp] theorem kit_list_tuple : kitB "list" "tuple" = some false := by decide +kernel
@[simp] theorem kit_list_list : kitB "list" "list" = some true := by decide +kernel
@[simp] theorem kit_list_dict : kitB "list" "dict" = some false := by decide +kernel
@[simp] theorem kit_list_bool : kitB "list" "bool" = some false := by decide +kernel
@[simp] theorem kit_tuple_str : kitB "tuple" "str" = some false := by decide +kernel
@[simp] theorem kit_tuple_int : kitB "tuple" "int" = some false := by decide +kernel
@[simp] theorem kit_tuple_tuple : kitB "tuple" "tuple" = some true := by decide +kernel
@[simp] theorem kit_tuple_list : kitB "tuple" "list" = some false := by decide +kernel
@[simp] theorem kit_tuple_dict : kitB "tuple" "dict" = some false := by decide +kernel
@[simp] theorem kit_tuple_bool : kitB "tuple" "bool" = some false := by decide +kernel
@[simp] theorem kit_dict_str : kitB "dict" "str" = some false := by decide +kernel
@[simp] theorem kit_dict_int : kitB "dict" "int" = some false := by decide +kernel
@[simp] theorem kit_dict_tuple : kitB "dict" "tuple" = some false := by decide +kernel
@[simp] theorem kit_dict_list : kitB "dict" "list" = some false := by decide +kernel
@[simp] theorem kit_dict_dict : kitB "dict" "dict" = some true := by decide +kernel
@[simp] theorem kit_dict_bool : kitB "dict" "bool" = some false := by decide +kernel
section
variable {S : Type}
/-! ### loops -/
theorem forL_inv {h : Pt} {g : Env → S → RS S} (I : Nat → Env → S → Prop) : ∀ (items : List D) (k : Nat) (env : Env) (s : S),
    (∀ i x env s, items[i]? = some x → I (k + i) env s → ∃ env1, h x env = some env1 ∧ ∃ env' s', (g env1 s = .nx env' s' ∨ g env1 s = .ct env' s') ∧ I (k + i + 1) env' s') → I k env s →
    ∃ env' s', forL h g items env s = .nx env' s' ∧ I (k + items.length) env' s'
  | [], k, env, s, _, i0 => ⟨env, s, rfl, i0⟩
  | x :: xs, k, env, s, st, i0 => by
    obtain ⟨env1, e1, env2, s2, e2, i2⟩ := st 0 x env s rfl i0
    obtain ⟨env3, s3, e3, i3⟩ := forL_inv I xs (k + 1) env2 s2 (fun i y env s hi hI => by
      have := st (i + 1) y env s (by simpa using hi) (by rw [show k + (i + 1) = k + 1 + i by omega]; exact hI)
      rw [show k + (i + 1) + 1 = k + 1 + i + 1 by omega] at this
      exact this) i2
    refine ⟨env3, s3, ?_, by rw [List.length_cons, show k + (xs.length + 1) = k + 1 + xs.length by omega]; exact i3⟩
    unfold forL
    rcases e2 with e2 | e2
    · simp only [e1, e2]
      exact e3
    · simp only [e1, e2]
      exact e3
theorem sFor_inv {f : Env → S → R S (List D)} {h : Pt} {g : Env → S → RS S} {env : Env} {s s1 : S} {items : List D} (e : f env s = .ok items s1) (I : Nat → Env → S → Prop) (i0 : I 0 env s1)
    (st : ∀ i x env s, items[i]? = some x → I i env s → ∃ env1, h x env = some env1 ∧ ∃ env' s', (g env1 s = .nx env' s' ∨ g env1 s = .ct env' s') ∧ I (i + 1) env' s') : ∃ env' s', sFor f h g env s = .nx env' s' ∧ I items.length env' s' := by
  obtain ⟨env', s', e2, i2⟩ := forL_inv I items 0 env s1 (fun i x env s hi hI => by
    rw [Nat.zero_add] at hI ⊢
    exact st i x env s hi hI) i0
  rw [Nat.zero_add] at i2
  refine ⟨env', s', ?_, i2⟩
  unfold sFor
  rw [e]
  exact e2
/-- a comprehension whose parts leave the state -/
theorem compL_pure {h : Pt} {t : Env → S → R S Bool} {f : Env → S → R S D} {env : Env} {s : S} (p : D → Bool) (F : D → D) : ∀ (items : List D), (∀ x ∈ items, ∃ env1, h x env = some env1 ∧ t env1 s = .ok (p x) s ∧ (p x = true → f env1 s = .ok (F x) s)) →
    compL h t f env items s = .ok ((items.filter p).map F) s
  | [], _ => rfl
  | x :: xs, q => by
    obtain ⟨env1, e1, e2, e3⟩ := q x List.mem_cons_self
    have ih := compL_pure (h := h) (t := t) (f := f) (env := env) (s := s) p F xs fun y hy => q y (List.mem_cons_of_mem _ hy)
    unfold compL
    simp only [e1, e2, R.noX, R.bind]
    cases hp : p x with
    | true =>
      rw [if_pos rfl, e3 hp]
      simp only [R.noX, R.bind, ih, List.filter_cons, hp, if_true, List.map_cons]
    | false =>
      rw [if_neg Bool.false_ne_true, ih]
      simp only [List.filter_cons, hp]
      rfl
theorem fComp_pure {w : Env → S → R S (List D)} {h : Pt} {t : Env → S → R S Bool} {f : Env → S → R S D} {vs : List Nat} {env : Env} {s s1 : S} {items : List D} (p : D → Bool) (F : D → D) (e : w env s = .ok items s1) (hl : items.length ≤ 16777216)
    (q : ∀ x ∈ items, ∃ env1, h x (wipeE env vs) = some env1 ∧ t env1 s1 = .ok (p x) s1 ∧ (p x = true → f env1 s1 = .ok (F x) s1)) : fComp w h t f vs env s = .ok ((items.filter p).map F) s1 := by
  unfold fComp
  rw [e]
  show (if items.length ≤ 16777216 then compL h t f (wipeE env vs) items s1 else .bad) = _
  rw [if_pos hl]
  exact compL_pure p F items q
/-- a comprehension that draws -/
theorem compL_draw {h : Pt} {f : Env → S → R S D} {env : Env} (I : Nat → S → Prop) (P : D → Prop) : ∀ (items : List D) (k : Nat) (s : S), (∀ i x s, items[i]? = some x → I (k + i) s → ∃ env1, h x env = some env1 ∧ ∃ y s', f env1 s = .ok y s' ∧ P y ∧ I (k + i + 1) s') → I k s →
    ∃ ys s', compL h bYes f env items s = .ok ys s' ∧ ys.length = items.length ∧ (∀ y ∈ ys, P y) ∧ I (k + items.length) s'
  | [], k, s, _, i0 => ⟨[], s, rfl, rfl, (fun y hy => nomatch hy), i0⟩
  | x :: xs, k, s, q, i0 => by
    obtain ⟨env1, e1, y, s1, e2, py, i1⟩ := q 0 x s rfl i0
    obtain ⟨ys, s2, e3, hl, pys, i2⟩ := compL_draw I P xs (k + 1) s1 (fun i z s hi hI => by
      have := q (i + 1) z s (by simpa using hi) (by rw [show k + (i + 1) = k + 1 + i by omega]; exact hI)
      rw [show k + (i + 1) + 1 = k + 1 + i + 1 by omega] at this
      exact this) i1
    refine ⟨y :: ys, s2, ?_, by simp [hl], ?_, by rw [List.length_cons, show k + (xs.length + 1) = k + 1 + xs.length by omega]; exact i2⟩
    · unfold compL
      have e0 : bYes env1 s = .ok true s := rfl
      simp only [e1, e0, R.noX, R.bind, e2, if_true, e3]
    · intro z hz
      rcases List.mem_cons.mp hz with rfl | hz
      · exact py
      · exact pys z hz
theorem fComp_draw {w : Env → S → R S (List D)} {h : Pt} {f : Env → S → R S D} {vs : List Nat} {env : Env} {s s1 : S} {items : List D} (I : Nat → S → Prop) (P : D → Prop) (e : w env s = .ok items s1) (hl : items.length ≤ 16777216) (i0 : I 0 s1)
    (q : ∀ i x s, items[i]? = some x → I i s → ∃ env1, h x (wipeE env vs) = some env1 ∧ ∃ y s', f env1 s = .ok y s' ∧ P y ∧ I (i + 1) s') : ∃ ys s', fComp w h bYes f vs env s = .ok ys s' ∧ ys.length = items.length ∧ (∀ y ∈ ys, P y) ∧ I items.length s' := by
  obtain ⟨ys, s', e2, hl2, p, i2⟩ := compL_draw (h := h) (f := f) (env := wipeE env vs) I P items 0 s1 (fun i x s hi hI => by
    rw [Nat.zero_add] at hI ⊢
    exact q i x s hi hI) i0
  rw [Nat.zero_add] at i2
  refine ⟨ys, s', ?_, hl2, p, i2⟩
  unfold fComp
  rw [e]
  show (if items.length ≤ 16777216 then compL h bYes f (wipeE env vs) items s1 else .bad) = _
  rw [if_pos hl]
  exact e2
end
end KB
set_option Elab.async false
set_option linter.all false
set_option maxRecDepth 100000
set_option maxHeartbeats 4000000
/-! K23: plain laws: equality of data, the script's draws -/
namespace KB
open PySem L2
/-! ### data that == knows, of bounded depth -/
mutual
def D.fit : D → Nat → Bool
  | .non, _ => true
  | .bl _, _ => true
  | .int _, _ => true
  | .str l, _ => l.all fun c => decide (c < 0x110000)
  | .lst xs, n + 1 => D.fits xs n
  | .tup xs, n + 1 => D.fits xs n
  | _, _ => false
def D.fits : List D → Nat → Bool
  | [], _ => true
  | x :: xs, n => D.fit x n && D.fits xs n
end
theorem fits_all {xs : List D} {n : Nat} : D.fits xs n = true ↔ ∀ x ∈ xs, D.fit x n = true := by
  induction xs with
  | nil => simp [D.fits]
  | cons x xs ih => simp [D.fits, ih]
theorem strOk_of {l : List Nat} (h : (l.all fun c => decide (c < 0x110000)) = true) : PyData.strOk (sOf l) = true := by
  unfold PyData.strOk sOf
  rw [← Array.all_toList]
  exact h
mutual
theorem fit_ok : ∀ (d : D) (n : Nat), D.fit d n = true → d.isPy = true ∧ d.py.canLay0 = true ∧ d.py.depth ≤ n
  | .non, n, _ => ⟨rfl, by simp [D.py, PyData.canLay0], by simp [D.py, PyData.depth]⟩
  | .bl b, n, _ => ⟨rfl, by simp [D.py, PyData.canLay0], by simp [D.py, PyData.depth]⟩
  | .int i, n, _ => ⟨rfl, by simp [D.py, PyData.canLay0], by simp [D.py, PyData.depth]⟩
  | .str l, n, h => ⟨rfl, by
      have h' : (l.all fun c => decide (c < 0x110000)) = true := by simpa [D.fit] using h
      simp only [D.py, PyData.canLay0]
      exact strOk_of h', by simp [D.py, PyData.depth]⟩
  | .lst xs, n + 1, h => by
    obtain ⟨a, b, c⟩ := fits_ok xs n (by simpa [D.fit] using h)
    refine ⟨a, by simpa [D.py, PyData.canLay0] using b, ?_⟩
    simp only [D.py, PyData.depth]
    omega
  | .tup xs, n + 1, h => by
    obtain ⟨a, b, c⟩ := fits_ok xs n (by simpa [D.fit] using h)
    refine ⟨a, by simpa [D.py, PyData.canLay0] using b, ?_⟩
    simp only [D.py, PyData.depth]
    omega
  | .lst _, 0, h => by simp [D.fit] at h
  | .tup _, 0, h => by simp [D.fit] at h
  | .dct _, _, h => by simp [D.fit] at h
  | .dcT _, _, h => by simp [D.fit] at h
  | .dcF _, _, h => by simp [D.fit] at h
  | .ins _ _, _, h => by simp [D.fit] at h
  | .exc _ _ _, _, h => by simp [D.fit] at h
  | .hnd _, _, h => by simp [D.fit] at h
  | .ty _, _, h => by simp [D.fit] at h
  | .scr _, _, h => by simp [D.fit] at h
theorem fits_ok : ∀ (ds : List D) (n : Nat), D.fits ds n = true → D.arePy ds = true ∧ PyData.canLayAll0 (D.pys ds) = true ∧ PyData.depthAll (D.pys ds) ≤ n
  | [], n, _ => ⟨rfl, by simp [D.pys, PyData.canLayAll0], by simp [D.pys, PyData.depthAll]⟩
  | x :: xs, n, h => by
    simp only [D.fits, Bool.and_eq_true] at h
    obtain ⟨a, b, c⟩ := fit_ok x n h.1
    obtain ⟨a', b', c'⟩ := fits_ok xs n h.2
    refine ⟨?_, ?_, ?_⟩
    · show (x.isPy && D.arePy xs) = true
      rw [a, a']
      rfl
    · simp only [D.pys, PyData.canLayAll0, b, b', Bool.and_self]
    · simp only [D.pys, PyData.depthAll]
      omega
end
theorem fit_okE {d : D} {n : Nat} (h : D.fit d n = true) (hn : n ≤ 64) : d.okE = true := by
  obtain ⟨a, b, c⟩ := fit_ok d n h
  unfold D.okE SeqAt.shaped
  rw [a, b, decide_eq_true (Nat.le_trans c hn)]
  rfl
@[simp] theorem eqD_str (a b : List Nat) : eqD (.str a) (.str b) = some (.bl (a == b)) := Eq.trans rfl rfl
@[simp] theorem neD_str (a b : List Nat) : neD (.str a) (.str b) = some (.bl (!(a == b))) := Eq.trans rfl rfl
theorem okE_int (i : Int) : (D.int i).okE = true := fit_okE (n := 0) rfl (by decide)
@[simp] theorem eqD_int (i j : Int) : eqD (.int i) (.int j) = some (.bl (i == j)) := by
  show (if (D.int i).okE = true ∧ (D.int j).okE = true then some (D.bl (PyData.eqv (D.int i).py (D.int j).py)) else none) = _
  rw [if_pos ⟨okE_int i, okE_int j⟩]
  simp [D.py, PyData.eqv]
@[simp] theorem neD_int (i j : Int) : neD (.int i) (.int j) = some (.bl (!(i == j))) := by
  show (if (D.int i).okE = true ∧ (D.int j).okE = true then some (D.bl (!PyData.eqv (D.int i).py (D.int j).py)) else none) = _
  rw [if_pos ⟨okE_int i, okE_int j⟩]
  simp [D.py, PyData.eqv]
@[simp] theorem seq_nx {S : Type} {env : KB.Env} {s : S} {h : KB.Env → S → RS S} : (RS.nx env s).seq h = h env s := Eq.trans rfl rfl
@[simp] theorem seq_rt {S : Type} {r : RV} {s : S} {h : KB.Env → S → RS S} : (RS.rt r s).seq h = .rt r s := Eq.trans rfl rfl
@[simp] theorem seq_exc {S : Type} {e : Ex} {env : KB.Env} {s : S} {h : KB.Env → S → RS S} : (RS.exc e env s).seq h = .exc e env s := Eq.trans rfl rfl
@[simp] theorem seq_ct {S : Type} {env : KB.Env} {s : S} {h : KB.Env → S → RS S} : (RS.ct env s).seq h = .ct env s := Eq.trans rfl rfl
@[simp] theorem seq_bk {S : Type} {env : KB.Env} {s : S} {h : KB.Env → S → RS S} : (RS.bk env s).seq h = .bk env s := Eq.trans rfl rfl
theorem sSeq_eq {S : Type} {g h : KB.Env → S → RS S} {env : KB.Env} {s : S} : sSeq g h env s = (g env s).seq h := rfl
/-! ### the script's draws -/
/-- fit for draws; n: how many there were at most -/
structure LsOk (st : LS) (n : Nat) : Prop where
  len : st.left.length ≤ 63
  lo : 0 ≤ st.pl
  hi : st.pl ≤ n
/-- the constants of a law's draws -/
structure Dr where
  c0 : Int
  m1 : Int
  a1 : Int
  a2 : Int
  f1 : Int
  m2 : Int
  a3 : Int
  f2 : Int
  m3 : Int
  d3 : Int
structure Dr.Ok (c : Dr) : Prop where
  m1 : 0 < c.m1
  m2 : 0 < c.m2
  m3 : 0 < c.m3
  a1 : smallB c.a1 = true
  a2 : smallB c.a2 = true
  a3 : smallB c.a3 = true
  f1 : smallB c.f1 = true
  f2 : smallB c.f2 = true
  d3 : 0 < c.d3
  d3' : c.d3 < 1073741824
theorem drop_le (p : Int → Bool) : ∀ l : List Int, (l.dropWhile p).length ≤ l.length
  | [] => Nat.le_refl _
  | x :: l => by
    rw [List.dropWhile_cons]
    split
    · exact Nat.le_succ_of_le (drop_le p l)
    · exact Nat.le_refl _
theorem mulD_l {i j : Int} (h : smallB i = true) : mulD (.int i) (.int j) = some (.int (i * j)) := by
  show (if (smallB i || smallB j) = true then some (D.int (i * j)) else none) = _
  rw [h]
  rfl
theorem mulD_r {i j : Int} (h : smallB j = true) : mulD (.int i) (.int j) = some (.int (i * j)) := by
  show (if (smallB i || smallB j) = true then some (D.int (i * j)) else none) = _
  rw [h, Bool.or_true]
  rfl
theorem modD_ok {i j : Int} (h : 0 < j) : modD (.int i) (.int j) = some (.int (i % j)) := by
  show (if decide (0 < j) = true then some (D.int (i % j)) else none) = _
  rw [if_pos (decide_eq_true h)]
theorem fdivD_w {i j : Int} (h : 0 < j) (h2 : j.natAbs.log2 < 9000) : fdivD (.int i) (.int j) = some (.int (i / j)) := by
  show (if (decide (0 < j) && decide (j.natAbs.log2 < 9000)) = true then some (D.int (i / j)) else none) = _
  rw [decide_eq_true h, decide_eq_true h2]
  rfl
theorem log_w {j : Int} (h : 0 < j) (h2 : j < 2 ^ 200) : j.natAbs.log2 < 9000 := Nat.lt_of_lt_of_le ((Nat.log2_lt (k := 200) (by omega)).mpr (by omega)) (by decide)
theorem fdivD_ok {i j : Int} (h : 0 < j) (h2 : j < 1073741824) : fdivD (.int i) (.int j) = some (.int (i / j)) := fdivD_w h (log_w h (by omega))
@[simp] theorem addD_int (i j : Int) : addD (.int i) (.int j) = some (.int (i + j)) := Eq.trans rfl rfl
@[simp] theorem subD_int (i j : Int) : subD (.int i) (.int j) = some (.int (i - j)) := Eq.trans rfl rfl
@[simp] theorem intD_int (i : Int) : intD [.int i] = some (.int i) := Eq.trans rfl rfl
end KB
set_option Elab.async false
set_option linter.all false
set_option maxRecDepth 100000
set_option maxHeartbeats 4000000
/-! K24: plain laws: evaluation, repr, texts -/
namespace KB
open PySem L2
section
variable {S α β : Type}
@[simp] theorem bind_ok {a : α} {s : S} {f : α → S → R S β} : (R.ok a s).bind f = f a s := Eq.trans rfl rfl
@[simp] theorem bind_exc {e : Ex} {s : S} {f : α → S → R S β} : (R.exc e s : R S α).bind f = .exc e s := Eq.trans rfl rfl
@[simp] theorem bind_bad {f : α → S → R S β} : (R.bad : R S α).bind f = .bad := Eq.trans rfl rfl
@[simp] theorem toS_ok {a : α} {s : S} {env : KB.Env} {k : α → S → RS S} : (R.ok a s).toS env k = k a s := Eq.trans rfl rfl
@[simp] theorem toS_exc {e : Ex} {s : S} {env : KB.Env} {k : α → S → RS S} : (R.exc e s : R S α).toS env k = .exc e env s := Eq.trans rfl rfl
@[simp] theorem of_some {a : α} {s : S} : R.of (some a) s = .ok a s := Eq.trans rfl rfl
@[simp] theorem chk_ok {a : α} {s : S} {p : α → Bool} : (R.ok a s).chk p = if p a = true then .ok a s else .bad := Eq.trans rfl rfl
@[simp] theorem noX_ok {a : α} {s : S} : (R.ok a s).noX = .ok a s := Eq.trans rfl rfl
end
section
variable {S : Type} {env : KB.Env} {s : S} {f g h : KB.Env → S → R S D} {fs : KB.Env → S → R S (List D)} {t u : KB.Env → S → R S Bool} {p q : KB.Env → S → RS S} {i : Nat} {d : D}
@[simp] theorem ev_eC : eC d env s = .ok d s := Eq.trans rfl rfl
@[simp] theorem ev_eVar : eVar i env s = (match env[i]? with
  | some (.d x) => .ok x s
  | _ => .bad) := Eq.trans rfl rfl
@[simp] theorem ev_eOp2 {sem : D → D → Option D} : eOp2 sem f g env s = ((f env s).bind fun x s1 => (g env s1).bind fun y s2 => R.of (sem x y) s2) := Eq.trans rfl rfl
@[simp] theorem ev_eOp1 {sem : D → Option D} : eOp1 sem f env s = ((f env s).bind fun x s1 => R.of (sem x) s1) := Eq.trans rfl rfl
@[simp] theorem ev_aNil : aNil env s = .ok [] s := Eq.trans rfl rfl
@[simp] theorem ev_aCons : aCons f fs env s = ((f env s).bind fun x s1 => (fs env s1).bind fun xs s2 => .ok (x :: xs) s2) := Eq.trans rfl rfl
@[simp] theorem ev_eTup : eTup fs env s = ((fs env s).bind fun xs s1 => if xs.length ≤ 16777216 then .ok (.tup xs) s1 else .bad) := Eq.trans rfl rfl
@[simp] theorem ev_fLst : fLst fs env s = ((fs env s).bind fun xs s1 => if xs.length ≤ 16777216 then .ok xs s1 else .bad) := Eq.trans rfl rfl
@[simp] theorem ev_eFz : eFz fs env s = ((fs env s).bind fun xs s1 => .ok (.lst xs) s1) := Eq.trans rfl rfl
@[simp] theorem ev_eAnd : eAnd f g env s = ((f env s).bind fun x s1 => match x with
  | .bl true => g env s1
  | .bl false => .ok (.bl false) s1
  | _ => .bad) := Eq.trans rfl rfl
@[simp] theorem ev_eOr : eOr f g env s = ((f env s).bind fun x s1 => match x with
  | .bl true => .ok (.bl true) s1
  | .bl false => g env s1
  | _ => .bad) := Eq.trans rfl rfl
@[simp] theorem ev_eIf : eIf t f g env s = ((t env s).bind fun b s1 => if b = true then f env s1 else g env s1) := Eq.trans rfl rfl
@[simp] theorem ev_tTru : tTru f env s = ((f env s).bind fun x s1 => R.of (truD x) s1) := Eq.trans rfl rfl
@[simp] theorem ev_tBl : tBl f env s = ((f env s).bind fun x s1 => match x with
  | .bl b => .ok b s1
  | _ => .bad) := Eq.trans rfl rfl
@[simp] theorem ev_bAnd : bAnd t u env s = ((t env s).bind fun b s1 => if b = true then u env s1 else .ok false s1) := Eq.trans rfl rfl
@[simp] theorem ev_bOr : bOr t u env s = ((t env s).bind fun b s1 => if b = true then .ok true s1 else u env s1) := Eq.trans rfl rfl
@[simp] theorem ev_bNot : bNot t env s = ((t env s).bind fun b s1 => .ok (!b) s1) := Eq.trans rfl rfl
@[simp] theorem ev_eCl {sem : List D → Option D} : eCl sem fs env s = ((fs env s).bind fun xs s1 => R.of (sem xs) s1) := Eq.trans rfl rfl
@[simp] theorem ev_eCall {sem : List D → S → R S RV} : eCall sem fs env s = ((fs env s).bind fun ds s1 => (sem ds s1).bind fun r s2 => .ok r.toD s2) := Eq.trans rfl rfl
@[simp] theorem ev_fCall {sem : List D → S → R S RV} : fCall sem fs env s = ((fs env s).bind fun ds s1 => (sem ds s1).bind fun r s2 => match r with
  | .L xs => .ok xs s2
  | .d _ => .bad) := Eq.trans rfl rfl
@[simp] theorem ev_eJoin : eJoin f g env s = ((f env s).bind fun x s1 => match x with
  | .str sep => (g env s1).bind fun y s2 => R.of (joinD sep y) s2
  | _ => .bad) := Eq.trans rfl rfl
@[simp] theorem ev_fList : fList f env s = ((f env s).bind fun d s1 => match d with
  | .lst xs => .ok xs s1
  | .tup xs => .ok xs s1
  | .scr ns => .ok (ns.map .int) s1
  | _ => .bad) := Eq.trans rfl rfl
@[simp] theorem ev_iSq : iSq f env s = ((f env s).bind fun d s1 => R.of (seqD d) s1) := Eq.trans rfl rfl
@[simp] theorem ev_eBor : eBor i f env s = (match env[i]? with
  | some (.L xs) => (f (env.set i (.d (.lst xs))) s).chk D.noL
  | _ => .bad) := Eq.trans rfl rfl
@[simp] theorem ev_tBor : tBor i t env s = (match env[i]? with
  | some (.L xs) => (t (env.set i (.d (.lst xs))) s).chk fun _ => true
  | _ => .bad) := Eq.trans rfl rfl
@[simp] theorem ev_fBor : fBor i fs env s = (match env[i]? with
  | some (.L xs) => (fs (env.set i (.d (.lst xs))) s).chk D.noLs
  | _ => .bad) := Eq.trans rfl rfl
@[simp] theorem ev_sNil : sNil env s = .nx env s := Eq.trans rfl rfl
@[simp] theorem ev_sSeq : sSeq p q env s = (p env s).seq q := Eq.trans rfl rfl
@[simp] theorem ev_sDrop : sDrop f env s = (f env s).toS env fun _ s1 => .nx env s1 := Eq.trans rfl rfl
@[simp] theorem ev_sRet : sRet f env s = (f env s).toS env fun d s1 => .rt (.d d) s1 := Eq.trans rfl rfl
@[simp] theorem ev_sRetL : sRetL fs env s = (fs env s).toS env fun d s1 => .rt (.L d) s1 := Eq.trans rfl rfl
@[simp] theorem ev_sRetO : sRetO i env s = (match env[i]? with
  | some (.L xs) => .rt (.L xs) s
  | _ => .bad) := Eq.trans rfl rfl
@[simp] theorem ev_sIf : sIf t p q env s = (t env s).toS env fun b s1 => if b = true then p env s1 else q env s1 := Eq.trans rfl rfl
@[simp] theorem ev_sSet : sSet i f env s = (f env s).toS env fun d s1 => .nx (env.set i (.d d)) s1 := Eq.trans rfl rfl
@[simp] theorem ev_sSetL : sSetL i fs env s = (fs env s).toS env fun d s1 => .nx (env.set i (.L d)) s1 := Eq.trans rfl rfl
@[simp] theorem ev_sApp : sApp i f env s = (match env[i]? with
  | some (.L xs) => (f env s).toS env fun d s1 => if xs.length < 16777216 then .nx (env.set i (.L (xs ++ [d]))) s1 else .bad
  | _ => .bad) := Eq.trans rfl rfl
@[simp] theorem ev_sRaise {nm par : Str} : sRaise nm par f env s = (f env s).toS env fun d s1 => .exc ⟨nm, par, d⟩ env s1 := Eq.trans rfl rfl
@[simp] theorem ev_sPar {is : List Nat} {z : KB.Env → S → R S (List Sl)} : sPar is z env s = (z env s).toS env fun sls s1 => if sls.length = is.length then .nx (setE env is sls) s1 else .bad := Eq.trans rfl rfl
@[simp] theorem ev_zNil : zNil env s = .ok [] s := Eq.trans rfl rfl
@[simp] theorem ev_zD {z : KB.Env → S → R S (List Sl)} : zD f z env s = ((f env s).bind fun x s1 => (z env s1).bind fun r s2 => .ok (.d x :: r) s2) := Eq.trans rfl rfl
@[simp] theorem ev_zL {z : KB.Env → S → R S (List Sl)} : zL fs z env s = ((fs env s).bind fun x s1 => (z env s1).bind fun r s2 => .ok (.L x :: r) s2) := Eq.trans rfl rfl
theorem iR1_eq {n : Int} (e : fs env s = .ok [.int n] s) (h : -(2 ^ 62) ≤ n) (h2 : n < 2 ^ 62) : iR1 fs env s = .ok (rng 0 n.toNat) s := by
  unfold iR1
  rw [e]
  show (if -(2 ^ 62) ≤ n ∧ n < 2 ^ 62 then R.ok (rng 0 n.toNat) s else .bad) = _
  rw [if_pos ⟨h, h2⟩]
end
@[simp] theorem rng_len (lo : Int) (n : Nat) : (rng lo n).length = n := by simp [rng]
theorem rng_get {lo : Int} {n i : Nat} {x : D} (h : (rng lo n)[i]? = some x) : i < n ∧ x = .int (lo + i) := by
  unfold rng at h
  rw [List.getElem?_map] at h
  have hi : i < n := by
    rcases Nat.lt_or_ge i n with z | z
    · exact z
    · rw [List.getElem?_eq_none (by simpa using z)] at h
      cases h
  rw [List.getElem?_range hi] at h
  exact ⟨hi, (Option.some.inj h).symm⟩
/-! ### lists of one kind -/
theorem blsD_map (bs : List Bool) : blsD (bs.map D.bl) = some bs := by
  induction bs with
  | nil => rfl
  | cons b bs ih =>
    show (blsD (bs.map D.bl)).map (b :: ·) = _
    rw [ih]
    rfl
theorem strsD_map (ls : List (List Nat)) : strsD (ls.map D.str) = some ls := by
  induction ls with
  | nil => rfl
  | cons b bs ih =>
    show (strsD (bs.map D.str)).map (b :: ·) = _
    rw [ih]
    rfl
theorem joinL_nil : ∀ ls : List (List Nat), joinL [] ls = ls.flatten
  | [] => rfl
  | [x] => by simp [joinL]
  | x :: y :: r => by
    have := joinL_nil (y :: r)
    simp [joinL, this]
theorem joinD_l (sep : List Nat) (ls : List (List Nat)) (h : (ls.map (·.length)).sum + ls.length * sep.length ≤ 16777216) : joinD sep (.lst (ls.map .str)) = some (.str (joinL sep ls)) := by
  simp only [joinD, strsD_map, Option.bind_some, if_pos h]
/-! ### repr -/
theorem sum_bound {α : Type} (f : α → Nat) (b : Nat) : ∀ l : List α, (∀ x ∈ l, f x ≤ b) → (l.map f).sum ≤ l.length * b
  | [], _ => by simp
  | x :: l, h => by
    have h1 := h x List.mem_cons_self
    have h2 := sum_bound f b l fun y hy => h y (List.mem_cons_of_mem _ hy)
    rw [List.map_cons, List.sum_cons, List.length_cons, Nat.succ_mul]
    omega
@[simp] theorem on1_eq {f : D → Option D} {d : D} : on1 f [d] = f d := Eq.trans rfl rfl
@[simp] theorem on2_eq {f : D → D → Option D} {d e : D} : on2 f [d, e] = f d e := Eq.trans rfl rfl
@[simp] theorem truD_bl {b : Bool} : truD (.bl b) = some b := Eq.trans rfl rfl
@[simp] theorem isiD2_eq {n : String} {d : D} : isiD2 n d = (tyD d).bind fun t => (kitB t n).map D.bl := Eq.trans rfl rfl
@[simp] theorem tyD_non : tyD .non = some "NoneType" := Eq.trans rfl rfl
@[simp] theorem tyD_bl {b : Bool} : tyD (.bl b) = some "bool" := Eq.trans rfl rfl
@[simp] theorem tyD_int {i : Int} : tyD (.int i) = some "int" := Eq.trans rfl rfl
@[simp] theorem tyD_str {l : List Nat} : tyD (.str l) = some "str" := Eq.trans rfl rfl
@[simp] theorem tyD_lst {l : List D} : tyD (.lst l) = some "list" := Eq.trans rfl rfl
@[simp] theorem tyD_tup {l : List D} : tyD (.tup l) = some "tuple" := Eq.trans rfl rfl
@[simp] theorem tyD_dct {l : List (Key × D)} : tyD (.dct l) = some "dict" := Eq.trans rfl rfl
@[simp] theorem tupleD1_l {l : List D} : tupleD1 (.lst l) = some (.tup l) := Eq.trans rfl rfl
@[simp] theorem tupleD1_t {l : List D} : tupleD1 (.tup l) = some (.tup l) := Eq.trans rfl rfl
@[simp] theorem toD_d {d : D} : (RV.d d).toD = d := Eq.trans rfl rfl
@[simp] theorem toD_L {d : List D} : (RV.L d).toD = .lst d := Eq.trans rfl rfl
@[simp] theorem seqD_l {l : List D} : seqD (.lst l) = some l := Eq.trans rfl rfl
@[simp] theorem seqD_t {l : List D} : seqD (.tup l) = some l := Eq.trans rfl rfl
@[simp] theorem seqD_s {l : List Nat} : seqD (.str l) = some (l.map fun c => .str [c]) := Eq.trans rfl rfl
@[simp] theorem lenD1_l {l : List D} : lenD1 (.lst l) = some (.int l.length) := Eq.trans rfl rfl
@[simp] theorem lenD1_t {l : List D} : lenD1 (.tup l) = some (.int l.length) := Eq.trans rfl rfl
@[simp] theorem lenD1_c {l : List Int} : lenD1 (.scr l) = some (.int l.length) := Eq.trans rfl rfl
@[simp] theorem minD2_eq {i j : Int} : minD2 (.int i) (.int j) = some (.int (if j < i then j else i)) := Eq.trans rfl rfl
@[simp] theorem maxD2_eq {i j : Int} : maxD2 (.int i) (.int j) = some (.int (if j > i then j else i)) := Eq.trans rfl rfl
@[simp] theorem allD1_map {α : Type} {xs : List α} {p : α → Bool} : allD1 (.lst (xs.map fun x => .bl (p x))) = some (.bl (xs.all p)) := by
  have q : (xs.map fun x => D.bl (p x)) = (xs.map p).map D.bl := by simp
  unfold allD1
  rw [q]
  show (blsD _).map _ = _
  rw [blsD_map]
  simp
@[simp] theorem anyD1_map {α : Type} {xs : List α} {p : α → Bool} : anyD1 (.lst (xs.map fun x => .bl (p x))) = some (.bl (xs.any p)) := by
  have q : (xs.map fun x => D.bl (p x)) = (xs.map p).map D.bl := by simp
  unfold anyD1
  rw [q]
  show (blsD _).map _ = _
  rw [blsD_map]
  simp
@[simp] theorem defR_rt {S : Type} {r : RV} {s : S} : defR (RS.rt r s) = .ok r s := Eq.trans rfl rfl
@[simp] theorem defR_nx {S : Type} {env : KB.Env} {s : S} : defR (RS.nx env s) = .ok (.d .non) s := Eq.trans rfl rfl
@[simp] theorem defR_exc {S : Type} {e : Ex} {env : KB.Env} {s : S} : defR (RS.exc e env s) = .exc e s := Eq.trans rfl rfl
theorem atI_nn {α : Type} {xs : List α} {i : Int} (h0 : 0 ≤ i) (h1 : i < xs.length) : atI xs i = xs[i.toNat]? := by
  unfold atI ixN
  rw [if_pos h0, if_pos h1]
  rfl
theorem ixD_s {l : List Nat} {i : Int} (hl : l.length ≤ 16777216) (h0 : 0 ≤ i) (h1 : i < l.length) : ∃ c, l[i.toNat]? = some c ∧ ixD (.str l) (.int i) = some (.str [c]) := by
  have hi : i.toNat < l.length := by omega
  refine ⟨l[i.toNat], by simp [hi], ?_⟩
  show (if l.length ≤ 16777216 then (atI l i).map fun c => D.str [c] else none) = _
  rw [if_pos hl, atI_nn h0 h1]
  simp [hi]
theorem LsOk.mono {st : LS} {n m : Nat} (h : LsOk st n) (hm : n ≤ m) : LsOk st m := ⟨h.len, h.lo, Int.le_trans h.hi (by omega)⟩
theorem flat1 : ∀ l : List Nat, (l.map fun c => [c]).flatten = l
  | [] => rfl
  | c :: l => by simp [flat1 l]
theorem join_signs {l : List Nat} (h : l.length ≤ 16777216) : joinD [] (.lst (l.map fun c => D.str [c])) = some (.str l) := by
  have e : (l.map fun c => D.str [c]) = (l.map fun c => [c]).map D.str := by simp
  have hs : (((l.map fun c => [c]).map (·.length)).sum + (l.map fun c => [c]).length * ([] : List Nat).length) ≤ 16777216 := by
    have := sum_bound (fun x : List Nat => x.length) 1 (l.map fun c => [c]) (by simp)
    simp at this ⊢
    omega
  rw [e, joinD_l [] _ hs, joinL_nil, flat1]
theorem signs_of {ys : List D} {P : Nat → Prop} (h : ∀ y ∈ ys, ∃ c, y = D.str [c] ∧ P c) : ∃ l : List Nat, ys = (l.map fun c => D.str [c]) ∧ ∀ c ∈ l, P c := by
  induction ys with
  | nil => exact ⟨[], rfl, by simp⟩
  | cons y ys ih =>
    obtain ⟨c, rfl, pc⟩ := h y List.mem_cons_self
    obtain ⟨l, rfl, pl⟩ := ih fun z hz => h z (List.mem_cons_of_mem _ hz)
    refine ⟨c :: l, rfl, fun d hd => ?_⟩
    rcases List.mem_cons.mp hd with rfl | hd
    · exact pc
    · exact pl d hd
end KB
set_option Elab.async false
set_option linter.all false
set_option maxRecDepth 100000
set_option maxHeartbeats 4000000
/-! K25: constants of a module, in, is None, chains as tests -/
namespace KB
open PySem PySem.Spec PyProof.Rows L2
def inD (x y : D) : Option D := match y with
  | .str l => match x with
    | .str [c] => some (.bl (decide (c ∈ l)))
    | _ => none
  | .lst ys => if x.okE = true ∧ (D.lst ys).okE = true then some (.bl ((D.pys ys).any fun z => PyData.eqv z x.py)) else none
  | .tup ys => if x.okE = true ∧ (D.tup ys).okE = true then some (.bl ((D.pys ys).any fun z => PyData.eqv z x.py)) else none
  | _ => none
def nb : D → Option D
  | .bl b => some (.bl (!b))
  | _ => none
def ninD (x y : D) : Option D := (inD x y).bind nb
/-- x in a list or a tuple of data -/
def rInAny (K : PySem.W.Frag) (neg : Bool) : R2 := fun x y H Q => ∃ d ds, Dp K H x d ∧ (Dp K H y (.list ds) ∨ Dp K H y (.tuple ds)) ∧ SeqAt.shaped d = true ∧ SeqAt.shaped (.list ds) = true ∧ Q (.bl (if neg then !(ds.any fun z => PyData.eqv z d) else ds.any fun z => PyData.eqv z d)) H
section
variable {X : Cx} {T : Ctx}
theorem shaped_tl {ds : List PyData} : SeqAt.shaped (.tuple ds) = SeqAt.shaped (.list ds) := by
  simp [SeqAt.shaped, PyData.canLay0, PyData.depth]
theorem room_any {d : PyData} {ds : List PyData} {A : Around} (h1 : SeqAt.shaped d = true) (hu : A.units + 65 < cLine) : A.units + 1 + min (PyData.depthAll ds) d.depth < cLine := by
  have := SeqAt.depth_of_shaped h1
  omega
theorem op_inAny (hu : X.A.units + 65 < cLine) : OpR X (compareOp .In) (rInAny X.K false) := by
  intro pins s σ H x y v u Q I rx ry ⟨d, ds, hd, he, sd, se, q⟩
  obtain ⟨as, r1⟩ := Dp.reads I d x v hd rx
  have hxs : PyData.canLayAll0 ds = true := by simpa only [PyData.canLay0] using SeqAt.canLay_of_shaped se
  rcases he with he | he
  · obtain ⟨bs, r2⟩ := Dp.reads I _ y u he ry
    exact SeqAt.in_list_reads r2 r1 hxs (SeqAt.canLay_of_shaped sd) (room_any sd hu) ⟨.bl _, H, I, rfl, q⟩
  · obtain ⟨bs, r2⟩ := Dp.reads I _ y u he ry
    exact SeqAt.in_tuple_reads r2 r1 hxs (SeqAt.canLay_of_shaped sd) (room_any sd hu) ⟨.bl _, H, I, rfl, q⟩
theorem op_ninAny (hu : X.A.units + 65 < cLine) : OpR X (compareOp .NotIn) (rInAny X.K true) := by
  intro pins s σ H x y v u Q I rx ry ⟨d, ds, hd, he, sd, se, q⟩
  obtain ⟨as, r1⟩ := Dp.reads I d x v hd rx
  have hxs : PyData.canLayAll0 ds = true := by simpa only [PyData.canLay0] using SeqAt.canLay_of_shaped se
  rcases he with he | he
  · obtain ⟨bs, r2⟩ := Dp.reads I _ y u he ry
    exact SeqAt.notIn_list_reads r2 r1 hxs (SeqAt.canLay_of_shaped sd) (room_any sd hu) ⟨.bl _, H, I, rfl, q⟩
  · obtain ⟨bs, r2⟩ := Dp.reads I _ y u he ry
    exact SeqAt.notIn_tuple_reads r2 r1 hxs (SeqAt.canLay_of_shaped sd) (room_any sd hu) ⟨.bl _, H, I, rfl, q⟩
theorem in_data {c : Cf} {H : Hp} (ok : CfOk c H) {x y z : D} {u v : V} {Q : VK} (neg : Bool) (rx : Rep T c x u) (ry : Rep T c y v) (e : (inD x y).bind (fun b => if neg then nb b else some b) = some z) (hy : ∀ l, y ≠ .str l)
    (k : ∀ w c' H', Stp c H c' H' → c'.m = c.m → c'.F = c.F → Rep T c' z w → Q w H') : rInAny T.K neg u v H Q := by
  cases ry with
  | str l => exact (hy l rfl).elim
  | @lst a vs ys h r =>
    have e' : (if x.okE = true ∧ (D.lst ys).okE = true then some (D.bl ((D.pys ys).any fun z => PyData.eqv z x.py)) else none).bind (fun b => if neg then nb b else some b) = some z := e
    split at e'
    · rename_i hh
      refine ⟨x.py, D.pys ys, rx.dp ok.gh (okE_py hh.1).1, .inl ((Rep.lst h r).dp ok.gh (okE_py hh.2).1), (okE_py hh.1).2, (okE_py hh.2).2, ?_⟩
      cases neg with
      | true =>
        cases e'
        exact stay ok (.bl _) k
      | false =>
        cases e'
        exact stay ok (.bl _) k
    · cases e'
  | @tup a vs ys h r =>
    have e' : (if x.okE = true ∧ (D.tup ys).okE = true then some (D.bl ((D.pys ys).any fun z => PyData.eqv z x.py)) else none).bind (fun b => if neg then nb b else some b) = some z := e
    split at e'
    · rename_i hh
      refine ⟨x.py, D.pys ys, rx.dp ok.gh (okE_py hh.1).1, .inr ((Rep.tup h r).dp ok.gh (okE_py hh.2).1), (okE_py hh.1).2, shaped_tl ▸ (okE_py hh.2).2, ?_⟩
      cases neg with
      | true =>
        cases e'
        exact stay ok (.bl _) k
      | false =>
        cases e'
        exact stay ok (.bl _) k
    · cases e'
  | _ => cases e
theorem op_inD' (hK : X.K = T.K) (hu2 : X.A.units + 65 < cLine) : ∃ r, OpR X (compareOp .In) r ∧ Sem2 T r inD := by
  refine ⟨_, op_in_sign.or (op_inAny hu2), fun c H x y z u v Q ok rx ry e k => ?_⟩
  rw [hK]
  cases y with
  | str l =>
    cases ry
    match x, rx, e with
    | .str [a], .str _, e =>
      cases e
      exact .inl ⟨a, sOf l, rfl, rfl, stay ok (.bl _) k⟩
  | _ => exact .inr (in_data ok false rx ry (by rw [e]; rfl) (fun l q => nomatch q) k)
theorem op_ninD' (hK : X.K = T.K) (hu2 : X.A.units + 65 < cLine) : ∃ r, OpR X (compareOp .NotIn) r ∧ Sem2 T r ninD := by
  refine ⟨_, op_notIn_sign.or (op_ninAny hu2), fun c H x y z u v Q ok rx ry e k => ?_⟩
  rw [hK]
  cases y with
  | str l =>
    cases ry
    match x, rx, e with
    | .str [a], .str _, e =>
      cases e
      exact .inl ⟨a, sOf l, rfl, rfl, stay ok (.bl _) k⟩
  | _ => exact .inr (in_data ok true rx ry e (fun l q => nomatch q) k)
theorem u65 {k : Nat} {A : Around} (hr : Room k A) : A.units + 65 < cLine := by
  have := hr.un
  omega
/-! ### is None -/
def isD (x y : D) : Option D := match y with
  | .non => isNonD x
  | _ => none
def nisD (x y : D) : Option D := match y with
  | .non => notNonD x
  | _ => none
theorem op_isD : ∃ r, OpR X (compareOp .Is) r ∧ Sem2 T r isD := by
  refine ⟨_, op_isN, fun c H x y z u v Q ok rx ry e k => ?_⟩
  cases ry <;> try (cases e; done)
  refine ⟨rfl, ?_⟩
  cases rx <;> (cases e; exact stay ok (.bl _) k)
theorem op_nisD : ∃ r, OpR X (compareOp .IsNot) r ∧ Sem2 T r nisD := by
  refine ⟨_, op_notN, fun c H x y z u v Q ok rx ry e k => ?_⟩
  cases ry <;> try (cases e; done)
  refine ⟨rfl, ?_⟩
  cases rx <;> (cases e; exact stay ok (.bl _) k)
end
/-! ### constants of a module -/
section
variable {T : Ctx} {S : Type} {SR : SRel S} {W : WX} {X : Cx} {pos : Pos}
theorem de_cint {x : Str} {i : Int} (hm : ∃ t, X.mg x = some (.int i t)) (hg : Gl X x := by rfl) (hdb : (x == ("__debug__" : Str)) = false := by decide) : DE T SR W X (.Name x pos) (eC (.int i)) := by
  obtain ⟨t, hm⟩ := hm
  exact de_glob hg hm (v := .int i) ⟨t, rfl⟩ (fun c => .int i) hdb
theorem de_cstr {x : Str} {l : List Nat} (hm : ∃ t, X.mg x = some (.str (sOf l) t)) (hg : Gl X x := by rfl) (hdb : (x == ("__debug__" : Str)) = false := by decide) : DE T SR W X (.Name x pos) (eC (.str l)) := by
  obtain ⟨t, hm⟩ := hm
  exact de_glob hg hm (v := .str (sOf l)) ⟨t, rfl⟩ (fun c => .str l) hdb
end
/-! ### a < b < c as a test -/
section
variable {T : Ctx} {S : Type} {SR : SRel S} {W : WX} {X : Cx} {a b c : Expr} {f g h : KB.Env → S → R S D} {pos : Pos}
theorem dt_chain {op op' : CmpOp} {sem sem' : D → D → Option D} (ho : ∃ r, OpR X (compareOp op) r ∧ Sem2 T r sem) (ho' : ∃ r, OpR X (compareOp op') r ∧ Sem2 T r sem') (ha : DE T SR W X a f) (hb : DE T SR W X b g) (hc : DE T SR W X c h)
    (hm : lastMarks [op, op'] [b, c] = false := by with_unfolding_all rfl) : DT T SR W X (.Compare a [op, op'] [b, c] pos) (tBl (eChain sem sem' f g h)) := by
  obtain ⟨r, hr, hs⟩ := ho
  obtain ⟨r', hr', hs'⟩ := ho'
  refine PT.imp (pt_chain hr hr' ha hb hc hm) fun σ H Q ⟨c, env, s, x, p⟩ => ?_
  have p' : Po T SR W (wT Q) c H σ ((f env s).bind fun x s1 => (g env s1).bind fun y s2 => (R.of (sem x y) s2).bind fun b s3 => match b with
    | .bl true => (h env s3).bind fun z s4 => (R.of (sem' y z) s4).bind fun b s5 => match b with
      | .bl b => .ok b s5
      | _ => .bad
    | .bl false => .ok false s3
    | _ => .bad) := by
    have e : tBl (eChain sem sem' f g h) env s = ((f env s).bind fun x s1 => (g env s1).bind fun y s2 => (R.of (sem x y) s2).bind fun b s3 => match b with
    | .bl true => (h env s3).bind fun z s4 => (R.of (sem' y z) s4).bind fun b s5 => match b with
      | .bl b => .ok b s5
      | _ => .bad
    | .bl false => .ok false s3
    | _ => .bad) := by
      unfold tBl eChain
      cases f env s with
      | bad => rfl
      | exc e s1 => rfl
      | ok d s1 =>
        simp only [R.bind]
        cases g env s1 with
        | bad => rfl
        | exc e s2 => rfl
        | ok e s2 =>
          simp only [R.bind]
          cases sem d e with
          | none => rfl
          | some z =>
            simp only [R.of]
            cases z with
            | bl k =>
              cases k with
              | false => rfl
              | true =>
                simp only []
                cases h env s2 <;> rfl
            | _ => rfl
    rw [← e]
    exact p
  refine Po.run x p' fun d s1 v c1 H1 st1 x1 r1 p1 => ?_
  refine Po.run x1 p1 fun e s2 w c2 H2 st2 x2 r2 p2 => ?_
  cases hz : sem d e with
  | none =>
    rw [hz] at p2
    exact p2.elim
  | some z =>
    rw [hz] at p2
    refine hs c2 H2 d e z v w _ x2.ok (r1.mono st2.gx) r2 hz fun z' c3 H3 st3 hm hf r3 => ?_
    have x3 : At T SR σ H3 c3 env s2 := x2.step st3 (SR.mono x2.sr st3.gx hf hm)
    have p3 := Po.step (P := wT Q) (P' := wT Q) p2 st3 fun _ _ _ q => q
    cases r3 <;> try (exact p3.elim)
    rename_i k
    refine ⟨k, rfl, ?_⟩
    cases k with
    | true =>
      refine Po.run x3 p3 fun e4 s4 w4 c4 H4 st4 x4 r4 p4 => ?_
      cases hz' : sem' e e4 with
      | none =>
        rw [hz'] at p4
        exact p4.elim
      | some z4 =>
        rw [hz'] at p4
        refine hs' c4 H4 e e4 z4 w w4 _ x4.ok (r2.mono (st3.gx.trans st4.gx)) r4 hz' fun z5 c5 H5 st5 hm5 hf5 r5 => ?_
        have x5 : At T SR σ H5 c5 env s4 := x4.step st5 (SR.mono x4.sr st5.gx hf5 hm5)
        have p5 := Po.step (P := wT Q) (P' := wT Q) p4 st5 fun _ _ _ q => q
        cases r5 <;> try (exact p5.elim)
        rename_i k5
        exact ⟨k5, rfl, p5.done x5.ok x5.sr⟩
    | false => exact ⟨false, rfl, p3.done x3.ok x3.sr⟩
end
end KB
set_option Elab.async false
set_option linter.all false
set_option maxRecDepth 100000
set_option maxHeartbeats 4000000
/-! K26: ranges with a step -/
namespace KB
open PySem PySem.Spec PyProof.Rows L2
def rngC (lo c : Int) (n : Nat) : List D := (List.range n).map fun i => .int (lo + (i : Nat) * c)
def szC (i j c : Int) : Nat := (Builtin.Range.rangeSize i j c).toNat
def rg3B (i j c : Int) : Bool := !decide (c = 0) && decide (c.natAbs < 1073741824) && Builtin.Range.small i j c && decide (0 ≤ Builtin.Range.rangeSize i j c) && decide (szC i j c ≤ 2 ^ 24)
theorem rg3_ok {i j c : Int} (h : rg3B i j c = true) : RgC i j c (szC i j c) ∧ szC i j c ≤ 2 ^ 24 := by
  unfold rg3B at h
  simp only [Bool.and_eq_true, decide_eq_true_eq, Bool.not_eq_true', decide_eq_false_iff_not] at h
  exact ⟨⟨h.1.1.1.1, h.1.1.1.2, h.1.1.2, (Int.toNat_of_nonneg h.1.2).symm⟩, h.2⟩
section
variable {X : Cx} {T : Ctx}
def tLstC (ta : TA) : TE := fun σ H Q => ta σ H fun vs H1 => ∃ (i j c : Int) (n : Nat), vs = [.int i, .int j, .int c] ∧ RgC i j c n ∧ n ≤ 2 ^ 24 ∧ ∀ q, H1 q = none → Q (.ref q) (upd H1 q (.lst ((List.range n).map fun k => V.int (i + (k : Nat) * c))))
/-- list(range(a, b, c)) -/
theorem pe_listC {a b c : Expr} {ta : TA} {p pos p2 pos2 : Pos} (hc : X.calm = true) (hgl : Gl X "list") (hml : X.mg "list" = none) (hg : Gl X "range") (hm : X.mg "range" = none) (ha : PA X [a, b, c] ta)
    (hs : starEach [a, b, c] X.env = (false, eval a X.env) :: starEach [b, c] X.env := by rfl) (hpl : (backTo pos (starEach [b, c] X.env)).any (·.1) = false := by rfl)
    (na : starEach [.Call (.Name "range" p) [a, b, c] [] pos] X.env = (false, eval (.Call (.Name "range" p) [a, b, c] [] pos) X.env) :: starEach [] X.env := by rfl) :
    PE X (.Call (.Name "list" p2) [.Call (.Name "range" p) [a, b, c] [] pos] [] pos2) (tLstC ta) := by
  constructor
  intro pins s σ H Q I h
  refine Call_ (ld_blt I hgl hml bt_list (PyProof.Rows.callWith_type1 (args_cons ?_ na) na))
  refine Call_ (ld_blt I hg hm boot_range (PyProof.Rows.callWith_type1 (thn (ha.run pos pins s σ H _ I h) fun us s1 ⟨vs, H1, I1, r1, i, j, k, n, e, ⟨c0, c1, c2, c3⟩, hn, q⟩ => ?_) hs hpl))
  subst e
  obtain ⟨u1, us1, rfl, r, rr⟩ : ∃ u1 us1, us = u1 :: us1 ∧ RelV (.int i) u1 ∧ Vals [.int j, .int k] us1 := by
    cases r1 with
    | cons r rr => exact ⟨_, _, rfl, r, rr⟩
  obtain ⟨u2, u3, rfl, r', r''⟩ := vals2 rr
  obtain ⟨t, rfl⟩ := r
  obtain ⟨t', rfl⟩ := r'
  obtain ⟨t'', rfl⟩ := r''
  refine call_range_3 c0 ?_ (.inl (PyProof.noPylong_small c1))
  refine args_nil ?_
  have I2 : Inv X pins σ H1 { s1 with heap := s1.heap.push { cls := .type "range", data := .fields #[.int i t, .int j t', .int k t''] } } := I1.kept (t' := s1.toks) fun b o e => Heap.get?_push_of_some _ e
  refine call_list_range (n := n) (I2.ok.hd hc) (IsRange.new ..) c2 c3 hn fun h' tk acc c' hk e' hi => ?_
  have rel : Vals ((List.range n).map fun m => V.int (i + (m : Nat) * k)) acc.toList := by
    have e : acc.toList.length = n := by rw [Array.length_toList]; exact hi.1
    rw [← e]
    refine vals_of_get acc.toList _ fun m u hm' => ?_
    obtain ⟨tt, rfl⟩ := hi.2 m u (by rw [← hm', Array.getElem?_toList])
    exact ⟨tt, rfl⟩
  refine ⟨.ref _, _, I2.laid hk (Nat.le_refl _) (show ObjOk X.prog X.w _ _ _ (.lst ((List.range n).map fun m => V.int (i + (m : Nat) * k))) from ⟨?_, acc.toList, c', rel, ?_⟩), rfl, q _ (I2.hok.fresh (Nat.le_refl _))⟩
  · rw [List.length_map, List.length_range, sizeLine_eq]
    exact hn
  · rw [Array.toArray_toList]
    exact e'
theorem rngC_rep {c : Cf} (lo k : Int) (n : Nat) : Reps T c (rngC lo k n) ((List.range n).map fun m => V.int (lo + (m : Nat) * k)) := by
  unfold rngC
  have : ∀ l : List Nat, Reps T c (l.map fun m => D.int (lo + (m : Nat) * k)) (l.map fun m => V.int (lo + (m : Nat) * k)) := by
    intro l
    induction l with
    | nil => exact .nil
    | cons i l ih => exact .cons (.int _) ih
  exact this _
end
section
variable {T : Ctx} {S : Type} {SR : SRel S} {W : WX} {X : Cx} {tg a b c : Expr} {fs : KB.Env → S → R S (List D)} {p pos p2 pos2 : Pos}
def fListC (fs : KB.Env → S → R S (List D)) : KB.Env → S → R S (List D) := fun env s => (fs env s).bind fun xs s1 => match xs with
  | [.int i, .int j, .int c] => if rg3B i j c = true then .ok (rngC i c (szC i j c)) s1 else .bad
  | _ => .bad
theorem three {c : Cf} {x y z : D} {vs : List V} (r : Reps T c [x, y, z] vs) : ∃ u v w, vs = [u, v, w] ∧ Rep T c x u ∧ Rep T c y v ∧ Rep T c z w := by
  cases r with
  | cons r t =>
    obtain ⟨v, w, rfl, q, q'⟩ := t.two
    exact ⟨_, _, _, rfl, r, q, q'⟩
theorem df_listC (hc : X.calm = true) (hgl : Gl X "list") (hml : X.mg "list" = none) (hg : Gl X "range") (hm : X.mg "range" = none) (ha : DA T SR W X [a, b, c] fs)
    (hs : starEach [a, b, c] X.env = (false, eval a X.env) :: starEach [b, c] X.env := by rfl) (hpl : (backTo pos (starEach [b, c] X.env)).any (·.1) = false := by rfl)
    (na : starEach [.Call (.Name "range" p) [a, b, c] [] pos] X.env = (false, eval (.Call (.Name "range" p) [a, b, c] [] pos) X.env) :: starEach [] X.env := by rfl) :
    DF T SR W X (.Call (.Name "list" p2) [.Call (.Name "range" p) [a, b, c] [] pos] [] pos2) (fListC fs) := by
  refine PE.imp (pe_listC hc hgl hml hg hm ha hs hpl na) fun σ H Q ⟨c, env, s, x, po⟩ => ?_
  refine Po.runA x po fun ds s1 vs c1 H1 st1 x1 r1 p1 => ?_
  split at p1
  · rename_i i j k
    obtain ⟨u, v, w, rfl, r, r', r''⟩ := three r1
    cases r
    cases r'
    cases r''
    split at p1
    · rename_i hk
      obtain ⟨h1, h2⟩ := rg3_ok hk
      exact ⟨i, j, k, _, rfl, h1, h2, fun l hl => p1 c1 _ (Stp.new x1.ok hl) x1.sr l _ upd_same (free_of x1.ok.gh hl) (free_of x1.ok.fh hl) (none_back st1 hl) (rngC_rep _ _ _)⟩
    · exact p1.elim
  · exact p1.elim
theorem yl_c {lo k : Int} {n : Nat} {c : Cf} : Yl T (Itc lo k n) c (rngC lo k n) where
  goes := fun i c2 H2 hi g ok => by
    have hi' : i < ((List.range n).map fun i => D.int (lo + (i : Nat) * k)).length := hi
    rw [List.length_map, List.length_range] at hi'
    exact hi'
  stops := fun c2 H2 g ok => by
    show n ≤ ((List.range n).map fun i => D.int (lo + (i : Nat) * k)).length
    rw [List.length_map, List.length_range]
    exact Nat.le_refl _
  yields := fun i d c2 H2 x H3 hd g ok y => by
    obtain ⟨e1, rfl⟩ := y
    subst e1
    have hi : i < n := by
      have := (List.getElem?_eq_some_iff.mp hd).1
      simpa [rngC] using this
    unfold rngC at hd
    rw [List.getElem?_map, List.getElem?_range hi] at hd
    cases hd
    exact ⟨c2, Stp.refl ok, rfl, rfl, .int _⟩
def iR3 (fs : KB.Env → S → R S (List D)) : KB.Env → S → R S (List D) := fun env s => (fs env s).bind fun xs s1 => match xs with
  | [.int i, .int j, .int c] => if rg3B i j c = true then .ok (rngC i c (szC i j c)) s1 else .bad
  | _ => .bad
theorem di_r3 (hg : Gl X "range") (hm : X.mg "range" = none) (ha : DA T SR W X [a, b, c] fs) (hs : starEach [a, b, c] X.env = (false, eval a X.env) :: starEach [b, c] X.env := by rfl) (hpl : (backTo pos (starEach [b, c] X.env)).any (·.1) = false := by rfl) :
    DI T SR W X tg (.Call (.Name "range" p) [a, b, c] [] pos) (iR3 fs) := by
  refine PI.imp (pi_range3 hg hm ha hs hpl) fun σ H R' ⟨c, env, s, x, po⟩ => ?_
  refine Po.runA x po fun ds s1 vs c1 H1 st1 x1 r1 p1 => ?_
  split at p1
  · rename_i i j k
    obtain ⟨u, v, w, rfl, r, r', r''⟩ := three r1
    cases r
    cases r'
    cases r''
    split at p1
    · rename_i hk
      exact ⟨i, j, k, _, rfl, (rg3_ok hk).1, p1.done x1.ok x1.sr _ yl_c⟩
    · exact p1.elim
  · exact p1.elim
end
end KB
set_option Elab.async false
set_option linter.all false
set_option maxRecDepth 100000
set_option maxHeartbeats 4000000
/-! K27: own classes: instances are made, read; methods, properties -/
namespace KB
open PySem PySem.Spec PyProof.Rows L2
/-! ### fields -/
def putD (f : Str) (d : D) : List (Str × D) → List (Str × D)
  | [] => [(f, d)]
  | (g, x) :: r => if g = f then (g, d) :: r else (g, x) :: putD f d r
theorem RepF.put {T : Ctx} {c : Cf} {f : Str} {d : D} {v : V} (q : Rep T c d v) : ∀ {fs : List (Str × D)} {vs : List (Str × V)}, RepF T c fs vs → RepF T c (putD f d fs) (putF f v vs)
  | _, _, .nil => .cons q .nil
  | _, _, .cons (k := k) (d := d') (v := v') (ds := ds) (vs := vs) r t => by
    show RepF T c (if k = f then (k, d) :: ds else (k, d') :: putD f d ds) (if k = f then (k, v) :: vs else (k, v') :: putF f v vs)
    by_cases h : k = f
    · rw [if_pos h, if_pos h]
      exact .cons q t
    · rw [if_neg h, if_neg h]
      exact .cons r (RepF.put q t)
theorem RepF.look {T : Ctx} {c : Cf} {f : Str} : ∀ {fs : List (Str × D)} {vs : List (Str × V)}, RepF T c fs vs → ∀ {d : D}, fs.lookup f = some d → ∃ v, vs.lookup f = some v ∧ Rep T c d v
  | _, _, .nil, d, h => by cases h
  | _, _, .cons (k := k) (d := d') (v := v') (ds := ds) (vs := vs) r t, d, h => by
    rw [List.lookup_cons] at h ⊢
    cases q : f == k with
    | true =>
      rw [q] at h
      cases h
      exact ⟨v', rfl, r⟩
    | false =>
      rw [q] at h
      exact RepF.look t h
theorem RepF.length {T : Ctx} {c : Cf} : ∀ {fs : List (Str × D)} {vs : List (Str × V)}, RepF T c fs vs → fs.length = vs.length
  | _, _, .nil => rfl
  | _, _, .cons _ t => by simp [RepF.length t]
theorem RepF.no {T : Ctx} {c : Cf} {f : Str} : ∀ {fs : List (Str × D)} {vs : List (Str × V)}, RepF T c fs vs → fs.lookup f = none → vs.lookup f = none
  | _, _, .nil, h => rfl
  | _, _, .cons (k := k) (d := d') (v := v') (ds := ds) (vs := vs) r t, h => by
    rw [List.lookup_cons] at h ⊢
    cases q : f == k with
    | true =>
      rw [q] at h
      cases h
    | false =>
      rw [q] at h
      exact RepF.no t h
def fldD (nm f : Str) : D → Option D
  | .ins n fs => if n = nm then fs.lookup f else none
  | _ => none
section
variable {T : Ctx} {S : Type} {SR : SRel S} {W : WX} {X : Cx} {a o : Expr} {g : KB.Env → S → R S D} {f nm : Str} {pos pos' : Pos}
/-- e.f -/
theorem de_fld (nm : Str) (hc : Cls X.K (T.cl nm)) (hn : NoAttr X.K (T.cl nm) f) (ha : DE T SR W X a g) (hb : attributeBase a f X.env (eval a X.env) = eval a X.env := by rfl) : DE T SR W X (.Attribute a f pos) (eOp1 (fldD nm f) g) := by
  refine PE.imp (pe_fld ha hb) fun σ H Q ⟨c, env, s, x, po⟩ => ?_
  refine Po.run x po fun d s1 v c1 H1 st1 x1 r1 p1 => ?_
  obtain ⟨z, hz, k⟩ := p1.value x1
  cases r1 with
  | @ins n a dx vs fs h r =>
    have e' : (if n = nm then fs.lookup f else none) = some z := hz
    split at e'
    · rename_i hn'
      subst hn'
      obtain ⟨v, ev, rv⟩ := r.look e'
      exact ⟨a, _, dx, vs, v, rfl, x1.ok.gh _ _ h, hc, hn, ev, stay x1.ok rv k⟩
    · cases e'
  | _ => cases hz
/-- o.f = e, o being made -/
def sFldO (nm f : Str) (i : Nat) (g : KB.Env → S → R S D) : KB.Env → S → RS S := fun env s => (g env s).toS env fun d s1 => match env[i]? with
  | some (.O n fs) => if n = nm ∧ fs.length < 900 then .nx (env.set i (.O n (putD f d fs))) s1 else .bad
  | _ => .bad
theorem ds_fldO {i : Nat} {x : Str} {p1 p2 : Pos} (nm : Str) (hc : Cls X.K (T.cl nm)) (hn : NoAttr X.K (T.cl nm) f) (hN : X.N[i]? = some x) (ha : DE T SR W X a g) (hv : Vis X.env.scope x := by first | exact Or.inl rfl | exact Or.inr (Or.inl rfl)) (hd : (x == ("__debug__" : Str)) = false := by decide) (hcd : (x == ("__classdict__" : Str)) = false := by decide)
    (hs : swapsWith a (some (.Attribute (.Name x p1) f p2)) pos.line X.env = pure false := by rfl) : DS T SR W X (.Assign [.Attribute (.Name x p1) f p2] a pos) (sFldO nm f i g) := by
  refine PS.imp (ps_fld (pe_var hN hv hd hcd) ha hs) fun D σ H ⟨c0, H0, c, env, s, x, po⟩ => ?_
  refine PoS.run x po fun d s1 v c1 H1 y x1 r1 p1 => ?_
  split at p1
  · rename_i n fs e
    split at p1
    · rename_i hh
      obtain ⟨rfl, hl⟩ := hh
      obtain ⟨l, o, z1, z2, z3, z4, z5, dx, vs, rfl, r⟩ := slOk_own (x1.en.sl i _ e) rfl
      refine ⟨.ref l, z1, l, _, dx, vs, rfl, z2, hc, hn, by rw [← r.length]; omega, ?_⟩
      exact p1.next (x1.write e rfl z1 ⟨z5, dx, _, rfl, r.put r1⟩)
    · exact p1.elim
  · exact p1.elim
end
/-! ### __init__: the object that is being made is the handle 1000 -/
mutual
def D.noH : D → Bool
  | .hnd n => n != 1000
  | .lst xs => D.noHs xs
  | .tup xs => D.noHs xs
  | .dct kvs => D.noHk kvs
  | .dcT kvs => D.noHt kvs
  | .dcF kvs => D.noHk kvs
  | .ins _ fs => D.noHf fs
  | .exc _ _ d => D.noH d
  | _ => true
def D.noHs : List D → Bool
  | [] => true
  | x :: xs => D.noH x && D.noHs xs
def D.noHk : List (Key × D) → Bool
  | [] => true
  | x :: xs => D.noH x.2 && D.noHk xs
def D.noHt : List (List Key × D) → Bool
  | [] => true
  | x :: xs => D.noH x.2 && D.noHt xs
def D.noHf : List (Str × D) → Bool
  | [] => true
  | x :: xs => D.noH x.2 && D.noHf xs
end
/-- the same, but for the handle 1000 -/
structure Al (c c' : Cf) : Prop where
  g : Same c.G c'.G
  m : ∀ n a, n ≠ 1000 → c.m n = some a → c'.m n = some a
mutual
theorem Rep.al {T : Ctx} {c c' : Cf} (e : Al c c') : ∀ {d : D} {v : V}, Rep T c d v → d.noH = true → Rep T c' d v
  | _, _, .non, _ => .non
  | _, _, .bl b, _ => .bl b
  | _, _, .int i, _ => .int i
  | _, _, .str l, _ => .str l
  | _, _, .lst h r, p => .lst (e.g _ _ h) (Reps.al e r p)
  | _, _, .scr h, _ => .scr (same_l e.g h)
  | _, _, .tup h r, p => .tup (same_t e.g h) (Reps.al e r p)
  | _, _, .dct h r, p => .dct (e.g _ _ h) (RepK.al e r p)
  | _, _, .dcT h r, p => .dcT (e.g _ _ h) (RepT.al e r p)
  | _, _, .dcF h r, p => .dcF (e.g _ _ h) (RepK.al e r p)
  | _, _, .ins h r, p => .ins (e.g _ _ h) (RepF.al e r p)
  | _, _, .exc h1 h2 r, p => .exc (e.g _ _ h1) (e.g _ _ h2) (Rep.al e r p)
  | _, _, .hnd h, p => .hnd (e.m _ _ (by
      intro z
      subst z
      exact absurd p (by decide)) h)
  | _, _, .ty n, _ => .ty n
theorem Reps.al {T : Ctx} {c c' : Cf} (e : Al c c') : ∀ {d : List D} {v : List V}, Reps T c d v → D.noHs d = true → Reps T c' d v
  | _, _, .nil, _ => .nil
  | _, _, .cons r q, p => .cons (Rep.al e r (Bool.and_eq_true_iff.mp p).1) (Reps.al e q (Bool.and_eq_true_iff.mp p).2)
theorem RepK.al {T : Ctx} {c c' : Cf} (e : Al c c') : ∀ {d : List (Key × D)} {v : List (Key × V)}, RepK T c d v → D.noHk d = true → RepK T c' d v
  | _, _, .nil, _ => .nil
  | _, _, .cons r q, p => .cons (Rep.al e r (Bool.and_eq_true_iff.mp p).1) (RepK.al e q (Bool.and_eq_true_iff.mp p).2)
theorem RepT.al {T : Ctx} {c c' : Cf} (e : Al c c') : ∀ {d : List (List Key × D)} {v : List (List Key × V)}, RepT T c d v → D.noHt d = true → RepT T c' d v
  | _, _, .nil, _ => .nil
  | _, _, .cons r q, p => .cons (Rep.al e r (Bool.and_eq_true_iff.mp p).1) (RepT.al e q (Bool.and_eq_true_iff.mp p).2)
theorem RepF.al {T : Ctx} {c c' : Cf} (e : Al c c') : ∀ {d : List (Str × D)} {v : List (Str × V)}, RepF T c d v → D.noHf d = true → RepF T c' d v
  | _, _, .nil, _ => .nil
  | _, _, .cons r q, p => .cons (Rep.al e r (Bool.and_eq_true_iff.mp p).1) (RepF.al e q (Bool.and_eq_true_iff.mp p).2)
end
/-- what the handle 1000 is -/
def Cf.me (c : Cf) (o : Option Addr) : Cf := ⟨c.G, fun n => if n = 1000 then o else c.m n, c.F⟩
theorem me_ne {c : Cf} {o : Option Addr} {n : Nat} (h : n ≠ 1000) : (c.me o).m n = c.m n := if_neg h
theorem me_at {c : Cf} {o : Option Addr} : (c.me o).m 1000 = o := by
  show (if (1000 : Nat) = 1000 then o else c.m 1000) = o
  rw [if_pos rfl]
theorem al_me {c : Cf} {o : Option Addr} : Al c (c.me o) := ⟨Same.refl _, fun n a hn h => by
  show (if n = 1000 then o else c.m n) = some a
  rw [if_neg hn]
  exact h⟩
/-- the state does not look at the handle 1000 -/
def FreeH {S : Type} (SR : SRel S) : Prop := ∀ s (c : Cf) o, SR s c → SR s (c.me o)
theorem freeH_L {ts : Addr → Option Str} : FreeH (SRL ts) := fun s c o h => by
  cases s with
  | none => exact ⟨(me_ne (by decide)).trans h.1, h.2⟩
  | some st =>
    obtain ⟨a, p, q, h0, h1⟩ := h
    exact ⟨a, p, q, (me_ne (by decide)).trans h0, h1⟩
/-- in and out -/
theorem Stp.inMe {c : Cf} {H : Hp} (ok : CfOk c H) (o : Option Addr) : CfOk (c.me o) H := ⟨ok.gh, ok.fh, ok.dj⟩
theorem Stp.outMe {c c' : Cf} {H H' : Hp} {o : Option Addr} (x : Stp (c.me o) H c' H') : Stp c H (c'.me (c.m 1000)) H' :=
  ⟨⟨x.ok.gh, x.ok.fh, x.ok.dj⟩, ⟨x.gx.g, fun n a e => by
    show (if n = 1000 then c.m 1000 else c'.m n) = some a
    by_cases hn : n = 1000
    · subst hn
      rw [if_pos rfl]
      exact e
    · rw [if_neg hn]
      refine x.gx.m n a ?_
      show (if n = 1000 then o else c.m n) = some a
      rw [if_neg hn]
      exact e⟩, x.keep, x.dom, x.gn, x.fn⟩
def fldsOf {S : Type} (nm : Str) (r : RS S) : R S (List (Str × D)) := match r with
  | .nx env s => match env[(0 : Nat)]? with
    | some (.O n fs) => if n = nm ∧ D.noHf fs = true then .ok fs s else .bad
    | _ => .bad
  | .exc e _ s => if e.d.noH = true then .exc e s else .bad
  | _ => .bad
def semInit {S : Type} (n : Nat) (nm : Str) (g : KB.Env → S → RS S) (ds : List D) (s : S) : R S (List (Str × D)) := if D.noHs ds = true then fldsOf nm (g (.O nm [] :: envOf (n - 1) ds) s) else .bad
section
variable (T : Ctx) {S : Type} (SR : SRel S)
def PoI (nm : Str) (x : Addr) (c : Cf) (H : Hp) (r : R S (List (Str × D))) (Q : VK) (E : XK) : Prop := match r with
  | .ok fs s' => ∀ c' H', Stp c H c' H' → SR s' c' → Rep T c' (.ins nm fs) (.ref x) → Q .non H'
  | .exc e s' => ∀ cls dd c' H', Stp c H c' H' → SR s' c' → RepX T c' H' e cls dd → E cls dd H'
  | .bad => False
def spI (nm : Str) (n : Nat) (sem : List D → S → R S (List (Str × D))) : Sp := fun vs H Q E => ∃ c ds s x dx H1 us, vs = .ref x :: us ∧ H = upd (upd H1 dx (.own x)) x (.ins (T.cl nm) dx []) ∧ H1 x = none ∧ H1 dx = none ∧ dx ≠ x ∧ CfOk c H1 ∧ SR s c ∧ Reps T c ds us ∧ ds.length = n ∧ PoI T SR nm x c H1 (sem ds s) Q E
end
section
variable {T : Ctx} {S : Type} {SR : SRel S}
theorem EnvOk.consNo {c : Cf} {H : Hp} {σ : L2.St} {env : KB.Env} {v : Option V} (x : EnvOk T c H σ env) : EnvOk T c H (v :: σ) (.no :: env) where
  len := by rw [List.length_cons, List.length_cons, x.len]
  sl := fun i sl e => by
    cases i with
    | zero =>
      cases e
      trivial
    | succ i => exact x.sl i sl e
  dis := fun i j a ⟨⟨sl, e1, o1⟩, h1⟩ ⟨⟨sl', e2, o2⟩, h2⟩ => by
    cases i with
    | zero =>
      cases e1
      cases o1
    | succ i =>
      cases j with
      | zero =>
        cases e2
        cases o2
      | succ j => rw [x.dis i j a ⟨⟨sl, e1, o1⟩, h1⟩ ⟨⟨sl', e2, o2⟩, h2⟩]
theorem no_own {n : Nat} {ds : List D} {σ : L2.St} {i : Nat} {a : Addr} : ¬ OwnAt σ (envOf n ds) i a := fun ⟨⟨sl, e, o⟩, h⟩ => by
  unfold envOf at e
  by_cases hi : i < ds.length
  · rw [List.getElem?_append_left (by simpa using hi), List.getElem?_map] at e
    cases q : ds[i]? with
    | none =>
      rw [q] at e
      cases e
    | some d =>
      rw [q] at e
      cases e
      cases o
  · rw [List.getElem?_append_right (by simpa using hi), List.getElem?_replicate] at e
    split at e
    · cases e
      cases o
    · cases e
theorem no_own1 {n : Nat} {ds : List D} {σ : L2.St} {i : Nat} {a : Addr} : ¬ OwnAt σ (.no :: envOf n ds) i a := fun ⟨⟨sl, e, o⟩, h⟩ => by
  cases i with
  | zero =>
    cases e
    cases o
  | succ i => exact no_own (σ := σ.tail) ⟨⟨sl, e, o⟩, by simpa using h⟩
theorem okInit {P : Program} {w : World} {K : PySem.W.Frag} {mg : Str → Option Value} {base : Heap} {k n m : Nat} {x qual : Str} {st : Stmt} {f : Addr} {fd : FuncData} {N ps : List Str} {gb : KB.Env → S → RS S} (nm : Str) (fr : FreeH SR) (F : Fun K x qual st f fd) (Sc : FnScope N ps (defScope st))
    (hn : N.length = n) (hm : ps.length = m + 1)
    (hb : ∀ (cdv : Value) (A : Around) (out : List PySem.Env) (s : Shared) (H : Hp) (E : XK), Room k (A.deeper (envOfC qual (defScope st) s.heap.objs.size f cdv)) → (false = true → A.guards = some []) →
      DB T SR (fun cls d _ H => E cls d H) (cxOf (L2.CX P w) P w K mg base N qual (defScope st) f cdv A out s H E) (defBody st) gb) : FnG false P w K mg base (k + 1) f fd ps (spI T SR nm m (semInit n nm gb)) := by
  subst hn
  refine fnG_of F Sc (fun vs H Q E ⟨c, ds, s, x, dx, H1, us, e1, _, _, _, _, _, _, r, l, _⟩ => by rw [e1, List.length_cons, ← r.length, l, hm]) fun cdv A out s H vs Q E hr hg ⟨c, ds, s', x, dx, H1, us, e1, e2, hx, hdx, hne, ok, sr, r, l, p⟩ => ?_
  subst e1 e2
  unfold semInit at p
  split at p
  case isFalse => exact p.elim
  rename_i hds
  obtain ⟨N0, N', hN⟩ : ∃ N0 N', N = N0 :: N' := by
    cases q : N with
    | nil =>
      have e := congrArg List.length Sc.pre
      rw [q, List.length_take] at e
      simp at e
      omega
    | cons a b => exact ⟨a, b, rfl⟩
  have hNl : N.length - 1 = N'.length := by
    rw [hN]
    rfl
  have hl : ds.length ≤ N'.length := by
    have e := congrArg List.length Sc.pre
    rw [List.length_take, hN, List.length_cons] at e
    omega
  rw [hNl] at p
  refine ⟨_, hb cdv A out s _ E hr hg, c.me (some x), H1, c.me (some x), .O nm [] :: envOf N'.length ds, s', ?_, ?_⟩
  · have ok' : CfOk (c.me (some x)) H1 := Stp.inMe ok _
    have s1 := Stp.new (o := .own x) ok' hdx
    have hx1 : upd H1 dx (.own x) x = none := by
      rw [upd_ne (Ne.symm hne)]
      exact hx
    have s2 := s1.trans (Stp.new (o := .ins (T.cl nm) dx []) s1.ok hx1)
    have es : L2.start N (.ref x :: us) = (some (.ref x) :: L2.start N' us) := by
      unfold L2.start
      rw [hN]
      simp
    have r' : Reps T (c.me (some x)) ds us := Reps.al al_me r hds
    have en0 : EnvOk T (c.me (some x)) (upd (upd H1 dx (.own x)) x (.ins (T.cl nm) dx [])) (L2.start N (.ref x :: us)) (.no :: envOf N'.length ds) := by
      rw [es]
      exact (env_start r' hl).consNo
    have e3 : (L2.start N (.ref x :: us)).set 0 (some (.ref x)) = L2.start N (.ref x :: us) := by
      rw [es]
      rfl
    have en1 := en0.setO (i := 0) (sl := .O nm []) (a := x) (o := .ins (T.cl nm) dx []) upd_same (free_of ok.gh hx) (free_of ok.fh hx) ⟨me_at, dx, [], rfl, .nil⟩ (fun j => no_own1)
    rw [e3] at en1
    refine ⟨s2, en1, ?_, fr _ _ _ sr⟩
    intro j a hj
    by_cases ha : a = x
    · rw [ha]
      exact hx
    · obtain ⟨⟨sl, q1, q2⟩, q3⟩ := hj
      cases j with
      | zero =>
        rw [es] at q3
        cases q3
        exact absurd rfl ha
      | succ j => exact absurd ⟨⟨sl, q1, q2⟩, q3⟩ (no_own1 (i := j + 1))
  · cases q : gb (.O nm [] :: envOf N'.length ds) s' with
    | nx env' s2 =>
      rw [q] at p
      intro σ' c' H' y z
      have p' : PoI T SR nm x c H1 (match env'[(0 : Nat)]? with
        | some (.O n fs) => if n = nm ∧ D.noHf fs = true then .ok fs s2 else .bad
        | _ => .bad) Q E := p
      split at p'
      · rename_i n fs e0
        split at p'
        · rename_i hn
          obtain ⟨rfl, hfs⟩ := hn
          obtain ⟨a, o, z1, z2, z3, z4, z5, dx', vs, rfl, rf⟩ := slOk_own (z.en.sl 0 _ e0) rfl
          have hax : a = x := by
            have e1 := y.m 1000 x me_at
            rw [z5] at e1
            exact Option.some.inj e1
          subst hax
          have st := (z.st.freeze z2 z3 z4 hx).outMe
          refine p' _ H' st (fr _ _ _ (SR.put z.sr z3)) ?_
          refine Rep.al (c := c'.put a (.ins (T.cl n) dx' vs)) al_me (.ins put_at (rf.mono (Gx.put z3))) ?_
          exact hfs
        · exact p'.elim
      · exact p'.elim
    | rt r s2 =>
      rw [q] at p
      exact p.elim
    | bk env' s2 =>
      rw [q] at p
      exact p.elim
    | ct env' s2 =>
      rw [q] at p
      exact p.elim
    | bad =>
      rw [q] at p
      exact p.elim
    | exc e env' s2 =>
      rw [q] at p
      intro cls dd σ' c' H' y z rx
      have p' : PoI T SR nm x c H1 (if e.d.noH = true then .exc e s2 else .bad) Q E := p
      split at p'
      · rename_i hd
        obtain ⟨w1, da, v, w2, w3, w5, w4⟩ := rx
        exact p' cls dd _ H' z.st.outMe (fr _ _ _ z.sr) ⟨w1, da, v, w2, w3, w5, w4.al al_me hd⟩
      · exact p'.elim
end
end KB
set_option Elab.async false
set_option linter.all false
set_option maxRecDepth 100000
set_option maxHeartbeats 4000000
/-! K28: instances made; properties, methods; len, ==, !=, +, isinstance of instances -/
namespace KB
open PySem PySem.Spec PyProof.Rows L2
/-- what the text says of a class -/
structure ClsTx (K : PySem.W.Frag) (C : Addr) : Prop where
  c : Cls K C
  cls : PySem.W.findIn K (.ref C) "__class__" = some (some (.builtin "object.__class__"))
  cln : PySem.W.specialIn K (.builtin "object.__class__") "__get__" = some (some (.builtin "getset_descriptor.__get__"))
  clt : PySem.W.takesIn K (.builtin "object.__class__") = some true
  obj : PySem.W.mroIn K C (.type "object") = some true
section
variable (g : Bool) (P : Program) (w : World) (K : PySem.W.Frag) (mg : Str → Option Value) (base : Heap) (k : Nat)
structure Idf (x : Str) (C : Addr) (sp : Sp) : Prop where
  ex : ∃ f fd ps, FnG false P w K mg base k f fd ps sp ∧ Mk K C f ∧ mg x = some (.ref C) ∧ Binds K fd ps []
structure Mdf (C : Addr) (m : Str) (sp : Sp) : Prop where
  ex : ∃ f fd ps, FnG g P w K mg base k f fd ps sp ∧ Meth K C m f ∧ Binds K fd ps []
structure Pdf (C : Addr) (f : Str) (sp : Sp) : Prop where
  ex : ∃ p q fd ps, FnG false P w K mg base k q fd ps sp ∧ PropOf K C f p q ∧ Binds K fd ps []
end
abbrev E0f : XK := fun _ _ _ => False
section
variable {g : Bool} {X : Cx} {W : WX} {k : Nat} {x : Str} {sp : Sp} {p pos apos : Pos} {e o : Expr} {es : List Expr} {t : TA} {te ta tb : TE} {C : Addr} {m : Str}
theorem noPass {pins : List (Addr × Obj)} {σ : L2.St} {H : Hp} {s s' : Shared} {e : Value} (I : Inv X pins σ H s) (h : L2.CX X.prog X.w X.stack H s E0f e s') : False :=
  passAt (X := X.nox) (W := fun _ _ _ _ => False) takes0 σ pins H s e s' (I.wish _) h
def tMakeG (C : Addr) (sp : Sp) (W : WX) (t : TA) : TE := fun σ H Q => t σ H fun vs H1 => ∀ x dx, H1 x = none → H1 dx = none → dx ≠ x → sp (.ref x :: vs) (upd (upd H1 dx (.own x)) x (.ins C dx [])) (fun v H2 => v = .non ∧ Q (.ref x) H2) (WE W σ)
theorem pe_makeG (F : Idf X.prog X.w X.K X.mg X.base k x C sp) (hr : Room (k + 1) X.A) (hg : Gl X x) (tk : Takes X W) (ha : PA X (e :: es) t) (hdb : (x == ("__debug__" : Str)) = false := by decide)
    (he : starEach (e :: es) X.env = (false, eval e X.env) :: starEach es X.env := by rfl) (hpl : (backTo pos (starEach es X.env)).any (·.1) = false := by rfl) : PE X (.Call (.Name x p) (e :: es) [] pos) (tMakeG C sp W t) := by
  obtain ⟨f, fd, ps, F, M, hm, hb⟩ := F.ex
  constructor
  intro pins s σ H Q I h
  refine wpAny_Call_Name_kw (ld_glob I hg hm (PySem.W.callWith_K (h₀ := X.base) I.ok.mod.kin M.kp (thn (ha.run pos pins s σ H _ I h) ?_) he hpl) hdb)
  rintro us s1 ⟨vs, H1, I1, r, q⟩
  refine ⟨I1.kIn, ?_⟩
  have hq := q (s1.heap.objs.size + 1) s1.heap.objs.size (I1.hok.fresh (Nat.le_succ _)) (I1.hok.fresh (Nat.le_refl _)) (Nat.ne_of_lt (Nat.lt_succ_self _))
  have I2 := Inv.made (C := C) I1
  have r2 : Vals (V.ref (s1.heap.objs.size + 1) :: vs) (Value.ref (s1.heap.objs.size + 1) :: us) := .cons rfl r
  have hl : (Value.ref (s1.heap.objs.size + 1) :: us ++ []).length = ps.length := by
    have e := r2.length
    rw [F.len _ _ _ _ hq] at e
    rw [List.append_nil]
    exact e.symm
  have b := hb _ (Value.ref (s1.heap.objs.size + 1) :: us) I2.kIn hl
  rw [List.append_nil] at b
  refine wpAny_call (make_map (f := f) I1.kIn M.makes M.init (beq_iff_eq.mp M.fn) (codeAny_mono (F.ok.run _ X.stack _ _ ⟨Value.ref (s1.heap.objs.size + 1) :: us, []⟩ (Value.ref (s1.heap.objs.size + 1) :: us) _ _ (WE W σ) (hr.make C us [])
    (I2.env0.make C us []) b r2 hq) fun r s' hq' => ?_))
  cases r with
  | error e => exact passAt tk σ pins _ _ e s' I2 hq'
  | ok fl =>
    cases fl with
    | ret u =>
      obtain ⟨v, H', I3, rv, ev, q3⟩ := I2.after hq'
      subst ev
      exact ⟨rv, ⟨V.ref (s1.heap.objs.size + 1), H', I3, rfl, q3⟩⟩
    | next => exact False.elim hq'
    | brk => exact False.elim hq'
    | cont => exact False.elim hq'
def tMethG (C : Addr) (m : Str) (sp : Sp) (W : WX) (ta : TE) (t : TA) : TE := fun σ H Q => ta σ H fun x H1 => ∃ a dx fs, x = .ref a ∧ H1 a = some (.ins C dx fs) ∧ fs.lookup m = none ∧ t σ H1 fun vs H2 => sp (x :: vs) H2 Q (WE W σ)
theorem pe_methG {pl : Sem Bool} (he : PE X o ta) (c : Cls X.K C) (F : Mdf g X.prog X.w X.K X.mg X.base k C m sp) (hr : Room k X.A) (hG : g = true → X.A.guards = some []) (tk : Takes X W) (ha : PA X (e :: es) t)
    (hst : starEach (e :: es) X.env = (false, eval e X.env) :: starEach es X.env := by rfl) (hpl : (backTo pos (starEach es X.env)).any (·.1) = false := by rfl)
    (ht : eval (.Call (.Attribute o m apos) (e :: es) [] pos) X.env = (do
      let ov ← eval o X.env
      standAt apos.atName
      let (f, first) ← holding [ov] (getMethod ov m pl)
      callWith pos f first (backTo pos (starEach (e :: es) X.env)) (backToKw pos (keywordEach [] X.env))) := by rfl) :
    PE X (.Call (.Attribute o m apos) (e :: es) [] pos) (tMethG C m sp W ta t) := by
  obtain ⟨f, fd, ps, F, hm, hb⟩ := F.ex
  refine ⟨fun pins s σ H Q I h => ?_⟩
  refine PySem.W.methodCall_KW (pl := pl) (thn (he.run pins s σ H _ I h) fun u s1 ⟨x, H1, I1, rx, a, dx, fs, ex, ea, l, q⟩ => ?_) ht
  subst ex
  obtain rfl : u = Value.ref a := rx
  refine getmeth_ok I1 ea c hm l ?_
  refine PySem.W.callWith_K (first := [.ref a]) (h₀ := X.base) I.ok.mod.kin hm.kp (thn (ha.run pos pins s1 σ H1 _ I1 q) fun us s2 ⟨vs, H2, I2, r, q2⟩ => ⟨I2.kIn, ?_⟩) hst hpl
  exact run_fnG (us := .ref a :: us) (vs := .ref a :: vs) F hr hG hb tk I2 (.cons rfl r) q2
theorem pe_methG0 {pl : Sem Bool} (he : PE X o ta) (c : Cls X.K C) (F : Mdf g X.prog X.w X.K X.mg X.base k C m sp) (hr : Room k X.A) (hG : g = true → X.A.guards = some []) (tk : Takes X W)
    (ht : eval (.Call (.Attribute o m apos) [] [] pos) X.env = (do
      let ov ← eval o X.env
      standAt apos.atName
      let (f, first) ← holding [ov] (getMethod ov m pl)
      callWith pos f first (backTo pos (starEach [] X.env)) (backToKw pos (keywordEach [] X.env))) := by rfl) :
    PE X (.Call (.Attribute o m apos) [] [] pos) (tMethG C m sp W ta tNil) := by
  obtain ⟨f, fd, ps, F, hm, hb⟩ := F.ex
  refine ⟨fun pins s σ H Q I h => ?_⟩
  refine PySem.W.methodCall_KW (pl := pl) (thn (he.run pins s σ H _ I h) fun u s1 ⟨x, H1, I1, rx, a, dx, fs, ex, ea, l, q⟩ => ?_) ht
  subst ex
  obtain rfl : u = Value.ref a := rx
  refine getmeth_ok I1 ea c hm l ?_
  exact PySem.W.callWith_K0 (first := [.ref a]) I1.kIn hm.kp (run_fnG (us := [.ref a]) (vs := [.ref a]) F hr hG hb tk I1 (.cons rfl .nil) q)
/-- a method is run on values, nothing leaves it -/
theorem run_meth0 {A : Around} {f : Addr} {fd : FuncData} {ps : List Str} {pins : List (Addr × Obj)} {σ : L2.St} {H : Hp} {s : Shared} {Q : VK} {us : List Value} {vs : List V} {Q' : Value → Shared → Prop} {E' : Value → Shared → Prop} (F : FnG false X.prog X.w X.K X.mg X.base k f fd ps sp) (hr : Room k A)
    (e0 : Env0 X.prog X.w X.K X.mg X.base A X.stack s H) (hb : Binds X.K fd ps []) (I : Inv X pins σ H s) (r : Vals vs us) (h : sp vs H Q E0f) (hq : ∀ u s', EP X pins σ Q u s' → Q' u s') : wpAny (model X.prog X.w) A (call (.ref f) us) Q' E' s := by
  have b := hb s us I.kIn (by rw [List.append_nil, ← r.length]; exact F.len _ _ _ _ h)
  rw [List.append_nil] at b
  refine wpAny_call (codeAny_mono (F.ok.run A X.stack s H _ us vs Q E0f hr e0 b r h) ?_)
  rintro (e | fl) s' hq'
  · exact (noPass I hq').elim
  · cases fl with
    | ret u => exact hq _ _ (I.after hq')
    | next => exact hq'.elim
    | brk => exact hq'.elim
    | cont => exact hq'.elim
/-- len of an instance -/
theorem call_lenG (F : Mdf false X.prog X.w X.K X.mg X.base k C "__len__" sp) (hr : Room (k + 1) X.A) : CallR X (.builtin "len") (fun xs H Q => ∃ a dx fs, xs = [.ref a] ∧ H a = some (.ins C dx fs) ∧ sp [.ref a] H (fun v H' => ∃ i : Int, v = .int i ∧ 0 ≤ i ∧ i < 2 ^ 63 ∧ Q v H') E0f) := by
  obtain ⟨f, fd, ps, F, hm, hb⟩ := F.ex
  intro pins s σ H xs us Q I r ⟨a, dx, fs, e1, ha, q⟩
  subst e1
  obtain ⟨u, rfl, ru⟩ := vals1 r
  obtain rfl : u = Value.ref a := ru
  obtain ⟨mA, J, _⟩ := ins_get I.hok ha
  obtain ⟨od, J, _⟩ := J.look
  obtain ⟨m', hF⟩ := I.fr
  refine PySem.W.len_K hF I.ok.mod.kin J hm.at_ hm.fn ?_
  refine run_meth0 (vs := [.ref a]) F hr.in1 I.env0.in1 hb I (.cons rfl .nil) q ?_
  rintro u s' ⟨v, H', I', rv, i, rfl, h0, h1, qv⟩
  obtain ⟨t, rfl⟩ := (show ∃ t, u = Value.int i t from rv)
  exact ⟨⟨h0, h1⟩, ⟨.int i, H', I'.tok _, ⟨_, rfl⟩, qv⟩⟩
end
end KB
set_option Elab.async false
set_option linter.all false
set_option maxRecDepth 100000
set_option maxHeartbeats 4000000
/-! K29: instances, by data -/
namespace KB
open PySem PySem.Spec PyProof.Rows L2
section
variable {S : Type}
def eMake (nm : Str) (sem : List D → S → R S (List (Str × D))) (fs : KB.Env → S → R S (List D)) : KB.Env → S → R S D := fun env s => (fs env s).bind fun ds s1 => (sem ds s1).bind fun fl s2 => .ok (.ins nm fl) s2
def ePrp (nm : Str) (sem : List D → S → R S RV) (f : KB.Env → S → R S D) : KB.Env → S → R S D := fun env s => (f env s).bind fun x s1 => match x with
  | .ins n fs => if n = nm then (sem [.ins n fs] s1).noX.bind fun r s2 => .ok r.toD s2 else .bad
  | _ => .bad
def eMth (nm m : Str) (sem : List D → S → R S RV) (f : KB.Env → S → R S D) (fs : KB.Env → S → R S (List D)) : KB.Env → S → R S D := fun env s => (f env s).bind fun x s1 => match x with
  | .ins n fl => if n = nm ∧ fl.lookup m = none then (fs env s1).bind fun ds s2 => (sem (.ins n fl :: ds) s2).bind fun r s3 => .ok r.toD s3 else .bad
  | _ => .bad
def kLen (nm : Str) (sem : List D → S → R S RV) : D → S → R S D := fun x s => match x with
  | .ins n fs => if n = nm then (sem [.ins n fs] s).noX.bind fun r s2 => match r with
    | .d (.int i) => if 0 ≤ i ∧ i < 2 ^ 63 then .ok (.int i) s2 else .bad
    | _ => .bad
    else .bad
  | x => R.of (lenD1 x) s
def eLenI (nm : Str) (sem : List D → S → R S RV) (f : KB.Env → S → R S D) : KB.Env → S → R S D := fun env s => (f env s).bind fun x s1 => kLen nm sem x s1
def eOp2S (k : D → D → S → R S D) (f g : KB.Env → S → R S D) : KB.Env → S → R S D := fun env s => (f env s).bind fun x s1 => (g env s1).bind fun y s2 => k x y s2
def kIsI (nm : Str) : D → S → R S D := fun x s => match x with
  | .ins n _ => if n = nm then .ok (.bl true) s else .bad
  | x => match tyD x with
    | some _ => .ok (.bl false) s
    | none => .bad
def eIsI (nm : Str) (f : KB.Env → S → R S D) : KB.Env → S → R S D := fun env s => (f env s).bind fun x s1 => kIsI nm x s1
end
theorem noX_of {S α : Type} {T : Ctx} {SR : SRel S} {W : WX} {c : Cf} {H : Hp} {σ : L2.St} {β : Type} {P : β → Cf → Hp → Prop} {r : R S α} {k : α → S → R S β} (h : Po T SR W P c H σ (r.noX.bind k)) : ∃ a s, r = .ok a s ∧ Po T SR W P c H σ (k a s) := by
  cases r with
  | ok a s => exact ⟨a, s, rfl, h⟩
  | exc e s => exact h.elim
  | bad => exact h.elim
section
variable {T : Ctx} {S : Type} {SR : SRel S} {W : WX} {X : Cx} {a b o e : Expr} {es : List Expr} {f g : KB.Env → S → R S D} {fs : KB.Env → S → R S (List D)} {m nm x : Str} {p q pos pos' apos : Pos} {k n : Nat} {sem : List D → S → R S RV} {G : Bool}
theorem de_make {semI : List D → S → R S (List (Str × D))} (F : Idf X.prog X.w X.K X.mg X.base k nm (T.cl nm) (spI T SR nm n semI)) (hr : Room (k + 1) X.A) (tk : Takes X W) (ha : DA T SR W X (e :: es) fs) (hn : nArg n fs) (hg : Gl X nm := by rfl) (hdb : (nm == ("__debug__" : Str)) = false := by decide)
    (he : starEach (e :: es) X.env = (false, eval e X.env) :: starEach es X.env := by rfl) (hpl : (backTo pos (starEach es X.env)).any (·.1) = false := by rfl) : DE T SR W X (.Call (.Name nm p) (e :: es) [] pos) (eMake nm semI fs) := by
  refine PE.imp (pe_makeG F hr hg tk ha hdb he hpl) fun σ H Q ⟨c, env, s, x, po⟩ => ?_
  refine Po.runN hn x po fun ds s1 vs c1 H1 hl st1 x1 r1 p1 => ?_
  refine fun x dx hx hdx hne => ⟨c1, ds, s1, x, dx, H1, vs, rfl, rfl, hx, hdx, hne, x1.ok, x1.sr, r1, hl, ?_⟩
  cases q : semI ds s1 with
  | ok fl s' =>
    rw [q] at p1
    exact fun c' H' y sr r => ⟨rfl, p1 c' H' y sr _ r⟩
  | exc e s' =>
    rw [q] at p1
    exact fun cls dd c' H' y sr r => p1 cls dd c' H' y sr r
  | bad =>
    rw [q] at p1
    exact p1
/-- the promise of a def that nothing leaves, reached -/
theorem spD_ok {c : Cf} {H : Hp} {σ : L2.St} {env : KB.Env} {s s2 : S} {ds : List D} {vs : List V} {r : RV} {Q Q' : VK} {E : XK} (x : At T SR σ H c env s) (rs : Reps T c ds vs) (hl : ds.length = n) (hs : sem ds s = .ok r s2) (po : Po T SR W (wE T Q) c H σ (.ok r.toD s2))
    (hq : ∀ v H', (∃ c', Rep T c' r.toD v) → Q v H' → Q' v H') : spD T SR n sem vs H Q' E := by
  refine ⟨c, ds, s, x.ok, x.sr, rs, hl, ?_⟩
  rw [hs]
  cases r with
  | d d => exact fun v c' H' y sr r => hq v H' ⟨c', r⟩ (po c' H' y sr v r)
  | L xs => exact fun a vs c' H' y sr h1 h2 h3 h4 r => hq _ _ ⟨_, .lst put_at (r.mono (Gx.put h2))⟩ (po (c'.put a (.lst vs)) H' (y.freeze h1 h2 h3 h4) (SR.put sr h2) (.ref a) (.lst put_at (r.mono (Gx.put h2))))
theorem de_prp (nm : Str) (hc : Cls X.K (T.cl nm)) (F : Pdf X.prog X.w X.K X.mg X.base k (T.cl nm) m (spD T SR 1 sem)) (hr : Room (k + 1) X.A) (ha : DE T SR W X a f) (hb : attributeBase a m X.env (eval a X.env) = eval a X.env := by rfl) : DE T SR W X (.Attribute a m pos) (ePrp nm sem f) := by
  obtain ⟨p, q, fd, ps, F, hp, hbd⟩ := F.ex
  have rule : PE X (.Attribute a m pos) (tProp (T.cl nm) (spD T SR 1 sem) [] E0f (tD T SR W f)) := by
    refine ⟨fun pins s σ H Q I h => ?_⟩
    refine attr_of hb (thn (ha.run pins s σ H _ I h) fun u s1 ⟨x, H1, I1, rx, a, dx, fs, ex, ea, q⟩ => ?_)
    subst ex
    obtain rfl : u = Value.ref a := rx
    exact getprop_ok (ds := []) (dvs := []) I1 ea hc hp F.ok hr hbd .nil (fun pins σ H s e s' I c => passAt (X := X.nox) (W := fun _ _ _ _ => False) takes0 σ pins H s e s' I c) q
  refine PE.imp rule fun σ H Q ⟨c, env, s, x, po⟩ => ?_
  refine Po.run x po fun d s1 v c1 H1 st1 x1 r1 p1 => ?_
  cases r1 with
  | @ins n a dx vs fs h r =>
    have p2 : Po T SR W (wE T Q) c1 H1 σ (if n = nm then (sem [.ins n fs] s1).noX.bind fun r s2 => .ok r.toD s2 else .bad) := p1
    split at p2
    · rename_i hn
      subst hn
      obtain ⟨r', s2, hs, p3⟩ := noX_of p2
      exact ⟨a, dx, vs, rfl, x1.ok.gh _ _ h, spD_ok x1 (.cons (.ins h r) .nil) rfl hs p3 fun _ _ _ z => z⟩
    · exact p2.elim
  | _ => exact p1.elim
/-- len -/
theorem de_lenI (nm : Str) (hK : X.K = T.K) (F : Mdf false X.prog X.w X.K X.mg X.base k (T.cl nm) "__len__" (spD T SR 1 sem)) (hr : Room (k + 1) X.A) (hm : X.mg "len" = none) (ha : DE T SR W X a f) (hg : Gl X "len" := by rfl)
    (he : starEach [a] X.env = (false, eval a X.env) :: starEach [] X.env := by rfl) : DE T SR W X (.Call (.Name "len" p) [a] [] pos) (eLenI nm sem f) := by
  obtain ⟨r, h1, h2⟩ := cl_len (X := X) (T := T) hK
  refine PE.imp (pe_callB ((call_lenG F hr).or h1) hg hm bt_len (pa_cons ha pa_nil he) (by decide) (by decide) he rfl) fun σ H Q ⟨c, env, s, x, po⟩ => ?_
  refine Po.run x po fun d s1 v c1 H1 st1 x1 r1 p1 => ?_
  have els : Po T SR W (wE T Q) c1 H1 σ (R.of (lenD1 d) s1) → r [v] H1 Q := fun p2 => by
    obtain ⟨z, hz, k⟩ := p2.value x1
    exact h2 c1 H1 [d] z [v] Q x1.ok (.cons r1 .nil) hz k
  cases r1 with
  | @ins n' a dx vs fl h r =>
    have p2 : Po T SR W (wE T Q) c1 H1 σ (if n' = nm then (sem [.ins n' fl] s1).noX.bind fun r s2 => match r with
      | .d (.int i) => if 0 ≤ i ∧ i < 2 ^ 63 then .ok (.int i) s2 else .bad
      | _ => .bad
      else .bad) := p1
    split at p2
    · rename_i hn
      subst hn
      obtain ⟨r', s2, hs, p3⟩ := noX_of p2
      refine .inl ⟨a, dx, vs, rfl, x1.ok.gh _ _ h, ?_⟩
      cases r' with
      | L xs => exact p3.elim
      | d d =>
        cases d <;> try (exact p3.elim)
        rename_i i
        have p4 : Po T SR W (wE T Q) c1 H1 σ (if 0 ≤ i ∧ i < 2 ^ 63 then .ok (.int i) s2 else .bad) := p3
        split at p4
        · rename_i hi
          refine spD_ok x1 (.cons (.ins h r) .nil) rfl hs p4 fun v H' ⟨c', rv⟩ q => ?_
          cases rv
          exact ⟨i, rfl, hi.1, hi.2, q⟩
        · exact p4.elim
    · exact p2.elim
  | _ => exact .inr (els p1)
/-- isinstance(x, C) -/
theorem de_isI (nm : Str) (hK : X.K = T.K) (hc : ClsTx X.K (T.cl nm)) (hm : X.mg "isinstance" = none) (hC : X.mg nm = some (.ref (T.cl nm))) (hk : ∀ t ∈ ["NoneType", "bool", "int", "str", "list", "tuple", "dict"], PySem.W.kitOne X.K (.type t) (.ref (T.cl nm)) = some false) (ha : DE T SR W X a f)
    (hg : Gl X "isinstance" := by rfl) (hgC : Gl X nm := by rfl) (hdb : (nm == ("__debug__" : Str)) = false := by decide)
    (he : starEach [a, .Name nm q] X.env = (false, eval a X.env) :: starEach [.Name nm q] X.env := by rfl) (he2 : starEach [.Name nm q] X.env = (false, eval (.Name nm q) X.env) :: starEach [] X.env := by rfl) (hpl : (backTo pos (starEach [.Name nm q] X.env)).any (·.1) = false := by rfl) :
    DE T SR W X (.Call (.Name "isinstance" p) [a, .Name nm q] [] pos) (eIsI nm f) := by
  refine PE.imp (pe_callB call_isi hg hm bt_isinstance (pa_cons ha (pa_cons (pe_glob hgC hC (v := .ref (T.cl nm)) rfl hdb) pa_nil he2) he) (by decide) (by decide) he hpl) fun σ H Q ⟨c, env, s, x, po⟩ => ?_
  refine Po.run x po fun d s1 v c1 H1 st1 x1 r1 p1 => ?_
  have els : ∀ t, tyD d = some t → Po T SR W (wE T Q) c1 H1 σ (.ok (.bl false) s1) → rIsi X.K [v, .ref (T.cl nm)] H1 Q := fun t ht p2 => by
    have ty := tyX_of x1.ok r1 ht
    rw [← hK] at ty
    refine ⟨v, _, .type t, .ref (T.cl nm), false, rfl, .own _, ty, hk t ?_, p2.done x1.ok x1.sr _ (.bl false)⟩
    cases d <;> first | (cases ht; decide) | (cases ht)
  cases r1 with
  | @ins n a dx vs fs h r =>
    have p2 : Po T SR W (wE T Q) c1 H1 σ (if n = nm then .ok (.bl true) s1 else .bad) := p1
    split at p2
    · rename_i hn
      subst hn
      refine ⟨_, _, .ref (T.cl n), .ref (T.cl n), true, rfl, .own _, .base (.ins (x1.ok.gh _ _ h) hc.c hc.cls hc.cln hc.clt hc.obj), ?_, p2.done x1.ok x1.sr _ (.bl true)⟩
      unfold PySem.W.kitOne
      simp
    · exact p2.elim
  | hnd _ => exact p1.elim
  | ty _ => exact p1.elim
  | scr _ => exact p1.elim
  | dcF _ _ => exact p1.elim
  | exc _ _ _ => exact p1.elim
  | _ => exact els _ rfl p1
end
end KB
set_option Elab.async false
set_option linter.all false
set_option maxRecDepth 100000
set_option maxHeartbeats 4000000
/-! K30: try: .. except C1: .. except C2 as e: .. -/
namespace KB
section
open PySem PySem.Spec PyProof.Rows L2
def wMix (K : PySem.W.Frag) (Wout : WX) (D : Ends) : List (Value × Option Nat × (Addr → Value → Option Addr → TS)) → WX
  | [] => Wout
  | (c, none, ts) :: r => fun cls d σ H => ∃ b, PySem.W.exmOne K cls c = some b ∧ (b = true → ∀ a, H a = none → ts a cls d D σ H) ∧ (b = false → wMix K Wout D r cls d σ H)
  | (c, some i, ts) :: r => fun cls d σ H => ∃ b, PySem.W.exmOne K cls c = some b ∧ (b = true → ∀ a, H a = none → ts a cls d { nx := fun σ' H' => D.nx (σ'.set i none) H', rt := D.rt, bk := fun σ' H' => D.bk (σ'.set i none) H', ct := fun σ' H' => D.ct (σ'.set i none) H' } (σ.set i (some (.ref a))) H) ∧
    (b = false → wMix K Wout D r cls d σ H)
inductive HdsM (X : L2.Cx) : List ExceptHandler → List (Value × Option Nat × (Addr → Value → Option Addr → TS)) → Prop
  | nil : HdsM X [] []
  | one {x : Str} {c : Value} {ts : Addr → Value → Option Addr → TS} {b₀ : Stmt} {suite : List Stmt} {np pos' : Pos} {hds : List ExceptHandler} {l : List (Value × Option Nat × (Addr → Value → Option Addr → TS))} (hc : Names X x c)
      (hsu : ∀ (a : Addr) (oe : Obj) (cls : Value) (d : Option Addr) (pn : List (Addr × Obj)), Zc cls d oe → (∃ vs, oe.data = .fields vs) → PSs (X.suite a ((a, oe) :: pn)) (b₀ :: suite) (ts a cls d)) (r : HdsM X hds l) :
      HdsM X (.ExceptHandler (some (.Name x np)) none (b₀ :: suite) pos' :: hds) ((c, none, ts) :: l)
  | nam {x n : Str} {i : Nat} {c : Value} {ts : Addr → Value → Option Addr → TS} {b₀ : Stmt} {suite : List Stmt} {np pos' : Pos} {hds : List ExceptHandler} {l : List (Value × Option Nat × (Addr → Value → Option Addr → TS))} (hN : X.N.Nodup) (hi : X.N[i]? = some n) (hln : X.env.kindOf n = some .local) (hc : Names X x c)
      (hsu : ∀ (a : Addr) (oe : Obj) (cls : Value) (d : Option Addr) (pn : List (Addr × Obj)), Zc cls d oe → (∃ vs, oe.data = .fields vs) → PSs (X.suite a ((a, oe) :: pn)) (b₀ :: suite) (ts a cls d)) (r : HdsM X hds l) :
      HdsM X (.ExceptHandler (some (.Name x np)) (some n) (b₀ :: suite) pos' :: hds) ((c, some i, ts) :: l)
variable {X : L2.Cx} {body : List Stmt} {h₀ : ExceptHandler} {hds : List ExceptHandler} {l : List (Value × Option Nat × (Addr → Value → Option Addr → TS))} {pos : Pos} {tb : WX → TS} {Wout : WX}
end
end KB
set_option Elab.async false
set_option linter.all false
set_option maxRecDepth 100000
set_option maxHeartbeats 4000000
/-! K31: try with several clauses, by data; f[a], f[b] = x, y; x op= e -/
namespace KB
open PySem PySem.Spec PyProof.Rows L2
section
variable {T : Ctx} {S : Type} {SR : SRel S} {W : WX} {X : L2.Cx} {c0 c : Cf} {H0 H : Hp} {σ : L2.St} {env : KB.Env} {s : S}
def nmEnds (oi : Option Nat) (D : Ends) : Ends := match oi with
  | none => D
  | some i => { nx := fun σ' H' => D.nx (σ'.set i none) H', rt := D.rt, bk := fun σ' H' => D.bk (σ'.set i none) H', ct := fun σ' H' => D.ct (σ'.set i none) H' }
def nmSt (oi : Option Nat) (a : Addr) (σ : L2.St) : L2.St := match oi with
  | none => σ
  | some i => σ.set i (some (.ref a))
end
/-- what an except clause makes of the error -/
abbrev Hd (S : Type) := Ex → KB.Env → S → RS S
def handle {S : Type} : List (Str × Hd S) → Ex → KB.Env → S → RS S
  | [], e, env, s => .exc e env s
  | (cn, h) :: r, e, env, s => if e.c = cn then h e env s else handle r e env s
/-- the clauses, by data -/
inductive HdsD (T : Ctx) {S : Type} (SR : SRel S) (W : WX) (X : L2.Cx) (cs : List Str) : List ExceptHandler → List (Value × Option Nat × (Addr → Value → Option Addr → TS)) → List (Str × Hd S) → Prop
  | nil : HdsD T SR W X cs [] [] []
  | cons {h1 : ExceptHandler} {cn : Str} {oi : Option Nat} {ts : Addr → Value → Option Addr → TS} {h : Hd S} {hds : List ExceptHandler} {l : List (Value × Option Nat × (Addr → Value → Option Addr → TS))} {m : List (Str × Hd S)}
      (hm : ∀ hds l, HdsM X hds l → HdsM X (h1 :: hds) ((.ref (T.cl cn), oi, ts) :: l)) (hx : ∀ n ∈ cs, PySem.W.exmOne X.K (.ref (T.cl n)) (.ref (T.cl cn)) = some (decide (n = cn)))
      (wish : ∀ (D : Ends) c0 H0 c σ H env s e cls d a, AtS T SR c0 H0 σ H c env s → RepX T c H e cls d → e.c = cn → PoS T SR W c0 H0 c (h e env s) D → ts a cls d (nmEnds oi D) (nmSt oi a σ) H)
      (r : HdsD T SR W X cs hds l m) : HdsD T SR W X cs (h1 :: hds) ((.ref (T.cl cn), oi, ts) :: l) ((cn, h) :: m)
section
variable {T : Ctx} {S : Type} {SR : SRel S} {W : WX} {X : L2.Cx} {c0 c : Cf} {H0 H : Hp} {σ : L2.St} {env : KB.Env} {s : S} {cs : List Str}
theorem HdsD.hm {hds l} {m : List (Str × Hd S)} (h : HdsD T SR W X cs hds l m) : HdsM X hds l := by
  induction h with
  | nil => exact .nil
  | cons hm _ _ _ ih => exact hm _ _ ih
theorem HdsD.go {D : Ends} {e : Ex} {cls : Value} {d : Option Addr} (x : AtS T SR c0 H0 σ H c env s) (rx : RepX T c H e cls d) (hc : e.c ∈ cs) {hds l} {m : List (Str × Hd S)} (h : HdsD T SR W X cs hds l m) : PoS T SR W c0 H0 c (handle m e env s) D → wMix X.K W D l cls d σ H := by
  induction h with
  | nil => exact fun po => po cls d σ c H (Gx.refl c) x rx
  | @cons h1 cn oi ts h hds l m hm hx wish r ih =>
    intro po
    have hcls := rx.1
    have hb := hx e.c hc
    rw [← hcls] at hb
    have po' : PoS T SR W c0 H0 c (if e.c = cn then h e env s else handle m e env s) D := po
    cases oi with
    | none =>
      refine ⟨decide (e.c = cn), hb, fun hh a ha => ?_, fun hh => ?_⟩
      · rw [if_pos (of_decide_eq_true hh)] at po'
        exact wish D c0 H0 c σ H env s e cls d a x rx (of_decide_eq_true hh) po'
      · rw [if_neg (of_decide_eq_false hh)] at po'
        exact ih po'
    | some i =>
      refine ⟨decide (e.c = cn), hb, fun hh a ha => ?_, fun hh => ?_⟩
      · rw [if_pos (of_decide_eq_true hh)] at po'
        exact wish D c0 H0 c σ H env s e cls d a x rx (of_decide_eq_true hh) po'
      · rw [if_neg (of_decide_eq_false hh)] at po'
        exact ih po'
/-- except C as n: suite, n is not looked at -/
def RS.un (i : Nat) (r : RS S) : RS S := match r with
  | .nx env s => .nx (env.set i .no) s
  | .bk env s => .bk (env.set i .no) s
  | .ct env s => .ct (env.set i .no) s
  | .rt r s => .rt r s
  | _ => .bad
/-- except C as n: y = (word, n.f) -/
def hdT (i y : Nat) (w : List Nat) (f : Str) : Hd S := fun e env s => if e.f = f ∧ i < env.length then .nx (((env.set i .no).set y (.d (.tup [.str w, e.d]))).set i .no) s else .bad
end
/-! ### f[a], f[b] = x, y -/
section
variable {T : Ctx} {S : Type} {SR : SRel S} {W : WX} {X : L2.Cx} {f k1 k2 : KB.Env → S → R S D}
def sPut2 (i : Nat) (k1 k2 f : KB.Env → S → R S D) : KB.Env → S → RS S := fun env s => (f env s).toS env fun d s1 => match d with
  | .tup [d1, d2] => match env[i]? with
    | some (.L xs) => (k1 env s1).toS env fun a s2 => match a with
      | .int a => match ixN xs.length a with
        | some j1 => (k2 (env.set i (.L (xs.set j1 d1))) s2).toS (env.set i (.L (xs.set j1 d1))) fun b s3 => match b with
          | .int b => match ixN xs.length b with
            | some j2 => .nx (env.set i (.L ((xs.set j1 d1).set j2 d2))) s3
            | none => .bad
          | _ => .bad
        | none => .bad
      | _ => .bad
    | _ => .bad
  | _ => .bad
theorem ds_put2 {i : Nat} {x : Str} {a b e : Expr} {p1 p2 p3 p4 p5 pos : Pos} {kt : Nat} (hK : X.K = T.K) (hc : X.calm = true) (hN : X.N[i]? = some x) (hv : Vis X.env.scope x) (ha : DE T SR W X a k1) (hb : DE T SR W X b k2) (he : DE T SR W X e f) (hd : (x == ("__debug__" : Str)) = false := by decide) (hcd : (x == ("__classdict__" : Str)) = false := by decide)
    (hasg : ∀ v, assign (.Subscript (.Name x p1) a p2) X.env v = (do
      let ov ← holding [v] (eval (.Name x p1) X.env)
      let iv ← holding [v, ov] (eval a X.env)
      standAt p2
      holding [v, ov, iv] (setItem ov iv v)
      release [v, ov, iv] []) := by intro _; rfl)
    (hasg2 : ∀ v, assign (.Subscript (.Name x p3) b p4) X.env v = (do
      let ov ← holding [v] (eval (.Name x p3) X.env)
      let iv ← holding [v, ov] (eval b X.env)
      standAt p4
      holding [v, ov, iv] (setItem ov iv v)
      release [v, ov, iv] []) := by intro _; rfl)
    (hn : (assignEach [.Subscript (.Name x p1) a p2, .Subscript (.Name x p3) b p4] X.env).length = 2 := by rfl) (hst : (assignEach [.Subscript (.Name x p1) a p2, .Subscript (.Name x p3) b p4] X.env).findIdx? (·.1) = none := by rfl)
    (hq1 : (assignEach [.Subscript (.Name x p1) a p2, .Subscript (.Name x p3) b p4] X.env).map (·.2) = assign (.Subscript (.Name x p1) a p2) X.env :: (assignEach [.Subscript (.Name x p3) b p4] X.env).map (·.2) := by rfl)
    (hq2 : (assignEach [.Subscript (.Name x p3) b p4] X.env).map (·.2) = assign (.Subscript (.Name x p3) b p4) X.env :: (assignEach [] X.env).map (·.2) := by rfl)
    (hs : swapsWithSole [.Tuple [.Subscript (.Name x p1) a p2, .Subscript (.Name x p3) b p4] kt p5] e pos.line X.env = pure false := by rfl) (hw : swappedStores [.Tuple [.Subscript (.Name x p1) a p2, .Subscript (.Name x p3) b p4] kt p5] e X.env = pure none := by rfl)
    (h1 : (assignEach [.Tuple [.Subscript (.Name x p1) a p2, .Subscript (.Name x p3) b p4] kt p5] X.env).map (·.2) = [assign (.Tuple [.Subscript (.Name x p1) a p2, .Subscript (.Name x p3) b p4] kt p5) X.env] := by rfl) :
    DS T SR W X (.Assign [.Tuple [.Subscript (.Name x p1) a p2, .Subscript (.Name x p3) b p4] kt p5] e pos) (sPut2 i k1 k2 f) := by
  refine PS.imp (ps_asg he (pg_tup hc (pgs_cons (pg_sub (pe_var hN hv hd hcd) ha set_list hasg) (pgs_cons (pg_sub (pe_var hN hv hd hcd) hb set_list hasg2) pgs_nil hq2) hq1) hn hst) hs hw h1) fun D σ H ⟨c0, H0, c, env, s, x, po⟩ => ?_
  refine PoS.run x po fun d s1 v c1 H1 y x1 r1 p1 => ?_
  split at p1
  case h_2 => exact p1.elim
  rename_i d1 d2
  cases r1 with
  | @tup q vs _ h1 r1 =>
  obtain ⟨v1, v2, rfl, rv1, rv2⟩ := r1.two
  refine ⟨q, [v1, v2], rfl, hK ▸ same_t x1.st.ok.gh h1, rfl, v1, [v2], rfl, ?_⟩
  split at p1
  case h_2 => exact p1.elim
  rename_i xs e
  obtain ⟨l, o, z1, z2, z3, z4, vs, rfl, r⟩ := slOk_own (x1.en.sl i _ e) rfl
  refine ⟨.ref l, z1, ?_⟩
  refine PoS.run x1 p1 fun k s2 w c2 H2 y2 x2 r2 p2 => ?_
  cases r2 <;> try (exact p2.elim)
  rename_i ka
  cases q1 : ixN xs.length ka with
  | none =>
    simp only [q1] at p2
    exact p2.elim
  | some j1 =>
    simp only [q1] at p2
    obtain ⟨l', o', w1, w2, w3, w4, ws, rfl, r'⟩ := slOk_own (x2.en.sl i _ e) rfl
    rw [z1] at w1
    cases w1
    have rr := r'.set (rv1.mono y2.gx) j1
    have x3 := x2.write (sl := .L (xs.set j1 d1)) e rfl z1 ⟨_, rfl, rr⟩
    have hle := r'.length
    refine ⟨l, ws, ka, j1, rfl, rfl, w2, by rw [← hle]; exact q1, v2, [], rfl, ?_⟩
    refine ⟨.ref l, z1, ?_⟩
    refine PoS.run x3 p2 fun k3 s3 u c4 H4 y4 x4 r4 p4 => ?_
    cases r4 <;> try (exact p4.elim)
    rename_i kb
    cases q2 : ixN xs.length kb with
    | none =>
      simp only [q2] at p4
      exact p4.elim
    | some j2 =>
      simp only [q2] at p4
      have e' : (env.set i (.L (xs.set j1 d1)))[i]? = some (.L (xs.set j1 d1)) := get_eq e
      obtain ⟨l2, o2, u1, u2, u3, u4, us, rfl, r5⟩ := slOk_own (x4.en.sl i _ e') rfl
      rw [z1] at u1
      cases u1
      have hle5 := r5.length
      rw [List.length_set] at hle5
      refine ⟨l, us, kb, j2, rfl, rfl, u2, by rw [← hle5]; exact q2, rfl, ?_⟩
      have x5 := x4.write (sl := .L ((xs.set j1 d1).set j2 d2)) e' rfl z1 ⟨_, rfl, r5.set (rv2.mono (y2.gx.trans y4.gx)) j2⟩
      rw [List.set_set] at x5
      exact p4.next x5
end
/-! ### x op= e -/
section
variable {T : Ctx} {S : Type} {SR : SRel S} {W : WX} {X : L2.Cx} {f g : KB.Env → S → R S D}
def sAug (i : Nat) (sem : D → D → Option D) (f : KB.Env → S → R S D) : KB.Env → S → RS S := fun env s => match env[i]? with
  | some (.d x) => (f env s).toS env fun y s1 => (R.of (sem x y) s1).toS env fun z s2 => .nx (env.set i (.d z)) s2
  | _ => .bad
theorem ds_aug {op : Operator} {sem : D → D → Option D} {i : Nat} {x : Str} {e : Expr} {p1 pos : Pos} (ho : ∃ r, PIp X op r ∧ Sem2 T r sem) (hN : X.N.Nodup) (hi : X.N[i]? = some x) (hx : Loc X.env.scope x) (he : DE T SR W X e f) (hf : X.fn x = true ∨ X.env.scope.names.lookup x = some .local := by first | exact .inl rfl | exact .inr rfl) : DS T SR W X (.AugAssign (.Name x p1) op e pos) (sAug i sem f) := by
  obtain ⟨r, hr, hs⟩ := ho
  refine PS.imp (ps_aug hN hi hx he hr hf) fun D σ H ⟨c0, H0, c, env, s, x, po⟩ => ?_
  unfold sAug at po
  split at po
  case h_2 => exact po.elim
  rename_i d e0
  obtain ⟨v, ev, rv⟩ := x.en.sl i _ e0
  refine ⟨v, ev, ?_⟩
  refine PoS.run x po fun y s1 w c1 H1 y1 x1 r1 p1 => ?_
  cases hz : sem d y with
  | none =>
    rw [hz] at p1
    exact p1.elim
  | some z =>
    rw [hz] at p1
    refine hs c1 H1 d y z v w _ x1.st.ok (rv.mono y1.gx) r1 hz fun u c2 H2 y2 hm hf2 r2 => ?_
    have x2 := x1.step y2 (SR.mono x1.sr y2.gx hf2 hm)
    exact (PoS.step (show PoS T SR W c0 H0 c1 (.nx (env.set i (.d z)) s1) D from p1) y2.gx).next (x2.setD r2)
theorem ip_addD : ∃ r, PIp X .Add r ∧ Sem2 T r (intI (fun _ _ => true) fun i j => .int (i + j)) := ⟨_, ip_add, sem_I0 fun c i j => .int _⟩
end
end KB
set_option Elab.async false
set_option linter.all false
set_option maxRecDepth 100000
set_option maxHeartbeats 4000000
/-! K32: four names at once; [..] * n of one's own; f[k] += e; written dicts; {..} with text keys; sum, str -/
namespace KB
open PySem PySem.Spec PyProof.Rows L2
section
variable {T : Ctx} {S : Type} {SR : SRel S} {W : WX} {X : L2.Cx} {a b e : Expr} {es : List Expr} {f k : KB.Env → S → R S D} {fl : KB.Env → S → R S (List D)} {g : KB.Env → S → R S (List Sl)} {p pos : Pos}
theorem SlsOk.len {c : Cf} {H : Hp} {Hb : Hp} {sls : List Sl} {vs : List V} (z : SlsOk T c H Hb sls vs) : vs.length = sls.length := by
  induction z with
  | nil => rfl
  | d _ _ ih => simp [ih]
  | o _ _ _ _ _ _ _ _ ih => simp [ih]
theorem sPar_go2 {c0 c : Cf} {H0 H : Hp} {σ : L2.St} {env : KB.Env} {s : S} {is : List Nat} {D : Ends} {Z : List V → Hp → Prop} (x : AtS T SR c0 H0 σ H c env s) (po : PoS T SR W c0 H0 c (sPar is g env s) D)
    (k : ∀ vs H', vs.length = is.length → (∀ p o, H' p = none → D.nx (setS σ is vs) (upd H' p o)) → Z vs H') : tZ T SR W g σ H Z := by
  refine ⟨c, env, s, x.at, ?_⟩
  unfold sPar at po
  cases q : g env s with
  | exc e s1 =>
    rw [q] at po
    exact fun cls dd c' H' y sr rx => po cls dd σ c' H' y.gx (x.step y sr) rx
  | bad =>
    rw [q] at po
    exact po
  | ok sls s1 =>
    rw [q] at po
    have po' : PoS T SR W c0 H0 c (if sls.length = is.length then .nx (setE env is sls) s1 else .bad) D := po
    split at po'
    · rename_i hl
      intro c' H' y sr vs ok
      have fin := setMany ok is hl.symm (x.step y sr) (fun j a h z => by
        obtain ⟨o, e⟩ := own_there x.en h
        rw [z] at e
        cases e) fun b z => none_back x.st z
      refine k vs H' (by rw [ok.len, hl]) fun p o hp => ?_
      exact po' _ c' _ y.gx (fin.step (Stp.new fin.st.ok hp) sr)
    · exact po'.elim
theorem ds_par4 {i j l m : Nat} {x y z u : Str} {px py pz pu pt pos : Pos} {c d : Expr} {kt k2 pt2} (hK : X.K = T.K) (hc : X.calm = true) (hN : X.N.Nodup) (hi : X.N[i]? = some x) (hj : X.N[j]? = some y) (hl : X.N[l]? = some z) (hm : X.N[m]? = some u) (hx : Loc X.env.scope x) (hy : Loc X.env.scope y) (hz : Loc X.env.scope z) (hu : Loc X.env.scope u) (ha : DZ T SR W X [a, b, c, d] g)
    (hfx : X.fn x = true ∨ X.env.scope.names.lookup x = some .local := by first | exact .inl rfl | exact .inr rfl) (hfy : X.fn y = true ∨ X.env.scope.names.lookup y = some .local := by first | exact .inl rfl | exact .inr rfl) (hfz : X.fn z = true ∨ X.env.scope.names.lookup z = some .local := by first | exact .inl rfl | exact .inr rfl) (hfu : X.fn u = true ∨ X.env.scope.names.lookup u = some .local := by first | exact .inl rfl | exact .inr rfl)
    (hn : (assignEach [.Name x px, .Name y py, .Name z pz, .Name u pu] X.env).length = 4 := by rfl) (hst : (assignEach [.Name x px, .Name y py, .Name z pz, .Name u pu] X.env).findIdx? (·.1) = none := by rfl)
    (q1 : (assignEach [.Name x px, .Name y py, .Name z pz, .Name u pu] X.env).map (·.2) = assign (.Name x px) X.env :: (assignEach [.Name y py, .Name z pz, .Name u pu] X.env).map (·.2) := by rfl)
    (q2 : (assignEach [.Name y py, .Name z pz, .Name u pu] X.env).map (·.2) = assign (.Name y py) X.env :: (assignEach [.Name z pz, .Name u pu] X.env).map (·.2) := by rfl)
    (q3 : (assignEach [.Name z pz, .Name u pu] X.env).map (·.2) = assign (.Name z pz) X.env :: (assignEach [.Name u pu] X.env).map (·.2) := by rfl)
    (q4 : (assignEach [.Name u pu] X.env).map (·.2) = assign (.Name u pu) X.env :: (assignEach [] X.env).map (·.2) := by rfl)
    (hs : swapsWithSole [.Tuple [.Name x px, .Name y py, .Name z pz, .Name u pu] kt pt] (.Tuple [a, b, c, d] k2 pt2) pos.line X.env = pure false := by rfl) (hw : swappedStores [.Tuple [.Name x px, .Name y py, .Name z pz, .Name u pu] kt pt] (.Tuple [a, b, c, d] k2 pt2) X.env = pure none := by rfl)
    (h1 : (assignEach [.Tuple [.Name x px, .Name y py, .Name z pz, .Name u pu] kt pt] X.env).map (·.2) = [assign (.Tuple [.Name x px, .Name y py, .Name z pz, .Name u pu] kt pt) X.env] := by rfl) :
    DS T SR W X (.Assign [.Tuple [.Name x px, .Name y py, .Name z pz, .Name u pu] kt pt] (.Tuple [a, b, c, d] k2 pt2) pos) (sPar [i, j, l, m] g) := by
  refine PS.imp (ps_asg (pe_tup ha) (pg_tup hc (pgs_cons (pg_name hN hi hx hfx) (pgs_cons (pg_name hN hj hy hfy) (pgs_cons (pg_name hN hl hz hfz) (pgs_cons (pg_name hN hm hu hfu) pgs_nil q4) q3) q2) q1) hn hst) hs hw h1) fun D σ H ⟨c0, H0, c, env, s, x, po⟩ => ?_
  refine sPar_go2 x po fun vs H' hl hd => ?_
  match vs, hl with
  | [v1, v2, v3, v4], _ =>
    refine ⟨by rw [sizeLine_eq]; simp, fun p hp => ?_⟩
    exact ⟨p, _, rfl, .inl (.inl upd_same), rfl, v1, _, rfl, v2, _, rfl, v3, _, rfl, v4, _, rfl, rfl, hd p _ hp⟩
/-- xs * n, a list of nobody's -/
def fRep (f : KB.Env → S → R S (List D)) (g : KB.Env → S → R S D) : KB.Env → S → R S (List D) := fun env s => (f env s).bind fun xs s1 => (g env s1).bind fun y s2 => match y with
  | .int k => if xs.length * k.toNat ≤ 16777216 ∧ k < 2 ^ 63 ∧ -(2 ^ 63) ≤ k then .ok (List.replicate k.toNat xs).flatten s2 else .bad
  | _ => .bad
theorem df_rep (ha : DF T SR W X a fl) (hb : DE T SR W X b f) : DF T SR W X (.BinOp a .Mult b pos) (fRep fl f) := by
  refine PE.imp (pe_op op_rep ha hb) fun σ H Q ⟨c, env, s, x, po⟩ => ⟨c, env, s, x, ?_⟩
  unfold fRep at po
  cases q1 : fl env s with
  | exc e s2 =>
    rw [q1] at po
    exact po
  | bad =>
    rw [q1] at po
    exact po
  | ok xs s1 =>
    rw [q1] at po
    intro c1 H1 y sr l vs h1 h2 h3 h4 r
    refine ⟨c1, env, s1, x.step y sr, ?_⟩
    have p1 : Po T SR W (wL T H Q) c H σ ((f env s1).bind fun y s2 => match y with
      | .int k => if xs.length * k.toNat ≤ 16777216 ∧ k < 2 ^ 63 ∧ -(2 ^ 63) ≤ k then .ok (List.replicate k.toNat xs).flatten s2 else .bad
      | _ => .bad) := po
    cases q2 : f env s1 with
    | exc e s2 =>
      rw [q2] at p1
      exact fun cls dd c' H' y' sr' rx => p1 cls dd c' H' (y.trans y') sr' rx
    | bad =>
      rw [q2] at p1
      exact p1
    | ok d s2 =>
      rw [q2] at p1
      intro c2 H2 y2 sr2 w rw'
      cases rw' <;> try (exact p1.elim)
      rename_i k
      have p2 : Po T SR W (wL T H Q) c H σ (if xs.length * k.toNat ≤ 16777216 ∧ k < 2 ^ 63 ∧ -(2 ^ 63) ≤ k then .ok (List.replicate k.toNat xs).flatten s2 else .bad) := p1
      split at p2
      · rename_i hk
        have hl := y2.keep _ _ h1 h3
        have y3 := y.trans y2
        refine ⟨l, k, vs, rfl, rfl, hl, hk.2.2, hk.2.1, by rw [← r.length, sizeLine_eq]; exact hk.1, fun p hp => ?_⟩
        exact p2 c2 _ (y3.trans (Stp.new y3.ok hp)) sr2 p _ upd_same (free_of y3.ok.gh hp) (free_of y3.ok.fh hp) (none_back y3 hp) ((r.mono y2.gx).rep _)
      · exact p2.elim
/-! ### written dicts, {..} -/
/-- a written dict, text by text -/
def KdOk (K : PySem.W.Frag) (w : World) (p : Addr) (kvs : List (List Nat × List Nat)) : Prop := ∀ k v, kvs.lookup k = some v → KDct K w p (sOf k) (.str (sOf v))
end
/-! ### sum, str -/
section
variable {T : Ctx} {X : L2.Cx}
theorem bt_sum : bootBuiltins "sum" = some (.builtin "sum") := by decide +kernel
/-- the figures of a number -/
def numS (i : Int) : List Nat := (toString i : Str).cps.toList
def strD1 : D → Option D
  | .int i => if i.natAbs.log2 < 1920 then some (.str (numS i)) else none
  | .str l => some (.str l)
  | _ => none
abbrev strD := on1 strD1
theorem cl_str : ∃ r, CallR X (.type "str") r ∧ SemL T r strD := by
  refine ⟨_, call_str_int.or SkE.call_str_str, sem_on1 fun c H x z u Q ok rv e k => ?_⟩
  cases rv with
  | int i =>
    have e' : (if i.natAbs.log2 < 1920 then some (D.str (numS i)) else none) = some z := e
    split at e'
    · rename_i hl
      cases e'
      refine .inl ⟨i, rfl, hl, ?_⟩
      have st := stay (Q := Q) ok (.str (numS i)) k
      unfold numS at st
      rw [← sOf_surj] at st
      exact st
    · cases e'
  | str l =>
    cases e
    exact .inr ⟨_, rfl, stay ok (.str l) k⟩
  | _ => cases e
end
end KB
set_option Elab.async false
set_option linter.all false
set_option maxRecDepth 100000
set_option maxHeartbeats 4000000
/-! K33: knots and rows, in plain Lean; loops, turn by turn -/
namespace KB
open PySem
/-- enumerate from k on -/
def enumK : Nat → List D → List D
  | _, [] => []
  | k, x :: xs => .tup [.int k, x] :: enumK (k + 1) xs
theorem enumD_eq (xs : List D) : enumD xs = enumK 0 xs := by
  have h : ∀ (xs : List D) (k : Nat), ((List.range' k xs.length).zipWith (fun i x => D.tup [.int ((i : Nat) : Int), x]) xs) = enumK k xs := by
    intro xs
    induction xs with
    | nil => intro k; rfl
    | cons x xs ih =>
      intro k
      rw [List.length_cons, List.range'_succ, List.zipWith_cons_cons, ih (k + 1)]
      rfl
  unfold enumD
  rw [List.range_eq_range']
  exact h xs 0
/-! ### places -/
def pl (n e : Nat) : List Nat := (List.range ((n - e) / 2)).map fun j => e + 2 * j
def nums (l : List Nat) : List D := l.map fun (i : Nat) => D.int (i : Int)
@[simp] theorem nums_len (l : List Nat) : (nums l).length = l.length := by simp [nums]
@[simp] theorem nums_nil : nums [] = [] := rfl
@[simp] theorem nums_cons (a : Nat) (l : List Nat) : nums (a :: l) = .int a :: nums l := rfl
abbrev txts (l : List (List Nat)) : List D := l.map D.str
def sgs (l : List Nat) : List D := l.map fun c => D.str [c]
@[simp] theorem sgs_len (l : List Nat) : (sgs l).length = l.length := by simp [sgs]
@[simp] theorem sgs_nil : sgs [] = [] := rfl
@[simp] theorem sgs_cons (a : Nat) (l : List Nat) : sgs (a :: l) = .str [a] :: sgs l := rfl
theorem pl_in {n i p : Nat} (h : p ∈ pl n (i % 2)) : p + 1 < n := by
  simp only [pl, List.mem_map, List.mem_range] at h
  obtain ⟨j, hj, rfl⟩ := h
  omega
theorem pl_len (n i : Nat) : (pl n (i % 2)).length = (n - i % 2) / 2 := by simp [pl]
/-! ### knots -/
section
variable {α β : Type}
def swp (p : Nat) (xs : List α) : List α := match xs[p]?, xs[p + 1]? with
  | some a, some b => (xs.set p b).set (p + 1) a
  | _, _ => xs
def isX (k : Nat) : Bool := k == 82 || k == 76
def isL (k : Nat) : Bool := k == 76 || k == 108
def kn : List Nat → List Nat → List α → List α
  | p :: ps, k :: ks, xs => kn ps ks (if isX k = true then swp p xs else xs)
  | _, _, xs => xs
def sAt (p k : Nat) (xs : List α) : Option α := xs[if isL k = true then p + 1 else p]?
def sn : List Nat → List Nat → List α → List α
  | p :: ps, k :: ks, xs => (sAt p k xs).toList ++ sn ps ks xs
  | _, _, _ => []
def knT (n : Nat) : Nat → List (List Nat) → List α → List α
  | i, r :: rs, xs => knT n (i + 1) rs (kn (pl n (i % 2)) r xs)
  | _, [], xs => xs
def snT (n : Nat) : Nat → List (List Nat) → List α → List (List α)
  | i, r :: rs, xs => sn (pl n (i % 2)) r xs :: snT n (i + 1) rs (kn (pl n (i % 2)) r xs)
  | _, [], _ => []
@[simp] theorem swp_len (p : Nat) (xs : List α) : (swp p xs).length = xs.length := by
  unfold swp
  split <;> simp
@[simp] theorem kn_len : ∀ (ps ks : List Nat) (xs : List α), (kn ps ks xs).length = xs.length
  | [], _, _ => by simp [kn]
  | _ :: _, [], _ => by simp [kn]
  | p :: ps, k :: ks, xs => by
    rw [kn, kn_len ps ks]
    split <;> simp
@[simp] theorem knT_len (n : Nat) : ∀ (i : Nat) (rs : List (List Nat)) (xs : List α), (knT n i rs xs).length = xs.length
  | _, [], _ => by simp [knT]
  | i, r :: rs, xs => by rw [knT, knT_len n (i + 1) rs, kn_len]
@[simp] theorem snT_len (n : Nat) : ∀ (i : Nat) (rs : List (List Nat)) (xs : List α), (snT n i rs xs).length = rs.length
  | _, [], _ => by simp [snT]
  | i, r :: rs, xs => by simp [snT, snT_len n (i + 1) rs]
theorem swp_map (f : α → β) (p : Nat) (xs : List α) : swp p (xs.map f) = (swp p xs).map f := by
  unfold swp
  simp only [List.getElem?_map]
  cases xs[p]? with
  | none => rfl
  | some a =>
    cases xs[p + 1]? with
    | none => rfl
    | some b => simp [List.map_set]
theorem kn_map (f : α → β) : ∀ (ps ks : List Nat) (xs : List α), kn ps ks (xs.map f) = (kn ps ks xs).map f
  | [], _, _ => by simp [kn]
  | _ :: _, [], _ => by simp [kn]
  | p :: ps, k :: ks, xs => by
    rw [kn, kn]
    split
    · rw [swp_map, kn_map f ps ks]
    · rw [kn_map f ps ks]
theorem sn_map (f : α → β) : ∀ (ps ks : List Nat) (xs : List α), sn ps ks (xs.map f) = (sn ps ks xs).map f
  | [], _, _ => by simp [sn]
  | _ :: _, [], _ => by simp [sn]
  | p :: ps, k :: ks, xs => by
    rw [sn, sn, sn_map f ps ks, List.map_append]
    unfold sAt
    rw [List.getElem?_map]
    cases xs[if isL k = true then p + 1 else p]? <;> rfl
theorem knT_map (f : α → β) (n : Nat) : ∀ (i : Nat) (rs : List (List Nat)) (xs : List α), knT n i rs (xs.map f) = (knT n i rs xs).map f
  | _, [], _ => by simp [knT]
  | i, r :: rs, xs => by rw [knT, knT, kn_map, knT_map f n (i + 1) rs]
theorem snT_map (f : α → β) (n : Nat) : ∀ (i : Nat) (rs : List (List Nat)) (xs : List α), snT n i rs (xs.map f) = (snT n i rs xs).map (List.map f)
  | _, [], _ => by simp [snT]
  | i, r :: rs, xs => by rw [snT, snT, kn_map, sn_map, snT_map f n (i + 1) rs, List.map_cons]
end
/-- a good row of knots -/
structure RowOk (n i : Nat) (r : List Nat) : Prop where
  len : r.length = (pl n (i % 2)).length
  sgn : ∀ k ∈ r, k = 76 ∨ k = 82 ∨ k = 108 ∨ k = 114
def RowsOk (n : Nat) : Nat → List (List Nat) → Prop
  | i, r :: rs => RowOk n i r ∧ RowsOk n (i + 1) rs
  | _, [] => True
theorem RowsOk.at {n : Nat} : ∀ {i : Nat} {rs : List (List Nat)}, RowsOk n i rs → ∀ {j : Nat} {r : List Nat}, rs[j]? = some r → RowOk n (i + j) r
  | _, [], _, j, r, h => by simp at h
  | i, q :: rs, ok, 0, r, h => by
    cases h
    exact ok.1
  | i, q :: rs, ok, j + 1, r, h => by
    have := RowsOk.at ok.2 (j := j) (by simpa using h)
    rw [show i + 1 + j = i + (j + 1) by omega] at this
    exact this
theorem RowsOk.of {n : Nat} : ∀ {i : Nat} {rs : List (List Nat)}, (∀ (j : Nat) (r : List Nat), rs[j]? = some r → RowOk n (i + j) r) → RowsOk n i rs
  | _, [], _ => trivial
  | i, q :: rs, h => ⟨h 0 q rfl, RowsOk.of fun j r hj => by
      have := h (j + 1) r (by simpa using hj)
      rw [show i + (j + 1) = i + 1 + j by omega] at this
      exact this⟩
theorem RowOk.par {n i j : Nat} {r : List Nat} (h : RowOk n i r) (e : i % 2 = j % 2) : RowOk n j r := ⟨by rw [h.len, e], h.sgn⟩
theorem RowOk.le {n i : Nat} {r : List Nat} (h : RowOk n i r) (h8 : n ≤ 8) : r.length ≤ 4 := by
  rw [h.len, pl_len]
  omega
/-- the pattern as data -/
abbrev patD (n : Nat) (rs : List (List Nat)) : D := .ins "Pattern" [("own_strings", .int (n : Int)), ("own_rows", .tup (txts rs))]
end KB
namespace KB
open PySem
@[simp] theorem ltD_int (i j : Int) : ltD (.int i) (.int j) = some (.bl (decide (i < j))) := Eq.trans rfl rfl
@[simp] theorem leD_int (i j : Int) : leD (.int i) (.int j) = some (.bl (decide (i ≤ j))) := Eq.trans rfl rfl
@[simp] theorem gtD_int (i j : Int) : gtD (.int i) (.int j) = some (.bl (decide (j < i))) := Eq.trans rfl rfl
@[simp] theorem geD_int (i j : Int) : geD (.int i) (.int j) = some (.bl (decide (j ≤ i))) := Eq.trans rfl rfl
@[simp] theorem inD_s (c : Nat) (l : List Nat) : inD (.str [c]) (.str l) = some (.bl (decide (c ∈ l))) := Eq.trans rfl rfl
@[simp] theorem ninD_s (c : Nat) (l : List Nat) : ninD (.str [c]) (.str l) = some (.bl (!decide (c ∈ l))) := Eq.trans rfl rfl
@[simp] theorem isD_non_int (i : Int) : isD (.int i) .non = some (.bl false) := Eq.trans rfl rfl
@[simp] theorem isD_non_non : isD .non .non = some (.bl true) := Eq.trans rfl rfl
@[simp] theorem nisD_non_non : nisD .non .non = some (.bl false) := Eq.trans rfl rfl
@[simp] theorem nisD_non_tup (xs : List D) : nisD (.tup xs) .non = some (.bl true) := Eq.trans rfl rfl
@[simp] theorem isD_non_tup (xs : List D) : isD (.tup xs) .non = some (.bl false) := Eq.trans rfl rfl
@[simp] theorem notD_bl (b : Bool) : notD (.bl b) = some (.bl (!b)) := Eq.trans rfl rfl
@[simp] theorem intD_bl (b : Bool) : intD [.bl b] = some (.int (if b then 1 else 0)) := Eq.trans rfl rfl
@[simp] theorem truD_int (i : Int) : truD (.int i) = some (i != 0) := Eq.trans rfl rfl
section
variable {S : Type} {env : KB.Env} {s : S} {f g : KB.Env → S → R S D} {fs : KB.Env → S → R S (List D)}
@[simp] theorem ev_eMake {nm : Str} {sem : List D → S → R S (List (Str × D))} : eMake nm sem fs env s = ((fs env s).bind fun ds s1 => (sem ds s1).bind fun fl s2 => .ok (.ins nm fl) s2) := Eq.trans rfl rfl
@[simp] theorem ev_eOp2S {k : D → D → S → R S D} : eOp2S k f g env s = ((f env s).bind fun x s1 => (g env s1).bind fun y s2 => k x y s2) := Eq.trans rfl rfl
@[simp] theorem ev_eIsI {nm : Str} : eIsI nm f env s = ((f env s).bind fun x s1 => kIsI nm x s1) := Eq.trans rfl rfl
@[simp] theorem ev_eLenI {nm : Str} {sem : List D → S → R S RV} : eLenI nm sem f env s = ((f env s).bind fun x s1 => kLen nm sem x s1) := Eq.trans rfl rfl
@[simp] theorem kIsI_pat (fs : List (Str × D)) : kIsI (S := S) "Pattern" (.ins "Pattern" fs) s = .ok (.bl true) s := by kernel_rfl
@[simp] theorem ev_ePrp {nm : Str} {sem : List D → S → R S RV} : ePrp nm sem f env s = ((f env s).bind fun x s1 => match x with
  | .ins n fs => if n = nm then (sem [.ins n fs] s1).noX.bind fun r s2 => .ok r.toD s2 else .bad
  | _ => .bad) := Eq.trans rfl rfl
@[simp] theorem ev_eMth {nm m : Str} {sem : List D → S → R S RV} : eMth nm m sem f fs env s = ((f env s).bind fun x s1 => match x with
  | .ins n fl => if n = nm ∧ fl.lookup m = none then (fs env s1).bind fun ds s2 => (sem (.ins n fl :: ds) s2).bind fun r s3 => .ok r.toD s3 else .bad
  | _ => .bad) := Eq.trans rfl rfl
end
@[simp] theorem fld_s (n : Nat) (rs : List (List Nat)) : fldD "Pattern" "own_strings" (patD n rs) = some (.int n) := by kernel_rfl
@[simp] theorem fld_r (n : Nat) (rs : List (List Nat)) : fldD "Pattern" "own_rows" (patD n rs) = some (.tup (txts rs)) := by kernel_rfl
theorem nn {n : Nat} : ((n : Int).toNat) = n := by simp
end KB
namespace KB
open PySem
@[simp] theorem intD1_int (i : Int) : intD1 (.int i) = some (.int i) := Eq.trans rfl rfl
@[simp] theorem intD1_bl (b : Bool) : intD1 (.bl b) = some (.int (if b then 1 else 0)) := Eq.trans rfl rfl
end KB
namespace KB
open PySem
/-- colours by numbers -/
def pick (c l : List Nat) : List Nat := l.map fun i => c.getD i 0
@[simp] theorem pick_len (c l : List Nat) : (pick c l).length = l.length := by simp [pick]
end KB
set_option Elab.async false
set_option linter.all false
set_option maxRecDepth 100000
set_option maxHeartbeats 4000000
/-! K34: [::-1] of a text, a list, a tuple -/
namespace KB
open PySem PySem.Spec PyProof.Rows L2
section
variable {T : Ctx} {S : Type} {SR : SRel S} {W : WX} {X : Cx} {a b o : Expr} {f g : KB.Env → S → R S D} {pos apos p : Pos}
def revA : D → Option D
  | .str l => if l.length ≤ 16777216 then some (.str l.reverse) else none
  | .lst l => some (.lst l.reverse)
  | .tup l => some (.tup l.reverse)
  | _ => none
@[simp] theorem revA_s {l : List Nat} (h : l.length ≤ 16777216) : revA (.str l) = some (.str l.reverse) := if_pos h
@[simp] theorem revA_t {l : List D} : revA (.tup l) = some (.tup l.reverse) := Eq.trans rfl rfl
@[simp] theorem revA_l {l : List D} : revA (.lst l) = some (.lst l.reverse) := Eq.trans rfl rfl
end
end KB
set_option Elab.async false
set_option linter.all false
set_option maxRecDepth 100000
set_option maxHeartbeats 4000000
/-! K35: turned rows; draws with a place -/
namespace KB
open PySem
section
variable {α : Type}
theorem swp_get (p : Nat) (xs : List α) (h : p + 1 < xs.length) (j : Nat) : (swp p xs)[j]? = xs[if j = p then p + 1 else if j = p + 1 then p else j]? := by
  unfold swp
  rw [List.getElem?_eq_getElem (show p < xs.length by omega), List.getElem?_eq_getElem h]
  dsimp only
  rw [List.getElem?_set, List.getElem?_set]
  by_cases h1 : j = p
  · subst h1
    rw [if_neg (by omega), if_pos rfl, if_pos rfl, if_pos (by omega), List.getElem?_eq_getElem h]
  · by_cases h2 : j = p + 1
    · subst h2
      rw [if_pos rfl, if_pos (by simpa using h), if_neg (by omega), if_pos rfl, List.getElem?_eq_getElem (show p < xs.length by omega)]
    · rw [if_neg (by omega), if_neg (by omega), if_neg h1, if_neg h2]
/-- R and L change their sides -/
def tn (k : Nat) : Nat := if k = 82 then 76 else if k = 76 then 82 else k
theorem knT_app {n : Nat} : ∀ {i : Nat} {as bs : List (List Nat)} {xs : List α}, knT n i (as ++ bs) xs = knT n (i + as.length) bs (knT n i as xs)
  | i, [], bs, xs => by simp [knT]
  | i, a :: as, bs, xs => by
    rw [List.cons_append, knT, knT, knT_app, List.length_cons]
    congr 1
    omega
theorem snT_app {n : Nat} : ∀ {i : Nat} {as bs : List (List Nat)} {xs : List α}, snT n i (as ++ bs) xs = snT n i as xs ++ snT n (i + as.length) bs (knT n i as xs)
  | i, [], bs, xs => by simp [knT, snT]
  | i, a :: as, bs, xs => by
    rw [List.cons_append, snT, snT, knT, snT_app, List.length_cons, List.cons_append]
    congr 3
    omega
/-- the rows upside down -/
def udn (rs : List (List Nat)) : List (List Nat) := (rs.map (List.map tn)).reverse
@[simp] theorem udn_len (rs : List (List Nat)) : (udn rs).length = rs.length := by simp [udn]
end
/-! ### draws, each with its place -/
theorem rng_get0 {n i : Nat} {x : D} (h : (rng 0 n)[i]? = some x) : i < n ∧ x = .int i := by
  obtain ⟨a, b⟩ := rng_get h
  rw [Int.zero_add] at b
  exact ⟨a, b⟩
end KB
namespace KB
open PySem
theorem RowsOk.all {n : Nat} {rs : List (List Nat)} (h : RowsOk n 0 rs) {r : List Nat} (hr : r ∈ rs) : (∀ k ∈ r, k = 76 ∨ k = 82 ∨ k = 108 ∨ k = 114) ∧ (n ≤ 8 → r.length ≤ 4) := by
  obtain ⟨j, hj⟩ := List.getElem?_of_mem hr
  exact ⟨(h.at hj).sgn, (h.at hj).le⟩
theorem RowsOk.take {n : Nat} {rs : List (List Nat)} (h : RowsOk n 0 rs) (k : Nat) : RowsOk n 0 (rs.take k) := RowsOk.of fun j r hj => by
  rw [List.getElem?_take] at hj
  split at hj
  · exact h.at hj
  · cases hj
end KB
namespace KB
open PySem
theorem lk_shown (a b : D) : List.lookup ("shown" : Str) [(("own_strings" : Str), a), (("own_rows" : Str), b)] = none := by kernel_rfl
theorem lk_behind (a b : D) : List.lookup ("behind" : Str) [(("own_strings" : Str), a), (("own_rows" : Str), b)] = none := by kernel_rfl
theorem ev_eSl {S : Type} {sem : D → Option Int → Option Int → Option D} {f : KB.Env → S → R S D} {g h : KB.Env → S → R S (Option Int)} {env : KB.Env} {s : S} : eSl sem f g h env s = ((f env s).bind fun x s1 => (g env s1).bind fun l s2 => (h env s2).bind fun u s3 => R.of (sem x l u) s3) := Eq.trans rfl rfl
theorem ev_pNone {S : Type} {env : KB.Env} {s : S} : pNone env s = .ok none s := Eq.trans rfl rfl
theorem ev_pM1 {S : Type} {env : KB.Env} {s : S} : pSome (eOp1 negD (eC (.int 1))) env s = .ok (some (-1)) s := by kernel_rfl
theorem fit_str {l : List Nat} {n : Nat} (h : ∀ c ∈ l, c < 0x110000) : D.fit (.str l) n = true := by
  rw [D.fit, List.all_eq_true]
  exact fun c hc => decide_eq_true (h c hc)
end KB
set_option Elab.async false
set_option linter.all false
set_option maxRecDepth 100000
set_option maxHeartbeats 4000000
/-! K36: mirrored rows -/
namespace KB
open PySem
section
variable {α : Type}
def mir (k : Nat) : Nat := if k = 82 then 76 else if k = 76 then 82 else if k = 114 then 108 else if k = 108 then 114 else k
def mrow (r : List Nat) : List Nat := r.reverse.map mir
def mall (rs : List (List Nat)) : List (List Nat) := rs.map mrow
@[simp] theorem mall_len (rs : List (List Nat)) : (mall rs).length = rs.length := by simp [mall]
end
end KB
set_option Elab.async false
set_option linter.all false
set_option maxRecDepth 100000
set_option maxHeartbeats 4000000
/-! K37: sum of a list, of a tuple -/
namespace KB
open PySem PySem.Spec PyProof.Rows L2
section
variable {X : Cx}
def rSumT (K : PySem.W.Frag) : List V → Hp → VK → Prop := fun vs H Q => ∃ (a : Addr) (ns : List Int), vs = [V.ref a] ∧ SqT K H a (ns.map V.int) ∧ Q (.int ns.sum) H
theorem cr_sumT (hc : X.calm = true) : CallR X (.builtin "sum") (rSumT X.K) := by
  intro pins s σ H vs us Q I r h
  obtain ⟨a, ns, rfl, hs, q⟩ := h
  obtain ⟨its, rv, ht, _⟩ := I.tuple hs
  rw [Vals.ref1 r]
  have hi := rv.ints
  obtain ⟨xs, e⟩ := hi.allInts.items
  have hn : numsOf (intItems xs).toList = ns := by rw [← e]; exact hi.numsOf
  rw [nums_intItems] at hn
  have ht' : s.heap.IsTuple a (intItems xs) := by
    rw [← e]
    exact ht
  refine PySem.W.ktm_sumG (I.ok.hd hc) ht' fun h' tk t' hk => ?_
  rw [preSum_eq, List.take_of_length_le (by simp), hn]
  exact ⟨.int _, H, I.kept hk, ⟨_, rfl⟩, q⟩
end
section
variable {T : Ctx} {X : Cx}
def sumA1 : D → Option D
  | .lst xs => (intsD xs).map fun ns => .int ns.sum
  | .tup xs => (intsD xs).map fun ns => .int ns.sum
  | _ => none
abbrev sumA := on1 sumA1
theorem cl_sumA (hK : X.K = T.K) (hc : X.calm = true) : ∃ r, CallR X (.builtin "sum") r ∧ SemL T r sumA := by
  refine ⟨_, (cr_sum hc).or (cr_sumT hc), ?_⟩
  rw [hK]
  refine sem_on1 fun c H x z u Q ok rv e k => ?_
  cases rv with
  | @lst a vs ys h r =>
    have e' : (intsD ys).map (fun ns => D.int ns.sum) = some z := e
    cases q : intsD ys with
    | none =>
      rw [q] at e'
      cases e'
    | some ns =>
      rw [q] at e'
      cases e'
      exact .inl ⟨_, ns, rfl, SqL.of (intsD_rep r q ▸ ok.gh _ _ h), stay ok (.int _) k⟩
  | @tup a vs ys h r =>
    have e' : (intsD ys).map (fun ns => D.int ns.sum) = some z := e
    cases q : intsD ys with
    | none =>
      rw [q] at e'
      cases e'
    | some ns =>
      rw [q] at e'
      cases e'
      exact .inr ⟨_, ns, rfl, same_t ok.gh (intsD_rep r q ▸ h), stay ok (.int _) k⟩
  | _ => cases e
end
end KB
set_option Elab.async false
set_option linter.all false
set_option maxRecDepth 100000
set_option maxHeartbeats 4000000
/-! K38: counts -/
namespace KB
open PySem
def sR : Nat → (Nat → Nat) → Nat
  | 0, _ => 0
  | n + 1, f => sR n f + f n
def cw (n b k : Nat) (S : List Nat) : List Nat := (List.range n).map fun j => b + k * S.count j
@[simp] theorem cw_len (n b k : Nat) (S : List Nat) : (cw n b k S).length = n := by simp [cw]
/-! ### the order is a rearrangement -/
end KB
set_option Elab.async false
set_option linter.all false
set_option maxRecDepth 100000
set_option maxHeartbeats 4000000
/-! K39: repr of small data -/
set_option Elab.async false
set_option linter.all false
set_option maxRecDepth 100000
set_option maxHeartbeats 4000000
/-! K40: text * int -/
set_option Elab.async false
set_option linter.all false
set_option maxRecDepth 100000
set_option maxHeartbeats 4000000
/-! K41: equality of rows; rounds -/
namespace KB
open PySem
section
variable {α : Type} [DecidableEq α] {e : α → D}
theorem eqvAll_map (h : ∀ a b, PyData.eqv (e a).py (e b).py = decide (a = b)) : ∀ xs ys : List α, PyData.eqvAll (D.pys (xs.map e)) (D.pys (ys.map e)) = decide (xs = ys)
  | [], [] => rfl
  | [], y :: ys => by
    rw [decide_eq_false (by simp)]
    rfl
  | x :: xs, [] => by
    rw [decide_eq_false (by simp)]
    rfl
  | x :: xs, y :: ys => by
    show (PyData.eqv (e x).py (e y).py && PyData.eqvAll (D.pys (xs.map e)) (D.pys (ys.map e))) = _
    rw [h, eqvAll_map h xs ys]
    by_cases h1 : x = y <;> by_cases h2 : xs = ys <;> simp [h1, h2]
theorem eqD_lstM (h : ∀ a b, PyData.eqv (e a).py (e b).py = decide (a = b)) {xs ys : List α} {n : Nat} (hn : n ≤ 64) (fx : D.fit (.lst (xs.map e)) n = true) (fy : D.fit (.lst (ys.map e)) n = true) : eqD (.lst (xs.map e)) (.lst (ys.map e)) = some (.bl (decide (xs = ys))) := by
  show (if (D.lst (xs.map e)).okE = true ∧ (D.lst (ys.map e)).okE = true then some (D.bl (PyData.eqv (D.lst (xs.map e)).py (D.lst (ys.map e)).py)) else none) = _
  rw [if_pos ⟨fit_okE fx hn, fit_okE fy hn⟩]
  show some (D.bl (PyData.eqvAll (D.pys (xs.map e)) (D.pys (ys.map e)))) = _
  rw [eqvAll_map h]
end
theorem eqv_str (a b : List Nat) : PyData.eqv (D.str a).py (D.str b).py = decide (a = b) := by
  show (sOf a == sOf b) = _
  by_cases h : a = b
  · subst h
    simp
  · have h2 : ¬ sOf a = sOf b := fun z => h (sOf_inj z)
    simp [h, h2]
/-! ### again and again -/
def itf (f : Nat → Nat) : Nat → Nat → Nat
  | 0, j => j
  | k + 1, j => itf f k (f j)
def pw (o : List Nat) (k : Nat) : List Nat := (List.range o.length).map (itf (fun j => o.getD j 0) k)
@[simp] theorem pw_len (o : List Nat) (k : Nat) : (pw o k).length = o.length := by simp [pw]
/-- an order: what stands where -/
structure Ord (n : Nat) (o : List Nat) : Prop where
  len : o.length = n
  lt : ∀ x ∈ o, x < n
  nd : o.Nodup
section
variable {n : Nat} {o : List Nat}
theorem Ord.at (h : Ord n o) {j : Nat} (hj : j < n) : o.getD j 0 < n := by
  have hj' : j < o.length := by rw [h.len]; exact hj
  have : o[j]? = some (o.getD j 0) := by simp [List.getD, hj']
  exact h.lt _ (List.mem_of_getElem? this)
theorem Ord.inj (h : Ord n o) {i j : Nat} (hi : i < n) (hj : j < n) (e : o.getD i 0 = o.getD j 0) : i = j :=
  (List.getD_inj (by rw [h.len]; exact hi) (by rw [h.len]; exact hj) h.nd).mp e
theorem Ord.it (h : Ord n o) : ∀ (k : Nat) {j : Nat}, j < n → itf (fun j => o.getD j 0) k j < n
  | 0, _, hj => hj
  | k + 1, _, hj => Ord.it h k (h.at hj)
end
/-- the first k from there on that does -/
def fstK (p : Nat → Bool) : Nat → Nat → Nat
  | 0, k => k
  | f + 1, k => if p k = true then k else fstK p f (k + 1)
/-- the round -/
def rnd (o : List Nat) : Nat := fstK (fun k => decide (pw o k = List.range o.length)) 840 1
end KB
set_option Elab.async false
set_option linter.all false
set_option maxRecDepth 100000
set_option maxHeartbeats 4000000
/-! K42: tuple * 1; repr of great numbers -/
namespace KB
open PySem PySem.Spec PyProof.Rows L2
theorem tuple_mul1 (l : Addr) (items : Array Value) (n : Nat) (dd : Option Addr) (sl : Array (Option Value)) (x : Int) (u : Tok) (c0 : (decide (x < -(2 ^ 63)) || decide (x ≥ 2 ^ 63)) = false) (c1 : (items.isEmpty || x == 1) = true) :
    Meets (Builtin.«tuple.__mul__» ⟨[.ref l, .int x u], []⟩) (fun _ R s => s.heap.get? l = some { cls := .type "tuple", dict := dd, data := .seq items n, slots := sl } ∧ R (.ok (.ret (Value.ref l))) s) :=
  .of_wp fun prog w A R s h => by
    obtain ⟨hp, g, d, tk, os⟩ := s
    obtain ⟨hl, h⟩ := h
    have f1 := AutoSeq1.idx_int
    wp_walk using wpAny_loadPart' hl
    repeat (first
      | (refine wpAny_ite_false (decide_eq_false (by rw [c0]; exact Bool.false_ne_true)) ?_; wp_walk using wpAny_loadPart' hl)
      | (refine wpAny_ite_true (decide_eq_true c1) ?_; wp_walk using wpAny_loadPart' hl))
    exact ⟨_, rfl, h⟩
section
variable {X : Cx}
theorem op_mul1T : OpR X (binaryOp .Mult) (fun x y H Q => ∃ (l : Addr) (k : Int) (xs : List V), x = .ref l ∧ y = .int k ∧ SqT X.K H l xs ∧ (xs = [] ∨ k = 1) ∧ -(2 ^ 63) ≤ k ∧ k < 2 ^ 63 ∧ Q (.ref l) H) := by
  intro pins s σ H x y v u Q I rx ry h
  obtain ⟨l, k, xs, rfl, rfl, hT, hk, h1, h2, q⟩ := h
  cases rx
  obtain ⟨t, rfl⟩ := ry
  obtain ⟨its, r, ⟨⟨cls, dd, data, sl⟩, ho, hc, n, hd⟩, hs⟩ := I.tuple hT
  simp only at hc hd
  subst hc hd
  have c0 : (decide (k < -(2 ^ 63)) || decide (k ≥ 2 ^ 63)) = false := by
    rw [decide_eq_false (by omega), decide_eq_false (by omega)] <;> rfl
  have c1 : (its.toArray.isEmpty || k == 1) = true := by
    rcases hk with rfl | rfl
    · have : its = [] := by
        have := r.length
        exact List.eq_nil_of_length_eq_zero this.symm
      subst this
      rfl
    · simp
  refine wpAny_binaryOp_repeat_ref (T := "tuple") (U := "int") (by decide) ⟨_, ho, rfl⟩ (fun s' => typeIs_int s' k t) noFill_tuple_mul F.fills_int_mul F.slot_int_rmul repeat_tuple F.slot_int_index.lookup
    (call_meets F.slot_int_rmul (typeIs_int s k t) F.entry_int_rmul (F.args_int_rmul_2 _ _) (int_rmul_tuple k t l its.toArray n dd sl)
      ⟨ho, rfl, ⟨_, ho, rfl⟩, call_meets F.slot_tuple_mul ⟨_, ho, rfl⟩ F.entry_tuple_mul (F.args_tuple_mul_2 _ _) (tuple_mul1 l its.toArray n dd sl k t c0 c1) ⟨ho, ?_⟩⟩)
  exact ⟨.ref l, H, I, rfl, q⟩
end
/-- a tuple, so many times -/
def mulT : D → D → Option D
  | .tup xs, .int k => if xs = [] ∨ k = 1 then (if -(2 ^ 63) ≤ k ∧ k < 2 ^ 63 then some (.tup xs) else none) else (if 2 ≤ k ∧ k ≤ 1000 ∧ xs.length ≤ 1000 then some (.tup (List.replicate k.toNat xs).flatten) else none)
  | _, _ => none
theorem op_mulT {X : Cx} {T : Ctx} (hK : X.K = T.K) : ∃ r, OpR X (binaryOp .Mult) r ∧ Sem2 T r mulT := by
  refine ⟨_, op_mul1T.or op_repT, ?_⟩
  rw [hK]
  intro c H x y z u v Q ok rx ry e k
  cases rx <;> try (cases e; done)
  cases ry <;> try (cases e; done)
  rename_i a vs xs h r j
  simp only [mulT] at e
  split at e
  · rename_i hh
    split at e
    · rename_i h3
      cases e
      refine .inl ⟨_, _, vs, rfl, rfl, same_t ok.gh h, ?_, h3.1, h3.2, stay ok (.tup h r) k⟩
      rcases hh with rfl | hh
      · cases r
        exact .inl rfl
      · exact .inr hh
    · cases e
  · rename_i hh
    split at e
    · rename_i h3
      cases e
      refine .inr ⟨_, _, vs, rfl, rfl, same_t ok.gh h, ?_, h3.1, h3.2.1, by rw [← r.length]; exact h3.2.2, fun p hp => bornT ok hp (r.rep _) k⟩
      intro z
      subst z
      cases r
      exact hh (.inl rfl)
    · cases e
/-! ### repr of a tuple of great numbers -/
end KB
namespace KB
open PySem PySem.Spec PyProof.Rows L2
def mulX (x y : D) : Option D := match x with
  | .tup _ => mulT x y
  | _ => mulD x y
theorem op_mulX {X : Cx} {T : Ctx} (hK : X.K = T.K) : ∃ r, OpR X (binaryOp .Mult) r ∧ Sem2 T r mulX := by
  obtain ⟨r1, h1, s1⟩ := op_mulT (X := X) (T := T) hK
  obtain ⟨r2, h2, s2⟩ := op_mulD (X := X) (T := T) hK
  refine ⟨_, h1.or h2, ?_⟩
  intro c H x y z u v Q ok rx ry e k
  cases x with
  | tup xs => exact .inl (s1 c H _ y z u v Q ok rx ry e k)
  | _ => exact .inr (s2 c H _ y z u v Q ok rx ry e k)
theorem mulX_int (i : Int) (y : D) : mulX (.int i) y = mulD (.int i) y := Eq.trans rfl rfl
end KB
set_option Elab.async false
set_option linter.all false
set_option maxRecDepth 100000
set_option maxHeartbeats 4000000
/-! K43: the round is at most 15 -/
namespace KB
open PySem
section
variable {n : Nat} {o : List Nat}
/-- the length of j's cycle -/
def cyc (o : List Nat) (j : Nat) : Nat := fstK (fun c => decide (itf (fun j => o.getD j 0) c j = j)) o.length 1
def many (o : List Nat) (n c : Nat) : Nat := sR n fun i => if cyc o i = c then 1 else 0
end
end KB
namespace KB
open PySem
theorem swp_cut {α : Type} {p : Nat} {xs : List α} (h : p + 1 < xs.length) : swp p xs = xs.take p ++ [xs[p + 1], xs[p]] ++ xs.drop (p + 2) := by
  apply List.ext_getElem?
  intro j
  rw [swp_get p _ h, List.getElem?_append, List.getElem?_append]
  have hl : (xs.take p).length = p := by rw [List.length_take]; omega
  rw [List.length_append, hl]
  by_cases h1 : j < p
  · rw [if_neg (by omega), if_neg (by omega), if_pos (by simp; omega), if_pos h1, List.getElem?_take, if_pos h1]
  · by_cases h2 : j = p
    · subst h2
      rw [if_pos rfl, if_pos (by simp), if_neg (by omega)]
      simp [h]
    · by_cases h3 : j = p + 1
      · subst h3
        rw [if_neg (by omega), if_pos rfl, if_pos (by simp), if_neg (by omega)]
        simp
      · rw [if_neg h2, if_neg h3, if_neg (by simp; omega), List.getElem?_drop]
        congr 1
        simp
        omega
end KB
set_option Elab.async false
set_option linter.all false
set_option maxRecDepth 100000
set_option maxHeartbeats 4000000
/-! K44: a loop, row by row -/
namespace KB
open PySem
abbrev ordr (n : Nat) (rs : List (List Nat)) : List Nat := knT n 0 rs (List.range n)
/-- how the strings stand ahead of row b of the a-th time -/
abbrev stand (n : Nat) (rs : List (List Nat)) (a b : Nat) : List Nat := knT n 0 (rs.take b) (pw (ordr n rs) (a % rnd (ordr n rs)))
section
variable {n : Nat} {rs : List (List Nat)}
/-- so many times the rows -/
def SR (n : Nat) (rs : List (List Nat)) : Nat → List (List Nat)
  | 0 => []
  | t + 1 => SR n rs t ++ snT n 0 rs (pw (ordr n rs) t)
end
end KB
set_option Elab.async false
set_option linter.all false
set_option maxRecDepth 100000
set_option maxHeartbeats 4000000
/-! K45: repr of numbers, texts, truths, None as well -/
namespace KB
open PySem PySem.Spec PyProof.Rows L2
section
variable {T : Ctx} {X : Cx}
def reprX1 : D → Option D
  | .int i => if i.natAbs.log2 < 1920 then some (.str (numS i)) else none
  | .str l => if (reprText (sOf l)).length ≤ 16777216 then some (.str (reprText (sOf l)).cps.toList) else none
  | .bl b => some (.str (if b then ("True" : Str) else ("False" : Str)).cps.toList)
  | .non => some (.str (("None" : String) : Str).cps.toList)
  | d => reprD1 d
theorem reprX_l (l : List D) : reprX1 (.lst l) = reprD1 (.lst l) := Eq.trans rfl rfl
theorem reprX_t (l : List D) : reprX1 (.tup l) = reprD1 (.tup l) := Eq.trans rfl rfl
end
end KB
set_option Elab.async false
set_option linter.all false
set_option maxRecDepth 100000
set_option maxHeartbeats 4000000
/-! K46: the least even shift -/
namespace KB
open PySem
section
variable {α : Type}
def Per (f : Nat → α) (d : Nat) : Prop := ∀ i, f (i + d) = f i
theorem Per.mul {f : Nat → α} {d : Nat} (h : Per f d) : ∀ k, Per f (d * k)
  | 0, i => rfl
  | k + 1, i => by rw [Nat.mul_succ, ← Nat.add_assoc, h, Per.mul h k i]
theorem Per.mod {f : Nat → α} {W : Nat} (h : Per f W) (i : Nat) : f (i % W) = f i := by
  have e := h.mul (i / W) (i % W)
  rw [Nat.mod_add_div] at e
  exact e.symm
variable [DecidableEq α]
end
end KB
set_option Elab.async false
set_option linter.all false
set_option maxRecDepth 100000
set_option maxHeartbeats 4000000
/-! K47: the least even shift, looked for -/
namespace KB
open PySem
theorem fit_txtsL {xs : List (List Nat)} (h : ∀ l ∈ xs, ∀ c ∈ l, c < 0x110000) : D.fit (.lst (xs.map D.str)) 1 = true := by
  rw [D.fit, fits_all]
  intro x hx
  obtain ⟨l, hl, rfl⟩ := List.mem_map.mp hx
  exact fit_str (h l hl)
end KB
set_option Elab.async false
set_option linter.all false
set_option maxRecDepth 100000
set_option maxHeartbeats 4000000
/-! K48: an instance times an int -/
set_option Elab.async false
set_option linter.all false
set_option maxRecDepth 100000
set_option maxHeartbeats 4000000
/-! K49: how often a string is seen in the first rows -/
set_option Elab.async false
set_option linter.all false
set_option maxRecDepth 100000
set_option maxHeartbeats 4000000
/-! K50: the least of a list -/
set_option Elab.async false
set_option linter.all false
set_option maxRecDepth 100000
set_option maxHeartbeats 4000000
/-! K51: methods of texts and lists with one argument: index, split, count; int of a text -/
namespace KB
open PySem PySem.Spec PyProof.Rows L2
def tyL : D → Bool
  | .lst _ => true
  | _ => false
def tyS : D → Bool
  | .str _ => true
  | _ => false
theorem tyL_l (xs : List D) : tyL (.lst xs) = true := Eq.trans rfl rfl
theorem tyS_s (l : List Nat) : tyS (.str l) = true := Eq.trans rfl rfl
def eBm1 {S : Type} (ty : D → Bool) (sem : D → D → Option D) (f g : KB.Env → S → R S D) : KB.Env → S → R S D := fun env s => (f env s).bind fun x s1 => if ty x = true then (g env s1).bind fun y s2 => R.of (sem x y) s2 else .bad
theorem ev_eBm1 {S : Type} {ty : D → Bool} {sem : D → D → Option D} {f g : KB.Env → S → R S D} {env : KB.Env} {s : S} : eBm1 ty sem f g env s = ((f env s).bind fun x s1 => if ty x = true then (g env s1).bind fun y s2 => R.of (sem x y) s2 else .bad) := Eq.trans rfl rfl
def SemM (T : Ctx) (ty : D → Bool) (r : V → List V → Hp → VK → Prop) (sem : D → D → Option D) : Prop := ∀ (c : Cf) (H : Hp) (x y z : D) (u w : V) (Q : VK), CfOk c H → Rep T c x u → ty x = true → Rep T c y w → sem x y = some z →
  (∀ w c' H', Stp c H c' H' → c'.m = c.m → c'.F = c.F → Rep T c' z w → Q w H') → r u [w] H Q
section
variable {T : Ctx} {S : Type} {SR : SRel S} {W : WX} {X : Cx} {a o : Expr} {f g : KB.Env → S → R S D} {pos apos : Pos}
theorem de_mS {id : String} {name : Str} {sem : D → D → Option D} (slot : Slot "str" name id) (ty : typeOf (.builtin id) = pure (.type "method_descriptor")) (hr : ∃ r, MtR X id r ∧ SemM T tyS r sem) (ho : DE T SR W X o f) (ha : DE T SR W X a g)
    (hst : starEach [a] X.env = [(false, eval a X.env)] := by rfl) (hbase : attributeBase o name X.env (eval o X.env) = eval o X.env := by rfl) (hline : (apos.endLine == pos.line) = true := by rfl) :
    DE T SR W X (.Call (.Attribute o name apos) [a] [] pos) (eBm1 tyS sem f g) := by
  obtain ⟨r, rule, hs⟩ := hr
  refine PE.imp (pe_m1 slot ty rule ho ha hst hbase hline) fun σ H Q ⟨c, env, s, x, p⟩ => ?_
  refine Po.run x p fun d s1 v c1 H1 st1 x1 r1 p1 => ?_
  have p1' : Po T SR W (wE T Q) c1 H1 σ (if tyS d = true then (g env s1).bind fun y s2 => R.of (sem d y) s2 else .bad) := p1
  split at p1'
  · rename_i hd
    constructor
    · cases r1 with
      | str l => exact ⟨_, rfl⟩
      | _ => cases hd
    · refine Po.run x1 p1' fun e s2 w c2 H2 st2 x2 r2 p2 => ?_
      obtain ⟨z, hz, k⟩ := p2.value x2
      exact hs c2 H2 d e z v w Q x2.ok (r1.mono st2.gx) hd r2 hz k
  · exact p1'.elim
end
/-! ### index -/
/-! ### split -/
def splitD : D → D → Option D
  | .str a, .str b => if b ≠ [] ∧ b.all (· < 256) = true ∧ a.length ≤ 16777214 then some (.lst ((TL.spl b 0 [] a).map D.str)) else none
  | _, _ => none
theorem reps_strs {T : Ctx} {c : Cf} : ∀ ls : List (List Nat), Reps T c (ls.map D.str) ((ls.map sOf).map V.str)
  | [] => .nil
  | l :: ls => .cons (.str l) (reps_strs ls)
theorem op_split {T : Ctx} {X : Cx} : ∃ r, MtR X "str.split" r ∧ SemM T tyS r splitD := by
  refine ⟨_, mt_split, ?_⟩
  intro c H x y z u w Q ok rx hx ry e k
  cases rx with
  | str a =>
    cases ry with
    | str b =>
      have e' : (if b ≠ [] ∧ b.all (· < 256) = true ∧ a.length ≤ 16777214 then some (D.lst ((TL.spl b 0 [] a).map D.str)) else none) = some z := e
      split at e'
      · rename_i hb
        cases e'
        obtain ⟨b1, b2, b3⟩ := hb
        refine ⟨sOf a, sOf b, rfl, rfl, ?_, ?_, ?_⟩
        · rw [sOf_len]
          cases b with
          | nil => exact absurd rfl b1
          | cons c b => rfl
        · rw [sOf_len, sizeLine_eq]
          omega
        · have hs := SX.split_S (a := a) b1 b2
          intro p hp
          have hs' : Txt.split (sOf a) (sOf b) = (TL.spl b 0 [] a).map sOf := hs
          rw [hs']
          exact bornL ok hp (reps_strs _) k
      · cases e'
    | _ => cases e
  | _ => cases hx
/-! ### count -/
/-! ### int of a text -/
def intX1 : D → Option D
  | .str l => if l.length ≤ 640 then (PySem.intText? (sOf l)).map D.int else none
  | d => intD1 d
abbrev intX := on1 intX1
theorem intX_int (i : Int) : intX1 (.int i) = some (.int i) := Eq.trans rfl rfl
theorem intX_bl (b : Bool) : intX1 (.bl b) = some (.int (if b then 1 else 0)) := Eq.trans rfl rfl
theorem cl_intX {T : Ctx} {X : Cx} : ∃ r, CallR X (.type "int") r ∧ SemL T r intX := by
  obtain ⟨r0, h0, s0⟩ := cl_int (T := T) (X := X)
  refine ⟨_, call_int_str.or h0, ?_⟩
  refine sem_on1 fun c H x z u Q ok rv e k => ?_
  have last : intD1 x = some z → (fun xs H Q => r0 xs H Q) [u] H Q := fun e => s0 c H [x] z [u] Q ok (.cons rv .nil) e k
  cases rv with
  | str l =>
    have e' : (if l.length ≤ 640 then (PySem.intText? (sOf l)).map D.int else none) = some z := e
    split at e'
    · rename_i hl
      cases q : PySem.intText? (sOf l) with
      | none =>
        rw [q] at e'
        cases e'
      | some n =>
        rw [q] at e'
        cases e'
        exact .inl ⟨sOf l, n, rfl, q, by rw [sOf_len]; exact hl, stay ok (.int _) k⟩
    · cases e'
  | _ => exact .inr (last e)
end KB
set_option Elab.async false
set_option linter.all false
set_option maxRecDepth 100000
set_option maxHeartbeats 4000000
/-! K52: a, *b = list; t += u of tuples -/
namespace KB
section
open PySem PySem.Spec PySem.W PySem.Calls PyProof.Rows
theorem star_list {prog : Program} {w : World} {A : Around} {E : Value → Shared → Prop} {s : Shared} {l : Addr} {x : Value} {xs : List Value} {Q : List Value → Shared → Prop} (hl : s.heap.IsList l (x :: xs).toArray) (hh : A.handled = none) (hz : xs.length ≤ 16000)
    (h : ∀ (h₂ : Heap) (tk : Nat), (∀ b o, s.heap.get? b = some o → h₂.get? b = some o) → Q [x, .ref h₂.objs.size] { s with heap := h₂.push { cls := .type "list", data := .seq xs.toArray }, toks := tk }) : wpAny (model prog w) A (unpackItems (.ref l) 2 (some 1)) Q E s := by
  have hlt : l ≠ s.heap.objs.size := by obtain ⟨o, ho, _⟩ := hl; exact Nat.ne_of_lt (Heap.lt_size ho)
  unfold unpackItems
  refine wpAny_bind ?_
  unfold notIterableAtAll
  refine wpAny_bind (wpAny_specialOf hl.typeIs slot_list_iter.lookup ?_)
  refine wpAny_pure ?_
  simp only [Bool.false_eq_true, if_false]
  refine wpAny_bind (wpAny_holding (wpAny_pyIter_list hl ?_))
  refine wpAny_bind (wpAny_holding (kun_draw hlt 1 0 _ _ ⟨_, Heap.get?_push_size _ rfl, rfl, rfl⟩ (hl.push _) (by simp) fun h₁ hit₁ hs₁ => ?_))
  have hl₁ : h₁.IsList l (x :: xs).toArray := (hl.push _).extBut hs₁.extBut hlt
  rw [Nat.zero_add] at hit₁
  have hit₁' := hit₁
  obtain ⟨oi, hoi, _⟩ := hit₁'
  have hl₁' := hl₁
  obtain ⟨ol, hol, _⟩ := hl₁'
  have e1 : List.take 1 (List.drop 0 (x :: xs).toArray.toList) = [x] := by simp
  rw [e1]
  rw [if_neg (show ¬ ([x].length < 1) by simp)]
  refine wpAny_bind (wpAny_holding (kun_collect (s := { s with heap := h₁ }) (T := "list_iterator") (.inr (.inr (.inl rfl))) (Walks.list (A := A.in1) hh s.heap.objs.size l hlt (x :: xs).toArray) (fun j u st => st.1.typeIs) (k := 1) (by simp) ⟨hit₁, hl₁⟩ (Heap.lt_size hoi) (Heap.lt_size hol) (fun h₂ tk hk => ?_) (by rw [sizeLine_eq]; simp; omega)))
  have e2 : List.drop 1 (x :: xs).toArray.toList = xs := by simp
  rw [e2]
  show wpAny _ _ (if xs.length < 2 - 1 - 1 then _ else _) _ _ _
  rw [if_neg (by omega)]
  show wpAny _ _ (newList (xs.take (xs.length - (2 - 1 - 1))) >>= fun d => pure ([x] ++ [d] ++ xs.drop (xs.length - (2 - 1 - 1)))) _ _ _
  have e3 : xs.take (xs.length - (2 - 1 - 1)) = xs := by simp
  have e4 : xs.drop (xs.length - (2 - 1 - 1)) = [] := by simp
  rw [e3, e4]
  have he : ∀ b o, s.heap.get? b = some o → h₂.get? b = some o := fun b o e => hk b o (fun z => absurd (Heap.lt_size e) (by rw [z]; exact Nat.lt_irrefl _)) (hs₁.extBut b o (fun z => absurd (Heap.lt_size e) (by rw [z]; exact Nat.lt_irrefl _)) (Heap.get?_push_of_some _ e))
  exact wpAny_bind (wpAny_newList (wpAny_pure (h h₂ tk he)) (by rw [sizeLine_eq]; omega))
end
end KB
namespace KB
open PySem PySem.Spec PyProof.Rows L2
section
variable {X : L2.Cx} {e : Expr} {te : TE} {pos : Pos}
def tStar (K : PySem.W.Frag) (i j : Nat) (te : TE) : TS := fun D σ H => te σ H fun v H1 => ∃ a x xs, v = V.ref a ∧ SqL K H1 a (x :: xs) ∧ xs.length ≤ 16000 ∧ ∀ q, H1 q = none → D.nx ((σ.set i (some x)).set j (some (.ref q))) (upd H1 q (.lst xs))
theorem ps_star {i j : Nat} {x y : Str} {p1 p2 p3 p4 : Pos} {k : Nat} (hc : X.calm = true) (hN : X.N.Nodup) (hi : X.N[i]? = some x) (hj : X.N[j]? = some y) (hx : Loc X.env.scope x) (hy : Loc X.env.scope y) (he : PE X e te)
    (hs : swapsWithSole [.Tuple [.Name x p1, .Starred (.Name y p2) p3] k p4] e pos.line X.env = pure false := by rfl) (hw : swappedStores [.Tuple [.Name x p1, .Starred (.Name y p2) p3] k p4] e X.env = pure none := by rfl)
    (hf1 : X.fn x = true ∨ X.env.scope.names.lookup x = some .local := by first | exact .inl rfl | exact .inr rfl) (hf2 : X.fn y = true ∨ X.env.scope.names.lookup y = some .local := by first | exact .inl rfl | exact .inr rfl) :
    PS X (.Assign [.Tuple [.Name x p1, .Starred (.Name y p2) p3] k p4] e pos) (tStar X.K i j te) := by
  refine ⟨fun pins s σ H D I h => ?_⟩
  refine wpAny_Assign_stores (thn (he.run pins s σ H _ I h) fun v s1 ⟨z, H1, I1, r1, q1⟩ => ?_) hs hw
  obtain ⟨a, v1, vs, rfl, hl, hz, q⟩ := q1
  obtain rfl : v = Value.ref a := r1
  obtain ⟨its, rv, pl, hsz⟩ := I1.list hl
  cases rv with
  | @cons _ u1 _ us ru rus =>
    have ha : ((assignEach [.Tuple [.Name x p1, .Starred (.Name y p2) p3] k p4] X.env).map (·.2)) = [assign (.Tuple [.Name x p1, .Starred (.Name y p2) p3] k p4) X.env] := rfl
    rw [ha]
    have go : wpAny (model X.prog X.w) X.A (assign (.Tuple [.Name x p1, .Starred (.Name y p2) p3] k p4) X.env (.ref a)) (fun _ s' => SP X pins D .next s') X.xe s1 := by
      rw [PyProof.Rows.assign_Tuple]
      refine wpAny_bind (wpAny_standAt ?_)
      unfold unpack
      refine wpAny_bind (wpAny_holding ?_)
      refine star_list pl.isList (I1.ok.hd hc) (by rw [← rus.length]; exact hz) fun h₂ tk hk => ?_
      have I2 : Inv X pins σ H1 { s1 with heap := h₂, toks := tk } := I1.kept (t' := tk) hk
      have I3 : Inv X pins σ (upd H1 h₂.objs.size (.lst vs)) { s1 with heap := h₂.push { cls := .type "list", data := .seq us.toArray }, toks := tk } := by
        refine I2.laid (t' := tk) (o := .lst vs) (fun b ob q => Heap.get?_push_of_some _ q) (Nat.le_refl _) ?_
        exact ⟨by rw [sizeLine_eq]; omega, us, 0, rus, Heap.get?_push_size _ rfl⟩
      have hn : H1 h₂.objs.size = none := I2.hok.fresh (Nat.le_refl _)
      show wpAny _ _ (assignInOrder [fun v => do standAt p1; bindName X.env x v, fun v => do standAt p2; bindName X.env y v] [u1, .ref h₂.objs.size]) _ _ _
      refine assignInOrder_cons (wpAny_bind (wpAny_standAt (wpAny_bindName (store_ok I3 hN hi hx ru (fun s2 I4 => ?_) hf1))))
      refine assignInOrder_cons (wpAny_bind (wpAny_standAt (wpAny_bindName (store_ok I4 hN hj hy (v := .ref h₂.objs.size) rfl (fun s3 I5 => assignInOrder_nil ?_) hf2))))
      exact ⟨_, _, I5, q _ hn⟩
    first
      | exact thn go fun _ s2 q => q
      | exact wpAny_bind (thn go fun _ s2 q => wpAny_pure q)
theorem ip_catT : PIp X .Add (rCatA X.K) := by
  have noI : typeLookup (.type "tuple") (dunderI "add") = pure none := by rw [typeLookup_type, builtinLookup_eq_fast]; kernel_rfl
  intro pins s σ H x y v u Q I rx ry h
  obtain ⟨a, b, xs, ys, rfl, rfl, ha, hb, hz, q0, q1, q2⟩ := h
  obtain rfl : v = Value.ref a := rx
  obtain rfl : u = Value.ref b := ry
  obtain ⟨its, r1, p1, _⟩ := I.tuple ha
  obtain ⟨its2, r2, p2, _⟩ := I.tuple hb
  obtain ⟨⟨cls, dd, data, sl⟩, ho, hc, n, hd⟩ := id p1
  obtain ⟨⟨cls2, dd2, data2, sl2⟩, ho2, hc2, n2, hd2⟩ := id p2
  simp only at hc hd hc2 hd2
  subst hc hd hc2 hd2
  refine PySem.wpAny_inplaceOp_concat ⟨_, ho, rfl⟩ ⟨_, ho2, rfl⟩ noI noFill_tuple_add seq_tuple_add ?_
  by_cases hx : its = []
  · subst hx
    have hx' : xs = [] := r1.nil_iff.mp rfl
    exact PySem.call_meets PySem.F.slot_tuple_add ⟨_, ho, rfl⟩ PySem.F.entry_tuple_add (PySem.F.args_tuple_add_2 _ _) (tuple_addW0 a b ([] : List Value).toArray its2.toArray n n2 dd dd2 sl sl2 (by simp)) ⟨ho, ho2, .ref b, H, I, rfl, q0 hx'⟩
  · have hx' : xs ≠ [] := fun z => hx (r1.nil_iff.mpr z)
    by_cases hw : its2 = []
    · exact PySem.call_meets PySem.F.slot_tuple_add ⟨_, ho, rfl⟩ PySem.F.entry_tuple_add (PySem.F.args_tuple_add_2 _ _) (tuple_addW1 a b its.toArray its2.toArray n n2 dd dd2 sl sl2 (by simpa using hx) (by simp [hw])) ⟨ho, ho2, .ref a, H, I, rfl, q1 hx' (r2.nil_iff.mp hw)⟩
    · have e : its.toArray ++ its2.toArray = (its ++ its2).toArray := by simp
      refine PySem.call_meets PySem.F.slot_tuple_add ⟨_, ho, rfl⟩ PySem.F.entry_tuple_add (PySem.F.args_tuple_add_2 _ _) (tuple_addW2 a b its.toArray its2.toArray n n2 dd dd2 sl sl2 (by simpa using hx) (by simpa using hw) (by rw [List.size_toArray, List.size_toArray, ← r1.length, ← r2.length]; exact hz)) ⟨ho, ho2, ?_⟩
      rw [e]
      refine ⟨.ref s.heap.objs.size, _, I.laid (t' := s.toks) (o := .tup (xs ++ ys)) (fun b ob q => Heap.get?_push_of_some _ q) (Nat.le_refl _) ?_, rfl, q2 hx' (fun z => hw (r2.nil_iff.mpr z)) _ (I.hok.fresh (Nat.le_refl _))⟩
      exact ⟨by rw [List.length_append]; exact hz, _, r1.append r2, IsTup.new _ _⟩
end
section
variable {T : Ctx} {S : Type} {SR : SRel S} {W : WX} {X : L2.Cx} {f g : KB.Env → S → R S D}
theorem ip_addT (hK : X.K = T.K) : ∃ r, PIp X .Add r ∧ Sem2 T r tupA := ⟨_, ip_catT, by rw [hK]; exact sem_tupA⟩
/-- a, *b = list -/
def sStar (i j : Nat) (f : KB.Env → S → R S D) : KB.Env → S → RS S := fun env s => (f env s).toS env fun v s1 => match v with
  | .lst (x :: xs) => if xs.length ≤ 16000 then .nx ((env.set i (.d x)).set j (.d (.lst xs))) s1 else .bad
  | _ => .bad
theorem ds_star {i j : Nat} {x y : Str} {e : Expr} {p1 p2 p3 p4 pos : Pos} {k : Nat} (hc : X.calm = true) (hN : X.N.Nodup) (hi : X.N[i]? = some x) (hj : X.N[j]? = some y) (hx : Loc X.env.scope x) (hy : Loc X.env.scope y) (he : DE T SR W X e f)
    (hs : swapsWithSole [.Tuple [.Name x p1, .Starred (.Name y p2) p3] k p4] e pos.line X.env = pure false := by rfl) (hw : swappedStores [.Tuple [.Name x p1, .Starred (.Name y p2) p3] k p4] e X.env = pure none := by rfl)
    (hf1 : X.fn x = true ∨ X.env.scope.names.lookup x = some .local := by first | exact .inl rfl | exact .inr rfl) (hf2 : X.fn y = true ∨ X.env.scope.names.lookup y = some .local := by first | exact .inl rfl | exact .inr rfl) :
    DS T SR W X (.Assign [.Tuple [.Name x p1, .Starred (.Name y p2) p3] k p4] e pos) (sStar i j f) := by
  refine PS.imp (ps_star hc hN hi hj hx hy he hs hw hf1 hf2) fun D σ H ⟨c0, H0, c, env, s, x, po⟩ => ?_
  refine PoS.run x po fun d s1 v c1 H1 y1 x1 r1 p1 => ?_
  cases r1 with
  | @lst a vs xs h r =>
    cases r with
    | nil => exact p1.elim
    | @cons d1 v1 ds vs rd rs =>
      have p1' : PoS T SR W c0 H0 c1 (if ds.length ≤ 16000 then .nx ((env.set i (.d d1)).set j (.d (.lst ds))) s1 else .bad) D := p1
      split at p1'
      · rename_i hl
        refine ⟨a, v1, vs, rfl, SqL.of (x1.st.ok.gh _ _ h), by rw [← rs.length]; exact hl, fun q hq => ?_⟩
        have y2 : Stp c1 H1 (c1.put q (.lst vs)) (upd H1 q (.lst vs)) := Stp.put x1.st.ok hq
        have g2 : Gx c1 (c1.put q (.lst vs)) := y2.gx
        have x2 : AtS T SR c0 H0 σ (upd H1 q (.lst vs)) (c1.put q (.lst vs)) env s1 := x1.step y2 (SR.mono x1.sr y2.gx rfl rfl)
        exact (PoS.step p1' g2).next ((x2.setD (rd.mono g2)).setD (.lst put_at (rs.mono g2)))
      · exact p1'.elim
  | _ => exact p1.elim
end
end KB
set_option Elab.async false
set_option linter.all false
set_option maxRecDepth 100000
set_option maxHeartbeats 4000000
/-! K53: plain: loops that break, rows of numbers found one by one, least and first place, counting comprehensions -/
set_option Elab.async false
set_option linter.all false
set_option maxRecDepth 100000
set_option maxHeartbeats 4000000
/-! K54: plain: rows repeated, what is used in so many rows -/
namespace KB
open PySem
theorem rep_even {n : Nat} {rs : List (List Nat)} (ok : RowsOk n 0 rs) (he : rs.length % 2 = 0) : ∀ k, RowsOk n 0 (List.replicate k rs).flatten
  | 0 => trivial
  | k + 1 => by
    rw [List.replicate_succ, List.flatten_cons]
    refine RowsOk.of fun j r hj => ?_
    rw [List.getElem?_append] at hj
    split at hj
    · exact ok.at hj
    · exact ((rep_even ok he k).at hj).par (j := 0 + j) (by omega)
theorem rep_len (k : Nat) (rs : List (List Nat)) : (List.replicate k rs).flatten.length = k * rs.length := by
  induction k with
  | zero => simp
  | succ k ih => rw [List.replicate_succ, List.flatten_cons, List.length_append, ih, Nat.succ_mul, Nat.add_comm]
abbrev rep (k : Nat) (rs : List (List Nat)) : List (List Nat) := (List.replicate k rs).flatten
end KB
set_option Elab.async false
set_option linter.all false
set_option maxRecDepth 100000
set_option maxHeartbeats 4000000
/-! K55: plain: numbers picked by a test, != of lists, a one-tuple repeated -/
set_option Elab.async false
set_option linter.all false
set_option maxRecDepth 100000
set_option maxHeartbeats 4000000
/-! K56: plain: texts of lines -/
namespace KB
open PySem
/-- "-" for a row without knots -/
def bare (l : List Nat) : List Nat := if l = [] then [45] else l
end KB
set_option Elab.async false
set_option linter.all false
set_option maxRecDepth 100000
set_option maxHeartbeats 4000000
/-! K57: plain: signs picked by a test, == of lists of signs, slices of texts -/
set_option Elab.async false
set_option linter.all false
set_option maxRecDepth 100000
set_option maxHeartbeats 4000000
/-! K58: enumerate(zip(a, b)): the zip's tuple is still held by the enumerate when the next one is asked for -/
namespace KB
open PySem L2
def Zo (h : Heap) (z TI TO : Addr) (f0 : Value) (b : Bool) : Prop :=
  h.get? z = some ⟨.type "zip", none, .fields #[f0, .bool b, .bool false, .ref TI, .ref TO], #[]⟩
/-- a zip's cell, whatever it remembers of the tuple handed out last -/
def Zc (h : Heap) (z TI TO : Addr) : Prop :=
  ∃ (f0 : Value) (b : Bool), (f0 = .none ∨ ∃ U : Addr, f0 = rawInt U) ∧ Zo h z TI TO f0 b
end KB
set_option Elab.async false
set_option linter.all false
set_option maxRecDepth 100000
set_option maxHeartbeats 4000000
/-! K59: plain: where two rows of rows part first; rows with one of them set anew; the last one -/
namespace KB
open PySem
def Shp : List (List Nat) → List (List Nat) → Prop
  | [], [] => True
  | r :: A, t :: B => r.length = t.length ∧ Shp A B
  | _, _ => False
theorem Shp.len : ∀ {A B : List (List Nat)}, Shp A B → A.length = B.length
  | [], [], _ => rfl
  | _ :: A, _ :: B, h => by simp [Shp.len h.2]
  | [], _ :: _, h => h.elim
  | _ :: _, [], h => h.elim
theorem Shp.at : ∀ {A B : List (List Nat)} {i : Nat} {r t : List Nat}, Shp A B → A[i]? = some r → B[i]? = some t → r.length = t.length
  | [], [], i, r, t, _, e, _ => by simp at e
  | a :: A, b :: B, 0, r, t, h, e, e' => by
    cases e
    cases e'
    exact h.1
  | a :: A, b :: B, i + 1, r, t, h, e, e' => Shp.at h.2 (by simpa using e) (by simpa using e')
  | [], _ :: _, _, _, _, h, _, _ => h.elim
  | _ :: _, [], _, _, _, h, _, _ => h.elim
theorem Shp.of : ∀ {A B : List (List Nat)}, A.length = B.length → (∀ (i : Nat) (r t : List Nat), A[i]? = some r → B[i]? = some t → r.length = t.length) → Shp A B
  | [], [], _, _ => trivial
  | [], _ :: _, h, _ => by simp at h
  | _ :: _, [], h, _ => by simp at h
  | a :: A, b :: B, h, q => ⟨q 0 a b rfl rfl, Shp.of (by simpa using h) fun i r t e e' => q (i + 1) r t (by simpa using e) (by simpa using e')⟩
/-! ### one of some rows set anew -/
theorem RowsOk.set {n : Nat} {rs : List (List Nat)} (ok : RowsOk n 0 rs) {k : Nat} {r : List Nat} (h : RowOk n k r) : RowsOk n 0 (rs.set k r) := by
  refine RowsOk.of fun j q hj => ?_
  rw [List.getElem?_set] at hj
  by_cases e : k = j
  · subst e
    rw [if_pos rfl] at hj
    by_cases w : k < rs.length
    · rw [if_pos w] at hj
      cases hj
      rw [Nat.zero_add]
      exact h
    · rw [if_neg w] at hj
      cases hj
  · rw [if_neg e] at hj
    exact ok.at hj
end KB
set_option Elab.async false
set_option linter.all false
set_option maxRecDepth 100000
set_option maxHeartbeats 4000000
/-! K60: comprehensions with two fors -/
namespace KB
open PySem L2
/-- a list of nobody's -/
structure Mine (c : Cf) (H : Hp) (a : Addr) (acc : List V) : Prop where
  at' : H a = some (.lst acc)
  g : c.G a = none
  f : c.F a = none
theorem Mine.step {c c' : Cf} {H H' : Hp} {a : Addr} {acc : List V} (o : Mine c H a acc) (x : Stp c H c' H') : Mine c' H' a acc where
  at' := x.keep _ _ o.at' o.f
  g := x.gnone o.at' o.g o.f fun _ z => nomatch z
  f := by
    cases e : c'.F a with
    | none => rfl
    | some u =>
      rcases x.fn _ u e with ⟨u', z⟩ | z
      · rw [o.f] at z
        cases z
      · rw [o.at'] at z
        cases z
/-- which own things an environment has: never the comprehension's -/
abbrev Bar (a : Addr) (σ : St) (env : Env) : Prop := OwnNew (upd (fun _ => none) a (.lst [])) σ env
theorem Bar.ne {a : Addr} {σ : St} {env : Env} (b : Bar a σ env) {i : Nat} {d : Addr} (h : OwnAt σ env i d) : d ≠ a := fun e => by
  have q := b i d h
  rw [e, upd_same] at q
  cases q
theorem Bar.of {T : Ctx} {c : Cf} {H : Hp} {a : Addr} {σ : St} {env : Env} (x : EnvOk T c H σ env) (h : H a = none) : Bar a σ env := fun i d hd => by
  have ne : d ≠ a := fun e => by
    obtain ⟨⟨sl, e1, o1⟩, h1⟩ := hd
    have q := x.sl i sl e1
    rw [h1] at q
    cases sl with
    | no => cases o1
    | d _ => cases o1
    | L _ =>
      obtain ⟨a', o, q1, q2, _⟩ := q
      cases q1
      rw [e, h] at q2
      cases q2
    | M _ =>
      obtain ⟨a', o, q1, q2, _⟩ := q
      cases q1
      rw [e, h] at q2
      cases q2
    | MT _ =>
      obtain ⟨a', o, q1, q2, _⟩ := q
      cases q1
      rw [e, h] at q2
      cases q2
    | O _ _ =>
      obtain ⟨a', o, q1, q2, _⟩ := q
      cases q1
      rw [e, h] at q2
      cases q2
  rw [upd_ne ne]
theorem Bar.wipe1 {a : Addr} {σ : St} {env : Env} (b : Bar a σ env) (i : Nat) : Bar a (σ.set i none) (env.set i .no) := fun j d ⟨⟨sl, e1, o1⟩, h1⟩ => by
  rcases get_set e1 with ⟨_, z⟩ | ⟨n1, q1⟩
  · subst z
    cases o1
  · rw [get_ne n1] at h1
    exact b j d ⟨⟨sl, q1, o1⟩, h1⟩
theorem Bar.wipe {a : Addr} {σ : St} {env : Env} (b : Bar a σ env) : ∀ vs : List Nat, Bar a (L2.wipe σ vs) (wipeE env vs)
  | [] => b
  | v :: vs => (Bar.wipe b vs).wipe1 v
end KB
set_option Elab.async false
set_option linter.all false
set_option maxRecDepth 100000
set_option maxHeartbeats 4000000
/-! K61: list(zip(a, b)) -/
namespace KB
open PySem L2
/-- a zip as it stands: i turns behind it -/
def Zs (a b : Src) (t1 t2 : Tok) (z TI TO i1 i2 : Addr) (i : Nat) (h : Heap) : Prop :=
  Zc h z TI TO ∧ IsTupOf2 h TI (.ref i1) (.ref i2) ∧ (∃ x y, IsTupOf2 h TO x y) ∧ a.it t1 i1 i h ∧ b.it t2 i2 i h
theorem Zs.keep {a b : Src} {t1 t2 : Tok} {z TI TO i1 i2 : Addr} {i : Nat} {h h' : Heap} (st : Zs a b t1 t2 z TI TO i1 i2 i h) (k : ∀ c ∈ [z, TI, TO, i1, i2], ∀ o, h.get? c = some o → h'.get? c = some o) : Zs a b t1 t2 z TI TO i1 i2 i h' := by
  obtain ⟨⟨f0, b0, q0, hz⟩, hTI, ⟨x, y, hTO⟩, h1, h2⟩ := st
  exact ⟨⟨f0, b0, q0, k z (by simp) _ hz⟩, k TI (by simp) _ hTI, ⟨x, y, k TO (by simp) _ hTO⟩, src_it_keep h1 fun o q => k i1 (by simp) o q, src_it_keep h2 fun o q => k i2 (by simp) o q⟩
section
variable {T : Ctx} {S : Type} {SR : SRel S} {W : WX} {X : Cx}
theorem Reps.snoc {c : Cf} {ds : List D} {vs : List V} {d : D} {v : V} (r : Reps T c ds vs) (q : Rep T c d v) : Reps T c (ds ++ [d]) (vs ++ [v]) := r.app (.cons q .nil)
end
end KB
set_option Elab.async false
set_option linter.all false
set_option maxRecDepth 100000
set_option maxHeartbeats 4000000
/-! K62: xs[lo:hi:step] of a list -/
set_option Elab.async false
set_option linter.all false
set_option maxRecDepth 100000
set_option maxHeartbeats 4000000
/-! K63: sorted of ints -/
set_option Elab.async false
set_option linter.all false
set_option maxRecDepth 100000
set_option maxHeartbeats 4000000
/-! K64: plain: parts of strings; periods together; rows so far apart -/
namespace KB
open PySem
def mrg (l : List Nat) (a b : Nat) : List Nat := if l.getD a 0 = l.getD b 0 then l else l.map fun o => if o = max (l.getD a 0) (l.getD b 0) then min (l.getD a 0) (l.getD b 0) else o
def lbl : List Nat → List (Nat × Nat) → List Nat
  | l, [] => l
  | l, p :: ps => lbl (mrg l p.1 p.2) ps
@[simp] theorem mrg_len (l : List Nat) (a b : Nat) : (mrg l a b).length = l.length := by
  unfold mrg
  split <;> simp
@[simp] theorem lbl_len : ∀ (ps : List (Nat × Nat)) (l : List Nat), (lbl l ps).length = l.length
  | [], _ => rfl
  | p :: ps, l => by rw [lbl, lbl_len ps, mrg_len]
/-! ### periods -/
end KB
set_option Elab.async false
set_option linter.all false
set_option maxRecDepth 100000
set_option maxHeartbeats 4000000
/-! K65: plain: loops of up to forty rows, what is seen of them row by row; a loop told twice -/
namespace KB
open PySem
structure Lq (n : Nat) (rs : List (List Nat)) : Prop where
  h2 : 2 ≤ n
  h8 : n ≤ 8
  ok : RowsOk n 0 rs
  ev : rs.length % 2 = 0
  l2 : 2 ≤ rs.length
  ll : rs.length ≤ 40
theorem Lq.rep {n : Nat} {rs : List (List Nat)} (L : Lq n rs) {k : Nat} (h1 : 1 ≤ k) (hl : k * rs.length ≤ 40) : Lq n (KB.rep k rs) where
  h2 := L.h2
  h8 := L.h8
  ok := rep_even L.ok L.ev k
  ev := by
    rw [rep_len, Nat.mul_mod, L.ev]
    rfl
  l2 := by
    rw [rep_len]
    have := L.l2
    exact Nat.le_trans this (Nat.le_mul_of_pos_left _ (by omega))
  ll := by rw [rep_len]; exact hl
end KB
set_option Elab.async false
set_option linter.all false
set_option maxRecDepth 100000
set_option maxHeartbeats 4000000
/-! K66: own dicts: x = {}, x[k] = v, x.get(k, v), x[k], keys ints and texts -/
namespace KB
open PySem L2
def valD {κ : Type} [DecidableEq κ] (kvs : List (κ × D)) (k : κ) : Option D := (kvs.find? fun kv => decide (kv.1 = k)).map (·.2)
def pukD {κ : Type} [DecidableEq κ] (kvs : List (κ × D)) (k : κ) (v : D) : List (κ × D) :=
  if (kvs.any fun kv => decide (kv.1 = k)) = true then kvs.map (fun kv => if kv.1 = k then (kv.1, v) else kv) else kvs ++ [(k, v)]
section
variable {T : Ctx} {c : Cf}
theorem RepK.len : ∀ {ds : List (Key × D)} {vs : List (Key × V)}, RepK T c ds vs → ds.length = vs.length
  | _, _, .nil => rfl
  | _, _, .cons _ rs => by rw [List.length_cons, List.length_cons, RepK.len rs]
theorem RepT.len : ∀ {ds : List (List Key × D)} {vs : List (List Key × V)}, RepT T c ds vs → ds.length = vs.length
  | _, _, .nil => rfl
  | _, _, .cons _ rs => by rw [List.length_cons, List.length_cons, RepT.len rs]
theorem RepK.any {k : Key} : ∀ {ds : List (Key × D)} {vs : List (Key × V)}, RepK T c ds vs → (ds.any fun kv => decide (kv.1 = k)) = (vs.any fun kv => decide (kv.1 = k))
  | _, _, .nil => rfl
  | _, _, .cons _ rs => by rw [List.any_cons, List.any_cons, RepK.any rs]
theorem RepT.any {k : List Key} : ∀ {ds : List (List Key × D)} {vs : List (List Key × V)}, RepT T c ds vs → (ds.any fun kv => decide (kv.1 = k)) = (vs.any fun kv => decide (kv.1 = k))
  | _, _, .nil => rfl
  | _, _, .cons _ rs => by rw [List.any_cons, List.any_cons, RepT.any rs]
theorem RepK.snoc {k : Key} {d : D} {v : V} (q : Rep T c d v) : ∀ {ds : List (Key × D)} {vs : List (Key × V)}, RepK T c ds vs → RepK T c (ds ++ [(k, d)]) (vs ++ [(k, v)])
  | _, _, .nil => .cons q .nil
  | _, _, .cons r rs => .cons r (RepK.snoc q rs)
theorem RepT.snoc {k : List Key} {d : D} {v : V} (q : Rep T c d v) : ∀ {ds : List (List Key × D)} {vs : List (List Key × V)}, RepT T c ds vs → RepT T c (ds ++ [(k, d)]) (vs ++ [(k, v)])
  | _, _, .nil => .cons q .nil
  | _, _, .cons r rs => .cons r (RepT.snoc q rs)
theorem RepK.swap {k : Key} {d : D} {v : V} (q : Rep T c d v) : ∀ {ds : List (Key × D)} {vs : List (Key × V)}, RepK T c ds vs → RepK T c (ds.map fun kv => if kv.1 = k then (kv.1, d) else kv) (vs.map fun kv => if kv.1 = k then (kv.1, v) else kv)
  | _, _, .nil => .nil
  | (k', d') :: ds, (_, v') :: vs, .cons r rs => by
    rw [List.map_cons, List.map_cons]
    by_cases h : k' = k
    · rw [if_pos h, if_pos h]
      exact .cons q (RepK.swap q rs)
    · rw [if_neg h, if_neg h]
      exact .cons r (RepK.swap q rs)
theorem RepT.swap {k : List Key} {d : D} {v : V} (q : Rep T c d v) : ∀ {ds : List (List Key × D)} {vs : List (List Key × V)}, RepT T c ds vs → RepT T c (ds.map fun kv => if kv.1 = k then (kv.1, d) else kv) (vs.map fun kv => if kv.1 = k then (kv.1, v) else kv)
  | _, _, .nil => .nil
  | (k', d') :: ds, (_, v') :: vs, .cons r rs => by
    rw [List.map_cons, List.map_cons]
    by_cases h : k' = k
    · rw [if_pos h, if_pos h]
      exact .cons q (RepT.swap q rs)
    · rw [if_neg h, if_neg h]
      exact .cons r (RepT.swap q rs)
theorem RepK.put {k : Key} {d : D} {v : V} {ds : List (Key × D)} {vs : List (Key × V)} (r : RepK T c ds vs) (q : Rep T c d v) : RepK T c (pukD ds k d) (putK vs k v) := by
  unfold pukD putK
  rw [r.any]
  split
  · exact r.swap q
  · exact r.snoc q
theorem RepT.put {k : List Key} {d : D} {v : V} {ds : List (List Key × D)} {vs : List (List Key × V)} (r : RepT T c ds vs) (q : Rep T c d v) : RepT T c (pukD ds k d) (putK vs k v) := by
  unfold pukD putK
  rw [r.any]
  split
  · exact r.swap q
  · exact r.snoc q
theorem RepK.val {k : Key} : ∀ {ds : List (Key × D)} {vs : List (Key × V)}, RepK T c ds vs → (valD ds k = none ∧ valV vs k = none) ∨ ∃ d v, valD ds k = some d ∧ valV vs k = some v ∧ Rep T c d v
  | _, _, .nil => .inl ⟨rfl, rfl⟩
  | (k', d') :: ds, (_, v') :: vs, .cons r rs => by
    by_cases h : k' = k
    · exact .inr ⟨d', v', by simp [valD, List.find?_cons, h], by simp [valV, List.find?_cons, h], r⟩
    · rcases RepK.val (k := k) rs with ⟨h1, h2⟩ | ⟨d, v, h1, h2, h3⟩
      · left
        constructor
        · unfold valD at h1 ⊢
          rw [List.find?_cons]
          simp only [h, decide_false]
          exact h1
        · rw [valV_neg h]
          exact h2
      · right
        refine ⟨d, v, ?_, ?_, h3⟩
        · unfold valD at h1 ⊢
          rw [List.find?_cons]
          simp only [h, decide_false]
          exact h1
        · rw [valV_neg h]
          exact h2
theorem RepT.val {k : List Key} : ∀ {ds : List (List Key × D)} {vs : List (List Key × V)}, RepT T c ds vs → (valD ds k = none ∧ valV vs k = none) ∨ ∃ d v, valD ds k = some d ∧ valV vs k = some v ∧ Rep T c d v
  | _, _, .nil => .inl ⟨rfl, rfl⟩
  | (k', d') :: ds, (_, v') :: vs, .cons r rs => by
    by_cases h : k' = k
    · exact .inr ⟨d', v', by simp [valD, List.find?_cons, h], by simp [valV, List.find?_cons, h], r⟩
    · rcases RepT.val (k := k) rs with ⟨h1, h2⟩ | ⟨d, v, h1, h2, h3⟩
      · left
        constructor
        · unfold valD at h1 ⊢
          rw [List.find?_cons]
          simp only [h, decide_false]
          exact h1
        · rw [valV_neg h]
          exact h2
      · right
        refine ⟨d, v, ?_, ?_, h3⟩
        · unfold valD at h1 ⊢
          rw [List.find?_cons]
          simp only [h, decide_false]
          exact h1
        · rw [valV_neg h]
          exact h2
end
end KB
set_option Elab.async false
set_option linter.all false
set_option maxRecDepth 100000
set_option maxHeartbeats 4000000
/-! K67: an own dict that is never written again: it may be walked -/
set_option Elab.async false
set_option linter.all false
set_option maxRecDepth 100000
set_option maxHeartbeats 4000000
/-! K68: a locked dict is walked: by keys, by items -/
namespace KB
open PySem L2
def kD : Key → D
  | .inl i => .int i
  | .inr x => .str x.cps.toList
section
variable {T : Ctx} {c : Cf}
theorem RepK.at : ∀ {ds : List (Key × D)} {vs : List (Key × V)}, RepK T c ds vs → ∀ {i : Nat} {k : Key} {v : V}, vs[i]? = some (k, v) → ∃ d, ds[i]? = some (k, d) ∧ Rep T c d v
  | _, _, .nil, i, k, v, h => by simp at h
  | _, _, .cons r _, 0, k, v, h => by
    simp at h
    obtain ⟨rfl, rfl⟩ := h
    exact ⟨_, rfl, r⟩
  | _, _, .cons _ rs, i + 1, k, v, h => RepK.at rs (by simpa using h)
end
end KB
set_option Elab.async false
set_option linter.all false
set_option maxRecDepth 100000
set_option maxHeartbeats 4000000
/-! K69: an error that was caught stays known behind its suite; clauses with a tuple of classes -/
namespace KB
open PySem PySem.Spec PySem.W PyProof.Rows L2
section
variable {M : Model} {K : Frag} {h : Heap}
theorem looks_each {f : Value → PUnit → Sem (ForInStep PUnit)} : ∀ {cs : List Value}, (∀ c ∈ cs, Looks M h (f c ⟨⟩) (.yield ⟨⟩)) → Looks M h (forIn cs PUnit.unit f) PUnit.unit
  | [], _ => fun A Q E s k q => by
    rw [List.forIn_nil]
    exact wpAny_pure q
  | c :: cs, hf => fun A Q E s k q => by
    rw [List.forIn_cons]
    exact wpAny_bind (hf c List.mem_cons_self A _ E s k (looks_each (fun d hd => hf d (List.mem_cons_of_mem _ hd)) A Q E s k q))
theorem looks_first {f : Value → Option Bool × Unit → Sem (ForInStep (Option Bool × Unit))} {b : Value → Bool} : ∀ {cs : List Value}, (∀ c ∈ cs, Looks M h (f c (none, ())) (if b c = true then .done (some true, ()) else .yield (none, ()))) →
    Looks M h (forIn cs ((none, ()) : Option Bool × Unit) f) (if cs.any b = true then (some true, ()) else (none, ()))
  | [], _ => fun A Q E s k q => by
    rw [List.forIn_nil]
    exact wpAny_pure q
  | c :: cs, hf => fun A Q E s k q => by
    rw [List.forIn_cons]
    refine wpAny_bind (hf c List.mem_cons_self A _ E s k ?_)
    cases e : b c with
    | true =>
      rw [List.any_cons, e] at q
      exact wpAny_pure q
    | false =>
      rw [List.any_cons, e] at q
      exact looks_first (fun d hd => hf d (List.mem_cons_of_mem _ hd)) A Q E s k q
theorem exm_any {cs : List Value} {cls : Value} {tp e : Addr} {b : Value → Bool} (X : K.In h) (LT : Looks M h (typeOf (.ref e)) cls) (hp : h.get? tp = some { cls := .type "tuple", data := .seq cs.toArray }) (hx : ∀ c ∈ cs, exmOne K cls c = some (b c)) :
    Looks M h (excMatches (.ref e) (.ref tp)) (cs.any b) := by
  intro A Q E s k₀ q
  obtain ⟨hh, g, d, tk, os⟩ := s
  have k : ∀ b o, h.get? b = some o → hh.get? b = some o := k₀
  have LT0 : Looks M h (isInstance (.ref tp) (.type "tuple")) true := ((Looks.ld hp).andThen .now).andThen (Looks.of_pure isSubtype_tuple_tuple)
  have LT := LT.keeps k
  have LT0 := LT0.keeps k
  have hp' := k _ _ hp
  unfold excMatches
  refine wpAny_bind (LT0.at ?_)
  dsimp only
  rw [if_pos rfl]
  first
    | refine wpAny_bind (wpAny_seqItems hp' rfl ?_)
    | refine wpAny_bind (wpAny_bind (wpAny_seqItems hp' rfl (wpAny_pure ?_)))
  dsimp only [Option.getD_some, Option.getD]
  refine wpAny_bind (wpAny_pure ?_)
  refine wpAny_bind (looks_each (M := M) (h := hh) (fun c hc => ?_) A _ E _ (fun _ _ z => z) ?_)
  · obtain ⟨e1, _⟩ := exm_cls (M := M) X (hx c (by simpa using hc))
    have e1 := e1.keeps k
    intro A Q E s k2 q
    refine wpAny_bind ((e1.keeps k2).here ?_)
    simp only [Bool.not_true, Bool.false_eq_true, if_false]
    exact wpAny_pure q
  refine wpAny_bind (LT.at ?_)
  refine wpAny_bind (looks_first (M := M) (h := hh) (b := b) (fun c hc => ?_) A _ E _ (fun _ _ z => z) ?_)
  · obtain ⟨_, S1⟩ := exm_cls (M := M) X (hx c (by simpa using hc))
    have S1 := S1.keeps k
    intro A Q E s k2 q
    refine wpAny_bind ((S1.keeps k2).here ?_)
    cases eb : b c <;> (rw [eb] at q; exact wpAny_pure q)
  · cases eb : cs.any b <;> (rw [eb] at q; exact wpAny_pure q)
end
section
theorem flying_keeps {B h h' : Heap} {l : List PySem.Env} {a : Addr} {Z : Obj → Prop} (x : HandSPX.FlyingZ B l a Z h) (k : ∀ b o, h.get? b = some o → h'.get? b = some o) : HandSPX.FlyingZ B l a Z h' := by
  obtain ⟨f1, f2, f3, oe, vs, T, oT, ts, he, hz, hd, h1, hnT, hTe, hT, hdT, h3⟩ := x
  exact ⟨fun b o e => k b o (f1 b o e), f2, Heap.FunFrames.of_keeps (fun b o e _ => ⟨o, k b o e, rfl⟩) f3, oe, vs, T, oT, ts, k _ _ he, hz, hd, h1, hnT, hTe, k _ _ hT, hdT, h3⟩
variable {X : L2.Cx} {pins : List (Addr × Obj)} {σ : L2.St} {H : Hp} {s : Shared} {a da : Addr} {oe : Obj} {cls : Value} {vs : Array Value}
end
end KB
set_option Elab.async false
set_option linter.all false
set_option maxRecDepth 100000
set_option maxHeartbeats 4000000
/-! K70: try: .. except (C1, .., Ck) as n: y = n -/
namespace KB
open PySem PySem.Spec PyProof.Rows L2
/-- the classes of a clause -/
inductive NamesL (X : L2.Cx) : List Expr → List Value → Prop
  | nil : NamesL X [] []
  | cons {x : Str} {c : Value} {np : Pos} {es : List Expr} {cs : List Value} (h : Names X x c) (r : NamesL X es cs) : NamesL X (.Name x np :: es) (c :: cs)
theorem NamesL.suite {X : L2.Cx} {es : List Expr} {cs : List Value} (n : NamesL X es cs) {a : Addr} {pn : List (Addr × Obj)} : NamesL (X.suite a pn) es cs := by
  induction n with
  | nil => exact .nil
  | cons h _ ih => exact .cons h ih
theorem names_run {Y : L2.Cx} {pins : List (Addr × Obj)} {σ : L2.St} {H : Hp} {s : Shared} {E : Value → Shared → Prop} {pos : Pos} (I : Inv Y pins σ H s) {es : List Expr} {cs : List Value} (n : NamesL Y es cs) : ∀ {Q : List Value → Shared → Prop}, Q cs s →
    wpAny (model Y.prog Y.w) Y.A (spliced (backTo pos (starEach es Y.env))) Q E s := by
  induction n with
  | nil =>
    intro Q q
    exact Calls.spliced_nil q
  | @cons x c np es cs h r ih =>
    intro Q q
    show wpAny _ _ (spliced ((false, eval (.Name x np) Y.env) :: backTo pos (starEach es Y.env))) _ _ s
    refine Calls.spliced_cons ?_
    have q' : wpAny (model Y.prog Y.w) Y.A (spliced (backTo pos (starEach es Y.env))) (fun vs s2 => Q (c :: vs) s2) E s := ih q
    obtain ⟨hg, hdbg, hm | ⟨hm, hv, hnn⟩⟩ := h
    · exact ld_glob I hg hm q' hdbg
    · exact ld_blt I hg hm hv q' hnn hdbg
end KB
set_option Elab.async false
set_option linter.all false
set_option maxRecDepth 100000
set_option maxHeartbeats 4000000
/-! K71: isinstance and fields of a caught error that is known -/
set_option Elab.async false
set_option linter.all false
set_option maxRecDepth 100000
set_option maxHeartbeats 4000000
/-! K72: a lambda handed to the def that tells how a call ends -/
set_option Elab.async false
set_option linter.all false
set_option maxRecDepth 100000
set_option maxHeartbeats 4000000
/-! K73: the law's end where defs of it make lambdas -/
set_option Elab.async false
set_option linter.all false
set_option maxRecDepth 100000
set_option maxHeartbeats 4000000
/-! K74: repr of data with empty dicts in it -/
set_option Elab.async false
set_option linter.all false
set_option maxRecDepth 100000
set_option maxHeartbeats 4000000
/-! K75 plain: outcomes; loops over given items; repr of small data, with empty dicts too -/
set_option Elab.async false
set_option linter.all false
set_option maxRecDepth 100000
set_option maxHeartbeats 4000000
/-! K76 plain: good data: what repr tells of; kinds of things -/
namespace KB
open PySem L2
mutual
/-- how large -/
def D.bk : D → Nat
  | .str l => l.length
  | .lst xs => D.bks xs
  | .tup xs => D.bks xs
  | _ => 0
def D.bks : List D → Nat
  | [] => 0
  | x :: xs => D.bk x + 1 + D.bks xs
end
end KB
set_option Elab.async false
set_option linter.all false
set_option maxRecDepth 100000
set_option maxHeartbeats 4000000
/-! K77: text.upper(), text.lower() of plain signs; a list and a list make a new one -/
set_option Elab.async false
set_option linter.all false
set_option maxRecDepth 100000
set_option maxHeartbeats 4000000
/-! K78: list(text): a new list of the text's signs -/
namespace KB
open PySem PySem.Spec PyProof.Rows L2
section
variable {T : Ctx} {S : Type} {SR : SRel S} {W : WX} {X : L2.Cx} {a : Expr} {f : KB.Env → S → R S D} {p pos : Pos}
def fListS (f : KB.Env → S → R S D) : KB.Env → S → R S (List D) := fun env s => (f env s).bind fun d s1 => match d with
  | .str l => if l.length ≤ 16777216 then .ok (l.map fun c => .str [c]) s1 else .bad
  | _ => .bad
@[simp] theorem ev_fListS {env : KB.Env} {s : S} : fListS f env s = ((f env s).bind fun d s1 => match d with
  | .str l => if l.length ≤ 16777216 then .ok (l.map fun c => .str [c]) s1 else .bad
  | _ => .bad) := Eq.trans rfl rfl
end
end KB
set_option Elab.async false
set_option linter.all false
set_option maxRecDepth 100000
set_option maxHeartbeats 4000000
/-! K79: a lambda with one default value, a whole number, handed to the def of outcomes -/
set_option Elab.async false
set_option linter.all false
set_option maxRecDepth 100000
set_option maxHeartbeats 4000000
/-! K80: x *= y for whole numbers -/
set_option Elab.async false
set_option linter.all false
set_option maxRecDepth 100000
set_option maxHeartbeats 4000000
/-! K81: an instance + or * or == what is of a built-in type: the class's own method is asked -/
set_option Elab.async false
set_option linter.all false
set_option maxRecDepth 100000
set_option maxHeartbeats 4000000
/-! K82: tuple * 0 -/
set_option Elab.async false
set_option linter.all false
set_option maxRecDepth 100000
set_option maxHeartbeats 4000000
/-! K83: two or three names at once, some of them cells; a list and a list make a list of one's own -/
namespace KB
open PySem PySem.Spec PyProof.Rows L2
section
variable {T : Ctx} {S : Type} {SR : SRel S} {W : WX} {X : L2.Cx} {a b c : Expr} {f k : KB.Env → S → R S D} {g : KB.Env → S → R S (List Sl)} {p pos : Pos}
theorem ds_par2c {i j : Nat} {x y : Str} {px py pt pos : Pos} {kt k2 pt2} (hK : X.K = T.K) (hc : X.calm = true) (hN : X.N.Nodup) (hi : X.N[i]? = some x) (hj : X.N[j]? = some y) (hx : Loc X.env.scope x) (hy : Loc X.env.scope y) (ha : DZ T SR W X [a, b] g)
    (hfx : X.fn x = true ∨ X.env.scope.names.lookup x = some .local := by first | exact .inl rfl | exact .inr rfl) (hfy : X.fn y = true ∨ X.env.scope.names.lookup y = some .local := by first | exact .inl rfl | exact .inr rfl)
    (hn : (assignEach [.Name x px, .Name y py] X.env).length = 2 := by rfl) (hst : (assignEach [.Name x px, .Name y py] X.env).findIdx? (·.1) = none := by rfl)
    (q1 : (assignEach [.Name x px, .Name y py] X.env).map (·.2) = assign (.Name x px) X.env :: (assignEach [.Name y py] X.env).map (·.2) := by rfl)
    (q2 : (assignEach [.Name y py] X.env).map (·.2) = assign (.Name y py) X.env :: (assignEach [] X.env).map (·.2) := by rfl)
    (hs : swapsWithSole [.Tuple [.Name x px, .Name y py] kt pt] (.Tuple [a, b] k2 pt2) pos.line X.env = pure false := by rfl) (hw : swappedStores [.Tuple [.Name x px, .Name y py] kt pt] (.Tuple [a, b] k2 pt2) X.env = pure none := by rfl)
    (h1 : (assignEach [.Tuple [.Name x px, .Name y py] kt pt] X.env).map (·.2) = [assign (.Tuple [.Name x px, .Name y py] kt pt) X.env] := by rfl) :
    DS T SR W X (.Assign [.Tuple [.Name x px, .Name y py] kt pt] (.Tuple [a, b] k2 pt2) pos) (sPar [i, j] g) := by
  refine PS.imp (ps_asg (pe_tup ha) (pg_tup hc (pgs_cons (pg_name hN hi hx hfx) (pgs_cons (pg_name hN hj hy hfy) pgs_nil q2) q1) hn hst) hs hw h1) fun D σ H ⟨c0, H0, c, env, s, x, po⟩ => ?_
  refine sPar_go2 x po fun vs H' hl hd => ?_
  match vs, hl with
  | [v1, v2], _ =>
    refine ⟨by rw [sizeLine_eq]; simp, fun p hp => ?_⟩
    exact ⟨p, _, rfl, .inl (.inl upd_same), rfl, v1, _, rfl, v2, _, rfl, rfl, hd p _ hp⟩
def fCat (f k : KB.Env → S → R S D) : KB.Env → S → R S (List D) := fun env s => (f env s).bind fun x s1 => (k env s1).bind fun y s2 => match x, y with
  | .lst xs, .lst ys => if xs.length + ys.length ≤ 16777216 then .ok (xs ++ ys) s2 else .bad
  | _, _ => .bad
@[simp] theorem ev_fCat {env : KB.Env} {s : S} : fCat f k env s = ((f env s).bind fun x s1 => (k env s1).bind fun y s2 => match x, y with
  | .lst xs, .lst ys => if xs.length + ys.length ≤ 16777216 then .ok (xs ++ ys) s2 else .bad
  | _, _ => .bad) := Eq.trans rfl rfl
end
end KB
set_option Elab.async false
set_option linter.all false
set_option maxRecDepth 100000
set_option maxHeartbeats 4000000
/-! K84: zip of three -/
namespace KB
open PySem L2
/-! ### in data -/
def zip3D (xs ys zs : List D) : List D := (xs.zip (ys.zip zs)).map fun p => .tup [p.1, p.2.1, p.2.2]
def iZp3 {S : Type} (f : KB.Env → S → R S (List D)) : KB.Env → S → R S (List D) := fun env s => (f env s).bind fun xs s1 => match xs with
  | [d, e, k] => (R.of (seqD d) s1).bind fun ys s2 => (R.of (seqD e) s2).bind fun zs s3 => (R.of (seqD k) s3).bind fun ws s4 => .ok (zip3D ys zs ws) s4
  | _ => .bad
section
variable {T : Ctx} {S : Type} {SR : SRel S} {W : WX} {X : L2.Cx} {c : Cf} {a b e tg : Expr} {fs : KB.Env → S → R S (List D)} {pos : Pos}
@[simp] theorem ev_iZp3 {f : KB.Env → S → R S (List D)} {env : KB.Env} {s : S} : iZp3 f env s = ((f env s).bind fun xs s1 => match xs with
  | [d, e, k] => (R.of (seqD d) s1).bind fun ys s2 => (R.of (seqD e) s2).bind fun zs s3 => (R.of (seqD k) s3).bind fun ws s4 => .ok (zip3D ys zs ws) s4
  | _ => .bad) := Eq.trans rfl rfl
end
end KB
set_option Elab.async false
set_option linter.all false
set_option maxRecDepth 100000
set_option maxHeartbeats 4000000
/-! K85: a written dict of texts, told in the head -/
namespace KB
open PySem PySem.Spec PyProof.Rows L2
section
variable {T : Ctx} {S : Type} {SR : SRel S} {W : WX} {X : L2.Cx} {a : Expr} {f : KB.Env → S → R S D}
theorem KdOk.nil {K : PySem.W.Frag} {w : World} {p : Addr} : KdOk K w p [] := fun k v h => by cases h
theorem KdOk.cons {K : PySem.W.Frag} {w : World} {p : Addr} {a b : List Nat} {r : List (List Nat × List Nat)} (h : KDct K w p (sOf a) (.str (sOf b))) (hr : KdOk K w p r) : KdOk K w p ((a, b) :: r) := fun k v e => by
  rw [List.lookup_cons] at e
  cases q : k == a with
  | true =>
    rw [q] at e
    cases e
    rw [beq_iff_eq.mp q]
    exact h
  | false =>
    rw [q] at e
    exact hr k v e
end
end KB
set_option Elab.async false
set_option linter.all false
set_option maxRecDepth 100000
set_option maxHeartbeats 4000000
/-! K86: a list of texts counts a text; any of int, text, tuple, list times an int -/
set_option Elab.async false
set_option linter.all false
set_option maxRecDepth 100000
set_option maxHeartbeats 4000000
/-! K87: the set of the evaluation lemmas (seval), one statement a step -/
namespace KB
open PySem
theorem sv_get0 {α : Type} {a : α} {l : List α} : (a :: l)[0]? = some a := List.getElem?_cons_zero
theorem sv_get1 {α : Type} {a : α} {i : Nat} {l : List α} : (a :: l)[i + 1]? = l[i]? := List.getElem?_cons_succ
theorem sv_set0 {α : Type} {a b : α} {l : List α} : (a :: l).set 0 b = b :: l := List.set_cons_zero
theorem sv_set1 {α : Type} {a b : α} {i : Nat} {l : List α} : (a :: l).set (i + 1) b = a :: l.set i b := List.set_cons_succ
theorem sv_len1 {α : Type} {a : α} {l : List α} : (a :: l).length = l.length + 1 := List.length_cons
theorem sv_len0 {α : Type} : ([] : List α).length = 0 := List.length_nil
theorem sv_bind {α β : Type} {a : α} {f : α → Option β} : (some a).bind f = f a := Option.bind_some _ _
theorem sv_map {α β : Type} {a : α} {f : α → β} : (some a).map f = some (f a) := Option.map_some _ _
theorem sv_ift {α : Sort u} {a b : α} : (if True then a else b) = a := if_pos trivial
theorem sv_iff {α : Sort u} {a b : α} : (if False then a else b) = b := if_neg not_false
theorem sv_ft : (false = true) = False := eq_false Bool.false_ne_true
theorem sv_nt : (!true) = false := Eq.trans rfl rfl
theorem sv_nf : (!false) = true := Eq.trans rfl rfl
theorem sv_eq {α : Sort u} (a : α) : (a = a) = True := eq_true rfl
theorem sv_and1 (p : Prop) : (p ∧ p) = p := and_self p
theorem sv_and2 (p : Prop) : (p ∧ True) = p := and_true p
theorem sv_and3 (p : Prop) : (True ∧ p) = p := true_and p
theorem ev_pSomeS {S : Type} {f : KB.Env → S → R S D} {env : KB.Env} {s : S} : pSome f env s = ((f env s).bind fun d s1 => match d with | .int i => .ok (some i) s1 | _ => .bad) := Eq.trans rfl rfl
theorem ev_iEnS {S : Type} {f : KB.Env → S → R S (List D)} {env : KB.Env} {s : S} : iEn f env s = ((f env s).bind fun xs s1 => match xs with
  | [d] => (R.of (seqD d) s1).bind fun ys s2 => .ok (enumK 0 ys) s2
  | _ => .bad) := by
  unfold iEn
  simp only [enumD_eq] <;> rfl
theorem ev_iZpS {S : Type} {f : KB.Env → S → R S (List D)} {env : KB.Env} {s : S} : iZp f env s = ((f env s).bind fun xs s1 => match xs with
  | [d, e] => (R.of (seqD d) s1).bind fun ys s2 => (R.of (seqD e) s2).bind fun zs s3 => .ok (zipD ys zs) s3
  | _ => .bad) := Eq.trans rfl rfl
theorem ev_sAsgS {S : Type} {f : KB.Env → S → R S D} {h : Pt} {env : KB.Env} {s : S} : sAsg f h env s = (f env s).toS env fun d s1 => match h d env with
  | some env' => .nx env' s1
  | none => .bad := Eq.trans rfl rfl
theorem ev_pTup {n : Nat} {hs : Pts} {xs : List D} {env : KB.Env} : pTup n hs (.tup xs) env = if xs.length = n then hs xs env else none := Eq.trans rfl rfl
theorem ev_pTupL {n : Nat} {hs : Pts} {xs : List D} {env : KB.Env} : pTup n hs (.lst xs) env = if xs.length = n then hs xs env else none := Eq.trans rfl rfl
theorem ev_psCons {h : Pt} {hs : Pts} {d : D} {r : List D} {env : KB.Env} : psCons h hs (d :: r) env = (h d env).bind (hs r) := Eq.trans rfl rfl
theorem ev_psNil {env : KB.Env} : psNil [] env = some env := Eq.trans rfl rfl
theorem ev_pName {i : Nat} {d : D} {env : KB.Env} : pName i d env = some (env.set i (.d d)) := Eq.trans rfl rfl
theorem ev_bYes {S : Type} {env : KB.Env} {s : S} : bYes env s = .ok true s := Eq.trans rfl rfl
theorem ev_aNo {S : Type} {env : KB.Env} {s : S} : aNo env s = .ok [] s := Eq.trans rfl rfl
theorem sv_envOf (n : Nat) (ds : List D) : envOf n ds = ds.map Sl.d ++ List.replicate (n - ds.length) .no := Eq.trans rfl rfl
theorem sv_mapc {α β : Type} {a : α} {l : List α} {f : α → β} : (a :: l).map f = f a :: l.map f := List.map_cons
theorem sv_mapn {α β : Type} {f : α → β} : ([] : List α).map f = [] := List.map_nil
theorem sv_appc {α : Type} {a : α} {l m : List α} : (a :: l) ++ m = a :: (l ++ m) := List.cons_append
theorem sv_appn {α : Type} {m : List α} : [] ++ m = m := List.nil_append m
theorem sv_rep1 {α : Type} {a : α} {n : Nat} : List.replicate (n + 1) a = a :: List.replicate n a := List.replicate_succ
theorem sv_rep0 {α : Type} {a : α} : List.replicate 0 a = [] := List.replicate_zero
/-- a def's promise: its body, then what it gives -/
theorem sem_nx {S : Type} {n : Nat} {g : KB.Env → S → RS S} {ds : List D} {s : S} {rs : RS S} {r : R S RV} {env : KB.Env} (e0 : envOf n ds = env) (e : g env s = rs) (h : defR rs = r) : semOf n g ds s = r := by
  unfold semOf
  rw [e0, e, h]
section
variable {S : Type} {g h : KB.Env → S → RS S} {env env1 : KB.Env} {s s1 : S} {r : RS S}
theorem go (e1 : g env s = .nx env1 s1) (e2 : h env1 s1 = r) : sSeq g h env s = r := by
  rw [sSeq_eq, e1]
  exact e2
theorem go_rt {v : RV} (e1 : g env s = .rt v s1) : sSeq g h env s = .rt v s1 := by
  rw [sSeq_eq, e1]
  rfl
theorem if_y {t : KB.Env → S → R S Bool} (e1 : t env s = .ok true s1) (e2 : g env s1 = r) : sIf t g h env s = r := by
  rw [ev_sIf, e1]
  exact e2
theorem if_n {t : KB.Env → S → R S Bool} (e1 : t env s = .ok false s1) (e2 : h env s1 = r) : sIf t g h env s = r := by
  rw [ev_sIf, e1]
  exact e2
end
end KB
set_option Elab.async false
set_option linter.all false
set_option maxRecDepth 100000
set_option maxHeartbeats 4000000
/-! K88: dicts as values: comprehensions, displays of one pair, locked at once; own dicts set; `in` -/
set_option Elab.async false
set_option linter.all false
set_option maxRecDepth 100000
set_option maxHeartbeats 4000000
/-! K89: name = {.. for ..}, locked at once; `in`, `not in` of a dict in a slot; a dict against {} -/
namespace L2
open PySem PySem.Spec PyProof.Rows
end L2
set_option Elab.async false
set_option linter.all false
set_option maxRecDepth 100000
set_option maxHeartbeats 4000000
/-! K90: a display of one pair; the evaluation lemmas of dicts; dicts by texts (dk); comprehensions of two fors, pure -/
set_option Elab.async false
set_option linter.all false
set_option maxRecDepth 100000
set_option maxHeartbeats 4000000
/-! K91: plain: the rows of knots by which a row of a picture is made; stands that are come to -/
namespace KB
/-- the knots that show a colour at a place -/
def kz (st : List Nat) (p c : Nat) : List Nat := [76, 82, 108, 114].filter fun k => decide (sAt p k st = some c)
def wy (st : List Nat) : List Nat → List Nat → List (List Nat)
  | p :: ps, c :: cs => (kz st p c).flatMap fun k => (wy st ps cs).map (k :: ·)
  | [], _ => [[]]
  | _ :: _, [] => [[]]
theorem kz_mem {st : List Nat} {p c k : Nat} : k ∈ kz st p c ↔ (k = 76 ∨ k = 82 ∨ k = 108 ∨ k = 114) ∧ sAt p k st = some c := by
  unfold kz
  rw [List.mem_filter]
  simp
theorem wy_mem {st : List Nat} : ∀ {ps cs w : List Nat}, ps.length = cs.length → (w ∈ wy st ps cs ↔ w.length = ps.length ∧ (∀ k ∈ w, k = 76 ∨ k = 82 ∨ k = 108 ∨ k = 114) ∧ (∀ j p k : Nat, ps[j]? = some p → w[j]? = some k → sAt p k st = cs[j]?))
  | [], [], w, _ => by
    rw [wy, List.mem_singleton]
    constructor
    · rintro rfl
      exact ⟨rfl, (fun k h => nomatch h), fun j p k h => by simp at h⟩
    · rintro ⟨h, _, _⟩
      exact List.eq_nil_of_length_eq_zero h
  | [], _ :: _, _, h => by simp at h
  | _ :: _, [], _, h => by simp at h
  | p :: ps, c :: cs, w, hl => by
    have hl' : ps.length = cs.length := by simpa using hl
    rw [wy, List.mem_flatMap]
    constructor
    · rintro ⟨k, hk, hw⟩
      obtain ⟨v, hv, rfl⟩ := List.mem_map.mp hw
      obtain ⟨h1, h2, h3⟩ := (wy_mem hl').mp hv
      obtain ⟨k1, k2⟩ := kz_mem.mp hk
      refine ⟨by simp [h1], fun x hx => ?_, fun j q x hq hx => ?_⟩
      · rcases List.mem_cons.mp hx with rfl | hx
        · exact k1
        · exact h2 x hx
      · cases j with
        | zero =>
          simp at hq hx
          subst hq
          subst hx
          simpa using k2
        | succ j =>
          simp only [List.getElem?_cons_succ] at hq hx ⊢
          exact h3 j q x hq hx
    · rintro ⟨h1, h2, h3⟩
      cases w with
      | nil => simp at h1
      | cons k v =>
        refine ⟨k, kz_mem.mpr ⟨h2 k List.mem_cons_self, by simpa using h3 0 p k rfl rfl⟩, List.mem_map.mpr ⟨v, (wy_mem hl').mpr ⟨by simpa using h1, fun x hx => h2 x (List.mem_cons_of_mem _ hx), fun j q x hq hx => ?_⟩, rfl⟩⟩
        have := h3 (j + 1) q x (by simpa using hq) (by simpa using hx)
        simpa using this
/-- what is seen is the row: knot by knot -/
theorem sn_iff {st : List Nat} : ∀ {ps w cs : List Nat}, w.length = ps.length → (∀ p ∈ ps, p + 1 < st.length) → ps.length = cs.length → (sn ps w st = cs ↔ ∀ j p k : Nat, ps[j]? = some p → w[j]? = some k → sAt p k st = cs[j]?)
  | [], w, [], _, _, _ => by
    constructor
    · intro _ j p k h
      simp at h
    · intro _
      simp [sn]
  | [], _, _ :: _, _, _, h => by simp at h
  | _ :: _, _, [], _, _, h => by simp at h
  | _ :: _, [], _ :: _, h, _, _ => by simp at h
  | p :: ps, k :: w, c :: cs, h1, hp, h2 => by
    have hpl := hp p List.mem_cons_self
    obtain ⟨x, hx⟩ : ∃ x, sAt p k st = some x := by
      unfold sAt
      split
      · exact ⟨_, List.getElem?_eq_getElem hpl⟩
      · exact ⟨_, List.getElem?_eq_getElem (by omega)⟩
    have ih := sn_iff (st := st) (ps := ps) (w := w) (cs := cs) (by simpa using h1) (fun q hq => hp q (List.mem_cons_of_mem _ hq)) (by simpa using h2)
    rw [sn, hx]
    show x :: sn ps w st = c :: cs ↔ _
    rw [List.cons.injEq, ih]
    constructor
    · rintro ⟨rfl, h3⟩ j q y hq hy
      cases j with
      | zero =>
        simp at hq hy
        subst hq
        subst hy
        simpa using hx
      | succ j => simpa using h3 j q y (by simpa using hq) (by simpa using hy)
    · intro h
      refine ⟨?_, fun j q y hq hy => by simpa using h (j + 1) q y (by simpa using hq) (by simpa using hy)⟩
      have := h 0 p k rfl rfl
      rw [hx] at this
      simpa using this
/-- the rows that make a row of a picture -/
def wys (n i : Nat) (st row : List Nat) : List (List Nat) := wy st (pl n (i % 2)) row
theorem wys_mem {n i : Nat} {st row w : List Nat} (hs : st.length = n) (hr : row.length = (pl n (i % 2)).length) : w ∈ wys n i st row ↔ RowOk n i w ∧ sn (pl n (i % 2)) w st = row := by
  unfold wys
  rw [wy_mem hr.symm]
  constructor
  · rintro ⟨h1, h2, h3⟩
    exact ⟨⟨h1, h2⟩, (sn_iff h1 (fun p hp => by rw [hs]; exact pl_in hp) hr.symm).mpr h3⟩
  · rintro ⟨⟨h1, h2⟩, h3⟩
    exact ⟨h1, h2, (sn_iff h1 (fun p hp => by rw [hs]; exact pl_in hp) hr.symm).mp h3⟩
/-! ### ways through a picture -/
structure Way (n : Nat) (ps : List (List Nat)) (st : List Nat) (rs : List (List Nat)) (en : List Nat) : Prop where
  len : st.length = n
  rows : RowsOk n 0 rs
  seen : snT n 0 rs st = ps
  stand : knT n 0 rs st = en
theorem Way.many {n : Nat} {ps rs : List (List Nat)} {st en : List Nat} (h : Way n ps st rs en) : rs.length = ps.length := by
  rw [← h.seen, snT_len]
theorem Way.nil {n : Nat} {st : List Nat} (h : st.length = n) : Way n [] st [] st := ⟨h, trivial, rfl, rfl⟩
theorem Way.snoc {n : Nat} {ps rs : List (List Nat)} {st en row w : List Nat} (h : Way n ps st rs en) (hr : RowOk n ps.length w) (hs : sn (pl n (ps.length % 2)) w en = row) : Way n (ps ++ [row]) st (rs ++ [w]) (kn (pl n (ps.length % 2)) w en) := by
  have hm := h.many
  refine ⟨h.len, RowsOk.of fun j q hj => ?_, ?_, ?_⟩
  · rw [List.getElem?_append] at hj
    split at hj
    · exact h.rows.at hj
    · have hlt := (List.getElem?_eq_some_iff.mp hj).1
      simp at hlt
      have hj0 : j - rs.length = 0 := by omega
      rw [hj0] at hj
      cases hj
      exact hr.par (by omega)
  · rw [snT_app, h.seen, h.stand, Nat.zero_add, hm]
    show ps ++ [sn (pl n (ps.length % 2)) w en] = _
    rw [hs]
  · rw [knT_app, h.stand, Nat.zero_add, hm]
    rfl
/-- the last row of a way -/
theorem Way.last {n : Nat} {ps rs : List (List Nat)} {st en row : List Nat} (h : Way n (ps ++ [row]) st rs en) : ∃ fr w mid, rs = fr ++ [w] ∧ Way n ps st fr mid ∧ RowOk n ps.length w ∧ sn (pl n (ps.length % 2)) w mid = row ∧ kn (pl n (ps.length % 2)) w mid = en := by
  have hm := h.many
  have hn : rs ≠ [] := fun e => by
    rw [e] at hm
    simp at hm
  obtain ⟨fr, w, rfl⟩ : ∃ fr w, rs = fr ++ [w] := ⟨rs.dropLast, rs.getLast hn, (List.dropLast_concat_getLast hn).symm⟩
  have hl : fr.length = ps.length := by simpa using hm
  have hs := h.seen
  have hk := h.stand
  rw [snT_app, Nat.zero_add, hl] at hs
  rw [knT_app, Nat.zero_add, hl] at hk
  have hs' : snT n 0 fr st ++ [sn (pl n (ps.length % 2)) w (knT n 0 fr st)] = ps ++ [row] := hs
  obtain ⟨e1, e2⟩ := List.append_inj' hs' rfl
  have e3 : sn (pl n (ps.length % 2)) w (knT n 0 fr st) = row := by simpa using e2
  refine ⟨fr, w, knT n 0 fr st, rfl, ⟨h.len, ?_, e1, rfl⟩, ?_, e3, hk⟩
  · refine RowsOk.of fun j q hj => h.rows.at ?_
    rw [List.getElem?_append_left (List.getElem?_eq_some_iff.mp hj).1]
    exact hj
  · have := h.rows.at (j := fr.length) (r := w) (by simp)
    exact this.par (by omega)
theorem Way.end_len {n : Nat} {ps rs : List (List Nat)} {st en : List Nat} (h : Way n ps st rs en) : en.length = n := by
  rw [← h.stand, knT_len, h.len]
end KB
set_option Elab.async false
set_option linter.all false
set_option maxRecDepth 100000
set_option maxHeartbeats 4000000
/-! K92: plain: with how many strings a a picture can be made -/
namespace KB
abbrev AB (st : List Nat) : Prop := ∀ c ∈ st, c ∈ [97, 98]
def Can (n : Nat) (ps : List (List Nat)) (m : Nat) : Prop := ∃ st rs en, Way n ps st rs en ∧ AB st ∧ st.count 97 = m
theorem Can.le {n m : Nat} {ps : List (List Nat)} (h : Can n ps m) : m ≤ n := by
  obtain ⟨st, rs, en, w, _, rfl⟩ := h
  rw [← w.len]
  exact List.count_le_length
/-! ### both colours exchanged -/
theorem Way.map {n : Nat} {ps rs : List (List Nat)} {st en : List Nat} (f : Nat → Nat) (h : Way n ps st rs en) : Way n (ps.map (List.map f)) (st.map f) rs (en.map f) := by
  refine ⟨by rw [List.length_map, h.len], h.rows, ?_, ?_⟩
  · rw [snT_map, h.seen]
  · rw [knT_map, h.stand]
/-! ### from right to left -/
/-! ### upside down -/
theorem swp_count {p : Nat} {xs : List Nat} (a : Nat) : (swp p xs).count a = xs.count a := by
  by_cases h : p + 1 < xs.length
  · have e0 : xs = xs.take p ++ [xs[p], xs[p + 1]] ++ xs.drop (p + 2) := by
      have e1 : xs.drop p = xs[p] :: xs.drop (p + 1) := List.drop_eq_getElem_cons (by omega)
      have e2 : xs.drop (p + 1) = xs[p + 1] :: xs.drop (p + 2) := List.drop_eq_getElem_cons h
      conv => lhs; rw [← List.take_append_drop p xs, e1, e2]
      simp
    have e := swp_cut (p := p) (xs := xs) h
    rw [e]
    conv => rhs; rw [e0]
    simp only [List.count_append, List.count_cons, List.count_nil]
    omega
  · unfold swp
    split
    · rename_i a b e1 e2
      have := (List.getElem?_eq_some_iff.mp e2).1
      omega
    · rfl
theorem kn_count (a : Nat) : ∀ (ps ks : List Nat) (xs : List Nat), (kn ps ks xs).count a = xs.count a
  | [], _, _ => by simp [kn]
  | _ :: _, [], _ => by simp [kn]
  | p :: ps, k :: ks, xs => by
    rw [kn, kn_count a ps ks]
    split
    · exact swp_count a
    · rfl
theorem knT_count {n : Nat} (a : Nat) : ∀ (i : Nat) (rs : List (List Nat)) (xs : List Nat), (knT n i rs xs).count a = xs.count a
  | _, [], _ => by simp [knT]
  | i, r :: rs, xs => by rw [knT, knT_count a (i + 1) rs, kn_count]
theorem Way.count {n : Nat} {ps rs : List (List Nat)} {st en : List Nat} (h : Way n ps st rs en) (a : Nat) : en.count a = st.count a := by
  rw [← h.stand, knT_count]
/-! ### beginnings -/
theorem Way.take {n : Nat} {ps rs : List (List Nat)} {st en : List Nat} (h : Way n ps st rs en) (k : Nat) : Way n (ps.take k) st (rs.take k) (knT n 0 (rs.take k) st) := by
  by_cases hk : k ≤ rs.length
  · refine ⟨h.len, h.rows.take k, ?_, rfl⟩
    have e := h.seen
    have e2 : snT n 0 (rs.take k ++ rs.drop k) st = ps := by rw [List.take_append_drop]; exact e
    rw [snT_app] at e2
    rw [← e2, List.take_left' (by rw [snT_len, List.length_take]; omega)]
  · have t1 : rs.take k = rs := List.take_of_length_le (by omega)
    have t2 : ps.take k = ps := List.take_of_length_le (by have := h.many; omega)
    rw [t1, t2]
    exact ⟨h.len, h.rows, h.seen, rfl⟩
theorem Can.take {n m : Nat} {ps : List (List Nat)} (h : Can n ps m) (k : Nat) : Can n (ps.take k) m := by
  obtain ⟨st, rs, en, w, ab, e⟩ := h
  exact ⟨_, _, _, w.take k, ab, e⟩
/-! ### both colours in turn make all -/
end KB
set_option Elab.async false
set_option linter.all false
set_option maxRecDepth 100000
set_option maxHeartbeats 4000000
/-! K93: odds and ends: counts in texts, the last of a list, rows that fit -/
set_option Elab.async false
set_option linter.all false
set_option maxRecDepth 100000
set_option maxHeartbeats 4000000
/-! K94: sorted of texts, of pairs of texts, of a dict with texts as keys, any number of them -/
namespace SrtO
open PySem PyProof.Rows Srt
def IsPairT (h : Heap) (v : Value) (x y : PySem.Str) : Prop := ∃ a o t u n, v = .ref a ∧ h.get? a = some o ∧ o.cls = .type "tuple" ∧ o.data = .seq #[.str x t, .str y u] n
theorem IsPairT.keeps {h h' : Heap} {v : Value} {x y : PySem.Str} (p : IsPairT h v x y) (k : ∀ b o, h.get? b = some o → o.cls = .type "tuple" → h'.get? b = some o) : IsPairT h' v x y := by
  obtain ⟨a, o, t, u, n, e, ho, hc, hd⟩ := p
  exact ⟨a, o, t, u, n, e, k _ _ ho hc, hc, hd⟩
end SrtO
namespace L2
open PySem PySem.Spec PyProof.Rows
end L2
set_option Elab.async false
set_option linter.all false
set_option maxRecDepth 100000
set_option maxHeartbeats 4000000
/-! K95: sorted, of all that is wanted here: ints, texts, pairs of texts, dicts with texts as keys -/
set_option Elab.async false
set_option linter.all false
set_option maxRecDepth 100000
set_option maxHeartbeats 4000000
/-! K96: list(d.values()); list(d) of a dict; d[k], k in d where d is any expression -/
namespace L2
open PySem PySem.Spec PyProof.Rows
end L2
set_option Elab.async false
set_option linter.all false
set_option maxRecDepth 100000
set_option maxHeartbeats 4000000
/-! K97: plain: the ways of a row are ascending; stands that are come to from a colouring; counts -/
namespace KB
/-! ### ascending -/
/-! ### a dict of numbers -/
abbrev NM := List (List Nat × Nat)
/-- what holds of a dict of numbers: keys once each, numbers not 0 -/
structure NOk (m : NM) : Prop where
  nd : (m.map (·.1)).Nodup
  ps : ∀ p ∈ m, 0 < p.2
theorem NOk.nil : NOk [] := ⟨List.nodup_nil, fun p h => nomatch h⟩
/-- the stands come to -/
def Mk1 (n : Nat) (ps : List (List Nat)) (st en : List Nat) : Prop := ∃ rs, Way n ps st rs en
theorem Mk1.nil {n : Nat} {st en : List Nat} (hs : st.length = n) : Mk1 n [] st en ↔ en = st := by
  constructor
  · rintro ⟨rs, w⟩
    have hr : rs = [] := List.eq_nil_of_length_eq_zero (by rw [w.many]; rfl)
    subst hr
    exact w.stand.symm
  · rintro rfl
    exact ⟨[], Way.nil hs⟩
theorem Mk1.snoc {n : Nat} {ps : List (List Nat)} {row st en : List Nat} (hr : row.length = (pl n (ps.length % 2)).length) : Mk1 n (ps ++ [row]) st en ↔ ∃ mid, Mk1 n ps st mid ∧ ∃ w ∈ wys n ps.length mid row, en = kn (pl n (ps.length % 2)) w mid := by
  constructor
  · rintro ⟨rs, w⟩
    obtain ⟨fr, v, mid, rfl, h1, h3, h4, h5⟩ := w.last
    exact ⟨mid, ⟨fr, h1⟩, v, (wys_mem h1.end_len hr).mpr ⟨h3, h4⟩, h5.symm⟩
  · rintro ⟨mid, ⟨rs, w⟩, v, hv, rfl⟩
    obtain ⟨h1, h2⟩ := (wys_mem w.end_len hr).mp hv
    exact ⟨rs ++ [v], w.snoc h1 h2⟩
end KB
set_option Elab.async false
set_option linter.all false
set_option maxRecDepth 100000
set_option maxHeartbeats 4000000
/-! K98: a product of great ints -/
set_option Elab.async false
set_option linter.all false
set_option maxRecDepth 100000
set_option maxHeartbeats 4000000
/-! K99: `in` of a dict that some expression gives; own.insert(0, x); y = own.pop() -/
namespace L2
open PySem PySem.Spec PyProof.Rows
end L2
set_option Elab.async false
set_option linter.all false
set_option maxRecDepth 100000
set_option maxHeartbeats 4000000
/-! K100: errors made as values, by position; isinstance of an error and a built-in class -/
set_option Elab.async false
set_option linter.all false
set_option maxRecDepth 100000
set_option maxHeartbeats 4000000
/-! K101: errors made by name: C(par = v) -/
set_option Elab.async false
set_option linter.all false
set_option maxRecDepth 100000
set_option maxHeartbeats 4000000
/-! K102: errors made by name, the whole -/
set_option Elab.async false
set_option linter.all false
set_option maxRecDepth 100000
set_option maxHeartbeats 4000000
/-! K103: C(par = e) and isinstance(e, built-in class) on data -/
set_option Elab.async false
set_option linter.all false
set_option maxRecDepth 100000
set_option maxHeartbeats 4000000
/-! K105: mutable objects in the state: handles, fields read -/
namespace KB
open PySem PySem.Spec PyProof.Rows L2
structure Bd where
  cls : Str
  fs : List (Str × D)
/-- the mutable object b stands at the handle k + 1 -/
def BdAt (T : Ctx) (c : Cf) (k : Nat) (b : Bd) : Prop := ∃ a dx vs, c.m (k + 1) = some a ∧ c.F a = some (.ins (T.cl b.cls) dx vs) ∧ RepF T c b.fs vs ∧ D.noLf b.fs = true ∧ D.noHf b.fs = true
abbrev BS := Option LS × List Bd
def SRB (T : Ctx) (ts : Addr → Option Str) : SRel BS where
  rel s c := srlR ts s.1 c.m c.F ∧ (∀ k b, s.2[k]? = some b → BdAt T c k b) ∧ (∀ i j a, i < s.2.length → j < s.2.length → c.m (i + 1) = some a → c.m (j + 1) = some a → i = j) ∧ s.2.length < 999 ∧ (∀ j, s.2.length ≤ j → j + 1 < 1000 → c.m (j + 1) = none)
  mono {s c c'} h g hf hm := by
    obtain ⟨h1, h2, h3, h4, h5⟩ := h
    refine ⟨by rw [hf, hm]; exact h1, fun k b e => ?_, fun i j a => by rw [hm]; exact h3 i j a, h4, fun j => by rw [hm]; exact h5 j⟩
    obtain ⟨a, dx, vs, e1, e2, e3, e4, e5⟩ := h2 k b e
    exact ⟨a, dx, vs, by rw [hm]; exact e1, by rw [hf]; exact e2, e3.mono g, e4, e5⟩
  del {s c a ls} h ha := by
    obtain ⟨h1, h2, h3, h4, h5⟩ := h
    refine ⟨h1, fun k b e => ?_, h3, h4, h5⟩
    obtain ⟨a', dx, vs, e1, e2, e3, e4, e5⟩ := h2 k b e
    exact ⟨a', dx, vs, e1, e2, RepF.del ha e3 e4, e4, e5⟩
section
variable {T : Ctx} {ts : Addr → Option Str} {W : WX} {X : Cx} {a o : Expr} {g : KB.Env → BS → R BS D} {f nm : Str} {pos pos' : Pos}
/-- e.f, e a handle -/
def eFldH (nm f : Str) (g : KB.Env → BS → R BS D) : KB.Env → BS → R BS D := fun env s => (g env s).bind fun d s1 => match d with
  | .hnd (k + 1) => match s1.2[k]? with
    | some b => if b.cls = nm then (match b.fs.lookup f with
      | some d => .ok d s1
      | none => .bad) else .bad
    | none => .bad
  | _ => .bad
theorem de_fldH (nm : Str) (hc : Cls X.K (T.cl nm)) (hn : NoAttr X.K (T.cl nm) f) (ha : DE T (SRB T ts) W X a g) (hb : attributeBase a f X.env (eval a X.env) = eval a X.env := by rfl) : DE T (SRB T ts) W X (.Attribute a f pos) (eFldH nm f g) := by
  refine PE.imp (pe_fld ha hb) fun σ H Q ⟨c, env, s, x, po⟩ => ?_
  refine Po.run x po fun d s1 v c1 H1 st1 x1 r1 p1 => ?_
  cases r1 with
  | @hnd n a hm =>
    cases n with
    | zero => exact p1.elim
    | succ k =>
      have p2 : Po T (SRB T ts) W (wE T Q) c1 H1 σ (match s1.2[k]? with
        | some b => if b.cls = nm then (match b.fs.lookup f with
          | some d => .ok d s1
          | none => .bad) else .bad
        | none => .bad) := p1
      split at p2
      · rename_i b eb
        split at p2
        · rename_i hcl
          subst hcl
          split at p2
          · rename_i d ed
            obtain ⟨a', dx, vs, e1, e2, e3, e4, e5⟩ := x1.sr.2.1 k b eb
            rw [hm] at e1
            cases e1
            obtain ⟨v, ev, rv⟩ := e3.look ed
            exact ⟨a, _, dx, vs, v, rfl, x1.ok.fh _ _ e2, hc, hn, ev, p2.done x1.ok x1.sr _ rv⟩
          · exact p2.elim
        · exact p2.elim
      · exact p2.elim
  | _ => exact p1.elim
/-- x.f = e, x a name that holds a handle -/
def putB (bs : List Bd) (k : Nat) (f : Str) (d : D) : List Bd := match bs[k]? with
  | some b => bs.set k ⟨b.cls, putD f d b.fs⟩
  | none => bs
def sFldH (nm f : Str) (i : Nat) (g : KB.Env → BS → R BS D) : KB.Env → BS → RS BS := fun env s => (g env s).toS env fun d s1 => match env[i]? with
  | some (.d (.hnd (k + 1))) => match s1.2[k]? with
    | some b => if b.cls = nm ∧ b.fs.length < 900 ∧ d.noL = true ∧ d.noH = true then .nx env (s1.1, putB s1.2 k f d) else .bad
    | none => .bad
  | _ => .bad
theorem noLf_put {f : Str} {d : D} : ∀ {fs : List (Str × D)}, D.noLf fs = true → d.noL = true → D.noLf (putD f d fs) = true
  | [], _, h => by
    show (d.noL && D.noLf []) = true
    rw [h]
    rfl
  | (k, x) :: fs, h, hd => by
    obtain ⟨h1, h2⟩ := Bool.and_eq_true_iff.mp h
    show D.noLf (if k = f then (k, d) :: fs else (k, x) :: putD f d fs) = true
    split
    · exact Bool.and_eq_true_iff.mpr ⟨hd, h2⟩
    · exact Bool.and_eq_true_iff.mpr ⟨h1, noLf_put h2 hd⟩
theorem noHf_put {f : Str} {d : D} : ∀ {fs : List (Str × D)}, D.noHf fs = true → d.noH = true → D.noHf (putD f d fs) = true
  | [], _, h => by
    show (d.noH && D.noHf []) = true
    rw [h]
    rfl
  | (k, x) :: fs, h, hd => by
    obtain ⟨h1, h2⟩ := Bool.and_eq_true_iff.mp h
    show D.noHf (if k = f then (k, d) :: fs else (k, x) :: putD f d fs) = true
    split
    · exact Bool.and_eq_true_iff.mpr ⟨hd, h2⟩
    · exact Bool.and_eq_true_iff.mpr ⟨h1, noHf_put h2 hd⟩
theorem srb_put {s : BS} {c : Cf} {k : Nat} {b : Bd} {l dx : Addr} {vs : List (Str × V)} {v : V} {d : D} (h : (SRB T ts).rel s c) (eb : s.2[k]? = some b) (e1 : c.m (k + 1) = some l) (e2 : c.F l = some (.ins (T.cl b.cls) dx vs)) (e3 : RepF T c b.fs vs) (r : Rep T c d v) (hL : d.noL = true) (hH : d.noH = true) :
    (SRB T ts).rel (s.1, putB s.2 k f d) ⟨c.G, c.m, upd c.F l (.ins (T.cl b.cls) dx (putF f v vs))⟩ := by
  obtain ⟨h1, h2, h3, h4, h5⟩ := h
  have gx : Gx c ⟨c.G, c.m, upd c.F l (.ins (T.cl b.cls) dx (putF f v vs))⟩ := ⟨Same.refl _, fun _ _ z => z⟩
  have hk : k < s.2.length := (List.getElem?_eq_some_iff.mp eb).1
  have pb : putB s.2 k f d = s.2.set k ⟨b.cls, putD f d b.fs⟩ := by
    unfold putB
    rw [eb]
  have tb : ∀ {F : Hp}, TabC ts F → F l = some (.ins (T.cl b.cls) dx vs) → TabC ts (upd F l (.ins (T.cl b.cls) dx (putF f v vs))) := fun t e => tabC_upd t (fun ps z => by rw [e] at z; cases z) fun q z => by rw [e] at z; cases z
  refine ⟨?_, fun j b' e => ?_, fun i j a hi hj => ?_, ?_, ?_⟩
  · show srlR ts s.1 c.m (upd c.F l _)
    cases hs : s.1 with
    | none =>
      rw [hs] at h1
      exact ⟨h1.1, tb h1.2 e2⟩
    | some st =>
      rw [hs] at h1
      obtain ⟨a, p, q, m0, f1, f2, f3, hpq, t⟩ := h1
      refine ⟨a, p, q, m0, (upd_ne fun z => ?_).trans f1, (upd_ne fun z => ?_).trans f2, (upd_ne fun z => ?_).trans f3, hpq, tb t e2⟩
      · rw [z, e2] at f1
        cases f1
      · rw [z, e2] at f2
        cases f2
      · rw [z, e2] at f3
        cases f3
  · rw [pb] at e
    by_cases hj : j = k
    · subst hj
      rw [List.getElem?_set_self hk] at e
      cases e
      obtain ⟨a, dx', vs', g1, g2, g3, g4, g5⟩ := h2 j b eb
      exact ⟨l, dx, _, e1, upd_same, ((e3.mono gx).put (r.mono gx)), noLf_put g4 hL, noHf_put g5 hH⟩
    · rw [List.getElem?_set_ne (Ne.symm hj)] at e
      obtain ⟨a, dx', vs', g1, g2, g3, g4, g5⟩ := h2 j b' e
      refine ⟨a, dx', vs', g1, (upd_ne fun z => hj ?_).trans g2, g3.mono gx, g4, g5⟩
      subst z
      exact h3 j k a (List.getElem?_eq_some_iff.mp e).1 hk g1 e1
  · rw [pb, List.length_set] at hi hj
    exact h3 i j a hi hj
  · show (putB s.2 k f d).length < 999
    rw [pb, List.length_set]
    exact h4
  · show ∀ j, (putB s.2 k f d).length ≤ j → j + 1 < 1000 → c.m (j + 1) = none
    rw [pb, List.length_set]
    exact h5
theorem ds_fldH {i : Nat} {x : Str} {p1 p2 : Pos} (nm : Str) (hc : Cls X.K (T.cl nm)) (hn : NoAttr X.K (T.cl nm) f) (hN : X.N[i]? = some x) (ha : DE T (SRB T ts) W X a g) (hv : Vis X.env.scope x := by first | exact Or.inl rfl | exact Or.inr (Or.inl rfl)) (hd : (x == ("__debug__" : Str)) = false := by decide) (hcd : (x == ("__classdict__" : Str)) = false := by decide)
    (hs : swapsWith a (some (.Attribute (.Name x p1) f p2)) pos.line X.env = pure false := by rfl) : DS T (SRB T ts) W X (.Assign [.Attribute (.Name x p1) f p2] a pos) (sFldH nm f i g) := by
  refine PS.imp (ps_fld (pe_var hN hv hd hcd) ha hs) fun D σ H ⟨c0, H0, c, env, s, x, po⟩ => ?_
  refine PoS.run x po fun d s1 v c1 H1 y x1 r1 p1 => ?_
  split at p1
  · rename_i k e
    split at p1
    · rename_i b eb
      split at p1
      · rename_i hh
        obtain ⟨rfl, hl, hL, hH⟩ := hh
        obtain ⟨l, dx, vs, e1, e2, e3, e4, e5⟩ := x1.sr.2.1 k b eb
        obtain ⟨w, z1, rw⟩ := (show ∃ w, σ[i]? = some (some w) ∧ Rep T c1 (.hnd (k + 1)) w from x1.en.sl i _ e)
        cases rw with
        | hnd hm =>
        rw [e1] at hm
        cases hm
        refine ⟨.ref l, z1, l, _, dx, vs, rfl, x1.st.ok.fh _ _ e2, hc, hn, by rw [← e3.length]; omega, ?_⟩
        have sx := putF_step x1.st.ok (o' := .ins (T.cl b.cls) dx (putF f v vs)) e2
        exact p1 σ _ _ sx.gx (x1.step sx (srb_put x1.sr eb e1 e2 e3 r1 hL hH))
      · exact p1.elim
    · exact p1.elim
  · exact p1.elim
/-- two new objects of the state, the second under a new handle -/
theorem stp_new {c : Cf} {H : Hp} (ok : CfOk c H) {x dx : Addr} {o o' : HO} {n : Nat} (hx : H x = none) (hd : H dx = none) (hne : dx ≠ x) (hm : c.m n = none) :
    Stp c H ⟨c.G, fun i => if i = n then some x else c.m i, upd (upd c.F dx o) x o'⟩ (upd (upd H dx o) x o') where
  ok := {
    gh := fun b u e => by
      have h := ok.gh b u e
      rw [upd_ne (ne_of_none h hx), upd_ne (ne_of_none h hd)]
      exact h
    fh := fun b u e => by
      have e' : upd (upd c.F dx o) x o' b = some u := e
      by_cases z : b = x
      · subst z
        rw [upd_same] at e' ⊢
        exact e'
      · rw [upd_ne z] at e' ⊢
        by_cases z2 : b = dx
        · subst z2
          rw [upd_same] at e' ⊢
          exact e'
        · rw [upd_ne z2] at e' ⊢
          exact ok.fh b u e'
    dj := fun b u e => by
      have h := ok.gh b u e
      show upd (upd c.F dx o) x o' b = none
      rw [upd_ne (ne_of_none h hx), upd_ne (ne_of_none h hd)]
      exact ok.dj b u e }
  gx := ⟨Same.refl _, fun i a z => by
    show (if i = n then some x else c.m i) = some a
    rw [if_neg fun q => by
      subst q
      rw [hm] at z
      cases z]
    exact z⟩
  keep := fun b u e f => by
    rw [upd_ne (ne_of_none e hx), upd_ne (ne_of_none e hd)]
    exact e
  dom := fun b u e => ⟨u, by
    rw [upd_ne (ne_of_none e hx), upd_ne (ne_of_none e hd)]
    exact e⟩
  gn := fun b u e => .inl e
  fn := fun b u e => by
    have e' : upd (upd c.F dx o) x o' b = some u := e
    by_cases z : b = x
    · subst z
      exact .inr hx
    · rw [upd_ne z] at e'
      by_cases z2 : b = dx
      · subst z2
        exact .inr hd
      · rw [upd_ne z2] at e'
        exact .inl ⟨_, e'⟩
theorem srb_new {s : BS} {c : Cf} {H : Hp} {l dx : Addr} {o : HO} (ok : CfOk c H) (h : (SRB T ts).rel s c) (hl : s.2.length < 998) (hx : H l = none) (hd : H dx = none) (hne : dx ≠ l) (ho : ∀ ps, o ≠ .tbl ps) (ho2 : ∀ q, o ≠ LamX.CodeO dx q) :
    (SRB T ts).rel (s.1, s.2 ++ [⟨nm, []⟩]) ⟨c.G, fun i => if i = s.2.length + 1 then some l else c.m i, upd (upd c.F dx o) l (.ins (T.cl nm) dx [])⟩ := by
  obtain ⟨h1, h2, h3, h4, h5⟩ := h
  have fx : c.F l = none := free_of ok.fh hx
  have fd : c.F dx = none := free_of ok.fh hd
  have up : ∀ {b : Addr} {u : HO}, c.F b = some u → upd (upd c.F dx o) l (.ins (T.cl nm) dx []) b = some u := fun {b u} e => by
    rw [upd_ne (ne_of_none e fx), upd_ne (ne_of_none e fd)]
    exact e
  have gx : Gx c ⟨c.G, fun i => if i = s.2.length + 1 then some l else c.m i, upd (upd c.F dx o) l (.ins (T.cl nm) dx [])⟩ := (stp_new ok hx hd hne (h5 _ (Nat.le_refl _) (by omega))).gx
  have mo : ∀ j, j < s.2.length → (if j + 1 = s.2.length + 1 then some l else c.m (j + 1)) = c.m (j + 1) := fun j hj => if_neg (by omega)
  refine ⟨?_, fun k b e => ?_, fun i j a hi hj e1 e2 => ?_, ?_, fun j hj hj2 => ?_⟩
  · show srlR ts s.1 (fun i => if i = s.2.length + 1 then some l else c.m i) (upd (upd c.F dx o) l _)
    have m0 : (if 0 = s.2.length + 1 then some l else c.m 0) = c.m 0 := if_neg (by omega)
    have tb : TabC ts c.F → TabC ts (upd (upd c.F dx o) l (.ins (T.cl nm) dx [])) := fun t => tabC_upd (tabC_upd t (fun ps z => by rw [fd] at z; cases z) fun q z => by rw [fd] at z; cases z) (fun ps z => by rw [upd_ne (Ne.symm hne), fx] at z; cases z) fun q z => by rw [upd_ne (Ne.symm hne), fx] at z; cases z
    cases hs : s.1 with
    | none =>
      rw [hs] at h1
      exact ⟨m0.trans h1.1, tb h1.2⟩
    | some st =>
      rw [hs] at h1
      obtain ⟨a, p, q, e0, f1, f2, f3, hpq, t⟩ := h1
      exact ⟨a, p, q, m0.trans e0, up f1, up f2, up f3, hpq, tb t⟩
  · by_cases hk : k < s.2.length
    · rw [List.getElem?_append_left hk] at e
      obtain ⟨a, dx', vs, e1, e2, e3, e4, e5⟩ := h2 k b e
      exact ⟨a, dx', vs, (mo k hk).trans e1, up e2, e3.mono gx, e4, e5⟩
    · rw [List.getElem?_append_right (by omega)] at e
      have hk2 : k - s.2.length = 0 := by
        have := (List.getElem?_eq_some_iff.mp e).1
        simp at this
        omega
      rw [hk2] at e
      cases e
      have : k = s.2.length := by omega
      subst this
      exact ⟨l, dx, [], if_pos rfl, upd_same, .nil, rfl, rfl⟩
  · have hi' : i < s.2.length + 1 := by simpa using hi
    have hj' : j < s.2.length + 1 := by simpa using hj
    have old : ∀ k, k < s.2.length → c.m (k + 1) ≠ some l := fun k hk z => by
      obtain ⟨b, eb⟩ : ∃ b, s.2[k]? = some b := ⟨_, List.getElem?_eq_getElem hk⟩
      obtain ⟨a', dx', vs, g1, g2, _⟩ := h2 k b eb
      rw [z] at g1
      cases g1
      rw [fx] at g2
      cases g2
    have e1' : (if i + 1 = s.2.length + 1 then some l else c.m (i + 1)) = some a := e1
    have e2' : (if j + 1 = s.2.length + 1 then some l else c.m (j + 1)) = some a := e2
    by_cases p1 : i = s.2.length <;> by_cases p2 : j = s.2.length
    · omega
    · rw [if_pos (by omega)] at e1'
      cases e1'
      rw [if_neg (by omega)] at e2'
      exact absurd e2' (old j (by omega))
    · rw [if_pos (by omega)] at e2'
      cases e2'
      rw [if_neg (by omega)] at e1'
      exact absurd e1' (old i (by omega))
    · rw [if_neg (by omega)] at e1' e2'
      exact h3 i j a (by omega) (by omega) e1' e2'
  · show (s.2 ++ [(⟨nm, []⟩ : Bd)]).length < 999
    simp
    omega
  · have hj' : s.2.length + 1 ≤ j := by simpa using hj
    show (if j + 1 = s.2.length + 1 then some l else c.m (j + 1)) = none
    rw [if_neg (by omega)]
    exact h5 j (by omega) hj2
/-- nm(..): a new handle, then __init__ on it -/
def eMakeH (nm : Str) (sem : List D → BS → R BS RV) (fs : KB.Env → BS → R BS (List D)) : KB.Env → BS → R BS D := fun env s => (fs env s).bind fun ds s1 => if s1.2.length < 998 then ((sem (.hnd (s1.2.length + 1) :: ds) (s1.1, s1.2 ++ [⟨nm, []⟩])).bind fun r s2 => match r with
  | .d .non => .ok (.hnd (s1.2.length + 1)) s2
  | _ => .bad) else .bad
theorem de_makeH {e : Expr} {es : List Expr} {fs : KB.Env → BS → R BS (List D)} {p : Pos} {k n : Nat} {sem : List D → BS → R BS RV} (F : Idf X.prog X.w X.K X.mg X.base k nm (T.cl nm) (spD T (SRB T ts) (n + 1) sem)) (hr : Room (k + 1) X.A) (tk : Takes X W) (ha : DA T (SRB T ts) W X (e :: es) fs) (hn : nArg n fs) (hg : Gl X nm := by rfl) (hdb : (nm == ("__debug__" : Str)) = false := by decide)
    (he : starEach (e :: es) X.env = (false, eval e X.env) :: starEach es X.env := by rfl) (hpl : (backTo pos (starEach es X.env)).any (·.1) = false := by rfl) : DE T (SRB T ts) W X (.Call (.Name nm p) (e :: es) [] pos) (eMakeH nm sem fs) := by
  refine PE.imp (pe_makeG F hr hg tk ha hdb he hpl) fun σ H Q ⟨c, env, s, x, po⟩ => ?_
  refine Po.runN hn x po fun ds s1 vs c1 H1 hl st1 x1 r1 p1 => ?_
  refine fun l dx hx hdx hne => ?_
  split at p1
  · rename_i hlen
    have hm := x1.sr.2.2.2.2 _ (Nat.le_refl _) (by omega)
    have sy := stp_new (o := .own l) (o' := .ins (T.cl nm) dx []) x1.ok hx hdx hne hm
    have sr := srb_new (nm := nm) (o := .own l) x1.ok x1.sr hlen hx hdx hne (fun ps z => nomatch z) (fun q z => nomatch z)
    refine ⟨_, .hnd (s1.2.length + 1) :: ds, (s1.1, s1.2 ++ [⟨nm, []⟩]), sy.ok, sr, .cons (.hnd (if_pos rfl)) (r1.mono sy.gx), by rw [List.length_cons, hl], ?_⟩
    cases q : sem (.hnd (s1.2.length + 1) :: ds) (s1.1, s1.2 ++ [⟨nm, []⟩]) with
    | ok r s2 =>
      rw [q] at p1
      cases r with
      | d d =>
        cases d <;> try (exact p1.elim)
        exact fun v c' H' y sr' r => by
          cases r
          exact ⟨rfl, p1 c' H' (sy.trans y) sr' _ (.hnd (y.gx.m _ _ (if_pos rfl)))⟩
      | L xs => exact p1.elim
    | exc e s' =>
      rw [q] at p1
      exact fun cls dd c' H' y sr' r => p1 cls dd c' H' (sy.trans y) sr' r
    | bad =>
      rw [q] at p1
      exact p1
  · exact p1.elim
/-- o.m(..), o a handle -/
def eMthH (nm m : Str) (sem : List D → BS → R BS RV) (g : KB.Env → BS → R BS D) (fs : KB.Env → BS → R BS (List D)) : KB.Env → BS → R BS D := fun env s => (g env s).bind fun x s1 => match x with
  | .hnd (k + 1) => match s1.2[k]? with
    | some b => if b.cls = nm ∧ b.fs.lookup m = none then (fs env s1).bind fun ds s2 => (sem (.hnd (k + 1) :: ds) s2).bind fun r s3 => .ok r.toD s3 else .bad
    | none => .bad
  | _ => .bad
theorem de_mthH {pl : Sem Bool} {e : Expr} {es : List Expr} {fs : KB.Env → BS → R BS (List D)} {apos : Pos} {m : Str} {k n : Nat} {G : Bool} {sem : List D → BS → R BS RV} (nm : Str) (hc : Cls X.K (T.cl nm)) (F : Mdf G X.prog X.w X.K X.mg X.base k (T.cl nm) m (spD T (SRB T ts) (n + 1) sem)) (hr : Room k X.A) (hG : G = true → X.A.guards = some []) (tk : Takes X W) (ho : DE T (SRB T ts) W X o g) (ha : DA T (SRB T ts) W X (e :: es) fs) (hn : nArg n fs)
    (hst : starEach (e :: es) X.env = (false, eval e X.env) :: starEach es X.env := by rfl) (hpl : (backTo pos (starEach es X.env)).any (·.1) = false := by rfl)
    (ht : eval (.Call (.Attribute o m apos) (e :: es) [] pos) X.env = (do
      let ov ← eval o X.env
      standAt apos.atName
      let (f, first) ← holding [ov] (getMethod ov m pl)
      callWith pos f first (backTo pos (starEach (e :: es) X.env)) (backToKw pos (keywordEach [] X.env))) := by rfl) :
    DE T (SRB T ts) W X (.Call (.Attribute o m apos) (e :: es) [] pos) (eMthH nm m sem g fs) := by
  refine PE.imp (pe_methG (pl := pl) ho hc F hr hG tk ha hst hpl ht) fun σ H Q ⟨c, env, s, x, po⟩ => ?_
  refine Po.run x po fun d s1 v c1 H1 st1 x1 r1 p1 => ?_
  cases r1 with
  | @hnd n' a hm =>
    cases n' with
    | zero => exact p1.elim
    | succ j =>
      have p2 : Po T (SRB T ts) W (wE T Q) c1 H1 σ (match s1.2[j]? with
        | some b => if b.cls = nm ∧ b.fs.lookup m = none then (fs env s1).bind fun ds s2 => (sem (.hnd (j + 1) :: ds) s2).bind fun r s3 => .ok r.toD s3 else .bad
        | none => .bad) := p1
      split at p2
      · rename_i b eb
        split at p2
        · rename_i hh
          obtain ⟨rfl, hno⟩ := hh
          obtain ⟨a', dx, vs, e1, e2, e3, e4, e5⟩ := x1.sr.2.1 j b eb
          rw [hm] at e1
          cases e1
          refine ⟨a, dx, vs, rfl, x1.ok.fh _ _ e2, e3.no hno, ?_⟩
          refine Po.runN hn x1 p2 fun ds s2 us c2 H2 hl st2 x2 r2 p3 => ?_
          exact ⟨c2, .hnd (j + 1) :: ds, s2, x2.ok, x2.sr, .cons ((Rep.hnd hm).mono st2.gx) r2, by rw [List.length_cons, hl], poF_D p3⟩
        · exact p2.elim
      · exact p2.elim
  | _ => exact p1.elim
/-- o.m, o a handle, m a property -/
def ePrpH (nm : Str) (sem : List D → BS → R BS RV) (g : KB.Env → BS → R BS D) : KB.Env → BS → R BS D := fun env s => (g env s).bind fun x s1 => match x with
  | .hnd (k + 1) => match s1.2[k]? with
    | some b => if b.cls = nm then (sem [.hnd (k + 1)] s1).noX.bind fun r s2 => .ok r.toD s2 else .bad
    | none => .bad
  | _ => .bad
theorem de_prpH {m : Str} {k : Nat} {sem : List D → BS → R BS RV} (nm : Str) (hc : Cls X.K (T.cl nm)) (F : Pdf X.prog X.w X.K X.mg X.base k (T.cl nm) m (spD T (SRB T ts) 1 sem)) (hr : Room (k + 1) X.A) (ha : DE T (SRB T ts) W X a g) (hb : attributeBase a m X.env (eval a X.env) = eval a X.env := by rfl) : DE T (SRB T ts) W X (.Attribute a m pos) (ePrpH nm sem g) := by
  obtain ⟨p, q, fd, ps, F, hp, hbd⟩ := F.ex
  have rule : PE X (.Attribute a m pos) (tProp (T.cl nm) (spD T (SRB T ts) 1 sem) [] E0f (tD T (SRB T ts) W g)) := by
    refine ⟨fun pins s σ H Q I h => ?_⟩
    refine attr_of hb (thn (ha.run pins s σ H _ I h) fun u s1 ⟨x, H1, I1, rx, a, dx, fs, ex, ea, q⟩ => ?_)
    subst ex
    obtain rfl : u = Value.ref a := rx
    exact getprop_ok (ds := []) (dvs := []) I1 ea hc hp F.ok hr hbd .nil (fun pins σ H s e s' I c => passAt (X := X.nox) (W := fun _ _ _ _ => False) takes0 σ pins H s e s' I c) q
  refine PE.imp rule fun σ H Q ⟨c, env, s, x, po⟩ => ?_
  refine Po.run x po fun d s1 v c1 H1 st1 x1 r1 p1 => ?_
  cases r1 with
  | @hnd n' l hm =>
    cases n' with
    | zero => exact p1.elim
    | succ j =>
      have p2 : Po T (SRB T ts) W (wE T Q) c1 H1 σ (match s1.2[j]? with
        | some b => if b.cls = nm then (sem [.hnd (j + 1)] s1).noX.bind fun r s2 => .ok r.toD s2 else .bad
        | none => .bad) := p1
      split at p2
      · rename_i b eb
        split at p2
        · rename_i hh
          subst hh
          obtain ⟨a', dx, vs, e1, e2, e3, e4, e5⟩ := x1.sr.2.1 j b eb
          rw [hm] at e1
          cases e1
          obtain ⟨r', s2, hs, p3⟩ := noX_of p2
          exact ⟨l, dx, vs, rfl, x1.ok.fh _ _ e2, spD_ok x1 (.cons (.hnd hm) .nil) rfl hs p3 fun _ _ _ z => z⟩
        · exact p2.elim
      · exact p2.elim
  | _ => exact p1.elim
/-- o.m(), o a handle -/
theorem de_mth0H {pl : Sem Bool} {apos : Pos} {m : Str} {k : Nat} {G : Bool} {sem : List D → BS → R BS RV} (nm : Str) (hc : Cls X.K (T.cl nm)) (F : Mdf G X.prog X.w X.K X.mg X.base k (T.cl nm) m (spD T (SRB T ts) 1 sem)) (hr : Room k X.A) (hG : G = true → X.A.guards = some []) (tk : Takes X W) (ho : DE T (SRB T ts) W X o g)
    (ht : eval (.Call (.Attribute o m apos) [] [] pos) X.env = (do
      let ov ← eval o X.env
      standAt apos.atName
      let (f, first) ← holding [ov] (getMethod ov m pl)
      callWith pos f first (backTo pos (starEach [] X.env)) (backToKw pos (keywordEach [] X.env))) := by rfl) :
    DE T (SRB T ts) W X (.Call (.Attribute o m apos) [] [] pos) (eMthH nm m sem g aNo) := by
  refine PE.imp (pe_methG0 (pl := pl) ho hc F hr hG tk ht) fun σ H Q ⟨c, env, s, x, po⟩ => ?_
  refine Po.run x po fun d s1 v c1 H1 st1 x1 r1 p1 => ?_
  cases r1 with
  | @hnd n' a hm =>
    cases n' with
    | zero => exact p1.elim
    | succ j =>
      have p2 : Po T (SRB T ts) W (wE T Q) c1 H1 σ (match s1.2[j]? with
        | some b => if b.cls = nm ∧ b.fs.lookup m = none then (sem [.hnd (j + 1)] s1).bind fun r s3 => .ok r.toD s3 else .bad
        | none => .bad) := p1
      split at p2
      · rename_i b eb
        split at p2
        · rename_i hh
          obtain ⟨rfl, hno⟩ := hh
          obtain ⟨a', dx, vs, e1, e2, e3, e4, e5⟩ := x1.sr.2.1 j b eb
          rw [hm] at e1
          cases e1
          refine ⟨a, dx, vs, rfl, x1.ok.fh _ _ e2, e3.no hno, ?_⟩
          exact ⟨c1, [.hnd (j + 1)], s1, x1.ok, x1.sr, .cons (.hnd hm) .nil, rfl, poF_D p2⟩
        · exact p2.elim
      · exact p2.elim
  | _ => exact p1.elim
end
end KB
set_option Elab.async false
set_option linter.all false
set_option maxRecDepth 100000
set_option maxHeartbeats 4000000
/-! K106: the script's state beside mutable objects (printed by mk106.py from K15) -/
namespace KB
open PySem PySem.Spec PyProof.Rows L2
theorem srb_F {T : Ctx} {ts : Addr → Option Str} {st st' : LS} {bs : List Bd} {c : Cf} {F' : Hp} (h : (SRB T ts).rel (some st, bs) c) (h' : srlR ts (some st') c.m F') (k : ∀ b C dx vs, c.F b = some (.ins C dx vs) → F' b = some (.ins C dx vs)) : (SRB T ts).rel (some st', bs) ⟨c.G, c.m, F'⟩ := by
  obtain ⟨h1, h2, h3, h4, h5⟩ := h
  have gx : Gx c ⟨c.G, c.m, F'⟩ := ⟨Same.refl _, fun _ _ z => z⟩
  refine ⟨h', fun j b e => ?_, h3, h4, h5⟩
  obtain ⟨a, dx, vs, e1, e2, e3, e4, e5⟩ := h2 j b e
  exact ⟨a, dx, vs, e1, k _ _ _ _ e2, e3.mono gx, e4, e5⟩
section
variable {T : Ctx} {ts : Addr → Option Str} {W : WX} {X : Cx} {σ : L2.St} {H : Hp} {c : Cf} {env : Env} {s : BS}
theorem ls_atB {i : Nat} (x : At T (SRB T ts) σ H c env s) (e : env[i]? = some (.d (.hnd 0))) {st : LS} {bs : List Bd} (es : s = (some st, bs)) : ∃ a p q, σ[i]? = some (some (.ref a)) ∧ c.m 0 = some a ∧ c.F a = some (.dK (kvL p q st.pl)) ∧ c.F p = some (.lst (st.cells.map V.int)) ∧ c.F q = some (.lst (st.left.map V.int)) ∧ p ≠ q ∧
    H a = some (.dK (kvL p q st.pl)) ∧ H p = some (.lst (st.cells.map V.int)) ∧ H q = some (.lst (st.left.map V.int)) := by
  subst es
  obtain ⟨a, p, q, h0, h1, h2, h3, h4, _⟩ := (show srlR ts (some st) c.m c.F from x.sr.1)
  obtain ⟨v, ev, r⟩ := x.en.sl i _ e
  cases r with
  | hnd h =>
    rw [h0] at h
    cases h
    exact ⟨a, p, q, ev, h0, h1, h2, h3, h4, x.ok.fh _ _ h1, x.ok.fh _ _ h2, x.ok.fh _ _ h3⟩
/-- what is read off the state -/
def eLsB (i : Nat) (k : LS → Option D) : Env → BS → R BS D := fun env s => match env[i]?, s with
  | some (.d (.hnd 0)), (some st, bs) => R.of (k st) s
  | _, _ => .bad
def tLsB (i : Nat) (k : LS → Bool) : Env → BS → R BS Bool := fun env s => match env[i]?, s with
  | some (.d (.hnd 0)), (some st, bs) => .ok (k st) s
  | _, _ => .bad
theorem eLs_okB {i : Nat} {k : LS → Option D} {Q : VK} (po : Po T (SRB T ts) W (wE T Q) c H σ (eLsB i k env s)) : ∃ st bs d, env[i]? = some (.d (.hnd 0)) ∧ s = (some st, bs) ∧ k st = some d ∧ Po T (SRB T ts) W (wE T Q) c H σ (.ok d s) := by
  unfold eLsB at po
  split at po
  · rename_i st bs e
    cases q : k st with
    | none =>
      rw [q] at po
      exact po.elim
    | some d =>
      rw [q] at po
      exact ⟨st, bs, d, e, rfl, q, po⟩
  · exact po.elim
theorem tLs_okB {i : Nat} {k : LS → Bool} {Q : Bool → Hp → Prop} (po : Po T (SRB T ts) W (wT Q) c H σ (tLsB i k env s)) : ∃ st bs, env[i]? = some (.d (.hnd 0)) ∧ s = (some st, bs) ∧ Po T (SRB T ts) W (wT Q) c H σ (.ok (k st) s) := by
  unfold tLsB at po
  split at po
  · rename_i st bs e
    exact ⟨st, bs, e, rfl, po⟩
  · exact po.elim
variable {pos : Pos} {i : Nat} {x : Str} {p0 p1 p2 p3 p4 p5 p6 : Pos} {j j2 : Nat}
/-- m[key] != [] -/
theorem dt_lsNeB {key : Str} {kf : LS → List Int} (hu : X.A.units + 64 < cLine) (hk : (key = "cells" ∧ kf = LS.cells) ∨ (key = "left" ∧ kf = LS.left)) (hN : X.N[i]? = some x) (hv : Vis X.env.scope x) (hd : (x == ("__debug__" : Str)) = false := by decide) (hcd : (x == ("__classdict__" : Str)) = false := by decide) :
    DT T (SRB T ts) W X (.Compare (.Subscript (.Name x p0) (.Constant (.str key) j p1) p2) [.NotEq] [.List [] p3] p4) (tLsB i fun st => !(kf st).isEmpty) := by
  refine PT.imp (pt_cmpR (op_neD hu) (pe_dget (by omega) (pe_var hN hv hd hcd) pe_str (fun _ _ => rfl)) (pe_lst pa_nil) (nomark _)) fun σ H Q ⟨c, env, s, x, po⟩ => ?_
  obtain ⟨st, bs, e, rfl, po⟩ := tLs_okB po
  obtain ⟨a, p, q, ev, h0, f1, f2, f3, hpq, h1, h2, h3⟩ := ls_atB x e rfl
  refine ⟨_, ev, ?_⟩
  obtain ⟨z, hz, hzk⟩ : ∃ z, valV (kvL p q st.pl) (.inr key) = some (.ref z) ∧ H z = some (.lst ((kf st).map V.int)) := by
    rcases hk with ⟨rfl, rfl⟩ | ⟨rfl, rfl⟩
    · exact ⟨p, kvL_c, h2⟩
    · exact ⟨q, kvL_l, h3⟩
  refine ⟨a, _, rfl, hz ▸ DGet.k h1, Nat.zero_le _, fun n hn => ?_⟩
  refine ⟨.list ((kf st).map PyData.int), .list [], .lst (SqL.of (xs := (kf st).map V.int) ?_) dp_ints, .lst (SqL.of upd_same) .nil, shp_ints _, by rfl, _, rfl, ?_⟩
  · rw [upd_ne (ne_of_none hzk hn)]
    exact hzk
  · rw [eqv_emp]
    exact po c _ (Stp.new x.ok hn) x.sr
/-- m['left'][0] -/
theorem de_lsHdB (hu : X.A.units + 64 < cLine) (hN : X.N[i]? = some x) (hv : Vis X.env.scope x) (hd : (x == ("__debug__" : Str)) = false := by decide) (hcd : (x == ("__classdict__" : Str)) = false := by decide) :
    DE T (SRB T ts) W X (.Subscript (.Subscript (.Name x p0) (.Constant (.str "left") j p1) p2) (.Constant (.int 0) j2 p3) p4) (eLsB i fun st => st.left.head?.map D.int) := by
  refine PE.imp (pe_ix ix_list (pe_dget (by omega) (pe_var hN hv hd hcd) pe_str (fun _ _ => rfl)) pe_int (fun _ _ => rfl)) fun σ H Q ⟨c, env, s, x, po⟩ => ?_
  obtain ⟨st, bs, d, e, rfl, hk, po⟩ := eLs_okB po
  obtain ⟨a, p, q, ev, h0, f1, f2, f3, hpq, h1, h2, h3⟩ := ls_atB x e rfl
  obtain ⟨n, r, hl⟩ : ∃ n r, st.left = n :: r := by
    cases q : st.left with
    | nil =>
      rw [q] at hk
      cases hk
    | cons n r => exact ⟨n, r, rfl⟩
  rw [hl] at hk h3
  cases hk
  exact ⟨_, ev, a, _, rfl, dg_l h1, q, _, 0, .int n, rfl, rfl, SqL.of h3, at_of (j := 0) rfl rfl, po.done x.ok x.sr _ (.int n)⟩
/-- m['at'] -/
theorem de_lsAtB (hu : X.A.units + 64 < cLine) (hN : X.N[i]? = some x) (hv : Vis X.env.scope x) (hd : (x == ("__debug__" : Str)) = false := by decide) (hcd : (x == ("__classdict__" : Str)) = false := by decide) :
    DE T (SRB T ts) W X (.Subscript (.Name x p0) (.Constant (.str "at") j p1) p2) (eLsB i fun st => some (.int st.pl)) := by
  refine PE.imp (pe_dget (by omega) (pe_var hN hv hd hcd) pe_str (fun _ _ => rfl)) fun σ H Q ⟨c, env, s, x, po⟩ => ?_
  obtain ⟨st, bs, d, e, rfl, hk, po⟩ := eLs_okB po
  obtain ⟨a, p, q, ev, h0, f1, f2, f3, hpq, h1, h2, h3⟩ := ls_atB x e rfl
  cases hk
  exact ⟨_, ev, a, _, rfl, dg_a h1, po.done x.ok x.sr _ (.int _)⟩
/-- m['cells'][int(k) % len(m['cells'])] -/
def eLsIxB (i ik : Nat) : Env → BS → R BS D := fun env s => match env[i]?, env[ik]?, s with
  | some (.d (.hnd 0)), some (.d (.int k)), (some st, bs) => match st.cells[(k % (st.cells.length : Int)).toNat]? with
    | some n => .ok (.int n) s
    | none => .bad
  | _, _, _ => .bad
theorem de_lsIxB {ik : Nat} {y : Str} {q1 q2 q3 q4 q5 : Pos} (hu : X.A.units + 64 < cLine) (hg : Gl X "len") (hm : X.mg "len" = none) (hgi : Gl X "int") (hmi : X.mg "int" = none) (hN : X.N[i]? = some x) (hv : Vis X.env.scope x) (hNk : X.N[ik]? = some y) (hvk : Vis X.env.scope y)
    (hd : (x == ("__debug__" : Str)) = false := by decide) (hcd : (x == ("__classdict__" : Str)) = false := by decide) (hdk : (y == ("__debug__" : Str)) = false := by decide) (hcdk : (y == ("__classdict__" : Str)) = false := by decide)
    (he : starEach [.Subscript (.Name x p5) (.Constant (.str "cells") j2 p6) q1] X.env = (false, eval (.Subscript (.Name x p5) (.Constant (.str "cells") j2 p6) q1) X.env) :: starEach [] X.env := by rfl) (he2 : starEach [.Name y q2] X.env = (false, eval (.Name y q2) X.env) :: starEach [] X.env := by rfl) :
    DE T (SRB T ts) W X (.Subscript (.Subscript (.Name x p0) (.Constant (.str "cells") j p1) p2) (.BinOp (.Call (.Name "int" p3) [.Name y q2] [] p4) .Mod (.Call (.Name "len" q3) [.Subscript (.Name x p5) (.Constant (.str "cells") j2 p6) q1] [] q4) q5) pos) (eLsIxB i ik) := by
  have hl := pe_callB (pos := q4) (p := q3) call_len hg hm bt_len (pa_cons (pe_dget (pos := q1) (by omega) (pe_var (pos := p5) hN hv hd hcd) (pe_str (x := "cells") (j := j2) (pos := p6)) (fun _ _ => rfl)) pa_nil he) (by decide) (by decide) he
  have hi := pe_callTy (pos := p4) (p := p3) call_int1 hgi hmi bt_int (pa_cons (pe_var (pos := q2) hNk hvk hdk hcdk) pa_nil he2) (by decide) (by decide) he2
  refine PE.imp (pe_ix ix_list (pe_dget (by omega) (pe_var hN hv hd hcd) pe_str (fun _ _ => rfl)) (pe_op op_mod hi hl) (fun _ _ => rfl)) fun σ H Q ⟨c, env, s, x, po⟩ => ?_
  unfold eLsIxB at po
  split at po
  · rename_i k st bs e ek
    split at po
    · rename_i n en
      obtain ⟨a, p, q, ev, h0, f1, f2, f3, hpq, h1, h2, h3⟩ := ls_atB x e rfl
      obtain ⟨v, ek', rk⟩ := x.en.sl ik _ ek
      cases rk with
      | int =>
        have hpos : (0 : Int) < (st.cells.map V.int).length := by
          rw [List.length_map]
          cases q : st.cells with
          | nil =>
            rw [q] at en
            simp at en
          | cons a b =>
            simp
        have hnn : 0 ≤ k % ((st.cells.map V.int).length : Int) := Int.emod_nonneg _ (by omega)
        refine ⟨_, ev, a, _, rfl, dg_c h1, _, ek', .inl ⟨k, rfl, _, ev, a, _, rfl, dg_c h1, _, _, rfl, .inl ⟨_, SqL.of h2, rfl⟩, k, _, rfl, rfl, hpos, ?_⟩⟩
        refine ⟨p, _, _, .int n, rfl, rfl, SqL.of h2, ?_, po.done x.ok x.sr _ (.int n)⟩
        have ej : k % ((st.cells.map V.int).length : Int) = ((k % (st.cells.length : Int)).toNat : Int) := by
          rw [List.length_map] at hnn ⊢
          exact (Int.toNat_of_nonneg hnn).symm
        refine at_of ej ?_
        rw [List.getElem?_map, en]
        rfl
    · exact po.elim
  · exact po.elim
end
section
variable {T : Ctx} {ts : Addr → Option Str} {W : WX} {X : Cx} {pos : Pos} {i : Nat} {x : Str} {p0 p1 p2 p3 p4 p5 p6 q0 q1 q2 q3 : Pos} {j j2 j3 : Nat}
/-- m['left'] = m['left'][1:] -/
def sLsCutB (i : Nat) : Env → BS → RS BS := fun env s => match env[i]?, s with
  | some (.d (.hnd 0)), (some st, bs) => .nx env (some ⟨st.cells, st.left.tail, st.pl⟩, bs)
  | _, _ => .bad
theorem ds_lsCutB (hu : X.A.units + 64 < cLine) (hN : X.N[i]? = some x) (hv : Vis X.env.scope x) (hd : (x == ("__debug__" : Str)) = false := by decide) (hcd : (x == ("__classdict__" : Str)) = false := by decide)
    (hs : swapsWith (.Subscript (.Subscript (.Name x p0) (.Constant (.str "left") j p1) p2) (.Slice (some (.Constant (.int 1) j2 p3)) none none p4) p5) (some (.Subscript (.Name x q0) (.Constant (.str "left") j3 q1) p6)) pos.line X.env = pure false := by rfl) :
    DS T (SRB T ts) W X (.Assign [.Subscript (.Name x q0) (.Constant (.str "left") j3 q1) p6] (.Subscript (.Subscript (.Name x p0) (.Constant (.str "left") j p1) p2) (.Slice (some (.Constant (.int 1) j2 p3)) none none p4) p5) pos) (sLsCutB i) := by
  refine PS.imp (ps_dput (by omega) (pe_var hN hv hd hcd) pe_str (pe_slice sl_list (pe_dget (by omega) (pe_var hN hv hd hcd) pe_str (fun _ _ => rfl)) (po_some pe_int) po_none) hs) fun D σ H ⟨c0, H0, c, env, s, x, po⟩ => ?_
  unfold sLsCutB at po
  split at po
  · rename_i st bs e
    obtain ⟨a, p, q, ev, h0, f1, f2, f3, hpq, h1, h2, h3⟩ := ls_atB x.at e rfl
    refine ⟨_, ev, a, _, rfl, dg_l h1, 1, rfl, q, _, rfl, SqL.of h3, fun n hn => ?_⟩
    have na : a ≠ n := ne_of_none h1 hn
    have np : p ≠ n := ne_of_none h2 hn
    have z1 : upd H n (.lst (cutV (st.left.map V.int) (some 1) none)) a = some (.dK (kvL p q st.pl)) := by
      rw [upd_ne na]
      exact h1
    refine ⟨_, ev, a, _, rfl, DPut.k (k := .inr "left") z1 (by rw [sizeLine_eq]; exact Nat.lt_of_le_of_lt (by show 3 ≤ 3; exact Nat.le_refl _) (by decide)), ?_⟩
    rw [kvL_pl, cut1]
    have s1 := newF_step x.st.ok (o := .lst (st.left.tail.map V.int)) hn
    have g1 : (upd c.F n (.lst (st.left.tail.map V.int))) a = some (.dK (kvL p q st.pl)) := by
      rw [upd_ne na]
      exact f1
    have s2 := putF_step s1.ok (o' := .dK (kvL p n st.pl)) g1
    have st2 := s1.trans s2
    have sr2 : srlR ts (some ⟨st.cells, st.left.tail, st.pl⟩) c.m (upd (upd c.F n (.lst (st.left.tail.map V.int))) a (.dK (kvL p n st.pl))) := by
      refine ⟨a, p, n, h0, upd_same, ?_, ?_, np, tabC_upd (tabC_upd (srlR_tab (s := some st) (m := c.m) x.sr.1) (fun ps z => ?_) fun q z => ?_) (fun ps z => ?_) fun q z => ?_⟩
      · rw [upd_ne fun z => ?_, upd_ne np]
        · exact f2
        · rw [z, f1] at f2
          cases f2
      · rw [upd_ne na.symm, upd_same]
      · rw [own_of (o := .dK []) x.st.ok hn] at z
        cases z
      · rw [own_of (o := .dK []) x.st.ok hn] at z
        cases z
      · rw [g1] at z
        cases z
      · rw [g1] at z
        cases z
    exact po σ _ _ st2.gx (x.step st2 (srb_F (c := c) (F' := upd (upd c.F n (.lst (st.left.tail.map V.int))) a (.dK (kvL p n st.pl))) x.sr sr2 fun b C dx vs e => by
      rw [upd_ne (fun z => by rw [z, f1] at e; cases e), upd_ne (fun z => by rw [z, own_of (o := .dK []) x.st.ok hn] at e; cases e)]
      exact e))
  · exact po.elim
/-- m['left'][0] = e -/
def sLsHdB (i : Nat) (f : Env → BS → R BS D) : Env → BS → RS BS := fun env s => (f env s).toS env fun d s1 => match env[i]?, s1, d with
  | some (.d (.hnd 0)), (some st, bs), .int n => if st.left = [] then .bad else .nx env (some ⟨st.cells, n :: st.left.tail, st.pl⟩, bs)
  | _, _, _ => .bad
theorem ds_lsHdB {e : Expr} {f : Env → BS → R BS D} (hu : X.A.units + 64 < cLine) (hN : X.N[i]? = some x) (hv : Vis X.env.scope x) (he : DE T (SRB T ts) W X e f) (hd : (x == ("__debug__" : Str)) = false := by decide) (hcd : (x == ("__classdict__" : Str)) = false := by decide)
    (hasg : ∀ v, assign (.Subscript (.Subscript (.Name x p0) (.Constant (.str "left") j p1) p2) (.Constant (.int 0) j2 p3) p4) X.env v = (do
      let ov ← holding [v] (eval (.Subscript (.Name x p0) (.Constant (.str "left") j p1) p2) X.env)
      let iv ← holding [v, ov] (eval (.Constant (.int 0) j2 p3) X.env)
      standAt p4
      holding [v, ov, iv] (setItem ov iv v)
      release [v, ov, iv] []) := by intro _; rfl)
    (hs : swapsWithSole [.Subscript (.Subscript (.Name x p0) (.Constant (.str "left") j p1) p2) (.Constant (.int 0) j2 p3) p4] e pos.line X.env = pure false := by rfl) (hw : swappedStores [.Subscript (.Subscript (.Name x p0) (.Constant (.str "left") j p1) p2) (.Constant (.int 0) j2 p3) p4] e X.env = pure none := by rfl)
    (h1 : (assignEach [.Subscript (.Subscript (.Name x p0) (.Constant (.str "left") j p1) p2) (.Constant (.int 0) j2 p3) p4] X.env).map (·.2) = [assign (.Subscript (.Subscript (.Name x p0) (.Constant (.str "left") j p1) p2) (.Constant (.int 0) j2 p3) p4) X.env] := by rfl) :
    DS T (SRB T ts) W X (.Assign [.Subscript (.Subscript (.Name x p0) (.Constant (.str "left") j p1) p2) (.Constant (.int 0) j2 p3) p4] e pos) (sLsHdB i f) := by
  refine PS.imp (ps_asg he (pg_sub (pe_dget (by omega) (pe_var hN hv hd hcd) pe_str (fun _ _ => rfl)) pe_int set_list hasg) hs hw h1) fun D σ H ⟨c0, H0, c, env, s, x, po⟩ => ?_
  refine PoS.run x po fun d s1 v c1 H1 y x1 r1 p1 => ?_
  split at p1
  · rename_i st bs n ev
    split at p1
    · exact p1.elim
    · rename_i hne
      cases r1
      obtain ⟨a, p, q, e1, h0, f1, f2, f3, hpq, h1, h2, h3⟩ := ls_atB x1.at ev rfl
      cases hl : st.left with
      | nil => exact absurd hl hne
      | cons k r =>
      refine ⟨_, e1, a, _, rfl, dg_l h1, q, _, 0, 0, rfl, rfl, h3, ?_, ?_⟩
      · rw [hl]
        unfold ixN
        rw [if_pos (Int.le_refl 0), if_pos (by simp)]
        rfl
      · have sx := putF_step x1.st.ok (o' := .lst ((n :: st.left.tail).map V.int)) f3
        have eq : (st.left.map V.int).set 0 (.int n) = (n :: st.left.tail).map V.int := by
          rw [hl]
          rfl
        rw [eq]
        have na : a ≠ q := fun z => by
          rw [z, f3] at f1
          cases f1
        refine p1 σ _ _ sx.gx (x1.step sx (srb_F (st' := ⟨st.cells, n :: st.left.tail, st.pl⟩) x1.sr ⟨a, p, q, h0, ?_, ?_, upd_same, hpq, tabC_upd (srlR_tab (s := some st) (m := c1.m) x1.sr.1) (fun ps z => by rw [f3] at z; cases z) fun q z => by rw [f3] at z; cases z⟩ fun b C dx vs e => by
          rw [upd_ne fun z => by rw [z, f3] at e; cases e]
          exact e))
        · exact (upd_ne na).trans f1
        · exact (upd_ne hpq).trans f2
  · exact p1.elim
/-- m['at'] = e -/
def sLsAtB (i : Nat) (f : Env → BS → R BS D) : Env → BS → RS BS := fun env s => (f env s).toS env fun d s1 => match env[i]?, s1, d with
  | some (.d (.hnd 0)), (some st, bs), .int n => .nx env (some ⟨st.cells, st.left, n⟩, bs)
  | _, _, _ => .bad
theorem ds_lsAtB {e : Expr} {f : Env → BS → R BS D} (hu : X.A.units + 64 < cLine) (hN : X.N[i]? = some x) (hv : Vis X.env.scope x) (he : DE T (SRB T ts) W X e f) (hd : (x == ("__debug__" : Str)) = false := by decide) (hcd : (x == ("__classdict__" : Str)) = false := by decide)
    (hs : swapsWith e (some (.Subscript (.Name x p0) (.Constant (.str "at") j p1) p2)) pos.line X.env = pure false := by rfl) :
    DS T (SRB T ts) W X (.Assign [.Subscript (.Name x p0) (.Constant (.str "at") j p1) p2] e pos) (sLsAtB i f) := by
  refine PS.imp (ps_dput (by omega) (pe_var hN hv hd hcd) pe_str he hs) fun D σ H ⟨c0, H0, c, env, s, x, po⟩ => ?_
  refine PoS.run x po fun d s1 v c1 H1 y x1 r1 p1 => ?_
  split at p1
  · rename_i st bs n ev
    cases r1
    obtain ⟨a, p, q, e1, h0, f1, f2, f3, hpq, h1, h2, h3⟩ := ls_atB x1.at ev rfl
    refine ⟨_, e1, a, _, rfl, DPut.k (k := .inr "at") h1 (by rw [sizeLine_eq]; exact Nat.lt_of_le_of_lt (by show 3 ≤ 3; exact Nat.le_refl _) (by decide)), ?_⟩
    rw [kvL_pa]
    have sx := putF_step x1.st.ok (o' := .dK (kvL p q n)) f1
    refine p1 σ _ _ sx.gx (x1.step sx (srb_F (st' := ⟨st.cells, st.left, n⟩) x1.sr ⟨a, p, q, h0, upd_same, ?_, ?_, hpq, tabC_upd (srlR_tab (s := some st) (m := c1.m) x1.sr.1) (fun ps z => by rw [f1] at z; cases z) fun q z => by rw [f1] at z; cases z⟩ fun b C dx vs e => by
      rw [upd_ne fun z => by rw [z, f1] at e; cases e]
      exact e))
    · refine (upd_ne fun z => ?_).trans f2
      rw [z, f1] at f2
      cases f2
    · refine (upd_ne fun z => ?_).trans f3
      rw [z, f1] at f3
      cases f3
  · exact p1.elim
end
end KB
set_option Elab.async false
set_option linter.all false
set_option maxRecDepth 100000
set_option maxHeartbeats 4000000
/-! K107: begin and draws beside mutable objects (printed by mk107.py from K16, K23) -/
namespace KB
open PySem PySem.Spec PyProof.Rows L2
def sBegunB (i : Nat) (f : Env → BS → R BS (List D)) : Env → BS → RS BS := fun env s => match env[i]?, s with
  | some (.d (.scr ns)), (none, []) => (f env (none, [])).toS env fun xs s1 => match s1, intsD xs with
    | (none, []), some ms => .rt (.d (.hnd 0)) (some ⟨ns, ms, 0⟩, [])
    | _, _ => .bad
  | _, _ => .bad
section
variable {T : Ctx} {ts : Addr → Option Str} {W : WX} {X : Cx} {pos : Pos} {i : Nat} {x : Str} {p0 p1 p2 p3 p4 p5 p6 q0 q1 q2 q3 : Pos} {j j2 j3 j4 : Nat}
theorem ds_begunB {e : Expr} {f : Env → BS → R BS (List D)} (hK : X.K = T.K) (hgl : Gl X "list") (hml : X.mg "list" = none) (hN : X.N[i]? = some x) (hv : Vis X.env.scope x) (he : DF T (SRB T ts) W X e f) (hd : (x == ("__debug__" : Str)) = false := by decide) (hcd : (x == ("__classdict__" : Str)) = false := by decide)
    (hst : starEach [.Name x p2] X.env = (false, eval (.Name x p2) X.env) :: starEach [] X.env := by rfl) :
    DS T (SRB T ts) W X (.Return (some (.Dict [some (.Constant (.str "cells") j p0), some (.Constant (.str "left") j2 p4), some (.Constant (.str "at") j3 p5)] [.Call (.Name "list" p1) [.Name x p2] [] p3, e, .Constant (.int 0) j4 p6] q0)) pos) (sBegunB i f) := by
  have hl := pe_callTy (pos := p3) (p := p1) call_list_of hgl hml bt_list (pa_cons (pe_var (pos := p2) hN hv hd hcd) pa_nil hst) (by decide) (by decide) hst
  refine PS.imp (ps_ret (pe_disp (pps_cons pe_str hl (pps_cons pe_str he (pps_cons pe_str pe_int pps_nil))) rfl rfl (fun z => nomatch z) (by show 3 ≤ 15; decide))) fun D σ H ⟨c0, H0, c, env, s, x, po⟩ => ?_
  unfold sBegunB at po
  split at po
  · rename_i ns ev
    intro p hp
    obtain ⟨v, e1, rv⟩ := x.en.sl i _ ev
    have s1 := Stp.new (o := .dK []) x.st.ok hp
    cases rv with
    | @scr a ns' hs =>
    refine ⟨_, e1, a, _, rfl, .inl (hK ▸ (same_l s1.ok.gh hs)), fun l hl => ?_⟩
    have s2 := s1.trans (Stp.new (o := .lst (ns.map V.int)) s1.ok hl)
    have x2 := x.step s2 x.sr
    have npl : p ≠ l := fun z => by
      rw [← z, upd_same] at hl
      cases hl
    refine ⟨c, env, (none, []), x2.at, ?_⟩
    cases q : f env (none, []) with
    | bad =>
      rw [q] at po
      exact po.elim
    | exc e' s' =>
      rw [q] at po
      exact fun cls dd c' H' y sr rx => po cls dd σ c' H' (s2.trans y).gx (x2.step y sr) rx
    | ok xs s' =>
      rw [q] at po
      obtain ⟨s1', bs'⟩ := s'
      cases s1' with
      | some st => exact po.elim
      | none =>
      cases bs' with
      | cons b bs' => exact po.elim
      | nil =>
      cases qi : intsD xs with
      | none =>
        simp only [R.toS, qi] at po
        exact po.elim
      | some ms =>
      have po' : PoS T (SRB T ts) W c0 H0 c (.rt (.d (.hnd 0)) (some ⟨ns, ms, 0⟩, [])) D := by
        simp only [R.toS, qi] at po
        exact po
      intro c' H' y sr a vs h1 h2 h3 h4 r
      have ev2 := intsD_rep r qi
      subst ev2
      have hlp : upd (upd H p (.dK [])) l (.lst (ns.map V.int)) p = some (.dK []) := by rw [upd_ne npl, upd_same]
      have fp := own_of (o := .dK []) x.st.ok hp
      have hp' : H' p = some (.dK []) := y.keep _ _ hlp fp
      have fl : c.F l = none := free_of s1.ok.fh hl
      have hl' : H' l = some (.lst (ns.map V.int)) := y.keep _ _ upd_same fl
      have nal : a ≠ l := fun z => by
        rw [z, upd_same] at h4
        cases h4
      have nap : a ≠ p := fun z => by
        rw [z, hlp] at h4
        cases h4
      refine ⟨hp', kvL l a 0, rfl, by show 3 ≤ 15; decide, ?_⟩
      rw [merge_kvL]
      have sall := s2.trans y
      have gl : c'.G l = none := by
        cases e : c'.G l with
        | none => rfl
        | some u =>
          rcases y.gn l u e with z | z | ⟨fs, z⟩
          · have z' := s1.ok.gh l u z
            rw [hl] at z'
            cases z'
          · rw [upd_same] at z
            cases z
          · subst z
            have z2 := y.ok.gh _ _ e
            rw [hl'] at z2
            cases z2
      have gp : c'.G p = none := by
        cases e : c'.G p with
        | none => rfl
        | some u =>
          rcases y.gn p u e with z | z | ⟨fs, z⟩
          · have z' := x.st.ok.gh p u z
            rw [hp] at z'
            cases z'
          · rw [hlp] at z
            cases z
          · subst z
            have z2 := y.ok.gh _ _ e
            rw [hp'] at z2
            cases z2
      have hl0 : H l = none := by
        rw [upd_ne npl.symm] at hl
        exact hl
      have ha0 : H a = none := none_back s2 h4
      obtain ⟨cF, hcF⟩ : ∃ cF : Hp, cF = upd (upd (upd c'.F l (.lst (ns.map V.int))) a (.lst (ms.map V.int))) p (.dK (kvL l a 0)) := ⟨_, rfl⟩
      have fP : cF p = some (.dK (kvL l a 0)) := by rw [hcF, upd_same]
      have fA : cF a = some (.lst (ms.map V.int)) := by rw [hcF, upd_ne nap, upd_same]
      have fL : cF l = some (.lst (ns.map V.int)) := by rw [hcF, upd_ne npl.symm, upd_ne nal.symm, upd_same]
      have fO : ∀ b, b ≠ p → b ≠ a → b ≠ l → cF b = c'.F b := fun b n1 n2 n3 => by rw [hcF, upd_ne n1, upd_ne n2, upd_ne n3]
      have srn := (show srlR ts none c'.m c'.F from sr.1)
      have tC : TabC ts cF := by
        rw [hcF]
        refine tabC_upd (tabC_upd (tabC_upd (srlR_tab (s := none) (m := c'.m) sr.1) (fun ps z => ?_) fun q z => ?_) (fun ps z => ?_) fun q z => ?_) (fun ps z => ?_) fun q z => ?_
        · have z2 := y.ok.fh _ _ z
          rw [hl'] at z2
          cases z2
        · have z2 := y.ok.fh _ _ z
          rw [hl'] at z2
          cases z2
        · rw [upd_ne nal] at z
          have z2 := y.ok.fh _ _ z
          rw [h1] at z2
          cases z2
        · rw [upd_ne nal] at z
          have z2 := y.ok.fh _ _ z
          rw [h1] at z2
          cases z2
        · rw [upd_ne nap.symm, upd_ne npl] at z
          have z2 := y.ok.fh _ _ z
          rw [hp'] at z2
          cases z2
        · rw [upd_ne nap.symm, upd_ne npl] at z
          have z2 := y.ok.fh _ _ z
          rw [hp'] at z2
          cases z2
      have st3 : Stp c H ⟨c'.G, fun n => if n = 0 then some p else c'.m n, cF⟩ (upd H' p (.dK (kvL l a 0))) := {
        ok := {
          gh := fun b u e => by
            have e' : c'.G b = some u := e
            rw [upd_ne (ne_of_none e' gp)]
            exact sall.ok.gh b u e'
          fh := fun b u e => by
            have e' : cF b = some u := e
            by_cases n1 : b = p
            · subst n1
              rw [fP] at e'
              rw [upd_same]
              exact e'
            · rw [upd_ne n1]
              by_cases n2 : b = a
              · subst n2
                rw [fA] at e'
                rw [h1]
                exact e'
              · by_cases n3 : b = l
                · subst n3
                  rw [fL] at e'
                  rw [hl']
                  exact e'
                · rw [fO b n1 n2 n3] at e'
                  exact sall.ok.fh b u e'
          dj := fun b u e => by
            have e' : c'.G b = some u := e
            show cF b = none
            rw [fO b (ne_of_none e' gp) (ne_of_none e' h2) (ne_of_none e' gl)]
            exact sall.ok.dj b u e' }
        gx := ⟨sall.gx.g, fun n b e => by
          have e2 := sall.gx.m n b e
          by_cases hn : n = 0
          · subst hn
            rw [srn.1] at e2
            cases e2
          · show (if n = 0 then some p else c'.m n) = some b
            rw [if_neg hn]
            exact e2⟩
        keep := fun b u e f => by
          rw [upd_ne (ne_of_none e hp)]
          exact sall.keep b u e f
        dom := fun b u e => by
          obtain ⟨u', e'⟩ := sall.dom b u e
          exact ⟨u', by
            rw [upd_ne (ne_of_none e hp)]
            exact e'⟩
        gn := sall.gn
        fn := fun b u e => by
          have e' : cF b = some u := e
          by_cases n1 : b = p
          · subst n1
            exact .inr hp
          · by_cases n2 : b = a
            · subst n2
              exact .inr ha0
            · by_cases n3 : b = l
              · subst n3
                exact .inr hl0
              · rw [fO b n1 n2 n3] at e'
                exact sall.fn b u e' }
      refine po' (.ref p) _ _ (x.st.trans st3) ⟨⟨p, l, a, by rfl, fP, fL, fA, nal.symm, tC⟩, fun k b e => (nomatch e), fun i j a hi => absurd hi (Nat.not_lt_zero _), (by decide : (0 : Nat) < 999), fun j hj hj2 => ?_⟩ (.hnd (by rfl))
      show (if j + 1 = 0 then some p else c'.m (j + 1)) = none
      rw [if_neg (by omega)]
      exact sr.2.2.2.2 j hj hj2
  · exact po.elim
end
def gBegunB : KB.Env → BS → RS BS := sBegunB 0 (fComp (iSq (eVar 0)) (pName 1) (tBl (eOp2 geD (eVar 1) (eOp2 powD (eC (.int 10)) (eC (.int 18))))) (eVar 1) [1])
theorem begun_okB (ns : List Int) (h : ns.length ≤ 63) : ∃ st, semOf 2 gBegunB [.scr ns] (none, []) = .ok (.d (.hnd 0)) (some st, []) ∧ LsOk st 0 := by
  refine ⟨⟨ns, ns.filter fun n => decide ((10 : Int) ^ 18 ≤ n), 0⟩, ?_, Nat.le_trans (List.length_filter_le _ _) h, Int.le_refl _, Int.le_refl _⟩
  have e : fComp (iSq (eVar 0)) (pName 1) (tBl (eOp2 geD (eVar 1) (eOp2 powD (eC (.int 10)) (eC (.int 18))))) (eVar 1) [1] (envOf 2 [.scr ns]) ((none, []) : BS) =
      .ok (((ns.map D.int).filter fun d => match d with
        | .int n => decide ((10 : Int) ^ 18 ≤ n)
        | _ => false).map fun d => d) (none, []) := by
    refine fComp_pure _ (fun d => d) rfl (by rw [List.length_map]; omega) fun x hx => ?_
    obtain ⟨n, _, rfl⟩ := List.mem_map.mp hx
    refine ⟨_, rfl, ?_, fun _ => rfl⟩
    rfl
  have e2 : ((ns.map D.int).filter fun d => match d with
        | .int n => decide ((10 : Int) ^ 18 ≤ n)
        | _ => false) = (ns.filter fun n => decide ((10 : Int) ^ 18 ≤ n)).map D.int := by
    rw [List.filter_map]
    rfl
  have e3 : ∀ ms : List Int, intsD (ms.map D.int) = some ms := by
    intro ms
    induction ms with
    | nil => rfl
    | cons m ms ih =>
      show (intsD (ms.map D.int)).map (m :: ·) = _
      rw [ih]
      rfl
  unfold semOf gBegunB sBegunB
  have e0 : (envOf 2 [.scr ns])[0]? = some (.d (.scr ns)) := rfl
  rw [e0]
  simp only [e, R.toS, List.map_id', e2, e3]
  rfl
def gSkipB : KB.Env → BS → RS BS := sWhl 64 (bAnd (tLsB 0 fun st => !(LS.left st).isEmpty) (tBl (eOp2 eqD (eLsB 0 fun st => st.left.head?.map D.int) (eC (.int 0))))) (sLsCutB 0)
def gOldB : KB.Env → BS → RS BS := sIf (tLsB 0 fun st => !(LS.left st).isEmpty) (sSeq (sSet 2 (eCl intD (aCons (eLsB 0 fun st => st.left.head?.map D.int) aNil))) (sSeq (sLsHdB 0 (eOp2 fdivD (eVar 2) (eVar 1))) (sRet (eOp2 modD (eVar 2) (eVar 1))))) sNil
def gNewB (c : Dr) : KB.Env → BS → RS BS :=
  sSeq (sSet 3 (eOp2 addD (eLsB 0 fun st => some (.int st.pl)) (eC (.int 1))))
    (sSeq (sLsAtB 0 (eVar 3))
    (sSeq (sSet 4 (eIf (tLsB 0 fun st => !(LS.cells st).isEmpty) (eLsIxB 0 3) (eC (.int c.c0))))
    (sSeq (sSet 5 (eOp2 mulD (eCl intD (aCons (eOp2 addD (eOp2 addD (eOp2 modD (eCl intD (aCons (eVar 4) aNil)) (eC (.int c.m1))) (eOp2 mulD (eC (.int c.a1)) (eVar 3))) (eOp2 mulD (eOp2 mulD (eC (.int c.a2)) (eVar 3)) (eVar 3))) aNil)) (eC (.int c.f1))))
    (sSeq (sSet 5 (eOp2 mulD (eCl intD (aCons (eOp2 addD (eOp2 modD (eCl intD (aCons (eVar 5) aNil)) (eC (.int c.m2))) (eOp2 mulD (eC (.int c.a3)) (eVar 3))) aNil)) (eC (.int c.f2))))
    (sRet (eOp2 modD (eCl intD (aCons (eOp2 fdivD (eOp2 modD (eCl intD (aCons (eVar 5) aNil)) (eC (.int c.m3))) (eC (.int c.d3))) aNil)) (eVar 1)))))))
def gNextB (c : Dr) : KB.Env → BS → RS BS := sSeq gSkipB (sSeq gOldB (gNewB c))
theorem intD1_intB (i : Int) : intD1 (.int i) = some (.int i) := Eq.trans rfl rfl
theorem skip_goB {bs : List Bd} (env : Env) (e0 : env[0]? = some (.d (.hnd 0))) : ∀ (n : Nat) (st : LS), st.left.length < n →
    whlN (bAnd (tLsB 0 fun st => !(LS.left st).isEmpty) (tBl (eOp2 eqD (eLsB 0 fun st => st.left.head?.map D.int) (eC (.int 0))))) (sLsCutB 0) n env (some st, bs) = .nx env (some ⟨st.cells, st.left.dropWhile (· == 0), st.pl⟩, bs)
  | 0, st, h => by omega
  | n + 1, ⟨cells, left, pl⟩, h => by
    unfold whlN
    cases left with
    | nil =>
      simp only [bAnd, tLsB, e0, R.bind, R.toS, List.isEmpty_nil, Bool.not_true, if_false, Bool.false_eq_true]
      rfl
    | cons x r =>
      have ih := skip_goB (bs := bs) env e0 n ⟨cells, r, pl⟩ (by simp at h; exact h)
      have ev : (bAnd (tLsB 0 fun st => !(LS.left st).isEmpty) (tBl (eOp2 eqD (eLsB 0 fun st => st.left.head?.map D.int) (eC (.int 0))))) env (some ⟨cells, x :: r, pl⟩, bs) = .ok (x == 0) (some ⟨cells, x :: r, pl⟩, bs) := by
        simp [bAnd, tLsB, e0, R.bind, tBl, eOp2, eLsB, eC, R.of]
      rw [ev]
      show (if (x == 0) = true then _ else _) = _
      by_cases hx : (x == 0) = true
      · rw [if_pos hx]
        have ec : sLsCutB 0 env (some ⟨cells, x :: r, pl⟩, bs) = .nx env (some ⟨cells, r, pl⟩, bs) := by
          simp [sLsCutB, e0]
        rw [ec]
        refine ih.trans ?_
        simp [List.dropWhile_cons, hx]
      · rw [if_neg hx]
        simp [List.dropWhile_cons, hx]
theorem next_okWB {bs : List Bd} {c : Dr} (hc : c.Ok) {st : LS} {n : Nat} (ok : LsOk st n) {total : Int} (h0 : 0 < total) (h1 : total < 2 ^ 200) (hn : n < 1000000000) :
    ∃ v st', semOf 6 (gNextB c) [.hnd 0, .int total] (some st, bs) = .ok (.d (.int v)) (some st', bs) ∧ 0 ≤ v ∧ v < total ∧ LsOk st' (n + 1) := by
  obtain ⟨cells, left, pl⟩ := st
  obtain ⟨hl, hp, hp2⟩ := ok
  have e1 : gSkipB (envOf 6 [.hnd 0, .int total]) (some ⟨cells, left, pl⟩, bs) = .nx (envOf 6 [.hnd 0, .int total]) (some ⟨cells, left.dropWhile (· == 0), pl⟩, bs) := skip_goB _ rfl 64 _ (by have := hl; simp at this; show left.length < 64; omega)
  have hl2 : (left.dropWhile (· == 0)).length ≤ 63 := Nat.le_trans (drop_le _ _) hl
  unfold semOf gNextB
  cases hd : left.dropWhile (· == 0) with
  | cons x r =>
    rw [hd] at e1 hl2
    refine ⟨x % total, ⟨cells, (x / total) :: r, pl⟩, ?_, Int.emod_nonneg _ (by omega), Int.emod_lt_of_pos _ h0, by simpa using hl2, hp, by show pl ≤ _; have := hp2; simp at this; omega⟩
    have e2 : gOldB (envOf 6 [.hnd 0, .int total]) (some ⟨cells, x :: r, pl⟩, bs) = .rt (.d (.int (x % total))) (some ⟨cells, (x / total) :: r, pl⟩, bs) := by
      simp [gOldB, sIf, tLsB, envOf, R.toS, sSeq, sSet, eCl, aCons, eLsB, aNil, R.bind, R.of, RS.seq, sLsHdB, eOp2, eVar, fdivD_w h0 (log_w h0 h1), modD_ok h0, sRet, intD1_intB]
    rw [sSeq_eq, e1, seq_nx, sSeq_eq, e2]
    rfl
  | nil =>
    rw [hd] at e1
    have e2 : gOldB (envOf 6 [.hnd 0, .int total]) (some ⟨cells, [], pl⟩, bs) = .nx (envOf 6 [.hnd 0, .int total]) (some ⟨cells, [], pl⟩, bs) := by
      simp [gOldB, sIf, tLsB, envOf, R.toS, sNil]
    have hk : smallB (pl + 1) = true := by
      have a : pl ≤ n := hp2
      have b : 0 ≤ pl := hp
      unfold smallB
      rw [Bool.and_eq_true, decide_eq_true_eq, decide_eq_true_eq]
      omega
    obtain ⟨cell, ecell⟩ : ∃ cell : Int, (eIf (tLsB 0 fun st => !(LS.cells st).isEmpty) (eLsIxB 0 3) (eC (.int c.c0))) [.d (.hnd 0), .d (.int total), .no, .d (.int (pl + 1)), .no, .no] (some ⟨cells, [], pl + 1⟩, bs) = .ok (.int cell) (some ⟨cells, [], pl + 1⟩, bs) := by
      cases cells with
      | nil => exact ⟨c.c0, by simp [eIf, tLsB, R.bind, eC]⟩
      | cons y ys =>
        have hpos : (0 : Int) < ((y :: ys).length : Int) := by
          rw [List.length_cons]
          omega
        have hi : ((pl + 1) % ((y :: ys).length : Int)).toNat < (y :: ys).length := by
          have h1 := Int.emod_nonneg (pl + 1) (b := ((y :: ys).length : Int)) (by omega)
          have h2 := Int.emod_lt_of_pos (pl + 1) hpos
          omega
        refine ⟨(y :: ys)[((pl + 1) % ((y :: ys).length : Int)).toNat], ?_⟩
        have q : (y :: ys)[((pl + 1) % ((y :: ys).length : Int)).toNat]? = some (y :: ys)[((pl + 1) % ((y :: ys).length : Int)).toNat] := by simp [hi]
        have ee : (eIf (tLsB 0 fun st => !(LS.cells st).isEmpty) (eLsIxB 0 3) (eC (.int c.c0))) [.d (.hnd 0), .d (.int total), .no, .d (.int (pl + 1)), .no, .no] (some ⟨y :: ys, [], pl + 1⟩, bs) = eLsIxB 0 3 [.d (.hnd 0), .d (.int total), .no, .d (.int (pl + 1)), .no, .no] (some ⟨y :: ys, [], pl + 1⟩, bs) := by simp [eIf, tLsB, R.bind]
        rw [ee]
        unfold eLsIxB
        show (match (y :: ys)[((pl + 1) % ((y :: ys).length : Int)).toNat]? with
          | some n => R.ok (D.int n) ((some ⟨y :: ys, [], pl + 1⟩, bs) : BS)
          | none => .bad) = _
        rw [q]
    obtain ⟨v, hv, e3⟩ : ∃ v : Int, (0 ≤ v ∧ v < total) ∧ gNewB c (envOf 6 [.hnd 0, .int total]) (some ⟨cells, [], pl⟩, bs) = .rt (.d (.int v)) (some ⟨cells, [], pl + 1⟩, bs) := by
      refine ⟨(((((cell % c.m1 + c.a1 * (pl + 1) + c.a2 * (pl + 1) * (pl + 1)) * c.f1) % c.m2 + c.a3 * (pl + 1)) * c.f2) % c.m3 / c.d3) % total, ⟨Int.emod_nonneg _ (by omega), Int.emod_lt_of_pos _ h0⟩, ?_⟩
      unfold gNewB
      simp [-ev_eIf, sSeq, sSet, eOp2, eLsB, envOf, R.bind, R.of, eC, R.toS, RS.seq, sLsAtB, eVar]
      rw [ecell]
      simp [sSeq, sSet, eOp2, eLsB, R.bind, R.of, eC, R.toS, RS.seq, eVar, eCl, aCons, aNil, modD_ok hc.m1, modD_ok hc.m2, modD_ok hc.m3, mulD_l hc.a1, mulD_l hc.a2, mulD_r hk, mulD_r hc.f1, mulD_l hc.a3, mulD_r hc.f2, fdivD_ok hc.d3 hc.d3', modD_ok h0, sRet, intD1_intB]
    refine ⟨v, ⟨cells, [], pl + 1⟩, ?_, hv.1, hv.2, by simp, by show (0 : Int) ≤ pl + 1; have := hp; simp at this; omega, by show pl + 1 ≤ _; have := hp2; simp at this; omega⟩
    rw [sSeq_eq, e1, seq_nx, sSeq_eq, e2, seq_nx, e3]
    rfl
theorem next_okB {bs : List Bd} {c : Dr} (hc : c.Ok) {st : LS} {n : Nat} (ok : LsOk st n) {total : Int} (h0 : 0 < total) (h1 : total < 1073741824) (hn : n < 1000000000) :
    ∃ v st', semOf 6 (gNextB c) [.hnd 0, .int total] (some st, bs) = .ok (.d (.int v)) (some st', bs) ∧ 0 ≤ v ∧ v < total ∧ LsOk st' (n + 1) := next_okWB hc ok h0 (by omega) hn
end KB
set_option Elab.async false
set_option linter.all false
set_option maxRecDepth 100000
set_option maxHeartbeats 4000000
/-! K108: the law's end beside mutable objects (printed by mk108.py from K21, K73) -/
namespace KB
open PySem PySem.Spec PyProof.Rows L2 LamX
/-- the state does not look at the handle 1000 -/
theorem freeH_B {T : Ctx} {ts : Addr → Option Str} : FreeH (SRB T ts) := fun s c o h => by
  obtain ⟨h1, h2, h3, h4, h5⟩ := h
  have m1 : ∀ j, j < 999 → (c.me o).m (j + 1) = c.m (j + 1) := fun j hj => me_ne (by omega)
  refine ⟨freeH_L s.1 c o h1, fun k b e => ?_, fun i j a hi hj e1 e2 => ?_, h4, fun j hj hj2 => ?_⟩
  · obtain ⟨a, dx, vs, e1, e2, e3, e4, e5⟩ := h2 k b e
    exact ⟨a, dx, vs, (m1 k (Nat.lt_trans (List.getElem?_eq_some_iff.mp e).1 h4)).trans e1, e2, RepF.al al_me e3 e5, e4, e5⟩
  · rw [m1 i (by omega)] at e1
    rw [m1 j (by omega)] at e2
    exact h3 i j a hi hj e1 e2
  · rw [m1 j (by omega)]
    exact h5 j hj hj2
/-- the promise of the law: from nothing it comes to True -/
theorem law_spB {T : Ctx} {H : Hp} {a : Addr} {ns : List Int} {sem : List D → BS → R BS RV} (hS : SqL T.K H a (ns.map V.int)) (h : ∃ s', sem [.scr ns] (none, []) = .ok (.d (.bl true)) s') : spD T (SRB T fun _ => none) 1 sem [.ref a] H (fun v _ => v = .bl true) fun _ _ _ => False := by
  obtain ⟨s', e⟩ := h
  refine ⟨⟨H, fun _ => none, fun _ => none⟩, [.scr ns], (none, []), ⟨fun _ _ h => h, (fun _ _ h => nomatch h), fun _ _ _ => rfl⟩, ⟨⟨rfl, tabC_none⟩, fun k b e => (nomatch e), fun i j a hi => absurd hi (Nat.not_lt_zero _), (by decide : (0 : Nat) < 999), fun _ _ _ => rfl⟩, .cons (.scr hS) .nil, rfl, ?_⟩
  rw [e]
  intro v c' H' _ _ r
  cases r
  rfl
theorem walkLB {l : PySem.W.OpenLaw} {n k : Nat} {q : Program} {loose : List Str} {XP : (Str → Option Value) → Heap → Prop} {YP : World → Heap → Prop} {d : DefRec} {K : Params → PySem.W.Frag} {x : Str} (sem : List D → BS → R BS RV) (hn : l.most = some n) (hn2 : n ≤ sizeLine) (hdf : d.params.defaults = []) (hr : Room k callerA)
    (hY : ∀ (w : World) (h : Heap), YP w h → (K w.params).In h)
    (F : ∀ (w : World) (mg : Str → Option Value) (fa : Addr) (h : Heap), (K w.params).In h → h.Ns mainGlobals mg → mg d.name = some (.ref fa) →
      ∃ (fd : FuncData) (cl : Str → Addr), (∀ (s : Shared) (u : Value), BindsTo s fd ⟨[u], []⟩ [(x, u)]) ∧ ∀ base : Heap, (K w.params).In base → base.Ns mainGlobals mg → FnG true l.prog w (K w.params) mg base k fa fd [x] (spD ⟨K w.params, cl⟩ (SRB ⟨K w.params, cl⟩ fun _ => none) 1 sem))
    (hsem : ∀ ns : List Int, ns.length ≤ n → ∃ s', sem [.scr ns] (none, []) = .ok (.d (.bl true)) s') : PySem.W.WalkO q loose XP YP l.row.toRowW d [] (fun f vs => PySem.call f vs) := by
  refine Att.attach_call hn hdf fun w s0 s1 mg mb fa o pm cd doc a vs ns G Y ho hd hcd hmg hobj hints hlen hg => ?_
  obtain ⟨fd, cl, hb, hF⟩ := F w mg fa _ (hY w _ Y) G.T.g hmg
  exact lawG (hY w _ Y) G.T.g G.T.b G.T.builtins G.T.nolimit hg hobj hints (Nat.le_trans hlen hn2) hr hF hb fun H hS => law_spB (T := ⟨K w.params, cl⟩) hS (hsem ns hlen)
end KB
set_option Elab.async false
set_option linter.all false
set_option maxRecDepth 100000
set_option maxHeartbeats 4000000
/-! K109: mutable objects: x(..), e in x, x.f op= e, x.f, x.g, x.h = .., keyword-only parameters -/
namespace KB
open PySem PySem.Spec PyProof.Rows L2
section
variable {X : Cx} {W : WX} {k : Nat} {C : Addr} {sp : Sp}
/-- instances of C may be called -/
structure Cdf (P : Program) (w : World) (K : PySem.W.Frag) (mg : Str → Option Value) (base : Heap) (k : Nat) (C : Addr) (sp : Sp) : Prop where
  ex : ∃ f fd ps, FnG false P w K mg base k f fd ps sp ∧ StX.CallO K C f ∧ Binds K fd ps []
def tCallOG (C : Addr) (sp : Sp) (W : WX) (tf : TE) (t : TA) : TE := fun σ H Q => tf σ H fun y H1 => ∃ a, y = V.ref a ∧ t σ H1 fun vs H2 => (∃ dx fs, H2 a = some (.ins C dx fs)) ∧ sp (V.ref a :: vs) H2 Q (WE W σ)
theorem pe_callOG {fe e : Expr} {es : List Expr} {pos : Pos} {tf : TE} {t : TA} (hf : PE X fe tf) (F : Cdf X.prog X.w X.K X.mg X.base k C sp) (hr : Room k X.A) (tk : Takes X W) (ha : PA X (e :: es) t)
    (ht : eval (.Call fe (e :: es) [] pos) X.env = (do callWith pos (← eval fe X.env) [] (backTo pos (starEach (e :: es) X.env)) (backToKw pos (keywordEach [] X.env))) := by rfl)
    (he : starEach (e :: es) X.env = (false, eval e X.env) :: starEach es X.env := by rfl) (hpl : (backTo pos (starEach es X.env)).any (·.1) = false := by rfl) : PE X (.Call fe (e :: es) [] pos) (tCallOG C sp W tf t) := by
  obtain ⟨f, fd, ps, F, hc, hb⟩ := F.ex
  refine ⟨fun pins s σ H Q I h => ?_⟩
  refine Call_ (thn (hf.run pins s σ H _ I h) fun u s1 ⟨y, H1, I1, ry, a, ey, q⟩ => ?_) ht
  subst ey
  obtain rfl : u = Value.ref a := ry
  refine StX.callO_with (thn (ha.run pos pins s1 σ H1 _ I1 q) fun us s2 ⟨vs, H2, I2, r, ⟨dx, fs, hi⟩, q2⟩ => ?_) he hpl
  obtain ⟨ox, od, J, hd⟩ := StX.insC_at I2 (.inr ⟨dx, fs, hi⟩)
  have r2 : Vals (V.ref a :: vs) (Value.ref a :: us) := .cons rfl r
  have b := hb s2 (Value.ref a :: us) I2.kIn (by rw [List.append_nil, ← r2.length]; exact F.len _ _ _ _ q2)
  rw [List.append_nil] at b
  refine ⟨⟨C, ox, od, J, hd⟩, wpAny_call (PySem.W.kco_code I2.kIn J hd hc.at_ hc.fn hc.fi (codeAny_mono (F.run X.A X.stack s2 H2 _ (Value.ref a :: us) (V.ref a :: vs) Q (WE W σ) hr (fun z => nomatch z) I2.env0 b r2 q2) ?_))⟩
  rintro (e | fl) s' hq
  · exact passAt tk σ pins H2 s2 e s' I2 hq
  · cases fl with
    | ret u => exact I2.after hq
    | next => exact hq.elim
    | brk => exact hq.elim
    | cont => exact hq.elim
/-- a method with one keyword-only parameter that has a default -/
structure Mkw (P : Program) (w : World) (K : PySem.W.Frag) (mg : Str → Option Value) (base : Heap) (k : Nat) (C : Addr) (m kw : Str) (dv : V) (sp : Sp) : Prop where
  ex : ∃ f fd ps du, FnG false P w K mg base k f fd ps sp ∧ Meth K C m f ∧ RelV dv du ∧ (∀ (s : Shared) (u : Value), K.In s.heap → BindsTo s fd ⟨[u], []⟩ (ps.zip [u, du])) ∧ (∀ (s : Shared) (u v : Value), K.In s.heap → BindsTo s fd ⟨[u], [(kw, v)]⟩ (ps.zip [u, v]))
variable {o e : Expr} {te ta : TE} {m kw : Str} {dv : V} {apos pos kpos : Pos}
def tMkw0 (C : Addr) (m : Str) (dv : V) (sp : Sp) (W : WX) (ta : TE) : TE := fun σ H Q => ta σ H fun x H1 => ∃ a dx fs, x = .ref a ∧ H1 a = some (.ins C dx fs) ∧ fs.lookup m = none ∧ sp [.ref a, dv] H1 Q (WE W σ)
def tMkw (C : Addr) (m : Str) (sp : Sp) (W : WX) (ta te : TE) : TE := fun σ H Q => ta σ H fun x H1 => ∃ a dx fs, x = .ref a ∧ H1 a = some (.ins C dx fs) ∧ fs.lookup m = none ∧ te σ H1 fun y H2 => sp [.ref a, y] H2 Q (WE W σ)
theorem run_fnV {f : Addr} {fd : FuncData} {ps : List Str} {pins : List (Addr × Obj)} {σ : L2.St} {H : Hp} {s : Shared} {Q : VK} {us ws : List Value} {kws : List (Str × Value)} {vs : List V} (F : FnG false X.prog X.w X.K X.mg X.base k f fd ps sp) (hr : Room k X.A)
    (b : BindsTo s fd ⟨us, kws⟩ (ps.zip ws)) (tk : Takes X W) (I : Inv X pins σ H s) (r : Vals vs ws) (h : sp vs H Q (WE W σ)) : wpAny (model X.prog X.w) X.A (call (.ref f) us kws) (EP X pins σ Q) X.xe s := by
  refine wpAny_call (codeAny_mono (F.run X.A X.stack s H _ ws vs Q (WE W σ) hr (fun z => nomatch z) I.env0 b r h) ?_)
  rintro (e | fl) s' hq
  · exact passAt tk σ pins H s e s' I hq
  · cases fl with
    | ret u => exact I.after hq
    | next => exact hq.elim
    | brk => exact hq.elim
    | cont => exact hq.elim
theorem pe_mkw0 {pl : Sem Bool} (he : PE X o ta) (c : Cls X.K C) (F : Mkw X.prog X.w X.K X.mg X.base k C m kw dv sp) (hr : Room k X.A) (tk : Takes X W)
    (ht : eval (.Call (.Attribute o m apos) [] [] pos) X.env = (do
      let ov ← eval o X.env
      standAt apos.atName
      let (f, first) ← holding [ov] (getMethod ov m pl)
      callWith pos f first (backTo pos (starEach [] X.env)) (backToKw pos (keywordEach [] X.env))) := by rfl) :
    PE X (.Call (.Attribute o m apos) [] [] pos) (tMkw0 C m dv sp W ta) := by
  obtain ⟨f, fd, ps, du, F, hm, rd, hb, _⟩ := F.ex
  refine ⟨fun pins s σ H Q I h => ?_⟩
  refine PySem.W.methodCall_KW (pl := pl) (thn (he.run pins s σ H _ I h) fun u s1 ⟨x, H1, I1, rx, a, dx, fs, ex, ea, l, q⟩ => ?_) ht
  subst ex
  obtain rfl : u = Value.ref a := rx
  refine getmeth_ok I1 ea c hm l ?_
  exact PySem.W.callWith_K0 (first := [.ref a]) I1.kIn hm.kp (run_fnV (us := [.ref a]) (ws := [.ref a, du]) (vs := [V.ref a, dv]) F hr (hb s1 _ I1.kIn) tk I1 (.cons rfl (.cons rd .nil)) q)
theorem pe_mkw {pl : Sem Bool} (he : PE X o ta) (c : Cls X.K C) (F : Mkw X.prog X.w X.K X.mg X.base k C m kw dv sp) (hr : Room k X.A) (tk : Takes X W) (hv : PE X e te)
    (ht : eval (.Call (.Attribute o m apos) [] [⟨some kw, e, kpos⟩] pos) X.env = (do
      let ov ← eval o X.env
      standAt apos.atName
      let (f, first) ← holding [ov] (getMethod ov m pl)
      callWith pos f first (backTo pos (starEach [] X.env)) (backToKw pos (keywordEach [⟨some kw, e, kpos⟩] X.env))) := by rfl)
    (hall : (backToKw pos (keywordEach [⟨some kw, e, kpos⟩] X.env)).all (·.1.isSome) = true := by rfl) (hks : (backToKw pos (keywordEach [⟨some kw, e, kpos⟩] X.env)).filterMap (·.1) = [kw] := by rfl)
    (hpl : ((backTo pos (starEach [] X.env)).any (·.1) || (backToKw pos (keywordEach [⟨some kw, e, kpos⟩] X.env)).any (·.1.isNone)) = false := by rfl) :
    PE X (.Call (.Attribute o m apos) [] [⟨some kw, e, kpos⟩] pos) (tMkw C m sp W ta te) := by
  obtain ⟨f, fd, ps, du, F, hm, rd, _, hb⟩ := F.ex
  refine ⟨fun pins s σ H Q I h => ?_⟩
  refine PySem.W.methodCall_KW (pl := pl) (thn (he.run pins s σ H _ I h) fun u s1 ⟨x, H1, I1, rx, a, dx, fs, ex, ea, l, q⟩ => ?_) ht
  subst ex
  obtain rfl : u = Value.ref a := rx
  refine getmeth_ok I1 ea c hm l ?_
  refine PySem.W.callWith_KW0 (first := [.ref a]) (h₀ := X.base) I1.ok.mod.kin hm.kp hall ?_ hpl
  have q' : tCons te tNil σ H1 fun vs H2 => (match vs with
    | [y] => sp [.ref a, y] H2 Q (WE W σ)
    | _ => False) := q
  refine thn ((pk_cons (nm := some kw) (kpos := kpos) hv pk_nil).run pos pins s1 σ H1 _ I1 q') fun ws s2 ⟨zs, H2, I2, rz, q2⟩ => ⟨I2.kIn, ?_⟩
  rw [hks]
  cases rz with
  | nil => exact q2.elim
  | @cons y _ _ _ r1 rn =>
  cases rn with
  | cons _ _ => exact q2.elim
  | nil =>
  exact run_fnV (us := [.ref a]) (ws := [.ref a, _]) (vs := [V.ref a, y]) F hr (hb s2 _ _ I2.kIn) tk I2 (.cons rfl (.cons r1 .nil)) q2
/-- o.f = .. as one of several targets -/
def gFld (K : PySem.W.Frag) (to : TE) (f : Str) : TG := fun v σ H Q => to σ H fun o H1 => ∃ a C dx fs, o = .ref a ∧ H1 a = some (.ins C dx fs) ∧ Cls K C ∧ NoAttr K C f ∧ fs.length < 1000 ∧ Q σ (upd H1 a (.ins C dx (putF f v fs)))
theorem pg_fld {f : Str} {to : TE} (ho : PE X o to) (ha : ∀ v, assign (.Attribute o f pos) X.env v = (do
      let ov ← holding [v] (eval o X.env)
      standAt pos.atName
      holding [v, ov] (setAttr ov f v)
      release [v, ov] []) := by intro _; rfl) : PG X (.Attribute o f pos) (gFld X.K to f) := by
  refine ⟨fun pins s σ H v u Q I r h => ?_⟩
  rw [ha]
  refine wpAny_bind (wpAny_holding (thn (ho.run pins s σ H _ I h) fun ov s1 ⟨x, H1, I1, r1, a, C, dx, fs, ex, ea, c, n, l, q1⟩ => ?_))
  subst ex
  obtain rfl : ov = Value.ref a := r1
  refine wpAny_bind (wpAny_standAt (wpAny_bind (wpAny_holding (setattr_ok I1 ea c n l r fun s3 I3 => ?_))))
  exact wpAny_release ⟨σ, _, I3, q1⟩
end
/-! ### on data -/
section
variable {T : Ctx} {ts : Addr → Option Str} {W : WX} {X : Cx} {g : KB.Env → BS → R BS D} {pos : Pos}
/-- o(..), o a handle -/
def eCallH (nm : Str) (sem : List D → BS → R BS RV) (g : KB.Env → BS → R BS D) (fs : KB.Env → BS → R BS (List D)) : KB.Env → BS → R BS D := fun env s => (g env s).bind fun x s1 => match x with
  | .hnd (k + 1) => (fs env s1).bind fun ds s2 => match s2.2[k]? with
    | some b => if b.cls = nm then (sem (.hnd (k + 1) :: ds) s2).bind fun r s3 => .ok r.toD s3 else .bad
    | none => .bad
  | _ => .bad
theorem de_callH {o e : Expr} {es : List Expr} {fs : KB.Env → BS → R BS (List D)} {k n : Nat} {sem : List D → BS → R BS RV} (nm : Str) (F : Cdf X.prog X.w X.K X.mg X.base k (T.cl nm) (spD T (SRB T ts) (n + 1) sem)) (hr : Room k X.A) (tk : Takes X W) (ho : DE T (SRB T ts) W X o g) (ha : DA T (SRB T ts) W X (e :: es) fs) (hn : nArg n fs)
    (ht : eval (.Call o (e :: es) [] pos) X.env = (do callWith pos (← eval o X.env) [] (backTo pos (starEach (e :: es) X.env)) (backToKw pos (keywordEach [] X.env))) := by rfl)
    (he : starEach (e :: es) X.env = (false, eval e X.env) :: starEach es X.env := by rfl) (hpl : (backTo pos (starEach es X.env)).any (·.1) = false := by rfl) :
    DE T (SRB T ts) W X (.Call o (e :: es) [] pos) (eCallH nm sem g fs) := by
  refine PE.imp (pe_callOG ho F hr tk ha ht he hpl) fun σ H Q ⟨c, env, s, x, po⟩ => ?_
  refine Po.run x po fun d s1 v c1 H1 st1 x1 r1 p1 => ?_
  cases r1 with
  | @hnd n' a hm =>
    cases n' with
    | zero => exact p1.elim
    | succ j =>
      have p2 : Po T (SRB T ts) W (wE T Q) c1 H1 σ ((fs env s1).bind fun ds s2 => match s2.2[j]? with
        | some b => if b.cls = nm then (sem (.hnd (j + 1) :: ds) s2).bind fun r s3 => .ok r.toD s3 else .bad
        | none => .bad) := p1
      refine ⟨a, rfl, ?_⟩
      refine Po.runN hn x1 p2 fun ds s2 us c2 H2 hl st2 x2 r2 p3 => ?_
      split at p3
      · rename_i b eb
        split at p3
        · rename_i hh
          subst hh
          obtain ⟨a', dx, vs, e1, e2, e3, e4, e5⟩ := x2.sr.2.1 j b eb
          have hm2 := st2.gx.m _ _ hm
          rw [hm2] at e1
          cases e1
          exact ⟨⟨dx, vs, x2.ok.fh _ _ e2⟩, c2, .hnd (j + 1) :: ds, s2, x2.ok, x2.sr, .cons (.hnd hm2) r2, by rw [List.length_cons, hl], poF_D p3⟩
        · exact p3.elim
      · exact p3.elim
  | _ => exact p1.elim
/-- o.m(), o a handle, m has one keyword-only parameter with a default -/
def eMkw0H (nm m : Str) (d : Int) (sem : List D → BS → R BS RV) (g : KB.Env → BS → R BS D) : KB.Env → BS → R BS D := fun env s => (g env s).bind fun x s1 => match x with
  | .hnd (k + 1) => match s1.2[k]? with
    | some b => if b.cls = nm ∧ b.fs.lookup m = none then (sem [.hnd (k + 1), .int d] s1).bind fun r s3 => .ok r.toD s3 else .bad
    | none => .bad
  | _ => .bad
theorem de_mkw0H {pl : Sem Bool} {o : Expr} {apos : Pos} {m kw : Str} {k : Nat} {d : Int} {sem : List D → BS → R BS RV} (nm : Str) (hc : Cls X.K (T.cl nm)) (F : Mkw X.prog X.w X.K X.mg X.base k (T.cl nm) m kw (.int d) (spD T (SRB T ts) 2 sem)) (hr : Room k X.A) (tk : Takes X W) (ho : DE T (SRB T ts) W X o g)
    (ht : eval (.Call (.Attribute o m apos) [] [] pos) X.env = (do
      let ov ← eval o X.env
      standAt apos.atName
      let (f, first) ← holding [ov] (getMethod ov m pl)
      callWith pos f first (backTo pos (starEach [] X.env)) (backToKw pos (keywordEach [] X.env))) := by rfl) :
    DE T (SRB T ts) W X (.Call (.Attribute o m apos) [] [] pos) (eMkw0H nm m d sem g) := by
  refine PE.imp (pe_mkw0 (pl := pl) ho hc F hr tk ht) fun σ H Q ⟨c, env, s, x, po⟩ => ?_
  refine Po.run x po fun dd s1 v c1 H1 st1 x1 r1 p1 => ?_
  cases r1 with
  | @hnd n a hm =>
    cases n with
    | zero => exact p1.elim
    | succ j =>
      have p2 : Po T (SRB T ts) W (wE T Q) c1 H1 σ (match s1.2[j]? with
        | some b => if b.cls = nm ∧ b.fs.lookup m = none then (sem [.hnd (j + 1), .int d] s1).bind fun r s3 => .ok r.toD s3 else .bad
        | none => .bad) := p1
      split at p2
      · rename_i b eb
        split at p2
        · rename_i hh
          obtain ⟨rfl, hno⟩ := hh
          obtain ⟨a', dx, vs, e1, e2, e3, e4, e5⟩ := x1.sr.2.1 j b eb
          rw [hm] at e1
          cases e1
          refine ⟨a, dx, vs, rfl, x1.ok.fh _ _ e2, e3.no hno, ?_⟩
          exact ⟨c1, [.hnd (j + 1), .int d], s1, x1.ok, x1.sr, .cons (.hnd hm) (.cons (.int d) .nil), rfl, poF_D p2⟩
        · exact p2.elim
      · exact p2.elim
  | _ => exact p1.elim
/-- o.m(kw=e) -/
def eMkwH (nm m : Str) (sem : List D → BS → R BS RV) (g f : KB.Env → BS → R BS D) : KB.Env → BS → R BS D := fun env s => (g env s).bind fun x s1 => match x with
  | .hnd (k + 1) => match s1.2[k]? with
    | some b => if b.cls = nm ∧ b.fs.lookup m = none then (f env s1).bind fun d s2 => (sem [.hnd (k + 1), d] s2).bind fun r s3 => .ok r.toD s3 else .bad
    | none => .bad
  | _ => .bad
theorem de_mkwH {pl : Sem Bool} {o e : Expr} {apos kpos : Pos} {m kw : Str} {k : Nat} {dv : V} {f : KB.Env → BS → R BS D} {sem : List D → BS → R BS RV} (nm : Str) (hc : Cls X.K (T.cl nm)) (F : Mkw X.prog X.w X.K X.mg X.base k (T.cl nm) m kw dv (spD T (SRB T ts) 2 sem)) (hr : Room k X.A) (tk : Takes X W) (ho : DE T (SRB T ts) W X o g) (hv : DE T (SRB T ts) W X e f)
    (ht : eval (.Call (.Attribute o m apos) [] [⟨some kw, e, kpos⟩] pos) X.env = (do
      let ov ← eval o X.env
      standAt apos.atName
      let (f, first) ← holding [ov] (getMethod ov m pl)
      callWith pos f first (backTo pos (starEach [] X.env)) (backToKw pos (keywordEach [⟨some kw, e, kpos⟩] X.env))) := by rfl)
    (hall : (backToKw pos (keywordEach [⟨some kw, e, kpos⟩] X.env)).all (·.1.isSome) = true := by rfl) (hks : (backToKw pos (keywordEach [⟨some kw, e, kpos⟩] X.env)).filterMap (·.1) = [kw] := by rfl)
    (hpl : ((backTo pos (starEach [] X.env)).any (·.1) || (backToKw pos (keywordEach [⟨some kw, e, kpos⟩] X.env)).any (·.1.isNone)) = false := by rfl) :
    DE T (SRB T ts) W X (.Call (.Attribute o m apos) [] [⟨some kw, e, kpos⟩] pos) (eMkwH nm m sem g f) := by
  refine PE.imp (pe_mkw (pl := pl) ho hc F hr tk hv ht hall hks hpl) fun σ H Q ⟨c, env, s, x, po⟩ => ?_
  refine Po.run x po fun dd s1 v c1 H1 st1 x1 r1 p1 => ?_
  cases r1 with
  | @hnd n a hm =>
    cases n with
    | zero => exact p1.elim
    | succ j =>
      have p2 : Po T (SRB T ts) W (wE T Q) c1 H1 σ (match s1.2[j]? with
        | some b => if b.cls = nm ∧ b.fs.lookup m = none then (f env s1).bind fun d s2 => (sem [.hnd (j + 1), d] s2).bind fun r s3 => .ok r.toD s3 else .bad
        | none => .bad) := p1
      split at p2
      · rename_i b eb
        split at p2
        · rename_i hh
          obtain ⟨rfl, hno⟩ := hh
          obtain ⟨a', dx, vs, e1, e2, e3, e4, e5⟩ := x1.sr.2.1 j b eb
          rw [hm] at e1
          cases e1
          refine ⟨a, dx, vs, rfl, x1.ok.fh _ _ e2, e3.no hno, ?_⟩
          refine Po.run x1 p2 fun d s2 u c2 H2 st2 x2 r2 p3 => ?_
          exact ⟨c2, [.hnd (j + 1), d], s2, x2.ok, x2.sr, .cons (.hnd (st2.gx.m _ _ hm)) (.cons r2 .nil), rfl, poF_D p3⟩
        · exact p2.elim
      · exact p2.elim
  | _ => exact p1.elim
/-- x.f op= e -/
def sAugH (nm f : Str) (i : Nat) (sem : D → D → Option D) (g : KB.Env → BS → R BS D) : KB.Env → BS → RS BS := fun env s => match env[i]? with
  | some (.d (.hnd (k + 1))) => match s.2[k]? with
    | some b => if b.cls = nm then match b.fs.lookup f with
      | some d0 => (g env s).toS env fun d s1 => match s1.2[k]? with
        | some b1 => if b1.cls = nm ∧ b1.fs.length < 900 then match sem d0 d with
          | some d2 => if d2.noL = true ∧ d2.noH = true then .nx env (s1.1, putB s1.2 k f d2) else .bad
          | none => .bad
          else .bad
        | none => .bad
      | none => .bad
      else .bad
    | none => .bad
  | _ => .bad
theorem ds_augH {op : Operator} {sem : D → D → Option D} {i : Nat} {x f : Str} {e : Expr} {p1 p2 : Pos} (nm : Str) (ho : ∃ r, PIp X op r ∧ Sem2 T r sem) (hc : Cls X.K (T.cl nm)) (hn : NoAttr X.K (T.cl nm) f) (hN : X.N[i]? = some x) (ha : DE T (SRB T ts) W X e g)
    (hv : Vis X.env.scope x := by first | exact Or.inl rfl | exact Or.inr (Or.inl rfl)) (hd : (x == ("__debug__" : Str)) = false := by decide) (hcd : (x == ("__classdict__" : Str)) = false := by decide) :
    DS T (SRB T ts) W X (.AugAssign (.Attribute (.Name x p1) f p2) op e pos) (sAugH nm f i sem g) := by
  obtain ⟨r, hr, hs⟩ := ho
  refine PS.imp (ps_fldaug (rd := r) (pe_var hN hv hd hcd) ha (fun pins s σ H a b u v Q I ra rb h => hr pins s σ H a b u v Q I ra rb h)) fun D σ H ⟨c0, H0, c, env, s, x, po⟩ => ?_
  unfold sAugH at po
  split at po
  case h_2 => exact po.elim
  rename_i k e0
  split at po
  case h_2 => exact po.elim
  rename_i b eb
  split at po
  case isFalse => exact po.elim
  rename_i hcl
  split at po
  case h_2 => exact po.elim
  rename_i d0 ed
  subst hcl
  obtain ⟨w, z1, rw⟩ := (show ∃ w, σ[i]? = some (some w) ∧ Rep T c (.hnd (k + 1)) w from x.en.sl i _ e0)
  cases rw with
  | @hnd _ l hm =>
  obtain ⟨l', dx, vs, e1, e2, e3, e4, e5⟩ := x.sr.2.1 k b eb
  rw [hm] at e1
  cases e1
  obtain ⟨v0, ev0, rv0⟩ := e3.look ed
  refine ⟨.ref l, z1, l, _, dx, vs, v0, rfl, x.st.ok.fh _ _ e2, hc, hn, ev0, ?_⟩
  refine PoS.run x po fun d s1 w c1 H1 y x1 r1 p1 => ?_
  split at p1
  case h_2 => exact p1.elim
  rename_i b1 eb1
  split at p1
  case isFalse => exact p1.elim
  rename_i hh
  obtain ⟨hcl1, hlen⟩ := hh
  split at p1
  case h_2 => exact p1.elim
  rename_i d2 hz
  split at p1
  case isFalse => exact p1.elim
  rename_i hLH
  refine hs c1 H1 d0 d d2 v0 w _ x1.st.ok (rv0.mono y.gx) r1 hz fun u c2 H2 y2 hm2 hf2 r2 => ?_
  have x2 := x1.step y2 (SRel.mono _ x1.sr y2.gx hf2 hm2)
  obtain ⟨l1, dx1, vs1, g1, g2, g3, g4, g5⟩ := x2.sr.2.1 k b1 eb1
  have hl1 : c2.m (k + 1) = some l := y2.gx.m _ _ (y.gx.m _ _ hm)
  have hl2 := hl1
  rw [g1] at hl2
  cases hl2
  rw [← hcl1]
  refine ⟨dx1, vs1, x2.st.ok.fh _ _ g2, by rw [← g3.length]; omega, ?_⟩
  have sx := putF_step x2.st.ok (o' := .ins (T.cl b1.cls) dx1 (putF f u vs1)) g2
  exact p1 σ _ _ (y2.gx.trans sx.gx) (x2.step sx (srb_put x2.sr eb1 g1 g2 g3 r2 hLH.1 hLH.2))
/-- x.f, x.g, x.h = a tuple -/
def sFld3H (nm f1 f2 f3 : Str) (i : Nat) (g : KB.Env → BS → R BS D) : KB.Env → BS → RS BS := fun env s => (g env s).toS env fun d s1 => match d, env[i]? with
  | .tup [d1, d2, d3], some (.d (.hnd (k + 1))) => match s1.2[k]? with
    | some b => if b.cls = nm ∧ b.fs.length < 900 ∧ (d1.noL = true ∧ d1.noH = true) ∧ (d2.noL = true ∧ d2.noH = true) ∧ (d3.noL = true ∧ d3.noH = true) then .nx env (s1.1, putB (putB (putB s1.2 k f1 d1) k f2 d2) k f3 d3) else .bad
    | none => .bad
  | _, _ => .bad
theorem fld_step {c0 : Cf} {H0 : Hp} {σ : L2.St} {H : Hp} {c : Cf} {env : KB.Env} {s : BS} {k : Nat} {b : Bd} {d : D} {v : V} {f : Str} {l : Addr} (x : AtS T (SRB T ts) c0 H0 σ H c env s) (eb : s.2[k]? = some b) (hm : c.m (k + 1) = some l) (r : Rep T c d v) (hL : d.noL = true) (hH : d.noH = true) :
    ∃ dx vs c', H l = some (.ins (T.cl b.cls) dx vs) ∧ vs.length = b.fs.length ∧ c'.m = c.m ∧ Gx c c' ∧ AtS T (SRB T ts) c0 H0 σ (upd H l (.ins (T.cl b.cls) dx (putF f v vs))) c' env (s.1, putB s.2 k f d) ∧ (putB s.2 k f d)[k]? = some ⟨b.cls, putD f d b.fs⟩ := by
  obtain ⟨l', dx, vs, e1, e2, e3, e4, e5⟩ := x.sr.2.1 k b eb
  have e1' := e1
  rw [hm] at e1'
  cases e1'
  have sx := putF_step x.st.ok (o' := .ins (T.cl b.cls) dx (putF f v vs)) e2
  refine ⟨dx, vs, ⟨c.G, c.m, upd c.F l (.ins (T.cl b.cls) dx (putF f v vs))⟩, x.st.ok.fh _ _ e2, e3.length.symm, rfl, sx.gx, x.step sx (srb_put x.sr eb e1 e2 e3 r hL hH), ?_⟩
  unfold putB
  rw [eb]
  exact List.getElem?_set_self (List.getElem?_eq_some_iff.mp eb).1
theorem putD_len {f : Str} {d : D} : ∀ fs : List (Str × D), (putD f d fs).length ≤ fs.length + 1
  | [] => Nat.le_refl _
  | (k, x) :: fs => by
    show (if k = f then (k, d) :: fs else (k, x) :: putD f d fs).length ≤ _
    split
    · simp
    · have := putD_len (f := f) (d := d) fs
      simp only [List.length_cons]
      omega
theorem ds_fld3H {i : Nat} {x f1 f2 f3 : Str} {a : Expr} {p1 p2 p3 q1 q2 q3 pt : Pos} {kk : Nat} (nm : Str) (hK : X.K = T.K) (hcm : X.calm = true) (hc : Cls X.K (T.cl nm)) (n1 : NoAttr X.K (T.cl nm) f1) (n2 : NoAttr X.K (T.cl nm) f2) (n3 : NoAttr X.K (T.cl nm) f3) (hN : X.N[i]? = some x) (ha : DE T (SRB T ts) W X a g)
    (hv : Vis X.env.scope x := by first | exact Or.inl rfl | exact Or.inr (Or.inl rfl)) (hd : (x == ("__debug__" : Str)) = false := by decide) (hcd : (x == ("__classdict__" : Str)) = false := by decide)
    (hs : swapsWithSole [.Tuple [.Attribute (.Name x p1) f1 q1, .Attribute (.Name x p2) f2 q2, .Attribute (.Name x p3) f3 q3] kk pt] a pos.line X.env = pure false := by rfl) (hw : swappedStores [.Tuple [.Attribute (.Name x p1) f1 q1, .Attribute (.Name x p2) f2 q2, .Attribute (.Name x p3) f3 q3] kk pt] a X.env = pure none := by rfl)
    (h1 : (assignEach [.Tuple [.Attribute (.Name x p1) f1 q1, .Attribute (.Name x p2) f2 q2, .Attribute (.Name x p3) f3 q3] kk pt] X.env).map (·.2) = [assign (.Tuple [.Attribute (.Name x p1) f1 q1, .Attribute (.Name x p2) f2 q2, .Attribute (.Name x p3) f3 q3] kk pt) X.env] := by rfl) :
    DS T (SRB T ts) W X (.Assign [.Tuple [.Attribute (.Name x p1) f1 q1, .Attribute (.Name x p2) f2 q2, .Attribute (.Name x p3) f3 q3] kk pt] a pos) (sFld3H nm f1 f2 f3 i g) := by
  have v1 := pe_var (X := X) (pos := p1) hN hv hd hcd
  have v2 := pe_var (X := X) (pos := p2) hN hv hd hcd
  have v3 := pe_var (X := X) (pos := p3) hN hv hd hcd
  refine PS.imp (ps_asg ha (pg_tup hcm (pgs_cons (pg_fld v1) (pgs_cons (pg_fld v2) (pgs_cons (pg_fld v3) pgs_nil)))) hs hw h1) fun D σ H ⟨c0, H0, c, env, s, x, po⟩ => ?_
  refine PoS.run x po fun d s1 v c1 H1 y x1 r1 p1 => ?_
  split at p1
  case h_2 => exact p1.elim
  rename_i d1 d2 d3 k e0
  split at p1
  case h_2 => exact p1.elim
  rename_i b eb
  split at p1
  case isFalse => exact p1.elim
  rename_i hh
  obtain ⟨rfl, hl, ⟨L1, M1⟩, ⟨L2, M2⟩, L3, M3⟩ := hh
  obtain ⟨w, z1, rw⟩ := (show ∃ w, σ[i]? = some (some w) ∧ Rep T c1 (.hnd (k + 1)) w from x1.en.sl i _ e0)
  cases rw with
  | @hnd _ l hm =>
  cases r1 with
  | @tup at_ vs _ ht rs =>
  cases rs with
  | @cons _ u1 _ _ r1 rs =>
  cases rs with
  | @cons _ u2 _ _ r2 rs =>
  cases rs with
  | @cons _ u3 _ _ r3 rs =>
  cases rs
  refine ⟨at_, [u1, u2, u3], rfl, by rw [hK]; exact same_t x1.st.ok.gh ht, rfl, ?_⟩
  obtain ⟨dx, ws, c2, g1, g2, g3, g4, x2, eb2⟩ := fld_step (f := f1) x1 eb hm r1 L1 M1
  refine ⟨u1, [u2, u3], rfl, .ref l, z1, l, _, dx, ws, rfl, g1, hc, n1, by omega, ?_⟩
  obtain ⟨dx2, ws2, c3, j1, j2, j3, j4, x3, eb3⟩ := fld_step (f := f2) x2 eb2 (by rw [g3]; exact hm) (r2.mono g4) L2 M2
  have l2 := putD_len (f := f1) (d := d1) b.fs
  refine ⟨u2, [u3], rfl, .ref l, z1, l, _, dx2, ws2, rfl, j1, hc, n2, by rw [j2]; show (putD f1 d1 b.fs).length < _; omega, ?_⟩
  obtain ⟨dx3, ws3, c4, i1, i2, i3, i4, x4, eb4⟩ := fld_step (f := f3) x3 eb3 (by rw [j3, g3]; exact hm) ((r3.mono g4).mono j4) L3 M3
  have l3 := putD_len (f := f2) (d := d2) (putD f1 d1 b.fs)
  refine ⟨u3, [], rfl, .ref l, z1, l, _, dx3, ws3, rfl, i1, hc, n3, by rw [i2]; show (putD f2 d2 (putD f1 d1 b.fs)).length < _; omega, rfl, ?_⟩
  exact p1 σ _ _ ((g4.trans j4).trans i4) x4
end
end KB
set_option Elab.async false
set_option linter.all false
set_option maxRecDepth 100000
set_option maxHeartbeats 4000000
/-! K110 plain: bands in the state -/
namespace KB
open PySem
abbrev OLS := Option LS
abbrev seT (n : Nat) (rs : List (List Nat)) : List D := (snT n 0 rs (List.range n)).map fun l => .tup (nums l)
abbrev koT (n : Nat) (rs : List (List Nat)) : List Nat := knT n 0 rs (List.range n)
/-- a band's object -/
def bdx (c : List Nat) (a b d : D) : Bd := ⟨"Band", [("own_colouring", .str c), ("own_rows", a), ("own_order", b), ("own_seen", d)]⟩
/-- a good band with the colouring c and the rows rs -/
def bd (c : List Nat) (rs : List (List Nat)) : Bd := bdx c (.tup (txts rs)) (.tup (nums (koT c.length rs))) (.tup (seT c.length rs))
section
variable {nm m f : Str} {s s1 : Option LS} {bs bs1 : List Bd} {k i : Nat} {b : Bd} {d x : D} {r : RV} {s3 : BS} {env : KB.Env} {sem : List D → BS → R BS RV} {fs : KB.Env → BS → R BS (List D)} {g : KB.Env → BS → R BS D} {ds : List D}
theorem fB (hb : bs[k]? = some b) (hc : b.cls = nm) (hl : b.fs.lookup f = some d) (e : env[i]? = some (.d (.hnd (k + 1)))) : eFldH nm f (eVar i) env (s, bs) = .ok d (s, bs) := by
  unfold eFldH eVar
  simp only [e, R.bind, hb, if_pos hc, hl]
theorem mthB (hb : bs[k]? = some b) (hc : b.cls = nm) (hm : b.fs.lookup m = none) (hf : fs env (s, bs) = .ok ds (s1, bs1)) (hs : sem (.hnd (k + 1) :: ds) (s1, bs1) = .ok r s3) (e : env[i]? = some (.d (.hnd (k + 1)))) : eMthH nm m sem (eVar i) fs env (s, bs) = .ok r.toD s3 := by
  unfold eMthH eVar
  simp only [e, R.bind, hb, if_pos (And.intro hc hm), hf, hs]
end
/-- the first q rows of the repeated loop -/
def rsQ (rs : List (List Nat)) (q : Nat) : List (List Nat) := (List.range q).map fun i => rs.getD (i % rs.length) []
@[simp] theorem rsQ_len (rs : List (List Nat)) (q : Nat) : (rsQ rs q).length = q := by simp [rsQ]
end KB
set_option Elab.async false
set_option linter.all false
set_option maxRecDepth 100000
set_option maxHeartbeats 4000000
/-! K111: how a call ends, told by the clauses of a def (beside mutable objects) -/
set_option Elab.async false
set_option linter.all false
set_option maxRecDepth 100000
set_option maxHeartbeats 4000000
/-! K112: C() of a mutable class; code that is never reached; try: .. except (C1, .., Ck): suite -/
namespace KB
section
open PySem PySem.Spec PyProof.Rows L2
/-- a statement that is never reached -/
def sBad {S : Type} : KB.Env → S → RS S := fun _ _ => .bad
theorem ds_bad {T : Ctx} {S : Type} {SR : SRel S} {W : WX} {X : Cx} {st : Stmt} : DS T SR W X st sBad := PS.imp ps_never fun D σ H ⟨c0, H0, c, env, s, x, po⟩ => po
section
variable {g : Bool} {X : Cx} {W : WX} {k : Nat} {x : Str} {sp : Sp} {p pos : Pos} {C : Addr}
theorem pe_makeG0 (F : Idf X.prog X.w X.K X.mg X.base k x C sp) (hr : Room (k + 1) X.A) (hg : Gl X x) (tk : Takes X W) (hdb : (x == ("__debug__" : Str)) = false := by decide) :
    PE X (.Call (.Name x p) [] [] pos) (tMakeG C sp W tNil) := by
  obtain ⟨f, fd, ps, F, M, hm, hb⟩ := F.ex
  constructor
  intro pins s σ H Q I q
  refine wpAny_Call_Name_kw (ld_glob I hg hm ?_ hdb)
  refine PySem.W.callWith_K0 I.kIn M.kp ?_
  have hq := q (s.heap.objs.size + 1) s.heap.objs.size (I.hok.fresh (Nat.le_succ _)) (I.hok.fresh (Nat.le_refl _)) (Nat.ne_of_lt (Nat.lt_succ_self _))
  have I2 := Inv.made (C := C) I
  have r2 : Vals [V.ref (s.heap.objs.size + 1)] [Value.ref (s.heap.objs.size + 1)] := .cons rfl .nil
  have hl : ([Value.ref (s.heap.objs.size + 1)] ++ []).length = ps.length := by
    have e := r2.length
    rw [F.len _ _ _ _ hq] at e
    rw [List.append_nil]
    exact e.symm
  have b := hb _ [Value.ref (s.heap.objs.size + 1)] I2.kIn hl
  rw [List.append_nil] at b
  refine wpAny_call (make_map (f := f) I.kIn M.makes M.init (beq_iff_eq.mp M.fn) (codeAny_mono (F.ok.run _ X.stack _ _ ⟨[Value.ref (s.heap.objs.size + 1)], []⟩ [Value.ref (s.heap.objs.size + 1)] _ _ (WE W σ) (hr.make C [] [])
    (I2.env0.make C [] []) b r2 hq) fun r s' hq' => ?_))
  cases r with
  | error e => exact passAt tk σ pins _ _ e s' I2 hq'
  | ok fl =>
    cases fl with
    | ret u =>
      obtain ⟨v, H', I3, rv, ev, q3⟩ := I2.after hq'
      subst ev
      exact ⟨rv, ⟨V.ref (s.heap.objs.size + 1), H', I3, rfl, q3⟩⟩
    | next => exact False.elim hq'
    | brk => exact False.elim hq'
    | cont => exact False.elim hq'
end
section
variable {T : Ctx} {ts : Addr → Option Str} {W : WX} {X : Cx} {nm : Str} {pos : Pos}
theorem de_make0H {p : Pos} {k : Nat} {sem : List D → BS → R BS RV} (F : Idf X.prog X.w X.K X.mg X.base k nm (T.cl nm) (spD T (SRB T ts) 1 sem)) (hr : Room (k + 1) X.A) (tk : Takes X W) (hg : Gl X nm := by rfl) (hdb : (nm == ("__debug__" : Str)) = false := by decide) :
    DE T (SRB T ts) W X (.Call (.Name nm p) [] [] pos) (eMakeH nm sem aNo) := by
  refine PE.imp (pe_makeG0 F hr hg tk hdb) fun σ H Q ⟨c, env, s, x, po⟩ => ?_
  have p1 : Po T (SRB T ts) W (wE T Q) c H σ (if s.2.length < 998 then ((sem [.hnd (s.2.length + 1)] (s.1, s.2 ++ [⟨nm, []⟩])).bind fun r s2 => match r with
    | .d .non => .ok (.hnd (s.2.length + 1)) s2
    | _ => .bad) else .bad) := po
  refine fun l dx hx hdx hne => ?_
  split at p1
  · rename_i hlen
    have hm := x.sr.2.2.2.2 _ (Nat.le_refl _) (by omega)
    have sy := stp_new (o := .own l) (o' := .ins (T.cl nm) dx []) x.ok hx hdx hne hm
    have sr := srb_new (nm := nm) (o := .own l) x.ok x.sr hlen hx hdx hne (fun ps z => nomatch z) (fun q z => nomatch z)
    refine ⟨_, [.hnd (s.2.length + 1)], (s.1, s.2 ++ [⟨nm, []⟩]), sy.ok, sr, .cons (.hnd (if_pos rfl)) .nil, rfl, ?_⟩
    cases q : sem [.hnd (s.2.length + 1)] (s.1, s.2 ++ [⟨nm, []⟩]) with
    | ok r s2 =>
      rw [q] at p1
      cases r with
      | d d =>
        cases d <;> try (exact p1.elim)
        exact fun v c' H' y sr' r => by
          cases r
          exact ⟨rfl, p1 c' H' (sy.trans y) sr' _ (.hnd (y.gx.m _ _ (if_pos rfl)))⟩
      | L xs => exact p1.elim
    | exc e s' =>
      rw [q] at p1
      exact fun cls dd c' H' y sr' r => p1 cls dd c' H' (sy.trans y) sr' r
    | bad =>
      rw [q] at p1
      exact p1
  · exact p1.elim
end
/-- try: .. except (C1, .., Ck): suite -/
def wTup (K : PySem.W.Frag) (Wout : WX) (D : Ends) (cs : List Value) (ts : Addr → Value → Option Addr → TS) : WX := fun cls d σ H => ∃ b : Value → Bool, (∀ c ∈ cs, PySem.W.exmOne K cls c = some (b c)) ∧
  (cs.any b = true → ∀ a, H a = none → ts a cls d D σ H) ∧ (cs.any b = false → Wout cls d σ H)
section
variable {X : L2.Cx} {body suite : List Stmt} {b₀ : Stmt} {es : List Expr} {cs : List Value} {k : Nat} {tp pos' : Pos} {pos : Pos} {tb : WX → TS} {Wout : WX} {ts : Addr → Value → Option Addr → TS}
theorem ps_try_tup (hs : X.stack = X.env :: X.outer) (hf : X.env.frame = some X.env.locals) (tk : Takes X Wout)
    (hb : ∀ (W : WX) (pn : List (Addr × Obj)) (xe : Value → Shared → Prop), Takes (X.tr pn xe) W → PassesOwn (model X.prog X.w) X.A X.env xe → PSs (X.tr pn xe) body (tb W))
    (hc : NamesL X es cs) (hl : cs.length ≤ 1000)
    (hsu : ∀ (a : Addr) (oe : Obj) (cls : Value) (d : Option Addr) (pn : List (Addr × Obj)), L2.Zc cls d oe → (∃ vs, oe.data = .fields vs) → PSs (X.suite a ((a, oe) :: pn)) (b₀ :: suite) (ts a cls d)) :
    PS X (.Try body [.ExceptHandler (some (.Tuple es k tp)) none (b₀ :: suite) pos'] [] [] pos) (fun D σ H => tb (wTup X.K Wout D cs ts) D σ H) := by
  refine ⟨fun pins s σ H D I h => ?_⟩
  have ok := I.ok
  have hfr : X.A.frames = some (X.env :: X.outer) := by rw [ok.frames, hs]
  refine wpAny_Try_except ?_
  refine wpAny_mono ((hb (wTup X.K Wout D cs ts) (X.pn ++ pins) (fun e s₁ => wpAny (model X.prog X.w) X.A (noteFrame e X.env) (fun _ s₂ => wpAny (model X.prog X.w) X.A (setFlight e none) (fun _ s₃ =>
    wpAny (model X.prog X.w) X.A (handleBy e X.env [.ExceptHandler (some (.Tuple es k tp)) none (b₀ :: suite) pos']) (SP X pins D) X.xe s₃) X.xe s₂) X.xe s₁) (fun u s' xx => ?_) PassesOwn.looking).run [] s σ H D (I.toTry _) h) (fun f s1 hsp => ?_) (fun e s1 he => he)
  · obtain ⟨a, B, sI, pins', σ', H', cls, d, rfl, J', nb, up, sky, na, os, ag, w⟩ := xx
    have J : Inv X pins σ' H' sI := J'.ofTry ok
    have sky' : Sky B (X.env :: X.outer) a (L2.Zc cls d) X.env.locals s'.heap := by rw [← hs]; exact sky
    show wpAny (model X.prog X.w) X.A (noteFrame (.ref a) X.env) _ _ _
    refine Sky.land L2.Zc.steady hfr hf sky' fun h3 fl3 up3' => ?_
    have up3 : sI.heap.UpToSlots h3 := up.trans up3'
    have J3 : Inv X pins σ' H' { s' with heap := h3 } := J.landed nb fl3.1 up3 os ag
    obtain ⟨oe3, vs3, he3, hz3, hd3⟩ := fl3.there
    have notFr : ∀ {h : Heap} {o : Obj} {vs : Array Value}, h.FunFrames B (X.env :: X.outer) → h.get? a = some o → o.data = .fields vs → a ∉ frs (X.env :: X.outer) := fun {h o vs} ff e dd hm => by
      obtain ⟨_, o', e', hnf⟩ := ff.mem hm
      rw [e] at e'; cases e'
      exact hnf _ dd
    have nfr := notFr fl3.2.2.1 he3 hd3
    have nL : a ≠ X.env.locals := fun z => nfr (List.mem_filterMap.mpr ⟨X.env, List.mem_cons_self, by rw [hf, z]⟩)
    have nF : a ∉ X.fs := fun hm => by
      obtain ⟨e, he, q⟩ := List.mem_filterMap.mp hm
      exact nfr (List.mem_filterMap.mpr ⟨e, List.mem_cons_of_mem _ he, q⟩)
    obtain ⟨b, hb1, hyes, hno⟩ := w
    have S3 := J3.suite he3 hd3 na nL nF
    refine wpAny_handleBy_cons (codeAny_handlers_test ?_) (by intro q; cases q)
    refine wpAny_Tuple_spliced ?_
    refine names_run (Y := X.suite a ((a, oe3) :: (X.pn ++ pins))) S3 hc.suite ⟨Nat.le_trans hl (by rw [sizeLine_eq]; decide), ?_⟩
    have kp : ∀ b o, h3.get? b = some o → (h3.push { cls := .type "tuple", data := .seq cs.toArray }).get? b = some o := fun b o e => Heap.get?_push_of_some _ e
    have fl5 := flying_keeps fl3 kp
    have up5 : sI.heap.UpToSlots (h3.push { cls := .type "tuple", data := .seq cs.toArray }) := up3.trans (Heap.UpToSlots.of_keeps kp)
    have J5 : Inv X pins σ' H' { s' with heap := h3.push { cls := .type "tuple", data := .seq cs.toArray } } := J3.kept kp
    have LT : PySem.W.Looks (model X.prog X.w) (h3.push { cls := .type "tuple", data := .seq cs.toArray }) (typeOf (.ref a)) cls := fun A Q E s k q => wpAny_typeOf_ref (k _ _ (kp _ _ he3)) (by rw [hz3.1]; exact q)
    have LM := exm_any (M := model X.prog X.w) (cs := cs) (b := b) J5.kIn LT (Heap.get?_push_size h3 rfl) hb1
    refine LM.here ?_
    cases hany : cs.any b with
    | true =>
      refine codeAny_handlers_suite ?_
      refine HandSPX.lands_againZ fl5 fun h4 fl4 up4 => ?_
      have J4 := J.landed (s' := { s' with heap := h4 }) nb fl4.1 (up5.trans up4) os ag
      obtain ⟨oe4, vs4, he4, hz4, hd4⟩ := fl4.there
      have S4 := J4.suite he4 hd4 na nL nF
      refine wpAny_mono ((hsu a oe4 cls d (X.pn ++ pins) hz4 ⟨_, hd4⟩).run [] _ _ H' _ S4 (hyes hany a na)) (fun f s6 hsp => ?_) (fun _ _ z => False.elim z)
      cases f with
      | next =>
        obtain ⟨σ6, H6, S6, q6⟩ := hsp
        exact ⟨_, _, S6.unsuite ok, q6⟩
      | brk =>
        obtain ⟨σ6, H6, S6, q6⟩ := hsp
        exact ⟨_, _, S6.unsuite ok, q6⟩
      | cont =>
        obtain ⟨σ6, H6, S6, q6⟩ := hsp
        exact ⟨_, _, S6.unsuite ok, q6⟩
      | ret u =>
        obtain ⟨v6, σ6, H6, S6, r6, q6⟩ := hsp
        exact ⟨_, _, _, S6.unsuite ok, r6, q6⟩
    | false =>
      show wpAny _ X.A (handleBy (.ref a) X.env []) _ _ _
      have w := hno hany
      refine wpAny_handleBy_nil ?_
      obtain ⟨k1, k2, k3, oe, vs, T, oT, ts', he, hz, hd, h1, hr⟩ := id fl5
      unfold PySem.passOn
      refine wpAny_bind (wpAny_field he hd h1 ?_)
      rw [if_neg (show ¬ ((Value.ref T == Value.none) = true) from by simp)]
      have fin : wpAny (model X.prog X.w) X.A (setFlight (.ref a) X.env.frame) (fun _ s4 => wpAny (model X.prog X.w) X.A (throw (.ref a) : Sem Flow) (SP X pins D) X.xe s4) X.xe { s' with heap := h3.push { cls := .type "tuple", data := .seq cs.toArray } } := by
        rw [hf]
        refine HandSPX.setFlight_upZ fl5 fun h4 hh4 up4 => wpAny_throw (tk _ _ ?_)
        exact ⟨a, B, sI, pins, σ', H', cls, d, rfl, J, nb, up5.trans up4, .inr (.inr (by rw [hs]; exact hh4)), na, os, ag, w⟩
      first
        | exact wpAny_bind (wpAny_pure (wpAny_bind fin))
        | exact wpAny_bind fin
  · cases f with
    | next =>
      obtain ⟨σ', H', J', q⟩ := hsp
      exact wpAny_execs_nil ⟨σ', H', J'.ofTry ok, q⟩
    | brk =>
      obtain ⟨σ', H', J', q⟩ := hsp
      exact ⟨σ', H', J'.ofTry ok, q⟩
    | cont =>
      obtain ⟨σ', H', J', q⟩ := hsp
      exact ⟨σ', H', J'.ofTry ok, q⟩
    | ret u =>
      obtain ⟨v, σ', H', J', r, q⟩ := hsp
      exact ⟨v, σ', H', J'.ofTry ok, r, q⟩
end
section
variable {T : Ctx} {S : Type} {SR : SRel S} {W : WX} {X : Cx} {pos : Pos}
def sTryT (ns cs : List Str) (g h : KB.Env → S → RS S) : KB.Env → S → RS S := fun env s => match g env s with
  | .exc e env' s' => if e.c ∈ ns then (h env' s').noX else if e.c ∈ cs then .exc e env' s' else .bad
  | r => r
theorem ds_tryT {es : List Expr} {ns cs : List Str} {k : Nat} {b₀ : Stmt} {body suite : List Stmt} {tp pos' : Pos} {g h : KB.Env → S → RS S} (hs : X.stack = X.env :: X.outer) (hf : X.env.frame = some X.env.locals) (tk : Takes X W)
    (hc : NamesL X es (ns.map fun n => .ref (T.cl n))) (hl : ns.length ≤ 1000)
    (hx : ∀ n ∈ ns ++ cs, ∀ m ∈ ns, PySem.W.exmOne X.K (.ref (T.cl n)) (.ref (T.cl m)) = some (decide (n = m)))
    (hb : ∀ (W : WX) (pn : List (Addr × Obj)) (xe : Value → Shared → Prop), Takes (X.tr pn xe) W → PassesOwn (model X.prog X.w) X.A X.env xe → DB T SR W (X.tr pn xe) body g)
    (hsu : ∀ (a : Addr) (pn : List (Addr × Obj)), DB T SR WX0 (X.suite a pn) (b₀ :: suite) h) : DS T SR W X (.Try body [.ExceptHandler (some (.Tuple es k tp)) none (b₀ :: suite) pos'] [] [] pos) (sTryT ns cs g h) := by
  refine PS.imp (ps_try_tup (tb := fun W => tS T SR W g) (ts := fun _ _ _ => tS T SR WX0 h) hs hf tk hb hc (by rw [List.length_map]; exact hl) fun a oe cls d pn _ _ => hsu a _) fun Dn σ H ⟨c0, H0, c, env, s, x, po⟩ => ⟨c0, H0, c, env, s, x, ?_⟩
  unfold sTryT at po
  cases q : g env s with
  | nx env' s' =>
    rw [q] at po
    exact po
  | rt r s' =>
    rw [q] at po
    exact po
  | bk env' s' =>
    rw [q] at po
    exact po
  | ct env' s' =>
    rw [q] at po
    exact po
  | bad =>
    rw [q] at po
    exact po
  | exc e env' s' =>
    rw [q] at po
    intro cls dd σ' c' H' gx x' rx
    have hcls := rx.1
    have hm : e.c ∈ ns ++ cs := by
      by_cases h1 : e.c ∈ ns
      · exact List.mem_append_left _ h1
      · by_cases h2 : e.c ∈ cs
        · exact List.mem_append_right _ h2
        · simp only [if_neg h1, if_neg h2] at po
          exact po.elim
    have hbv : ∀ m ∈ ns, PySem.W.exmOne X.K cls (.ref (T.cl m)) = some (decide (e.c = m)) := fun m hm' => by
      rw [hcls]
      exact hx _ hm m hm'
    have hany : ((ns.map fun n => Value.ref (T.cl n)).any fun v => (PySem.W.exmOne X.K cls v).getD false) = decide (e.c ∈ ns) := by
      rw [List.any_map]
      have : ∀ m ∈ ns, ((fun v => (PySem.W.exmOne X.K cls v).getD false) ∘ fun n => Value.ref (T.cl n)) m = decide (e.c = m) := fun m hm' => by
        show (PySem.W.exmOne X.K cls (.ref (T.cl m))).getD false = _
        rw [hbv m hm']
        rfl
      by_cases h1 : e.c ∈ ns
      · rw [decide_eq_true h1, List.any_eq_true]
        exact ⟨e.c, h1, by rw [this _ h1]; exact decide_eq_true rfl⟩
      · rw [decide_eq_false h1, List.any_eq_false]
        intro m hm'
        rw [this m hm', decide_eq_true_iff]
        intro z
        exact h1 (z ▸ hm')
    refine ⟨fun v => (PySem.W.exmOne X.K cls v).getD false, fun v hv => ?_, fun hh a ha => ?_, fun hh => ?_⟩
    · obtain ⟨m, hm', rfl⟩ := List.mem_map.mp hv
      show _ = some ((PySem.W.exmOne X.K cls (.ref (T.cl m))).getD false)
      rw [hbv m hm']
      rfl
    · rw [hany] at hh
      simp only [if_pos (of_decide_eq_true hh)] at po
      exact ⟨c0, H0, c', env', s', x', PoS.step (PoS.noX po) gx⟩
    · rw [hany] at hh
      have hn := of_decide_eq_false hh
      simp only [if_neg hn] at po
      by_cases h2 : e.c ∈ cs
      · simp only [if_pos h2] at po
        exact po _ _ _ _ _ gx x' rx
      · simp only [if_neg h2] at po
        exact po.elim
end
end
end KB
set_option Elab.async false
set_option linter.all false
set_option maxRecDepth 100000
set_option maxHeartbeats 4000000
/-! KH: the head in one kernel run, the written part told as k_head tells it -/
namespace KB
open PySem PySem.W PySem.Calls PyProof.Rows
def obK (as : List Addr) (s : SharedT) : List (Option Obj) := as.map (HandSHeadRun.getT s)
theorem obK_eq (as : List Addr) (s : SharedT) : obK as s = as.map s.abs.heap.get? := List.map_congr_left fun a _ => HandSHeadRun.getT_eq s a
theorem head_k {r : OpenRow} {H : Hook} {K : Params → Frag} {as : List Addr} {e' : ∀ P, as = (K P).map (·.1)} (hH : H = kHook K as e') (q : Program) (M : Nat) (loose : List PySem.Str) (d : DefRec)
    (e : opening r.prog = plainProg r.prog.main.scope.names) (f : ∀ s, fenceModules? r.prog s = some s) (run : ∀ w, HandSHeadRun.RunEq r q (kHook K as e') (obK as) M loose w)
    (hdef : defOf q r.name = some (d, [])) (hp : r.prog.theDef r.name = some (d.params, d.body, d.scope)) (hk : kwWritten? d.params.kwonlyargs d.params.kw_defaults = some [])
    (hwr : (!r.writes || r.records.isEmpty) = true) (k1 : r.wellSaid = true) (ok : (chainsOk q && opensWell r.prog && (frees r.toRowW && r.within.isEmpty)) = true) (hb : r.prog.bare) (hw : r.toRowW.promised)
    (call : WalkO q loose (XL q []) H.says r.toRowW d [] fun f vs => PySem.call f vs) : r.Holds := by
  subst hH
  exact HandSHeadRun.head_any (H := kHook K as e') (ob := obK as) (obK_eq as) e f run hdef hp hk hwr k1 ok hb hw call
end KB
set_option Elab.async false
set_option linter.all false
set_option maxRecDepth 100000
set_option maxHeartbeats 1000000
namespace KB
open PySem PySem.Spec PyProof.Rows L2
def top (i : Nat) : Stmt := PySem.Challenge.pw_knotbands_k58_any_line.main.body.getD i (.Pass ⟨0, 0, 0, 0⟩)
def ctop (i j : Nat) : Stmt := match top i with
  | .ClassDef _ _ _ b _ _ _ _ _ _ _ => b.getD j (.Pass ⟨0, 0, 0, 0⟩)
  | s => s
abbrev s_is_whole : Stmt := top 14
abbrev s_need_strings : Stmt := top 16
abbrev s_places_in : Stmt := top 17
abbrev s_many_in : Stmt := top 18
abbrev s_is_text : Stmt := top 19
abbrev s_is_colouring : Stmt := top 20
abbrev s_colouring_of : Stmt := top 21
abbrev s_row_fault : Stmt := top 22
abbrev s_knotted : Stmt := top 23
abbrev s_seen_in : Stmt := top 24
abbrev s_seen_through : Stmt := top 25
abbrev s_Pattern_ddinitdd : Stmt := ctop 26 0
abbrev s_Pattern_strings : Stmt := ctop 26 1
abbrev s_Pattern_order : Stmt := ctop 26 3
abbrev s_Pattern_seen : Stmt := ctop 26 4
abbrev s_Pattern_is_even : Stmt := ctop 26 5
abbrev s_Pattern_ddlendd : Stmt := ctop 26 8
abbrev s_need_pattern : Stmt := top 28
abbrev s_picture_of : Stmt := top 31
abbrev s_need_few : Stmt := top 32
abbrev s_need_all : Stmt := top 33
abbrev s_can_be_made : Stmt := top 38
abbrev s_check_motif : Stmt := top 40
abbrev s_need_motif : Stmt := top 41
abbrev s_most_rows : Stmt := top 45
abbrev s_check_loop : Stmt := top 47
abbrev s_need_loop : Stmt := top 48
abbrev s_begun_as : Stmt := top 49
abbrev s_round_in : Stmt := top 50
abbrev s_round_of : Stmt := top 51
abbrev s_seen_round : Stmt := top 52
abbrev s_least_shift : Stmt := top 53
abbrev s_period_in : Stmt := top 54
abbrev s_period_by : Stmt := top 55
abbrev s_Band_add_row : Stmt := ctop 59 2
abbrev s_Band_put_in : Stmt := ctop 59 1
abbrev s_Band_ddinitdd : Stmt := ctop 59 0
abbrev s_Band_colouring : Stmt := ctop 59 3
abbrev s_Band_rows : Stmt := ctop 59 4
abbrev s_Band_picture : Stmt := ctop 59 6
abbrev s_Band_stand : Stmt := ctop 59 7
abbrev s_Band_uses : Stmt := ctop 59 8
abbrev s_Band_ddcalldd : Stmt := ctop 59 9
abbrev s_Band_back : Stmt := ctop 59 13
abbrev s_need_plain : Stmt := top 62
abbrev s_spread : Stmt := top 66
abbrev s_number_of : Stmt := top 72
abbrev s_joined : Stmt := top 73
abbrev s_Desk_ddinitdd : Stmt := ctop 74 0
abbrev s_Desk_band : Stmt := ctop 74 1
abbrev s_Desk_pattern : Stmt := ctop 74 2
abbrev s_Desk_knotted : Stmt := ctop 74 3
abbrev s_Desk_taken_back : Stmt := ctop 74 4
abbrev s_Desk_spread_told : Stmt := ctop 74 5
abbrev s_Desk_ever_told : Stmt := ctop 74 6
abbrev s_Desk_made_told : Stmt := ctop 74 7
abbrev s_Desk_alone : Stmt := ctop 74 8
abbrev s_Desk_answered : Stmt := ctop 74 9
abbrev s_Desk_say : Stmt := ctop 74 10
abbrev s_law_begun : Stmt := top 76
abbrev s_law_next : Stmt := top 77
abbrev s_law_is_refused : Stmt := top 78
abbrev s_law_no_right : Stmt := top 79
abbrev s_law_drawn_text : Stmt := top 80
abbrev s_law : Stmt := top 81
structure Tx (P : Program) (w : World) (K : PySem.W.Frag) (mg : Str → Option Value) (cl : Str → Addr) : Prop where
  b_all : mg "all" = none
  b_bool : mg "bool" = none
  b_enumerate : mg "enumerate" = none
  b_int : mg "int" = none
  b_isinstance : mg "isinstance" = none
  b_len : mg "len" = none
  b_list : mg "list" = none
  b_min : mg "min" = none
  b_range : mg "range" = none
  b_str : mg "str" = none
  b_sum : mg "sum" = none
  b_tuple : mg "tuple" = none
  b_zip : mg "zip" = none
  k_MOST_STRINGS : ∃ t, mg "MOST_STRINGS" = some (.int 8 t)
  k_MOST_ROWS : ∃ t, mg "MOST_ROWS" = some (.int 40 t)
  k_KNOTS : ∃ t, mg "KNOTS" = some (.str (sOf [76, 82, 108, 114]) t)
  k_LETTERS : ∃ t, mg "LETTERS" = some (.str (sOf [97, 98, 99, 100, 101, 102, 103, 104, 105, 106, 107, 108, 109, 110, 111, 112, 113, 114, 115, 116, 117, 118, 119, 120, 121, 122]) t)
  k_MOST_FEW : ∃ t, mg "MOST_FEW" = some (.int 6 t)
  k_MORE : ∃ t, mg "MORE" = some (.int 3 t)
  k_MOST_BAND : ∃ t, mg "MOST_BAND" = some (.int 400 t)
  k_FIRST : ∃ t, mg "FIRST" = some (.str (sOf [97]) t)
  k_BARE : ∃ t, mg "BARE" = some (.str (sOf [45]) t)
  k_NO : ∃ t, mg "NO" = some (.str (sOf [110, 111]) t)
  k_DONE : ∃ t, mg "DONE" = some (.str (sOf [100, 111, 110, 101]) t)
  k_NONE : ∃ t, mg "NONE" = some (.str (sOf [110, 111, 110, 101]) t)
  x_BadStrings : XTxt P K mg "ValueError" "ValueError.__new__" "ValueError.__init__" [.type "ValueError", .type "Exception", .type "BaseException", .type "object"] "BadStrings" "value" (cl "BadStrings")
  x_BadPattern : XTxt P K mg "ValueError" "ValueError.__new__" "ValueError.__init__" [.type "ValueError", .type "Exception", .type "BaseException", .type "object"] "BadPattern" "place" (cl "BadPattern")
  x_BadColouring : XTxt P K mg "ValueError" "ValueError.__new__" "ValueError.__init__" [.type "ValueError", .type "Exception", .type "BaseException", .type "object"] "BadColouring" "value" (cl "BadColouring")
  x_BadPicture : XTxt P K mg "ValueError" "ValueError.__new__" "ValueError.__init__" [.type "ValueError", .type "Exception", .type "BaseException", .type "object"] "BadPicture" "place" (cl "BadPicture")
  x_OutOfPlace : XTxt P K mg "ValueError" "ValueError.__new__" "ValueError.__init__" [.type "ValueError", .type "Exception", .type "BaseException", .type "object"] "OutOfPlace" "text" (cl "OutOfPlace")
  x_TooGreat : XTxt P K mg "OverflowError" "OverflowError.__new__" "OverflowError.__init__" [.type "OverflowError", .type "ArithmeticError", .type "Exception", .type "BaseException", .type "object"] "TooGreat" "most" (cl "TooGreat")
  x_Nothing : XTxt P K mg "LookupError" "LookupError.__new__" "LookupError.__init__" [.type "LookupError", .type "Exception", .type "BaseException", .type "object"] "Nothing" "text" (cl "Nothing")
  c_Pattern : ClsTx K (cl "Pattern")
  g_Pattern : mg "Pattern" = some (.ref (cl "Pattern"))
  sf_Pattern : PySem.W.selfFirst K (cl "Pattern") = true
  ne_Pattern : PySem.W.findIn K (.ref (cl "Pattern")) "__ne__" = some (some (.builtin "object.__ne__"))
  rm_Pattern : PySem.W.findIn K (.ref (cl "Pattern")) "__rmul__" = some none
  is_Pattern : ∀ t ∈ ["NoneType", "bool", "int", "str", "list", "tuple", "dict"], PySem.W.kitOne K (.type t) (.ref (cl "Pattern")) = some false
  nf_Pattern_own_strings : NoAttr K (cl "Pattern") "own_strings"
  nf_Pattern_own_rows : NoAttr K (cl "Pattern") "own_rows"
  c_Band : ClsTx K (cl "Band")
  g_Band : mg "Band" = some (.ref (cl "Band"))
  ne_Band : PySem.W.findIn K (.ref (cl "Band")) "__ne__" = some (some (.builtin "object.__ne__"))
  is_Band : ∀ t ∈ ["NoneType", "bool", "int", "str", "list", "tuple", "dict"], PySem.W.kitOne K (.type t) (.ref (cl "Band")) = some false
  nf_Band_own_colouring : NoAttr K (cl "Band") "own_colouring"
  nf_Band_own_rows : NoAttr K (cl "Band") "own_rows"
  nf_Band_own_order : NoAttr K (cl "Band") "own_order"
  nf_Band_own_seen : NoAttr K (cl "Band") "own_seen"
  c_Desk : ClsTx K (cl "Desk")
  g_Desk : mg "Desk" = some (.ref (cl "Desk"))
  ne_Desk : PySem.W.findIn K (.ref (cl "Desk")) "__ne__" = some (some (.builtin "object.__ne__"))
  is_Desk : ∀ t ∈ ["NoneType", "bool", "int", "str", "list", "tuple", "dict"], PySem.W.kitOne K (.type t) (.ref (cl "Desk")) = some false
  nf_Desk_own : NoAttr K (cl "Desk") "own"
  ex_OutOfPlace : ∀ n ∈ ("OutOfPlace" : Str) :: [], PySem.W.exmOne K (.ref (cl n)) (.ref (cl "OutOfPlace")) = some (decide (n = "OutOfPlace"))
  et_Desk_say : ∀ n ∈ ((["BadColouring", "BadPattern", "BadPicture", "BadStrings", "Nothing", "OutOfPlace", "TooGreat"] : List Str) ++ ([] : List Str)), ∀ m ∈ (["BadColouring", "BadPattern", "BadPicture", "BadStrings", "Nothing", "OutOfPlace", "TooGreat"] : List Str), PySem.W.exmOne K (.ref (cl n)) (.ref (cl m)) = some (decide (n = m))
def g_is_whole : KB.Env → BS → RS BS :=
    (sSeq (sIf (bOr (bNot (tTru (eCl isiD (aCons (eVar 0) (aCons (eC (.ty "int")) aNil))))) (bOr (tTru (eCl isiD (aCons (eVar 0) (aCons (eC (.ty "bool")) aNil)))) (tBl (eOp2 ltD (eVar 0) (eVar 1)))))
    (sRet (eC (.bl false)))
    sNil)
    (sRet (eOr (eOp2 isD (eVar 2) (eC .non)) (eOp2 leD (eVar 0) (eVar 2)))))
theorem sc_is_whole : FnScope ["thing", "least", "most"] ["thing", "least", "most"] (defScope s_is_whole) := ⟨rfl, rfl, rfl, by decide +kernel, rfl, by decide +kernel, by decide +kernel⟩
theorem ok_is_whole {P : Program} {w : World} {K : PySem.W.Frag} {mg : Str → Option Value} {cl : Str → Addr} {ts : Addr → Option Str} {base : Heap} {f : Addr} {fd : FuncData} (F : Fun K "is_whole" "is_whole" s_is_whole f fd) (tx : Tx P w K mg cl) :
    FnG false P w K mg base 1 f fd ["thing", "least", "most"] (spD ⟨K, cl⟩ (SRB ⟨K, cl⟩ ts) 3 (semOf 3 g_is_whole)) := by
  refine okDef (T := ⟨K, cl⟩) (SR := SRB ⟨K, cl⟩ ts) (k := 0) (gb := g_is_whole) F sc_is_whole rfl rfl fun cdv A out s H E hr hg => ?_
  exact (db_cons (ds_if (dt_w (dt_or (dt_not (dt_tru rfl (deB (cl_isi rfl) tx.b_isinstance bt_isinstance (da_cons (dv 0) (da_cons (de_ty tx.b_int bt_int) da_nil))))) (dt_or (dt_tru rfl (deB (cl_isi rfl) tx.b_isinstance bt_isinstance (da_cons (dv 0) (da_cons (de_ty tx.b_bool bt_bool) da_nil)))) (dw_or1 (dt_cmp op_ltD (dv 0) (dv 1) (nomark _))))))
    (db_one (ds_ret de_bl))
    db_nil)
    (db_one (ds_ret (de_or (de_cmp op_isD (dv 2) de_non (nomark _)) (de_one (de_cmp op_leD (dv 0) (dv 2) (nomark _)))))))
def g_need_strings : KB.Env → BS → RS BS :=
    (sIf (bNot (tTru (eCall (semOf 3 g_is_whole) (aCons (eVar 0) (aCons (eC (.int 2)) (aCons (eC (.int 8)) aNil))))))
    (sRaise "BadStrings" "value" (eVar 0))
    sNil)
theorem sc_need_strings : FnScope ["strings"] ["strings"] (defScope s_need_strings) := ⟨rfl, rfl, rfl, by decide +kernel, rfl, by decide +kernel, by decide +kernel⟩
theorem ok_need_strings {P : Program} {w : World} {K : PySem.W.Frag} {mg : Str → Option Value} {cl : Str → Addr} {ts : Addr → Option Str} {base : Heap} {f : Addr} {fd : FuncData} (F : Fun K "need_strings" "need_strings" s_need_strings f fd) (tx : Tx P w K mg cl)
    (d_is_whole : Dfn false P w K mg base 1 "is_whole" (spD ⟨K, cl⟩ (SRB ⟨K, cl⟩ ts) 3 (semOf 3 g_is_whole))) :
    FnG false P w K mg base 2 f fd ["strings"] (spD ⟨K, cl⟩ (SRB ⟨K, cl⟩ ts) 1 (semOf 1 g_need_strings)) := by
  refine okDef (T := ⟨K, cl⟩) (SR := SRB ⟨K, cl⟩ ts) (k := 1) (gb := g_need_strings) F sc_need_strings rfl rfl fun cdv A out s H E hr hg => ?_
  exact (db_one (ds_if (dt_not (dt_tru rfl (de_call d_is_whole (hr.mono (by decide)) (fun z => nomatch z) rfl (takes_of rfl rfl rfl rfl) (da_cons (dv 0) (da_cons de_int (da_cons (de_cint tx.k_MOST_STRINGS) da_nil))) (nArg_cons (nArg_cons (nArg_cons nArg_nil))))))
    (db_one (ds_raise PySem.F.excBase_ValueError PySem.W.kxs_ValueError PySem.F.store_ValueError tx.x_BadStrings hr rfl (takes_of rfl rfl rfl rfl) rfl (dv 0)))
    db_nil))
def g_places_in : KB.Env → BS → RS BS :=
    (sRetL (fListC (aCons (eOp2 modD (eCl intD (aCons (eVar 1) aNil)) (eC (.int 2))) (aCons (eOp2 subD (eVar 0) (eC (.int 1))) (aCons (eC (.int 2)) aNil)))))
theorem sc_places_in : FnScope ["strings", "row"] ["strings", "row"] (defScope s_places_in) := ⟨rfl, rfl, rfl, by decide +kernel, rfl, by decide +kernel, by decide +kernel⟩
theorem ok_places_in {P : Program} {w : World} {K : PySem.W.Frag} {mg : Str → Option Value} {cl : Str → Addr} {ts : Addr → Option Str} {base : Heap} {f : Addr} {fd : FuncData} (F : Fun K "places_in" "places_in" s_places_in f fd) (tx : Tx P w K mg cl) :
    FnG false P w K mg base 1 f fd ["strings", "row"] (spD ⟨K, cl⟩ (SRB ⟨K, cl⟩ ts) 2 (semOf 2 g_places_in)) := by
  refine okDef (T := ⟨K, cl⟩) (SR := SRB ⟨K, cl⟩ ts) (k := 0) (gb := g_places_in) F sc_places_in rfl rfl fun cdv A out s H E hr hg => ?_
  exact (db_one (ds_retL (df_listC rfl rfl tx.b_list rfl tx.b_range (da_cons (de_bin op_modD (deT cl_int tx.b_int bt_int (da_cons (dv 1) da_nil)) de_int) (da_cons (de_bin op_subD (dv 0) de_int) (da_cons de_int da_nil))))))
def g_many_in : KB.Env → BS → RS BS :=
    (sRet (eCl lenD (aCons (eCall (semOf 2 g_places_in) (aCons (eVar 0) (aCons (eVar 1) aNil))) aNil)))
theorem sc_many_in : FnScope ["strings", "row"] ["strings", "row"] (defScope s_many_in) := ⟨rfl, rfl, rfl, by decide +kernel, rfl, by decide +kernel, by decide +kernel⟩
theorem ok_many_in {P : Program} {w : World} {K : PySem.W.Frag} {mg : Str → Option Value} {cl : Str → Addr} {ts : Addr → Option Str} {base : Heap} {f : Addr} {fd : FuncData} (F : Fun K "many_in" "many_in" s_many_in f fd) (tx : Tx P w K mg cl)
    (d_places_in : Dfn false P w K mg base 1 "places_in" (spD ⟨K, cl⟩ (SRB ⟨K, cl⟩ ts) 2 (semOf 2 g_places_in))) :
    FnG false P w K mg base 2 f fd ["strings", "row"] (spD ⟨K, cl⟩ (SRB ⟨K, cl⟩ ts) 2 (semOf 2 g_many_in)) := by
  refine okDef (T := ⟨K, cl⟩) (SR := SRB ⟨K, cl⟩ ts) (k := 1) (gb := g_many_in) F sc_many_in rfl rfl fun cdv A out s H E hr hg => ?_
  exact (db_one (ds_ret (deB (cl_len rfl) tx.b_len bt_len (da_cons (de_call d_places_in (hr.mono (by decide)) (fun z => nomatch z) rfl (takes_of rfl rfl rfl rfl) (da_cons (dv 0) (da_cons (dv 1) da_nil)) (nArg_cons (nArg_cons nArg_nil))) da_nil))))
def g_is_text : KB.Env → BS → RS BS :=
    (sRet (eAnd (eCl isiD (aCons (eVar 0) (aCons (eC (.ty "str")) aNil))) (eAnd (eOp2 eqD (eCl lenD (aCons (eVar 0) aNil)) (eVar 1)) (eCl allD (aCons (eFz (fComp (iSq (eVar 0)) (pName 3) bYes (eOp2 inD (eVar 3) (eVar 2)) [3])) aNil)))))
theorem sc_is_text : FnScope ["thing", "many", "signs", "sign"] ["thing", "many", "signs"] (defScope s_is_text) := ⟨rfl, rfl, rfl, by decide +kernel, rfl, by decide +kernel, by decide +kernel⟩
theorem ok_is_text {P : Program} {w : World} {K : PySem.W.Frag} {mg : Str → Option Value} {cl : Str → Addr} {ts : Addr → Option Str} {base : Heap} {f : Addr} {fd : FuncData} (F : Fun K "is_text" "is_text" s_is_text f fd) (tx : Tx P w K mg cl) :
    FnG false P w K mg base 1 f fd ["thing", "many", "signs"] (spD ⟨K, cl⟩ (SRB ⟨K, cl⟩ ts) 3 (semOf 4 g_is_text)) := by
  refine okDef (T := ⟨K, cl⟩) (SR := SRB ⟨K, cl⟩ ts) (k := 0) (gb := g_is_text) F sc_is_text rfl rfl fun cdv A out s H E hr hg => ?_
  exact (db_one (ds_ret (de_and (deB (cl_isi rfl) tx.b_isinstance bt_isinstance (da_cons (dv 0) (da_cons (de_ty tx.b_str bt_str) da_nil))) (de_and (de_cmp (op_eqD' rfl hr.units) (deB (cl_len rfl) tx.b_len bt_len (da_cons (dv 0) da_nil)) (dv 1) (nomark _)) (de_one (deB (cl_all rfl rfl) tx.b_all bt_all (da_cons (de_fz (df_lc (own := [("sign", 3)]) (is := [3]) rfl sc_is_text.nd (di_seq rfl (dv 0)) (blkOk_by (by rfl)) (fun _ _ _ _ _ => (dp_name sc_is_text.nd rfl (Or.inl rfl))) (fun _ _ _ _ _ => dts_nil) (fun _ _ _ _ _ => (de_cmp (op_inD' rfl (u65 hr)) (dv 3) (dv 2) (by rfl))) (by decide))) da_nil)))))))
def g_is_colouring : KB.Env → BS → RS BS :=
    (sRet (eCall (semOf 4 g_is_text) (aCons (eVar 1) (aCons (eVar 0) (aCons (eC (.str [97, 98, 99, 100, 101, 102, 103, 104, 105, 106, 107, 108, 109, 110, 111, 112, 113, 114, 115, 116, 117, 118, 119, 120, 121, 122])) aNil)))))
theorem sc_is_colouring : FnScope ["strings", "thing"] ["strings", "thing"] (defScope s_is_colouring) := ⟨rfl, rfl, rfl, by decide +kernel, rfl, by decide +kernel, by decide +kernel⟩
theorem ok_is_colouring {P : Program} {w : World} {K : PySem.W.Frag} {mg : Str → Option Value} {cl : Str → Addr} {ts : Addr → Option Str} {base : Heap} {f : Addr} {fd : FuncData} (F : Fun K "is_colouring" "is_colouring" s_is_colouring f fd) (tx : Tx P w K mg cl)
    (d_is_text : Dfn false P w K mg base 1 "is_text" (spD ⟨K, cl⟩ (SRB ⟨K, cl⟩ ts) 3 (semOf 4 g_is_text))) :
    FnG false P w K mg base 2 f fd ["strings", "thing"] (spD ⟨K, cl⟩ (SRB ⟨K, cl⟩ ts) 2 (semOf 2 g_is_colouring)) := by
  refine okDef (T := ⟨K, cl⟩) (SR := SRB ⟨K, cl⟩ ts) (k := 1) (gb := g_is_colouring) F sc_is_colouring rfl rfl fun cdv A out s H E hr hg => ?_
  exact (db_one (ds_ret (de_call d_is_text (hr.mono (by decide)) (fun z => nomatch z) rfl (takes_of rfl rfl rfl rfl) (da_cons (dv 1) (da_cons (dv 0) (da_cons (de_cstr (l := [97, 98, 99, 100, 101, 102, 103, 104, 105, 106, 107, 108, 109, 110, 111, 112, 113, 114, 115, 116, 117, 118, 119, 120, 121, 122]) tx.k_LETTERS) da_nil))) (nArg_cons (nArg_cons (nArg_cons nArg_nil))))))
def g_colouring_of : KB.Env → BS → RS BS :=
    (sSeq (sIf (bNot (tTru (eCall (semOf 2 g_is_colouring) (aCons (eVar 0) (aCons (eVar 1) aNil)))))
    (sRaise "BadColouring" "value" (eVar 1))
    sNil)
    (sRet (eVar 1)))
theorem sc_colouring_of : FnScope ["strings", "thing"] ["strings", "thing"] (defScope s_colouring_of) := ⟨rfl, rfl, rfl, by decide +kernel, rfl, by decide +kernel, by decide +kernel⟩
theorem ok_colouring_of {P : Program} {w : World} {K : PySem.W.Frag} {mg : Str → Option Value} {cl : Str → Addr} {ts : Addr → Option Str} {base : Heap} {f : Addr} {fd : FuncData} (F : Fun K "colouring_of" "colouring_of" s_colouring_of f fd) (tx : Tx P w K mg cl)
    (d_is_colouring : Dfn false P w K mg base 2 "is_colouring" (spD ⟨K, cl⟩ (SRB ⟨K, cl⟩ ts) 2 (semOf 2 g_is_colouring))) :
    FnG false P w K mg base 3 f fd ["strings", "thing"] (spD ⟨K, cl⟩ (SRB ⟨K, cl⟩ ts) 2 (semOf 2 g_colouring_of)) := by
  refine okDef (T := ⟨K, cl⟩) (SR := SRB ⟨K, cl⟩ ts) (k := 2) (gb := g_colouring_of) F sc_colouring_of rfl rfl fun cdv A out s H E hr hg => ?_
  exact (db_cons (ds_if (dt_not (dt_tru rfl (de_call d_is_colouring (hr.mono (by decide)) (fun z => nomatch z) rfl (takes_of rfl rfl rfl rfl) (da_cons (dv 0) (da_cons (dv 1) da_nil)) (nArg_cons (nArg_cons nArg_nil)))))
    (db_one (ds_raise PySem.F.excBase_ValueError PySem.W.kxs_ValueError PySem.F.store_ValueError tx.x_BadColouring hr rfl (takes_of rfl rfl rfl rfl) rfl (dv 1)))
    db_nil)
    (db_one (ds_ret (dv 1))))
def g_row_fault : KB.Env → BS → RS BS :=
    (sSeq (sIf (bOr (bNot (tTru (eCl isiD (aCons (eVar 2) (aCons (eC (.ty "str")) aNil))))) (tBl (eOp2 neD (eCl lenD (aCons (eVar 2) aNil)) (eCall (semOf 2 g_many_in) (aCons (eVar 0) (aCons (eVar 1) aNil))))))
    (sRet (eTup (aCons (eVar 1) aNil)))
    sNil)
    (sSeq (sSet 3 (eFz (fComp (iEn (aCons (eVar 2) aNil)) (pTup 2 (psCons (pName 4) (psCons (pName 5) psNil))) (tBl (eOp2 ninD (eVar 5) (eC (.str [76, 82, 108, 114])))) (eVar 4) [4, 5])))
    (sRet (eIf (tBl (eOp2 neD (eVar 3) (eFz (fLst aNil)))) (eTup (aCons (eVar 1) (aCons (eOp2 ixD (eVar 3) (eC (.int 0))) aNil))) (eC .non)))))
theorem sc_row_fault : FnScope ["strings", "number", "thing", "wrong", "at", "sign"] ["strings", "number", "thing"] (defScope s_row_fault) := ⟨rfl, rfl, rfl, by decide +kernel, rfl, by decide +kernel, by decide +kernel⟩
theorem ok_row_fault {P : Program} {w : World} {K : PySem.W.Frag} {mg : Str → Option Value} {cl : Str → Addr} {ts : Addr → Option Str} {base : Heap} {f : Addr} {fd : FuncData} (F : Fun K "row_fault" "row_fault" s_row_fault f fd) (tx : Tx P w K mg cl)
    (d_many_in : Dfn false P w K mg base 2 "many_in" (spD ⟨K, cl⟩ (SRB ⟨K, cl⟩ ts) 2 (semOf 2 g_many_in))) :
    FnG false P w K mg base 3 f fd ["strings", "number", "thing"] (spD ⟨K, cl⟩ (SRB ⟨K, cl⟩ ts) 3 (semOf 6 g_row_fault)) := by
  refine okDef (T := ⟨K, cl⟩) (SR := SRB ⟨K, cl⟩ ts) (k := 2) (gb := g_row_fault) F sc_row_fault rfl rfl fun cdv A out s H E hr hg => ?_
  exact (db_cons (ds_if (dt_w (dt_or (dt_not (dt_tru rfl (deB (cl_isi rfl) tx.b_isinstance bt_isinstance (da_cons (dv 2) (da_cons (de_ty tx.b_str bt_str) da_nil))))) (dw_or1 (dt_cmp (op_neD' rfl hr.units) (deB (cl_len rfl) tx.b_len bt_len (da_cons (dv 2) da_nil)) (de_call d_many_in (hr.mono (by decide)) (fun z => nomatch z) rfl (takes_of rfl rfl rfl rfl) (da_cons (dv 0) (da_cons (dv 1) da_nil)) (nArg_cons (nArg_cons nArg_nil))) (nomark _)))))
    (db_one (ds_ret (de_tup (da_cons (dv 1) da_nil))))
    db_nil)
    (db_cons (ds_setLc (own := [("at", 4), ("sign", 5)]) (is := [4, 5]) rfl sc_row_fault.nd (i := 3) rfl rfl (by rfl) (di_en rfl rfl tx.b_enumerate (da_cons (dv 2) da_nil)) (blkOk_by (by rfl)) (fun _ _ _ _ _ => (dp_tup rfl rfl (dps_cons (dp_name sc_row_fault.nd rfl (Or.inl rfl)) (dps_cons (dp_name sc_row_fault.nd rfl (Or.inl rfl)) dps_nil)))) (fun _ _ _ _ _ => (dts_one (dt_cmp (op_ninD' rfl (u65 hr)) (dv 5) (de_cstr (l := [76, 82, 108, 114]) tx.k_KNOTS) (by rfl)))) (fun _ _ _ _ _ => (dv 4)) (by decide))
    (db_one (ds_ret (de_if (dt_cmp (op_neD' rfl hr.units) (dv 3) (de_fz (df_lst da_nil)) (nomark _)) (de_tup (da_cons (dv 1) (da_cons (de_ix (ix_D rfl) (dv 3) de_int) da_nil))) de_non)))))
def g_knotted_b1 : KB.Env → BS → RS BS :=
    (sIf (tBl (eOp2 inD (eVar 5) (eC (.str [82, 76]))))
    (sPut2 3 (eVar 4) (eOp2 addD (eVar 4) (eC (.int 1))) (eBor 3 (eTup (aCons (eOp2 ixD (eVar 3) (eOp2 addD (eVar 4) (eC (.int 1)))) (aCons (eOp2 ixD (eVar 3) (eVar 4)) aNil)))))
    sNil)
def g_knotted : KB.Env → BS → RS BS :=
    (sSeq (sSetL 3 (fList (eVar 2)))
    (sSeq (sFor (iZp (aCons (eCall (semOf 2 g_places_in) (aCons (eCl lenD (aCons (eVar 2) aNil)) (aCons (eVar 1) aNil))) (aCons (eVar 0) aNil))) (pTup 2 (psCons (pName 4) (psCons (pName 5) psNil))) g_knotted_b1)
    (sRet (eBor 3 (eCl tupleD (aCons (eVar 3) aNil))))))
theorem sc_knotted : FnScope ["row", "number", "things", "found", "place", "knot"] ["row", "number", "things"] (defScope s_knotted) := ⟨rfl, rfl, rfl, by decide +kernel, rfl, by decide +kernel, by decide +kernel⟩
theorem ok_knotted {P : Program} {w : World} {K : PySem.W.Frag} {mg : Str → Option Value} {cl : Str → Addr} {ts : Addr → Option Str} {base : Heap} {f : Addr} {fd : FuncData} (F : Fun K "knotted" "knotted" s_knotted f fd) (tx : Tx P w K mg cl)
    (d_places_in : Dfn false P w K mg base 1 "places_in" (spD ⟨K, cl⟩ (SRB ⟨K, cl⟩ ts) 2 (semOf 2 g_places_in))) :
    FnG false P w K mg base 2 f fd ["row", "number", "things"] (spD ⟨K, cl⟩ (SRB ⟨K, cl⟩ ts) 3 (semOf 6 g_knotted)) := by
  refine okDef (T := ⟨K, cl⟩) (SR := SRB ⟨K, cl⟩ ts) (k := 1) (gb := g_knotted) F sc_knotted rfl rfl fun cdv A out s H E hr hg => ?_
  exact (db_cons (ds_setL sc_knotted.nd rfl (Or.inl rfl) (df_list rfl rfl tx.b_list (dv 2)))
    (db_cons (ds_for (is := [4, 5]) (passes_of rfl) rfl (di_zp rfl rfl tx.b_zip (da_cons (de_call d_places_in (hr.mono (by decide)) (fun z => nomatch z) rfl (takes_of rfl rfl rfl rfl) (da_cons (deB (cl_len rfl) tx.b_len bt_len (da_cons (dv 2) da_nil)) (da_cons (dv 1) da_nil)) (nArg_cons (nArg_cons nArg_nil))) (da_cons (dv 0) da_nil))) (dp_tup rfl rfl (dps_cons (dp_name sc_knotted.nd rfl (Or.inl rfl)) (dps_cons (dp_name sc_knotted.nd rfl (Or.inl rfl)) dps_nil)))
    (db_one (ds_if (dt_cmp (op_inD' rfl (u65 hr)) (dv 5) (de_str (l := [82, 76]) (by rfl)) (by rfl))
    (db_one (ds_put2 (i := 3) rfl rfl rfl (Or.inl rfl) (dv 4) (de_bin (op_addD rfl) (dv 4) de_int) (de_bor (i := 3) (de_tup (da_cons (de_ix (ix_D rfl) (dv 3) (de_bin (op_addD rfl) (dv 4) de_int)) (da_cons (de_ix (ix_D rfl) (dv 3) (dv 4)) da_nil))))))
    db_nil)))
    (db_one (ds_ret (de_bor (i := 3) (deT (cl_tuple rfl) tx.b_tuple bt_tuple (da_cons (dv 3) da_nil)))))))
def g_seen_in : KB.Env → BS → RS BS :=
    (sSeq (sSet 3 (eCall (semOf 2 g_places_in) (aCons (eCl lenD (aCons (eVar 2) aNil)) (aCons (eVar 1) aNil))))
    (sRet (eCl tupleD (aCons (eFz (fComp (iZp (aCons (eVar 3) (aCons (eVar 0) aNil))) (pTup 2 (psCons (pName 4) (psCons (pName 5) psNil))) bYes (eOp2 ixD (eVar 2) (eOp2 addD (eVar 4) (eCl intD (aCons (eOp2 inD (eVar 5) (eC (.str [76, 108]))) aNil)))) [4, 5])) aNil))))
theorem sc_seen_in : FnScope ["row", "number", "things", "places", "place", "knot"] ["row", "number", "things"] (defScope s_seen_in) := ⟨rfl, rfl, rfl, by decide +kernel, rfl, by decide +kernel, by decide +kernel⟩
theorem ok_seen_in {P : Program} {w : World} {K : PySem.W.Frag} {mg : Str → Option Value} {cl : Str → Addr} {ts : Addr → Option Str} {base : Heap} {f : Addr} {fd : FuncData} (F : Fun K "seen_in" "seen_in" s_seen_in f fd) (tx : Tx P w K mg cl)
    (d_places_in : Dfn false P w K mg base 1 "places_in" (spD ⟨K, cl⟩ (SRB ⟨K, cl⟩ ts) 2 (semOf 2 g_places_in))) :
    FnG false P w K mg base 2 f fd ["row", "number", "things"] (spD ⟨K, cl⟩ (SRB ⟨K, cl⟩ ts) 3 (semOf 6 g_seen_in)) := by
  refine okDef (T := ⟨K, cl⟩) (SR := SRB ⟨K, cl⟩ ts) (k := 1) (gb := g_seen_in) F sc_seen_in rfl rfl fun cdv A out s H E hr hg => ?_
  exact (db_cons (ds_set sc_seen_in.nd rfl (Or.inl rfl) (de_call d_places_in (hr.mono (by decide)) (fun z => nomatch z) rfl (takes_of rfl rfl rfl rfl) (da_cons (deB (cl_len rfl) tx.b_len bt_len (da_cons (dv 2) da_nil)) (da_cons (dv 1) da_nil)) (nArg_cons (nArg_cons nArg_nil))))
    (db_one (ds_ret (deT (cl_tuple rfl) tx.b_tuple bt_tuple (da_cons (de_fz (df_lc (own := [("place", 4), ("knot", 5)]) (is := [4, 5]) rfl sc_seen_in.nd (di_zp rfl rfl tx.b_zip (da_cons (dv 3) (da_cons (dv 0) da_nil))) (blkOk_by (by rfl)) (fun _ _ _ _ _ => (dp_tup rfl rfl (dps_cons (dp_name sc_seen_in.nd rfl (Or.inl rfl)) (dps_cons (dp_name sc_seen_in.nd rfl (Or.inl rfl)) dps_nil)))) (fun _ _ _ _ _ => dts_nil) (fun _ _ _ _ _ => (de_ix (ix_D rfl) (dv 2) (de_bin (op_addD rfl) (dv 4) (deT cl_int tx.b_int bt_int (da_cons (de_cmp (op_inD' rfl (u65 hr)) (dv 5) (de_str (l := [76, 108]) (by rfl)) (by rfl)) da_nil))))) (by decide))) da_nil)))))
def g_seen_through_b1 : KB.Env → BS → RS BS :=
    (sSeq (sSet 3 (eOp2 addD (eVar 3) (eTup (aCons (eCall (semOf 6 g_seen_in) (aCons (eVar 5) (aCons (eVar 4) (aCons (eVar 2) aNil)))) aNil))))
    (sSet 2 (eCall (semOf 6 g_knotted) (aCons (eVar 5) (aCons (eVar 4) (aCons (eVar 2) aNil))))))
def g_seen_through : KB.Env → BS → RS BS :=
    (sSeq (sPar [2, 3] (zD (eVar 1) (zD (eTup aNil) zNil)))
    (sSeq (sFor (iEn (aCons (eVar 0) aNil)) (pTup 2 (psCons (pName 4) (psCons (pName 5) psNil))) g_seen_through_b1)
    (sRet (eVar 3))))
theorem sc_seen_through : FnScope ["rows", "things", "here", "found", "number", "row"] ["rows", "things"] (defScope s_seen_through) := ⟨rfl, rfl, rfl, by decide +kernel, rfl, by decide +kernel, by decide +kernel⟩
theorem ok_seen_through {P : Program} {w : World} {K : PySem.W.Frag} {mg : Str → Option Value} {cl : Str → Addr} {ts : Addr → Option Str} {base : Heap} {f : Addr} {fd : FuncData} (F : Fun K "seen_through" "seen_through" s_seen_through f fd) (tx : Tx P w K mg cl)
    (d_knotted : Dfn false P w K mg base 2 "knotted" (spD ⟨K, cl⟩ (SRB ⟨K, cl⟩ ts) 3 (semOf 6 g_knotted)))
    (d_seen_in : Dfn false P w K mg base 2 "seen_in" (spD ⟨K, cl⟩ (SRB ⟨K, cl⟩ ts) 3 (semOf 6 g_seen_in))) :
    FnG false P w K mg base 3 f fd ["rows", "things"] (spD ⟨K, cl⟩ (SRB ⟨K, cl⟩ ts) 2 (semOf 6 g_seen_through)) := by
  refine okDef (T := ⟨K, cl⟩) (SR := SRB ⟨K, cl⟩ ts) (k := 2) (gb := g_seen_through) F sc_seen_through rfl rfl fun cdv A out s H E hr hg => ?_
  exact (db_cons (ds_par2 rfl sc_seen_through.nd (i := 2) (j := 3) rfl rfl (by decide) rfl rfl (dz_d (dv 1) (dz_d (de_tup da_nil) dz_nil)) (by rfl))
    (db_cons (ds_for (is := [4, 5]) (passes_of rfl) rfl (di_en rfl rfl tx.b_enumerate (da_cons (dv 0) da_nil)) (dp_tup rfl rfl (dps_cons (dp_name sc_seen_through.nd rfl (Or.inl rfl)) (dps_cons (dp_name sc_seen_through.nd rfl (Or.inl rfl)) dps_nil)))
    (db_cons (ds_set sc_seen_through.nd rfl (Or.inl rfl) (de_bin (op_addD rfl) (dv 3) (de_tup (da_cons (de_call d_seen_in (hr.mono (by decide)) (fun z => nomatch z) rfl (takes_of rfl rfl rfl rfl) (da_cons (dv 5) (da_cons (dv 4) (da_cons (dv 2) da_nil))) (nArg_cons (nArg_cons (nArg_cons nArg_nil)))) da_nil))))
    (db_one (ds_set sc_seen_through.nd rfl (Or.inl rfl) (de_call d_knotted (hr.mono (by decide)) (fun z => nomatch z) rfl (takes_of rfl rfl rfl rfl) (da_cons (dv 5) (da_cons (dv 4) (da_cons (dv 2) da_nil))) (nArg_cons (nArg_cons (nArg_cons nArg_nil))))))))
    (db_one (ds_ret (dv 3)))))
def g_Pattern_ddinitdd_b1 : KB.Env → BS → RS BS :=
    (sSeq (sSet 5 (eCall (semOf 6 g_row_fault) (aCons (eVar 1) (aCons (eVar 3) (aCons (eVar 4) aNil)))))
    (sIf (tBl (eOp2 nisD (eVar 5) (eC .non)))
    (sRaise "BadPattern" "place" (eVar 5))
    sNil))
def g_Pattern_ddinitdd : KB.Env → BS → RS BS :=
    (sSeq (sDrop (eCall (semOf 1 g_need_strings) (aCons (eVar 1) aNil)))
    (sSeq (sIf (bOr (bNot (tTru (eCl isiD (aCons (eVar 2) (aCons (eC (.ty "tuple")) aNil))))) (tBl (eOp2 gtD (eCl lenD (aCons (eVar 2) aNil)) (eC (.int 40)))))
    (sRaise "BadPattern" "place" (eTup aNil))
    sNil)
    (sSeq (sFor (iEn (aCons (eVar 2) aNil)) (pTup 2 (psCons (pName 3) (psCons (pName 4) psNil))) g_Pattern_ddinitdd_b1)
    (sSeq (sFldO "Pattern" "own_strings" 0 (eVar 1))
    (sFldO "Pattern" "own_rows" 0 (eVar 2))))))
theorem sc_Pattern_ddinitdd : FnScope ["self", "strings", "rows", "number", "row", "place"] ["self", "strings", "rows"] (defScope s_Pattern_ddinitdd) := ⟨rfl, rfl, rfl, by decide +kernel, rfl, by decide +kernel, by decide +kernel⟩
theorem ok_Pattern_ddinitdd {P : Program} {w : World} {K : PySem.W.Frag} {mg : Str → Option Value} {cl : Str → Addr} {ts : Addr → Option Str} {base : Heap} {f : Addr} {fd : FuncData} (F : Fun K "__init__" "Pattern.__init__" s_Pattern_ddinitdd f fd) (tx : Tx P w K mg cl)
    (d_need_strings : Dfn false P w K mg base 2 "need_strings" (spD ⟨K, cl⟩ (SRB ⟨K, cl⟩ ts) 1 (semOf 1 g_need_strings)))
    (d_row_fault : Dfn false P w K mg base 3 "row_fault" (spD ⟨K, cl⟩ (SRB ⟨K, cl⟩ ts) 3 (semOf 6 g_row_fault))) :
    FnG false P w K mg base 4 f fd ["self", "strings", "rows"] (spI ⟨K, cl⟩ (SRB ⟨K, cl⟩ ts) "Pattern" 2 (semInit 6 "Pattern" g_Pattern_ddinitdd)) := by
  refine okInit (T := ⟨K, cl⟩) (SR := SRB ⟨K, cl⟩ ts) (k := 3) (gb := g_Pattern_ddinitdd) "Pattern" freeH_B F sc_Pattern_ddinitdd rfl rfl fun cdv A out s H E hr hg => ?_
  exact (db_cons (ds_drop (de_call d_need_strings (hr.mono (by decide)) (fun z => nomatch z) rfl (takes_of rfl rfl rfl rfl) (da_cons (dv 1) da_nil) (nArg_cons nArg_nil)))
    (db_cons (ds_if (dt_w (dt_or (dt_not (dt_tru rfl (deB (cl_isi rfl) tx.b_isinstance bt_isinstance (da_cons (dv 2) (da_cons (de_ty tx.b_tuple bt_tuple) da_nil))))) (dw_or1 (dt_cmp op_gtD (deB (cl_len rfl) tx.b_len bt_len (da_cons (dv 2) da_nil)) (de_cint tx.k_MOST_ROWS) (nomark _)))))
    (db_one (ds_raise PySem.F.excBase_ValueError PySem.W.kxs_ValueError PySem.F.store_ValueError tx.x_BadPattern hr rfl (takes_of rfl rfl rfl rfl) rfl (de_tup da_nil)))
    db_nil)
    (db_cons (ds_for (is := [3, 4]) (passes_of rfl) rfl (di_en rfl rfl tx.b_enumerate (da_cons (dv 2) da_nil)) (dp_tup rfl rfl (dps_cons (dp_name sc_Pattern_ddinitdd.nd rfl (Or.inl rfl)) (dps_cons (dp_name sc_Pattern_ddinitdd.nd rfl (Or.inl rfl)) dps_nil)))
    (db_cons (ds_set sc_Pattern_ddinitdd.nd rfl (Or.inl rfl) (de_call d_row_fault (hr.mono (by decide)) (fun z => nomatch z) rfl (takes_of rfl rfl rfl rfl) (da_cons (dv 1) (da_cons (dv 3) (da_cons (dv 4) da_nil))) (nArg_cons (nArg_cons (nArg_cons nArg_nil)))))
    (db_one (ds_if (dt_cmp op_nisD (dv 5) de_non (nomark _))
    (db_one (ds_raise PySem.F.excBase_ValueError PySem.W.kxs_ValueError PySem.F.store_ValueError tx.x_BadPattern hr rfl (takes_of rfl rfl rfl rfl) rfl (dv 5)))
    db_nil))))
    (db_cons (ds_fldO (i := 0) "Pattern" tx.c_Pattern.c tx.nf_Pattern_own_strings rfl (dv 1))
    (db_one (ds_fldO (i := 0) "Pattern" tx.c_Pattern.c tx.nf_Pattern_own_rows rfl (dv 2)))))))
def g_Pattern_strings : KB.Env → BS → RS BS :=
    (sRet (eOp1 (fldD "Pattern" "own_strings") (eVar 0)))
theorem sc_Pattern_strings : FnScope ["self"] ["self"] (defScope s_Pattern_strings) := ⟨rfl, rfl, rfl, by decide +kernel, rfl, by decide +kernel, by decide +kernel⟩
theorem ok_Pattern_strings {P : Program} {w : World} {K : PySem.W.Frag} {mg : Str → Option Value} {cl : Str → Addr} {ts : Addr → Option Str} {base : Heap} {f : Addr} {fd : FuncData} (F : Fun K "strings" "Pattern.strings" s_Pattern_strings f fd) (tx : Tx P w K mg cl) :
    FnG false P w K mg base 1 f fd ["self"] (spD ⟨K, cl⟩ (SRB ⟨K, cl⟩ ts) 1 (semOf 1 g_Pattern_strings)) := by
  refine okDef (T := ⟨K, cl⟩) (SR := SRB ⟨K, cl⟩ ts) (k := 0) (gb := g_Pattern_strings) F sc_Pattern_strings rfl rfl fun cdv A out s H E hr hg => ?_
  exact (db_one (ds_ret (de_fld "Pattern" tx.c_Pattern.c tx.nf_Pattern_own_strings (dv 0))))
def g_Pattern_order_b1 : KB.Env → BS → RS BS :=
    (sSet 1 (eCall (semOf 6 g_knotted) (aCons (eVar 3) (aCons (eVar 2) (aCons (eVar 1) aNil)))))
def g_Pattern_order : KB.Env → BS → RS BS :=
    (sSeq (sSet 1 (eTupR (gR1 (eOp1 (fldD "Pattern" "own_strings") (eVar 0)))))
    (sSeq (sFor (iEn (aCons (eOp1 (fldD "Pattern" "own_rows") (eVar 0)) aNil)) (pTup 2 (psCons (pName 2) (psCons (pName 3) psNil))) g_Pattern_order_b1)
    (sRet (eVar 1))))
theorem sc_Pattern_order : FnScope ["self", "found", "number", "row"] ["self"] (defScope s_Pattern_order) := ⟨rfl, rfl, rfl, by decide +kernel, rfl, by decide +kernel, by decide +kernel⟩
theorem ok_Pattern_order {P : Program} {w : World} {K : PySem.W.Frag} {mg : Str → Option Value} {cl : Str → Addr} {ts : Addr → Option Str} {base : Heap} {f : Addr} {fd : FuncData} (F : Fun K "order" "Pattern.order" s_Pattern_order f fd) (tx : Tx P w K mg cl)
    (d_knotted : Dfn false P w K mg base 2 "knotted" (spD ⟨K, cl⟩ (SRB ⟨K, cl⟩ ts) 3 (semOf 6 g_knotted))) :
    FnG false P w K mg base 3 f fd ["self"] (spD ⟨K, cl⟩ (SRB ⟨K, cl⟩ ts) 1 (semOf 4 g_Pattern_order)) := by
  refine okDef (T := ⟨K, cl⟩) (SR := SRB ⟨K, cl⟩ ts) (k := 2) (gb := g_Pattern_order) F sc_Pattern_order rfl rfl fun cdv A out s H E hr hg => ?_
  exact (db_cons (ds_set sc_Pattern_order.nd rfl (Or.inl rfl) (de_tupR rfl rfl tx.b_tuple (dr_1 rfl tx.b_range (de_fld "Pattern" tx.c_Pattern.c tx.nf_Pattern_own_strings (dv 0)))))
    (db_cons (ds_for (is := [2, 3]) (passes_of rfl) rfl (di_en rfl rfl tx.b_enumerate (da_cons (de_fld "Pattern" tx.c_Pattern.c tx.nf_Pattern_own_rows (dv 0)) da_nil)) (dp_tup rfl rfl (dps_cons (dp_name sc_Pattern_order.nd rfl (Or.inl rfl)) (dps_cons (dp_name sc_Pattern_order.nd rfl (Or.inl rfl)) dps_nil)))
    (db_one (ds_set sc_Pattern_order.nd rfl (Or.inl rfl) (de_call d_knotted (hr.mono (by decide)) (fun z => nomatch z) rfl (takes_of rfl rfl rfl rfl) (da_cons (dv 3) (da_cons (dv 2) (da_cons (dv 1) da_nil))) (nArg_cons (nArg_cons (nArg_cons nArg_nil)))))))
    (db_one (ds_ret (dv 1)))))
def g_Pattern_seen : KB.Env → BS → RS BS :=
    (sRet (eCall (semOf 6 g_seen_through) (aCons (eOp1 (fldD "Pattern" "own_rows") (eVar 0)) (aCons (eTupR (gR1 (eOp1 (fldD "Pattern" "own_strings") (eVar 0)))) aNil))))
theorem sc_Pattern_seen : FnScope ["self"] ["self"] (defScope s_Pattern_seen) := ⟨rfl, rfl, rfl, by decide +kernel, rfl, by decide +kernel, by decide +kernel⟩
theorem ok_Pattern_seen {P : Program} {w : World} {K : PySem.W.Frag} {mg : Str → Option Value} {cl : Str → Addr} {ts : Addr → Option Str} {base : Heap} {f : Addr} {fd : FuncData} (F : Fun K "seen" "Pattern.seen" s_Pattern_seen f fd) (tx : Tx P w K mg cl)
    (d_seen_through : Dfn false P w K mg base 3 "seen_through" (spD ⟨K, cl⟩ (SRB ⟨K, cl⟩ ts) 2 (semOf 6 g_seen_through))) :
    FnG false P w K mg base 4 f fd ["self"] (spD ⟨K, cl⟩ (SRB ⟨K, cl⟩ ts) 1 (semOf 1 g_Pattern_seen)) := by
  refine okDef (T := ⟨K, cl⟩) (SR := SRB ⟨K, cl⟩ ts) (k := 3) (gb := g_Pattern_seen) F sc_Pattern_seen rfl rfl fun cdv A out s H E hr hg => ?_
  exact (db_one (ds_ret (de_call d_seen_through (hr.mono (by decide)) (fun z => nomatch z) rfl (takes_of rfl rfl rfl rfl) (da_cons (de_fld "Pattern" tx.c_Pattern.c tx.nf_Pattern_own_rows (dv 0)) (da_cons (de_tupR rfl rfl tx.b_tuple (dr_1 rfl tx.b_range (de_fld "Pattern" tx.c_Pattern.c tx.nf_Pattern_own_strings (dv 0)))) da_nil)) (nArg_cons (nArg_cons nArg_nil)))))
def g_Pattern_is_even : KB.Env → BS → RS BS :=
    (sRet (eOp2 eqD (eOp2 modD (eCl lenD (aCons (eOp1 (fldD "Pattern" "own_rows") (eVar 0)) aNil)) (eC (.int 2))) (eC (.int 0))))
theorem sc_Pattern_is_even : FnScope ["self"] ["self"] (defScope s_Pattern_is_even) := ⟨rfl, rfl, rfl, by decide +kernel, rfl, by decide +kernel, by decide +kernel⟩
theorem ok_Pattern_is_even {P : Program} {w : World} {K : PySem.W.Frag} {mg : Str → Option Value} {cl : Str → Addr} {ts : Addr → Option Str} {base : Heap} {f : Addr} {fd : FuncData} (F : Fun K "is_even" "Pattern.is_even" s_Pattern_is_even f fd) (tx : Tx P w K mg cl) :
    FnG false P w K mg base 1 f fd ["self"] (spD ⟨K, cl⟩ (SRB ⟨K, cl⟩ ts) 1 (semOf 1 g_Pattern_is_even)) := by
  refine okDef (T := ⟨K, cl⟩) (SR := SRB ⟨K, cl⟩ ts) (k := 0) (gb := g_Pattern_is_even) F sc_Pattern_is_even rfl rfl fun cdv A out s H E hr hg => ?_
  exact (db_one (ds_ret (de_cmp (op_eqD' rfl hr.units) (de_bin op_modD (deB (cl_len rfl) tx.b_len bt_len (da_cons (de_fld "Pattern" tx.c_Pattern.c tx.nf_Pattern_own_rows (dv 0)) da_nil)) de_int) de_int (nomark _))))
def g_Pattern_ddlendd : KB.Env → BS → RS BS :=
    (sRet (eCl lenD (aCons (eOp1 (fldD "Pattern" "own_rows") (eVar 0)) aNil)))
theorem sc_Pattern_ddlendd : FnScope ["self"] ["self"] (defScope s_Pattern_ddlendd) := ⟨rfl, rfl, rfl, by decide +kernel, rfl, by decide +kernel, by decide +kernel⟩
theorem ok_Pattern_ddlendd {P : Program} {w : World} {K : PySem.W.Frag} {mg : Str → Option Value} {cl : Str → Addr} {ts : Addr → Option Str} {base : Heap} {f : Addr} {fd : FuncData} (F : Fun K "__len__" "Pattern.__len__" s_Pattern_ddlendd f fd) (tx : Tx P w K mg cl) :
    FnG false P w K mg base 1 f fd ["self"] (spD ⟨K, cl⟩ (SRB ⟨K, cl⟩ ts) 1 (semOf 1 g_Pattern_ddlendd)) := by
  refine okDef (T := ⟨K, cl⟩) (SR := SRB ⟨K, cl⟩ ts) (k := 0) (gb := g_Pattern_ddlendd) F sc_Pattern_ddlendd rfl rfl fun cdv A out s H E hr hg => ?_
  exact (db_one (ds_ret (deB (cl_len rfl) tx.b_len bt_len (da_cons (de_fld "Pattern" tx.c_Pattern.c tx.nf_Pattern_own_rows (dv 0)) da_nil))))
def g_need_pattern : KB.Env → BS → RS BS :=
    (sSeq (sIf (bNot (tTru (eIsI "Pattern" (eVar 0))))
    (sRaise "BadPattern" "place" (eC .non))
    sNil)
    (sRet (eVar 0)))
theorem sc_need_pattern : FnScope ["thing"] ["thing"] (defScope s_need_pattern) := ⟨rfl, rfl, rfl, by decide +kernel, rfl, by decide +kernel, by decide +kernel⟩
theorem ok_need_pattern {P : Program} {w : World} {K : PySem.W.Frag} {mg : Str → Option Value} {cl : Str → Addr} {ts : Addr → Option Str} {base : Heap} {f : Addr} {fd : FuncData} (F : Fun K "need_pattern" "need_pattern" s_need_pattern f fd) (tx : Tx P w K mg cl) :
    FnG false P w K mg base 1 f fd ["thing"] (spD ⟨K, cl⟩ (SRB ⟨K, cl⟩ ts) 1 (semOf 1 g_need_pattern)) := by
  refine okDef (T := ⟨K, cl⟩) (SR := SRB ⟨K, cl⟩ ts) (k := 0) (gb := g_need_pattern) F sc_need_pattern rfl rfl fun cdv A out s H E hr hg => ?_
  exact (db_cons (ds_if (dt_not (dt_tru rfl (de_isI "Pattern" rfl tx.c_Pattern tx.b_isinstance tx.g_Pattern tx.is_Pattern (dv 0))))
    (db_one (ds_raise PySem.F.excBase_ValueError PySem.W.kxs_ValueError PySem.F.store_ValueError tx.x_BadPattern hr rfl (takes_of rfl rfl rfl rfl) rfl de_non))
    db_nil)
    (db_one (ds_ret (dv 0))))
def g_picture_of_b1 : KB.Env → BS → RS BS :=
    (sIf (bNot (tTru (eCall (semOf 4 g_is_text) (aCons (eVar 3) (aCons (eCall (semOf 2 g_many_in) (aCons (eVar 0) (aCons (eVar 2) aNil))) (aCons (eC (.str [97, 98, 99, 100, 101, 102, 103, 104, 105, 106, 107, 108, 109, 110, 111, 112, 113, 114, 115, 116, 117, 118, 119, 120, 121, 122])) aNil))))))
    (sRaise "BadPicture" "place" (eTup (aCons (eVar 2) aNil)))
    sNil)
def g_picture_of : KB.Env → BS → RS BS :=
    (sSeq (sIf (bOr (bNot (tTru (eCl isiD (aCons (eVar 1) (aCons (eC (.ty "tuple")) aNil))))) (tBl (eOp2 gtD (eCl lenD (aCons (eVar 1) aNil)) (eC (.int 40)))))
    (sRaise "BadPicture" "place" (eTup aNil))
    sNil)
    (sSeq (sFor (iEn (aCons (eVar 1) aNil)) (pTup 2 (psCons (pName 2) (psCons (pName 3) psNil))) g_picture_of_b1)
    (sRet (eVar 1))))
theorem sc_picture_of : FnScope ["strings", "thing", "number", "row"] ["strings", "thing"] (defScope s_picture_of) := ⟨rfl, rfl, rfl, by decide +kernel, rfl, by decide +kernel, by decide +kernel⟩
theorem ok_picture_of {P : Program} {w : World} {K : PySem.W.Frag} {mg : Str → Option Value} {cl : Str → Addr} {ts : Addr → Option Str} {base : Heap} {f : Addr} {fd : FuncData} (F : Fun K "picture_of" "picture_of" s_picture_of f fd) (tx : Tx P w K mg cl)
    (d_is_text : Dfn false P w K mg base 1 "is_text" (spD ⟨K, cl⟩ (SRB ⟨K, cl⟩ ts) 3 (semOf 4 g_is_text)))
    (d_many_in : Dfn false P w K mg base 2 "many_in" (spD ⟨K, cl⟩ (SRB ⟨K, cl⟩ ts) 2 (semOf 2 g_many_in))) :
    FnG false P w K mg base 3 f fd ["strings", "thing"] (spD ⟨K, cl⟩ (SRB ⟨K, cl⟩ ts) 2 (semOf 4 g_picture_of)) := by
  refine okDef (T := ⟨K, cl⟩) (SR := SRB ⟨K, cl⟩ ts) (k := 2) (gb := g_picture_of) F sc_picture_of rfl rfl fun cdv A out s H E hr hg => ?_
  exact (db_cons (ds_if (dt_w (dt_or (dt_not (dt_tru rfl (deB (cl_isi rfl) tx.b_isinstance bt_isinstance (da_cons (dv 1) (da_cons (de_ty tx.b_tuple bt_tuple) da_nil))))) (dw_or1 (dt_cmp op_gtD (deB (cl_len rfl) tx.b_len bt_len (da_cons (dv 1) da_nil)) (de_cint tx.k_MOST_ROWS) (nomark _)))))
    (db_one (ds_raise PySem.F.excBase_ValueError PySem.W.kxs_ValueError PySem.F.store_ValueError tx.x_BadPicture hr rfl (takes_of rfl rfl rfl rfl) rfl (de_tup da_nil)))
    db_nil)
    (db_cons (ds_for (is := [2, 3]) (passes_of rfl) rfl (di_en rfl rfl tx.b_enumerate (da_cons (dv 1) da_nil)) (dp_tup rfl rfl (dps_cons (dp_name sc_picture_of.nd rfl (Or.inl rfl)) (dps_cons (dp_name sc_picture_of.nd rfl (Or.inl rfl)) dps_nil)))
    (db_one (ds_if (dt_not (dt_tru rfl (de_call d_is_text (hr.mono (by decide)) (fun z => nomatch z) rfl (takes_of rfl rfl rfl rfl) (da_cons (dv 3) (da_cons (de_call d_many_in (hr.mono (by decide)) (fun z => nomatch z) rfl (takes_of rfl rfl rfl rfl) (da_cons (dv 0) (da_cons (dv 2) da_nil)) (nArg_cons (nArg_cons nArg_nil))) (da_cons (de_cstr (l := [97, 98, 99, 100, 101, 102, 103, 104, 105, 106, 107, 108, 109, 110, 111, 112, 113, 114, 115, 116, 117, 118, 119, 120, 121, 122]) tx.k_LETTERS) da_nil))) (nArg_cons (nArg_cons (nArg_cons nArg_nil))))))
    (db_one (ds_raise PySem.F.excBase_ValueError PySem.W.kxs_ValueError PySem.F.store_ValueError tx.x_BadPicture hr rfl (takes_of rfl rfl rfl rfl) rfl (de_tup (da_cons (dv 2) da_nil))))
    db_nil)))
    (db_one (ds_ret (dv 1)))))
def g_need_few : KB.Env → BS → RS BS :=
    (sSeq (sDrop (eCall (semOf 1 g_need_strings) (aCons (eVar 0) aNil)))
    (sIf (tBl (eOp2 gtD (eVar 0) (eC (.int 6))))
    (sRaise "TooGreat" "most" (eC (.int 6)))
    sNil))
theorem sc_need_few : FnScope ["strings"] ["strings"] (defScope s_need_few) := ⟨rfl, rfl, rfl, by decide +kernel, rfl, by decide +kernel, by decide +kernel⟩
theorem ok_need_few {P : Program} {w : World} {K : PySem.W.Frag} {mg : Str → Option Value} {cl : Str → Addr} {ts : Addr → Option Str} {base : Heap} {f : Addr} {fd : FuncData} (F : Fun K "need_few" "need_few" s_need_few f fd) (tx : Tx P w K mg cl)
    (d_need_strings : Dfn false P w K mg base 2 "need_strings" (spD ⟨K, cl⟩ (SRB ⟨K, cl⟩ ts) 1 (semOf 1 g_need_strings))) :
    FnG false P w K mg base 3 f fd ["strings"] (spD ⟨K, cl⟩ (SRB ⟨K, cl⟩ ts) 1 (semOf 1 g_need_few)) := by
  refine okDef (T := ⟨K, cl⟩) (SR := SRB ⟨K, cl⟩ ts) (k := 2) (gb := g_need_few) F sc_need_few rfl rfl fun cdv A out s H E hr hg => ?_
  exact (db_cons (ds_drop (de_call d_need_strings (hr.mono (by decide)) (fun z => nomatch z) rfl (takes_of rfl rfl rfl rfl) (da_cons (dv 0) da_nil) (nArg_cons nArg_nil)))
    (db_one (ds_if (dt_cmp op_gtD (dv 0) (de_cint tx.k_MOST_FEW) (nomark _))
    (db_one (ds_raise PySem.F.excBase_OverflowError PySem.W.kxs_OverflowError PySem.F.store_OverflowError tx.x_TooGreat hr rfl (takes_of rfl rfl rfl rfl) rfl (de_cint tx.k_MOST_FEW)))
    db_nil)))
def g_need_all : KB.Env → BS → RS BS :=
    (sSeq (sDrop (eCall (semOf 1 g_need_few) (aCons (eVar 0) aNil)))
    (sSeq (sDrop (eCall (semOf 4 g_picture_of) (aCons (eVar 0) (aCons (eVar 1) aNil))))
    (sDrop (eCall (semOf 2 g_colouring_of) (aCons (eVar 0) (aCons (eVar 2) aNil))))))
theorem sc_need_all : FnScope ["strings", "picture", "colouring"] ["strings", "picture", "colouring"] (defScope s_need_all) := ⟨rfl, rfl, rfl, by decide +kernel, rfl, by decide +kernel, by decide +kernel⟩
theorem ok_need_all {P : Program} {w : World} {K : PySem.W.Frag} {mg : Str → Option Value} {cl : Str → Addr} {ts : Addr → Option Str} {base : Heap} {f : Addr} {fd : FuncData} (F : Fun K "need_all" "need_all" s_need_all f fd) (tx : Tx P w K mg cl)
    (d_colouring_of : Dfn false P w K mg base 3 "colouring_of" (spD ⟨K, cl⟩ (SRB ⟨K, cl⟩ ts) 2 (semOf 2 g_colouring_of)))
    (d_need_few : Dfn false P w K mg base 3 "need_few" (spD ⟨K, cl⟩ (SRB ⟨K, cl⟩ ts) 1 (semOf 1 g_need_few)))
    (d_picture_of : Dfn false P w K mg base 3 "picture_of" (spD ⟨K, cl⟩ (SRB ⟨K, cl⟩ ts) 2 (semOf 4 g_picture_of))) :
    FnG false P w K mg base 4 f fd ["strings", "picture", "colouring"] (spD ⟨K, cl⟩ (SRB ⟨K, cl⟩ ts) 3 (semOf 3 g_need_all)) := by
  refine okDef (T := ⟨K, cl⟩) (SR := SRB ⟨K, cl⟩ ts) (k := 3) (gb := g_need_all) F sc_need_all rfl rfl fun cdv A out s H E hr hg => ?_
  exact (db_cons (ds_drop (de_call d_need_few (hr.mono (by decide)) (fun z => nomatch z) rfl (takes_of rfl rfl rfl rfl) (da_cons (dv 0) da_nil) (nArg_cons nArg_nil)))
    (db_cons (ds_drop (de_call d_picture_of (hr.mono (by decide)) (fun z => nomatch z) rfl (takes_of rfl rfl rfl rfl) (da_cons (dv 0) (da_cons (dv 1) da_nil)) (nArg_cons (nArg_cons nArg_nil))))
    (db_one (ds_drop (de_call d_colouring_of (hr.mono (by decide)) (fun z => nomatch z) rfl (takes_of rfl rfl rfl rfl) (da_cons (dv 0) (da_cons (dv 2) da_nil)) (nArg_cons (nArg_cons nArg_nil)))))))
def g_can_be_made : KB.Env → BS → RS BS :=
    (sSeq (sDrop (eCall (semOf 3 g_need_all) (aCons (eVar 0) (aCons (eVar 1) (aCons (eVar 2) aNil)))))
    sBad)
theorem sc_can_be_made : FnScope ["strings", "picture", "colouring"] ["strings", "picture", "colouring"] (defScope s_can_be_made) := ⟨rfl, rfl, rfl, by decide +kernel, rfl, by decide +kernel, by decide +kernel⟩
theorem ok_can_be_made {P : Program} {w : World} {K : PySem.W.Frag} {mg : Str → Option Value} {cl : Str → Addr} {ts : Addr → Option Str} {base : Heap} {f : Addr} {fd : FuncData} (F : Fun K "can_be_made" "can_be_made" s_can_be_made f fd) (tx : Tx P w K mg cl)
    (d_need_all : Dfn false P w K mg base 4 "need_all" (spD ⟨K, cl⟩ (SRB ⟨K, cl⟩ ts) 3 (semOf 3 g_need_all))) :
    FnG false P w K mg base 5 f fd ["strings", "picture", "colouring"] (spD ⟨K, cl⟩ (SRB ⟨K, cl⟩ ts) 3 (semOf 3 g_can_be_made)) := by
  refine okDef (T := ⟨K, cl⟩) (SR := SRB ⟨K, cl⟩ ts) (k := 4) (gb := g_can_be_made) F sc_can_be_made rfl rfl fun cdv A out s H E hr hg => ?_
  exact (db_cons (ds_drop (de_call d_need_all (hr.mono (by decide)) (fun z => nomatch z) rfl (takes_of rfl rfl rfl rfl) (da_cons (dv 0) (da_cons (dv 1) (da_cons (dv 2) da_nil))) (nArg_cons (nArg_cons (nArg_cons nArg_nil)))))
    (db_one ds_bad))
def g_check_motif : KB.Env → BS → RS BS :=
    (sIf (bOr (tBl (eOp2 ltD (eCl lenD (aCons (eVar 0) aNil)) (eC (.int 2)))) (tBl (eOp2 neD (eOp2 modD (eCl lenD (aCons (eVar 0) aNil)) (eC (.int 2))) (eC (.int 0)))))
    (sRaise "OutOfPlace" "text" (eC (.str [110, 111, 32, 109, 111, 116, 105, 102])))
    sNil)
theorem sc_check_motif : FnScope ["motif"] ["motif"] (defScope s_check_motif) := ⟨rfl, rfl, rfl, by decide +kernel, rfl, by decide +kernel, by decide +kernel⟩
theorem ok_check_motif {P : Program} {w : World} {K : PySem.W.Frag} {mg : Str → Option Value} {cl : Str → Addr} {ts : Addr → Option Str} {base : Heap} {f : Addr} {fd : FuncData} (F : Fun K "check_motif" "check_motif" s_check_motif f fd) (tx : Tx P w K mg cl) :
    FnG false P w K mg base 1 f fd ["motif"] (spD ⟨K, cl⟩ (SRB ⟨K, cl⟩ ts) 1 (semOf 1 g_check_motif)) := by
  refine okDef (T := ⟨K, cl⟩) (SR := SRB ⟨K, cl⟩ ts) (k := 0) (gb := g_check_motif) F sc_check_motif rfl rfl fun cdv A out s H E hr hg => ?_
  exact (db_one (ds_if (dt_w (dt_or (dt_cmp op_ltD (deB (cl_len rfl) tx.b_len bt_len (da_cons (dv 0) da_nil)) de_int (nomark _)) (dw_or1 (dt_cmp (op_neD' rfl hr.units) (de_bin op_modD (deB (cl_len rfl) tx.b_len bt_len (da_cons (dv 0) da_nil)) de_int) de_int (nomark _)))))
    (db_one (ds_raise PySem.F.excBase_ValueError PySem.W.kxs_ValueError PySem.F.store_ValueError tx.x_OutOfPlace hr rfl (takes_of rfl rfl rfl rfl) rfl (de_str (l := [110, 111, 32, 109, 111, 116, 105, 102]) (by rfl))))
    db_nil))
def g_need_motif : KB.Env → BS → RS BS :=
    (sSeq (sDrop (eCall (semOf 3 g_need_all) (aCons (eVar 0) (aCons (eVar 1) (aCons (eVar 2) aNil)))))
    (sDrop (eCall (semOf 1 g_check_motif) (aCons (eVar 1) aNil))))
theorem sc_need_motif : FnScope ["strings", "motif", "colouring"] ["strings", "motif", "colouring"] (defScope s_need_motif) := ⟨rfl, rfl, rfl, by decide +kernel, rfl, by decide +kernel, by decide +kernel⟩
theorem ok_need_motif {P : Program} {w : World} {K : PySem.W.Frag} {mg : Str → Option Value} {cl : Str → Addr} {ts : Addr → Option Str} {base : Heap} {f : Addr} {fd : FuncData} (F : Fun K "need_motif" "need_motif" s_need_motif f fd) (tx : Tx P w K mg cl)
    (d_check_motif : Dfn false P w K mg base 1 "check_motif" (spD ⟨K, cl⟩ (SRB ⟨K, cl⟩ ts) 1 (semOf 1 g_check_motif)))
    (d_need_all : Dfn false P w K mg base 4 "need_all" (spD ⟨K, cl⟩ (SRB ⟨K, cl⟩ ts) 3 (semOf 3 g_need_all))) :
    FnG false P w K mg base 5 f fd ["strings", "motif", "colouring"] (spD ⟨K, cl⟩ (SRB ⟨K, cl⟩ ts) 3 (semOf 3 g_need_motif)) := by
  refine okDef (T := ⟨K, cl⟩) (SR := SRB ⟨K, cl⟩ ts) (k := 4) (gb := g_need_motif) F sc_need_motif rfl rfl fun cdv A out s H E hr hg => ?_
  exact (db_cons (ds_drop (de_call d_need_all (hr.mono (by decide)) (fun z => nomatch z) rfl (takes_of rfl rfl rfl rfl) (da_cons (dv 0) (da_cons (dv 1) (da_cons (dv 2) da_nil))) (nArg_cons (nArg_cons (nArg_cons nArg_nil)))))
    (db_one (ds_drop (de_call d_check_motif (hr.mono (by decide)) (fun z => nomatch z) rfl (takes_of rfl rfl rfl rfl) (da_cons (dv 1) da_nil) (nArg_cons nArg_nil)))))
def g_most_rows : KB.Env → BS → RS BS :=
    (sSeq (sDrop (eCall (semOf 3 g_need_motif) (aCons (eVar 0) (aCons (eVar 1) (aCons (eVar 2) aNil)))))
    sBad)
theorem sc_most_rows : FnScope ["strings", "motif", "colouring"] ["strings", "motif", "colouring"] (defScope s_most_rows) := ⟨rfl, rfl, rfl, by decide +kernel, rfl, by decide +kernel, by decide +kernel⟩
theorem ok_most_rows {P : Program} {w : World} {K : PySem.W.Frag} {mg : Str → Option Value} {cl : Str → Addr} {ts : Addr → Option Str} {base : Heap} {f : Addr} {fd : FuncData} (F : Fun K "most_rows" "most_rows" s_most_rows f fd) (tx : Tx P w K mg cl)
    (d_need_motif : Dfn false P w K mg base 5 "need_motif" (spD ⟨K, cl⟩ (SRB ⟨K, cl⟩ ts) 3 (semOf 3 g_need_motif))) :
    FnG false P w K mg base 6 f fd ["strings", "motif", "colouring"] (spD ⟨K, cl⟩ (SRB ⟨K, cl⟩ ts) 3 (semOf 3 g_most_rows)) := by
  refine okDef (T := ⟨K, cl⟩) (SR := SRB ⟨K, cl⟩ ts) (k := 5) (gb := g_most_rows) F sc_most_rows rfl rfl fun cdv A out s H E hr hg => ?_
  exact (db_cons (ds_drop (de_call d_need_motif (hr.mono (by decide)) (fun z => nomatch z) rfl (takes_of rfl rfl rfl rfl) (da_cons (dv 0) (da_cons (dv 1) (da_cons (dv 2) da_nil))) (nArg_cons (nArg_cons (nArg_cons nArg_nil)))))
    (db_one ds_bad))
def g_check_loop : KB.Env → BS → RS BS :=
    (sIf (bOr (bNot (tTru (ePrp "Pattern" (semOf 1 g_Pattern_is_even) (eVar 0)))) (tBl (eOp2 ltD (eLenI "Pattern" (semOf 1 g_Pattern_ddlendd) (eVar 0)) (eC (.int 2)))))
    (sRaise "OutOfPlace" "text" (eC (.str [110, 111, 32, 108, 111, 111, 112])))
    sNil)
theorem sc_check_loop : FnScope ["loop"] ["loop"] (defScope s_check_loop) := ⟨rfl, rfl, rfl, by decide +kernel, rfl, by decide +kernel, by decide +kernel⟩
theorem ok_check_loop {P : Program} {w : World} {K : PySem.W.Frag} {mg : Str → Option Value} {cl : Str → Addr} {ts : Addr → Option Str} {base : Heap} {f : Addr} {fd : FuncData} (F : Fun K "check_loop" "check_loop" s_check_loop f fd) (tx : Tx P w K mg cl)
    (d_Pattern_ddlendd : Mdf false P w K mg base 1 (cl "Pattern") "__len__" (spD ⟨K, cl⟩ (SRB ⟨K, cl⟩ ts) 1 (semOf 1 g_Pattern_ddlendd)))
    (d_Pattern_is_even : Pdf P w K mg base 1 (cl "Pattern") "is_even" (spD ⟨K, cl⟩ (SRB ⟨K, cl⟩ ts) 1 (semOf 1 g_Pattern_is_even))) :
    FnG false P w K mg base 3 f fd ["loop"] (spD ⟨K, cl⟩ (SRB ⟨K, cl⟩ ts) 1 (semOf 1 g_check_loop)) := by
  refine okDef (T := ⟨K, cl⟩) (SR := SRB ⟨K, cl⟩ ts) (k := 2) (gb := g_check_loop) F sc_check_loop rfl rfl fun cdv A out s H E hr hg => ?_
  exact (db_one (ds_if (dt_w (dt_or (dt_not (dt_tru rfl (de_prp "Pattern" tx.c_Pattern.c d_Pattern_is_even (hr.mono (by decide)) (dv 0)))) (dw_or1 (dt_cmp op_ltD (de_lenI "Pattern" rfl d_Pattern_ddlendd (hr.mono (by decide)) tx.b_len (dv 0)) de_int (nomark _)))))
    (db_one (ds_raise PySem.F.excBase_ValueError PySem.W.kxs_ValueError PySem.F.store_ValueError tx.x_OutOfPlace hr rfl (takes_of rfl rfl rfl rfl) rfl (de_str (l := [110, 111, 32, 108, 111, 111, 112]) (by rfl))))
    db_nil))
def g_need_loop : KB.Env → BS → RS BS :=
    (sSeq (sDrop (eCall (semOf 1 g_need_pattern) (aCons (eVar 0) aNil)))
    (sDrop (eCall (semOf 1 g_check_loop) (aCons (eVar 0) aNil))))
theorem sc_need_loop : FnScope ["loop"] ["loop"] (defScope s_need_loop) := ⟨rfl, rfl, rfl, by decide +kernel, rfl, by decide +kernel, by decide +kernel⟩
theorem ok_need_loop {P : Program} {w : World} {K : PySem.W.Frag} {mg : Str → Option Value} {cl : Str → Addr} {ts : Addr → Option Str} {base : Heap} {f : Addr} {fd : FuncData} (F : Fun K "need_loop" "need_loop" s_need_loop f fd) (tx : Tx P w K mg cl)
    (d_check_loop : Dfn false P w K mg base 3 "check_loop" (spD ⟨K, cl⟩ (SRB ⟨K, cl⟩ ts) 1 (semOf 1 g_check_loop)))
    (d_need_pattern : Dfn false P w K mg base 1 "need_pattern" (spD ⟨K, cl⟩ (SRB ⟨K, cl⟩ ts) 1 (semOf 1 g_need_pattern))) :
    FnG false P w K mg base 4 f fd ["loop"] (spD ⟨K, cl⟩ (SRB ⟨K, cl⟩ ts) 1 (semOf 1 g_need_loop)) := by
  refine okDef (T := ⟨K, cl⟩) (SR := SRB ⟨K, cl⟩ ts) (k := 3) (gb := g_need_loop) F sc_need_loop rfl rfl fun cdv A out s H E hr hg => ?_
  exact (db_cons (ds_drop (de_call d_need_pattern (hr.mono (by decide)) (fun z => nomatch z) rfl (takes_of rfl rfl rfl rfl) (da_cons (dv 0) da_nil) (nArg_cons nArg_nil)))
    (db_one (ds_drop (de_call d_check_loop (hr.mono (by decide)) (fun z => nomatch z) rfl (takes_of rfl rfl rfl rfl) (da_cons (dv 0) da_nil) (nArg_cons nArg_nil)))))
def g_begun_as : KB.Env → BS → RS BS :=
    (sRet (eCl tupleD (aCons (eFz (fComp (iSq (eVar 0)) (pName 2) bYes (eOp2 ixD (eVar 1) (eVar 2)) [2])) aNil)))
theorem sc_begun_as : FnScope ["order", "things", "place"] ["order", "things"] (defScope s_begun_as) := ⟨rfl, rfl, rfl, by decide +kernel, rfl, by decide +kernel, by decide +kernel⟩
theorem ok_begun_as {P : Program} {w : World} {K : PySem.W.Frag} {mg : Str → Option Value} {cl : Str → Addr} {ts : Addr → Option Str} {base : Heap} {f : Addr} {fd : FuncData} (F : Fun K "begun_as" "begun_as" s_begun_as f fd) (tx : Tx P w K mg cl) :
    FnG false P w K mg base 1 f fd ["order", "things"] (spD ⟨K, cl⟩ (SRB ⟨K, cl⟩ ts) 2 (semOf 3 g_begun_as)) := by
  refine okDef (T := ⟨K, cl⟩) (SR := SRB ⟨K, cl⟩ ts) (k := 0) (gb := g_begun_as) F sc_begun_as rfl rfl fun cdv A out s H E hr hg => ?_
  exact (db_one (ds_ret (deT (cl_tuple rfl) tx.b_tuple bt_tuple (da_cons (de_fz (df_lc (own := [("place", 2)]) (is := [2]) rfl sc_begun_as.nd (di_seq rfl (dv 0)) (blkOk_by (by rfl)) (fun _ _ _ _ _ => (dp_name sc_begun_as.nd rfl (Or.inl rfl))) (fun _ _ _ _ _ => dts_nil) (fun _ _ _ _ _ => (de_ix (ix_D rfl) (dv 1) (dv 2))) (by decide))) da_nil))))
def g_round_in_b1 : KB.Env → BS → RS BS :=
    (sSeq (sSet 4 (eCall (semOf 3 g_begun_as) (aCons (eVar 1) (aCons (eVar 4) aNil))))
    (sAug 3 (intI (fun _ _ => true) fun i j => .int (i + j)) (eC (.int 1))))
def g_round_in : KB.Env → BS → RS BS :=
    (sSeq (sPar [1, 2] (zD (ePrp "Pattern" (semOf 4 g_Pattern_order) (eVar 0)) (zD (eTupR (gR1 (ePrp "Pattern" (semOf 1 g_Pattern_strings) (eVar 0)))) zNil)))
    (sSeq (sPar [3, 4] (zD (eC (.int 1)) (zD (eVar 1) zNil)))
    (sSeq (sWhl 1000 (tBl (eOp2 neD (eVar 4) (eVar 2))) g_round_in_b1)
    (sRet (eVar 3)))))
theorem sc_round_in : FnScope ["loop", "order", "first", "found", "here"] ["loop"] (defScope s_round_in) := ⟨rfl, rfl, rfl, by decide +kernel, rfl, by decide +kernel, by decide +kernel⟩
theorem ok_round_in {P : Program} {w : World} {K : PySem.W.Frag} {mg : Str → Option Value} {cl : Str → Addr} {ts : Addr → Option Str} {base : Heap} {f : Addr} {fd : FuncData} (F : Fun K "round_in" "round_in" s_round_in f fd) (tx : Tx P w K mg cl)
    (d_Pattern_order : Pdf P w K mg base 3 (cl "Pattern") "order" (spD ⟨K, cl⟩ (SRB ⟨K, cl⟩ ts) 1 (semOf 4 g_Pattern_order)))
    (d_Pattern_strings : Pdf P w K mg base 1 (cl "Pattern") "strings" (spD ⟨K, cl⟩ (SRB ⟨K, cl⟩ ts) 1 (semOf 1 g_Pattern_strings)))
    (d_begun_as : Dfn false P w K mg base 1 "begun_as" (spD ⟨K, cl⟩ (SRB ⟨K, cl⟩ ts) 2 (semOf 3 g_begun_as))) :
    FnG false P w K mg base 5 f fd ["loop"] (spD ⟨K, cl⟩ (SRB ⟨K, cl⟩ ts) 1 (semOf 5 g_round_in)) := by
  refine okDef (T := ⟨K, cl⟩) (SR := SRB ⟨K, cl⟩ ts) (k := 4) (gb := g_round_in) F sc_round_in rfl rfl fun cdv A out s H E hr hg => ?_
  exact (db_cons (ds_par2 rfl sc_round_in.nd (i := 1) (j := 2) rfl rfl (by decide) rfl rfl (dz_d (de_prp "Pattern" tx.c_Pattern.c d_Pattern_order (hr.mono (by decide)) (dv 0)) (dz_d (de_tupR rfl rfl tx.b_tuple (dr_1 rfl tx.b_range (de_prp "Pattern" tx.c_Pattern.c d_Pattern_strings (hr.mono (by decide)) (dv 0)))) dz_nil)) (by rfl))
    (db_cons (ds_par2 rfl sc_round_in.nd (i := 3) (j := 4) rfl rfl (by decide) rfl rfl (dz_d de_int (dz_d (dv 1) dz_nil)) (by rfl))
    (db_cons (ds_while 1000 (passes_of rfl) (dt_cmp (op_neD' rfl hr.units) (dv 4) (dv 2) (nomark _))
    (db_cons (ds_set sc_round_in.nd rfl (Or.inl rfl) (de_call d_begun_as (hr.mono (by decide)) (fun z => nomatch z) rfl (takes_of rfl rfl rfl rfl) (da_cons (dv 1) (da_cons (dv 4) da_nil)) (nArg_cons (nArg_cons nArg_nil))))
    (db_one (ds_aug (i := 3) ip_addD sc_round_in.nd rfl (Or.inl rfl) de_int))))
    (db_one (ds_ret (dv 3))))))
def g_round_of : KB.Env → BS → RS BS :=
    (sSeq (sDrop (eCall (semOf 1 g_need_loop) (aCons (eVar 0) aNil)))
    (sRet (eCall (semOf 5 g_round_in) (aCons (eVar 0) aNil))))
theorem sc_round_of : FnScope ["loop"] ["loop"] (defScope s_round_of) := ⟨rfl, rfl, rfl, by decide +kernel, rfl, by decide +kernel, by decide +kernel⟩
theorem ok_round_of {P : Program} {w : World} {K : PySem.W.Frag} {mg : Str → Option Value} {cl : Str → Addr} {ts : Addr → Option Str} {base : Heap} {f : Addr} {fd : FuncData} (F : Fun K "round_of" "round_of" s_round_of f fd) (tx : Tx P w K mg cl)
    (d_need_loop : Dfn false P w K mg base 4 "need_loop" (spD ⟨K, cl⟩ (SRB ⟨K, cl⟩ ts) 1 (semOf 1 g_need_loop)))
    (d_round_in : Dfn false P w K mg base 5 "round_in" (spD ⟨K, cl⟩ (SRB ⟨K, cl⟩ ts) 1 (semOf 5 g_round_in))) :
    FnG false P w K mg base 6 f fd ["loop"] (spD ⟨K, cl⟩ (SRB ⟨K, cl⟩ ts) 1 (semOf 1 g_round_of)) := by
  refine okDef (T := ⟨K, cl⟩) (SR := SRB ⟨K, cl⟩ ts) (k := 5) (gb := g_round_of) F sc_round_of rfl rfl fun cdv A out s H E hr hg => ?_
  exact (db_cons (ds_drop (de_call d_need_loop (hr.mono (by decide)) (fun z => nomatch z) rfl (takes_of rfl rfl rfl rfl) (da_cons (dv 0) da_nil) (nArg_cons nArg_nil)))
    (db_one (ds_ret (de_call d_round_in (hr.mono (by decide)) (fun z => nomatch z) rfl (takes_of rfl rfl rfl rfl) (da_cons (dv 0) da_nil) (nArg_cons nArg_nil)))))
def g_seen_round_b1 : KB.Env → BS → RS BS :=
    (sSeq (sExt 2 (eFz (fComp (iSq (eVar 3)) (pName 6) bYes (eCl tupleD (aCons (eFz (fComp (iSq (eVar 6)) (pName 7) bYes (eOp2 ixD (eVar 1) (eVar 7)) [7])) aNil)) [6])))
    (sSet 1 (eCall (semOf 3 g_begun_as) (aCons (eVar 4) (aCons (eVar 1) aNil)))))
def g_seen_round : KB.Env → BS → RS BS :=
    (sSeq (sPar [1, 2, 3, 4] (zD (eTupR (gR1 (ePrp "Pattern" (semOf 1 g_Pattern_strings) (eVar 0)))) (zL (fLst aNil) (zD (ePrp "Pattern" (semOf 1 g_Pattern_seen) (eVar 0)) (zD (ePrp "Pattern" (semOf 4 g_Pattern_order) (eVar 0)) zNil)))))
    (sSeq (sFor (iR1 (aCons (eCall (semOf 5 g_round_in) (aCons (eVar 0) aNil)) aNil)) (pName 5) g_seen_round_b1)
    (sRetO 2)))
theorem sc_seen_round : FnScope ["loop", "here", "found", "seen", "order", "turn", "row", "string"] ["loop"] (defScope s_seen_round) := ⟨rfl, rfl, rfl, by decide +kernel, rfl, by decide +kernel, by decide +kernel⟩
theorem ok_seen_round {P : Program} {w : World} {K : PySem.W.Frag} {mg : Str → Option Value} {cl : Str → Addr} {ts : Addr → Option Str} {base : Heap} {f : Addr} {fd : FuncData} (F : Fun K "seen_round" "seen_round" s_seen_round f fd) (tx : Tx P w K mg cl)
    (d_Pattern_order : Pdf P w K mg base 3 (cl "Pattern") "order" (spD ⟨K, cl⟩ (SRB ⟨K, cl⟩ ts) 1 (semOf 4 g_Pattern_order)))
    (d_Pattern_seen : Pdf P w K mg base 4 (cl "Pattern") "seen" (spD ⟨K, cl⟩ (SRB ⟨K, cl⟩ ts) 1 (semOf 1 g_Pattern_seen)))
    (d_Pattern_strings : Pdf P w K mg base 1 (cl "Pattern") "strings" (spD ⟨K, cl⟩ (SRB ⟨K, cl⟩ ts) 1 (semOf 1 g_Pattern_strings)))
    (d_begun_as : Dfn false P w K mg base 1 "begun_as" (spD ⟨K, cl⟩ (SRB ⟨K, cl⟩ ts) 2 (semOf 3 g_begun_as)))
    (d_round_in : Dfn false P w K mg base 5 "round_in" (spD ⟨K, cl⟩ (SRB ⟨K, cl⟩ ts) 1 (semOf 5 g_round_in))) :
    FnG false P w K mg base 6 f fd ["loop"] (spD ⟨K, cl⟩ (SRB ⟨K, cl⟩ ts) 1 (semOf 8 g_seen_round)) := by
  refine okDef (T := ⟨K, cl⟩) (SR := SRB ⟨K, cl⟩ ts) (k := 5) (gb := g_seen_round) F sc_seen_round rfl rfl fun cdv A out s H E hr hg => ?_
  exact (db_cons (ds_par4 (i := 1) (j := 2) (l := 3) (m := 4) rfl rfl sc_seen_round.nd rfl rfl rfl rfl (Or.inr rfl) (Or.inl rfl) (Or.inl rfl) (Or.inl rfl) (dz_d (de_tupR rfl rfl tx.b_tuple (dr_1 rfl tx.b_range (de_prp "Pattern" tx.c_Pattern.c d_Pattern_strings (hr.mono (by decide)) (dv 0)))) (dz_l (df_lst da_nil) (dz_d (de_prp "Pattern" tx.c_Pattern.c d_Pattern_seen (hr.mono (by decide)) (dv 0)) (dz_d (de_prp "Pattern" tx.c_Pattern.c d_Pattern_order (hr.mono (by decide)) (dv 0)) dz_nil)))))
    (db_cons (ds_for (is := [5]) (passes_of rfl) rfl (di_r1 rfl tx.b_range (da_cons (de_call d_round_in (hr.mono (by decide)) (fun z => nomatch z) rfl (takes_of rfl rfl rfl rfl) (da_cons (dv 0) da_nil) (nArg_cons nArg_nil)) da_nil)) (dp_name sc_seen_round.nd rfl (Or.inl rfl))
    (db_cons (ds_ext (i := 2) rfl (Or.inl rfl) (de_fz (df_lc (own := [("row", 6)]) (is := [6]) rfl sc_seen_round.nd (di_seq rfl (dv 3)) (blkOk_by (by rfl)) (fun _ _ _ _ _ => (dp_name sc_seen_round.nd rfl (Or.inl rfl))) (fun _ _ _ _ _ => dts_nil) (fun _ _ _ _ _ => (deT (cl_tuple rfl) tx.b_tuple bt_tuple (da_cons (de_fz (df_lc (own := [("string", 7)]) (is := [7]) rfl sc_seen_round.nd (di_seq rfl (dv 6)) (blkOk_by (by rfl)) (fun _ _ _ _ _ => (dp_name sc_seen_round.nd rfl (Or.inl rfl))) (fun _ _ _ _ _ => dts_nil) (fun _ _ _ _ _ => (de_ix (ix_D rfl) (dv 1) (dv 7))) (by decide))) da_nil))) (by decide))))
    (db_one (ds_set sc_seen_round.nd rfl (Or.inr rfl) (de_call d_begun_as (hr.mono (by decide)) (fun z => nomatch z) rfl (takes_of rfl rfl rfl rfl) (da_cons (dv 4) (da_cons (dv 1) da_nil)) (nArg_cons (nArg_cons nArg_nil)))))))
    (db_one (ds_retO (i := 2) rfl (Or.inl rfl)))))
def g_least_shift : KB.Env → BS → RS BS :=
    (sRet (eOp2 ixD (eFz (fComp (iR3 (aCons (eC (.int 2)) (aCons (eOp2 addD (eCl lenD (aCons (eVar 0) aNil)) (eC (.int 1))) (aCons (eC (.int 2)) aNil)))) (pName 1) (tBl (eOp2 eqD (eOp2 addD (eSl slD (eVar 0) (pSome (eVar 1)) pNone) (eSl slD (eVar 0) pNone (pSome (eVar 1)))) (eVar 0))) (eVar 1) [1])) (eC (.int 0))))
theorem sc_least_shift : FnScope ["rows", "shift"] ["rows"] (defScope s_least_shift) := ⟨rfl, rfl, rfl, by decide +kernel, rfl, by decide +kernel, by decide +kernel⟩
theorem ok_least_shift {P : Program} {w : World} {K : PySem.W.Frag} {mg : Str → Option Value} {cl : Str → Addr} {ts : Addr → Option Str} {base : Heap} {f : Addr} {fd : FuncData} (F : Fun K "least_shift" "least_shift" s_least_shift f fd) (tx : Tx P w K mg cl) :
    FnG false P w K mg base 1 f fd ["rows"] (spD ⟨K, cl⟩ (SRB ⟨K, cl⟩ ts) 1 (semOf 2 g_least_shift)) := by
  refine okDef (T := ⟨K, cl⟩) (SR := SRB ⟨K, cl⟩ ts) (k := 0) (gb := g_least_shift) F sc_least_shift rfl rfl fun cdv A out s H E hr hg => ?_
  exact (db_one (ds_ret (de_ix (ix_D rfl) (de_fz (df_lc (own := [("shift", 1)]) (is := [1]) rfl sc_least_shift.nd (di_r3 rfl tx.b_range (da_cons de_int (da_cons (de_bin (op_addD rfl) (deB (cl_len rfl) tx.b_len bt_len (da_cons (dv 0) da_nil)) de_int) (da_cons de_int da_nil)))) (blkOk_by (by rfl)) (fun _ _ _ _ _ => (dp_name sc_least_shift.nd rfl (Or.inl rfl))) (fun _ _ _ _ _ => (dts_one (dt_cmp (op_eqD' rfl hr.units) (de_bin (op_addD rfl) (de_slice (sl_D rfl) (dv 0) (do_some (dv 1)) do_none) (de_slice (sl_D rfl) (dv 0) do_none (do_some (dv 1)))) (dv 0) (nomark _)))) (fun _ _ _ _ _ => (dv 1)) (by decide))) de_int)))
def g_period_in : KB.Env → BS → RS BS :=
    (sRet (eCall (semOf 2 g_least_shift) (aCons (eFz (fComp (iSq (eCall (semOf 8 g_seen_round) (aCons (eVar 0) aNil))) (pName 2) bYes (eJoin (eC (.str [])) (eFz (fComp (iSq (eVar 2)) (pName 3) bYes (eOp2 ixD (eVar 1) (eVar 3)) [3]))) [2])) aNil)))
theorem sc_period_in : FnScope ["loop", "colouring", "row", "string"] ["loop", "colouring"] (defScope s_period_in) := ⟨rfl, rfl, rfl, by decide +kernel, rfl, by decide +kernel, by decide +kernel⟩
theorem ok_period_in {P : Program} {w : World} {K : PySem.W.Frag} {mg : Str → Option Value} {cl : Str → Addr} {ts : Addr → Option Str} {base : Heap} {f : Addr} {fd : FuncData} (F : Fun K "period_in" "period_in" s_period_in f fd) (tx : Tx P w K mg cl)
    (d_least_shift : Dfn false P w K mg base 1 "least_shift" (spD ⟨K, cl⟩ (SRB ⟨K, cl⟩ ts) 1 (semOf 2 g_least_shift)))
    (d_seen_round : Dfn false P w K mg base 6 "seen_round" (spD ⟨K, cl⟩ (SRB ⟨K, cl⟩ ts) 1 (semOf 8 g_seen_round))) :
    FnG false P w K mg base 7 f fd ["loop", "colouring"] (spD ⟨K, cl⟩ (SRB ⟨K, cl⟩ ts) 2 (semOf 4 g_period_in)) := by
  refine okDef (T := ⟨K, cl⟩) (SR := SRB ⟨K, cl⟩ ts) (k := 6) (gb := g_period_in) F sc_period_in rfl rfl fun cdv A out s H E hr hg => ?_
  exact (db_one (ds_ret (de_call d_least_shift (hr.mono (by decide)) (fun z => nomatch z) rfl (takes_of rfl rfl rfl rfl) (da_cons (de_fz (df_lc (own := [("row", 2)]) (is := [2]) rfl sc_period_in.nd (di_seq rfl (de_call d_seen_round (hr.mono (by decide)) (fun z => nomatch z) rfl (takes_of rfl rfl rfl rfl) (da_cons (dv 0) da_nil) (nArg_cons nArg_nil))) (blkOk_by (by rfl)) (fun _ _ _ _ _ => (dp_name sc_period_in.nd rfl (Or.inl rfl))) (fun _ _ _ _ _ => dts_nil) (fun _ _ _ _ _ => (de_join rfl (de_str (l := []) (by rfl)) (de_fz (df_lc (own := [("string", 3)]) (is := [3]) rfl sc_period_in.nd (di_seq rfl (dv 2)) (blkOk_by (by rfl)) (fun _ _ _ _ _ => (dp_name sc_period_in.nd rfl (Or.inl rfl))) (fun _ _ _ _ _ => dts_nil) (fun _ _ _ _ _ => (de_ix (ix_D rfl) (dv 1) (dv 3))) (by decide))))) (by decide))) da_nil) (nArg_cons nArg_nil))))
def g_period_by : KB.Env → BS → RS BS :=
    (sSeq (sDrop (eCall (semOf 1 g_need_pattern) (aCons (eVar 0) aNil)))
    (sSeq (sDrop (eCall (semOf 2 g_colouring_of) (aCons (ePrp "Pattern" (semOf 1 g_Pattern_strings) (eVar 0)) (aCons (eVar 1) aNil))))
    (sSeq (sDrop (eCall (semOf 1 g_check_loop) (aCons (eVar 0) aNil)))
    (sRet (eCall (semOf 4 g_period_in) (aCons (eVar 0) (aCons (eVar 1) aNil)))))))
theorem sc_period_by : FnScope ["loop", "colouring"] ["loop", "colouring"] (defScope s_period_by) := ⟨rfl, rfl, rfl, by decide +kernel, rfl, by decide +kernel, by decide +kernel⟩
theorem ok_period_by {P : Program} {w : World} {K : PySem.W.Frag} {mg : Str → Option Value} {cl : Str → Addr} {ts : Addr → Option Str} {base : Heap} {f : Addr} {fd : FuncData} (F : Fun K "period_by" "period_by" s_period_by f fd) (tx : Tx P w K mg cl)
    (d_Pattern_strings : Pdf P w K mg base 1 (cl "Pattern") "strings" (spD ⟨K, cl⟩ (SRB ⟨K, cl⟩ ts) 1 (semOf 1 g_Pattern_strings)))
    (d_check_loop : Dfn false P w K mg base 3 "check_loop" (spD ⟨K, cl⟩ (SRB ⟨K, cl⟩ ts) 1 (semOf 1 g_check_loop)))
    (d_colouring_of : Dfn false P w K mg base 3 "colouring_of" (spD ⟨K, cl⟩ (SRB ⟨K, cl⟩ ts) 2 (semOf 2 g_colouring_of)))
    (d_need_pattern : Dfn false P w K mg base 1 "need_pattern" (spD ⟨K, cl⟩ (SRB ⟨K, cl⟩ ts) 1 (semOf 1 g_need_pattern)))
    (d_period_in : Dfn false P w K mg base 7 "period_in" (spD ⟨K, cl⟩ (SRB ⟨K, cl⟩ ts) 2 (semOf 4 g_period_in))) :
    FnG false P w K mg base 8 f fd ["loop", "colouring"] (spD ⟨K, cl⟩ (SRB ⟨K, cl⟩ ts) 2 (semOf 2 g_period_by)) := by
  refine okDef (T := ⟨K, cl⟩) (SR := SRB ⟨K, cl⟩ ts) (k := 7) (gb := g_period_by) F sc_period_by rfl rfl fun cdv A out s H E hr hg => ?_
  exact (db_cons (ds_drop (de_call d_need_pattern (hr.mono (by decide)) (fun z => nomatch z) rfl (takes_of rfl rfl rfl rfl) (da_cons (dv 0) da_nil) (nArg_cons nArg_nil)))
    (db_cons (ds_drop (de_call d_colouring_of (hr.mono (by decide)) (fun z => nomatch z) rfl (takes_of rfl rfl rfl rfl) (da_cons (de_prp "Pattern" tx.c_Pattern.c d_Pattern_strings (hr.mono (by decide)) (dv 0)) (da_cons (dv 1) da_nil)) (nArg_cons (nArg_cons nArg_nil))))
    (db_cons (ds_drop (de_call d_check_loop (hr.mono (by decide)) (fun z => nomatch z) rfl (takes_of rfl rfl rfl rfl) (da_cons (dv 0) da_nil) (nArg_cons nArg_nil)))
    (db_one (ds_ret (de_call d_period_in (hr.mono (by decide)) (fun z => nomatch z) rfl (takes_of rfl rfl rfl rfl) (da_cons (dv 0) (da_cons (dv 1) da_nil)) (nArg_cons (nArg_cons nArg_nil))))))))
def g_Band_add_row : KB.Env → BS → RS BS :=
    (sSeq (sSet 2 (eCl lenD (aCons (eFldH "Band" "own_rows" (eVar 0)) aNil)))
    (sSeq (sAugH "Band" "own_seen" 0 tupA (eTup (aCons (eCall (semOf 6 g_seen_in) (aCons (eVar 1) (aCons (eVar 2) (aCons (eFldH "Band" "own_order" (eVar 0)) aNil)))) aNil)))
    (sSeq (sFldH "Band" "own_order" 0 (eCall (semOf 6 g_knotted) (aCons (eVar 1) (aCons (eVar 2) (aCons (eFldH "Band" "own_order" (eVar 0)) aNil)))))
    (sAugH "Band" "own_rows" 0 tupA (eTup (aCons (eVar 1) aNil))))))
theorem sc_Band_add_row : FnScope ["self", "row", "number"] ["self", "row"] (defScope s_Band_add_row) := ⟨rfl, rfl, rfl, by decide +kernel, rfl, by decide +kernel, by decide +kernel⟩
theorem ok_Band_add_row {P : Program} {w : World} {K : PySem.W.Frag} {mg : Str → Option Value} {cl : Str → Addr} {ts : Addr → Option Str} {base : Heap} {f : Addr} {fd : FuncData} (F : Fun K "add_row" "Band.add_row" s_Band_add_row f fd) (tx : Tx P w K mg cl)
    (d_knotted : Dfn false P w K mg base 2 "knotted" (spD ⟨K, cl⟩ (SRB ⟨K, cl⟩ ts) 3 (semOf 6 g_knotted)))
    (d_seen_in : Dfn false P w K mg base 2 "seen_in" (spD ⟨K, cl⟩ (SRB ⟨K, cl⟩ ts) 3 (semOf 6 g_seen_in))) :
    FnG false P w K mg base 3 f fd ["self", "row"] (spD ⟨K, cl⟩ (SRB ⟨K, cl⟩ ts) 2 (semOf 3 g_Band_add_row)) := by
  refine okDef (T := ⟨K, cl⟩) (SR := SRB ⟨K, cl⟩ ts) (k := 2) (gb := g_Band_add_row) F sc_Band_add_row rfl rfl fun cdv A out s H E hr hg => ?_
  exact (db_cons (ds_set sc_Band_add_row.nd rfl (Or.inl rfl) (deB (cl_len rfl) tx.b_len bt_len (da_cons (de_fldH "Band" tx.c_Band.c tx.nf_Band_own_rows (dv 0)) da_nil)))
    (db_cons (ds_augH (i := 0) "Band" (ip_addT rfl) tx.c_Band.c tx.nf_Band_own_seen rfl (de_tup (da_cons (de_call d_seen_in (hr.mono (by decide)) (fun z => nomatch z) rfl (takes_of rfl rfl rfl rfl) (da_cons (dv 1) (da_cons (dv 2) (da_cons (de_fldH "Band" tx.c_Band.c tx.nf_Band_own_order (dv 0)) da_nil))) (nArg_cons (nArg_cons (nArg_cons nArg_nil)))) da_nil)))
    (db_cons (ds_fldH (i := 0) "Band" tx.c_Band.c tx.nf_Band_own_order rfl (de_call d_knotted (hr.mono (by decide)) (fun z => nomatch z) rfl (takes_of rfl rfl rfl rfl) (da_cons (dv 1) (da_cons (dv 2) (da_cons (de_fldH "Band" tx.c_Band.c tx.nf_Band_own_order (dv 0)) da_nil))) (nArg_cons (nArg_cons (nArg_cons nArg_nil)))))
    (db_one (ds_augH (i := 0) "Band" (ip_addT rfl) tx.c_Band.c tx.nf_Band_own_rows rfl (de_tup (da_cons (dv 1) da_nil)))))))
def g_Band_put_in_b1 : KB.Env → BS → RS BS :=
    (sDrop (eMthH "Band" "add_row" (semOf 3 g_Band_add_row) (eVar 0) (aCons (eVar 2) aNil)))
def g_Band_put_in : KB.Env → BS → RS BS :=
    (sSeq (sFld3H "Band" "own_rows" "own_order" "own_seen" 0 (eTup (aCons (eTup aNil) (aCons (eTupR (gR1 (eCl lenD (aCons (eFldH "Band" "own_colouring" (eVar 0)) aNil)))) (aCons (eTup aNil) aNil)))))
    (sFor (iSq (eVar 1)) (pName 2) g_Band_put_in_b1))
theorem sc_Band_put_in : FnScope ["self", "rows", "row"] ["self", "rows"] (defScope s_Band_put_in) := ⟨rfl, rfl, rfl, by decide +kernel, rfl, by decide +kernel, by decide +kernel⟩
theorem ok_Band_put_in {P : Program} {w : World} {K : PySem.W.Frag} {mg : Str → Option Value} {cl : Str → Addr} {ts : Addr → Option Str} {base : Heap} {f : Addr} {fd : FuncData} (F : Fun K "put_in" "Band.put_in" s_Band_put_in f fd) (tx : Tx P w K mg cl)
    (d_Band_add_row : Mdf false P w K mg base 3 (cl "Band") "add_row" (spD ⟨K, cl⟩ (SRB ⟨K, cl⟩ ts) 2 (semOf 3 g_Band_add_row))) :
    FnG false P w K mg base 5 f fd ["self", "rows"] (spD ⟨K, cl⟩ (SRB ⟨K, cl⟩ ts) 2 (semOf 3 g_Band_put_in)) := by
  refine okDef (T := ⟨K, cl⟩) (SR := SRB ⟨K, cl⟩ ts) (k := 4) (gb := g_Band_put_in) F sc_Band_put_in rfl rfl fun cdv A out s H E hr hg => ?_
  exact (db_cons (ds_fld3H (i := 0) "Band" rfl rfl tx.c_Band.c tx.nf_Band_own_rows tx.nf_Band_own_order tx.nf_Band_own_seen rfl (de_tup (da_cons (de_tup da_nil) (da_cons (de_tupR rfl rfl tx.b_tuple (dr_1 rfl tx.b_range (deB (cl_len rfl) tx.b_len bt_len (da_cons (de_fldH "Band" tx.c_Band.c tx.nf_Band_own_colouring (dv 0)) da_nil)))) (da_cons (de_tup da_nil) da_nil)))))
    (db_one (ds_for (is := [2]) (passes_of rfl) rfl (di_seq rfl (dv 1)) (dp_name sc_Band_put_in.nd rfl (Or.inl rfl))
    (db_one (ds_drop (de_mthH "Band" tx.c_Band.c d_Band_add_row (hr.mono (by decide)) (fun z => nomatch z) (takes_of rfl rfl rfl rfl) (dv 0) (da_cons (dv 2) da_nil) (nArg_cons nArg_nil)))))))
def g_Band_ddinitdd : KB.Env → BS → RS BS :=
    (sSeq (sIf (bOr (bNot (tTru (eCl isiD (aCons (eVar 1) (aCons (eC (.ty "str")) aNil))))) (bNot (tBl (eChain leD leD (eC (.int 2)) (eCl lenD (aCons (eVar 1) aNil)) (eC (.int 8))))))
    (sRaise "BadColouring" "value" (eVar 1))
    sNil)
    (sSeq (sIf (bNot (tTru (eCall (semOf 2 g_is_colouring) (aCons (eCl lenD (aCons (eVar 1) aNil)) (aCons (eVar 1) aNil)))))
    (sRaise "BadColouring" "value" (eVar 1))
    sNil)
    (sSeq (sFldH "Band" "own_colouring" 0 (eVar 1))
    (sDrop (eMthH "Band" "put_in" (semOf 3 g_Band_put_in) (eVar 0) (aCons (eTup aNil) aNil))))))
theorem sc_Band_ddinitdd : FnScope ["self", "colouring"] ["self", "colouring"] (defScope s_Band_ddinitdd) := ⟨rfl, rfl, rfl, by decide +kernel, rfl, by decide +kernel, by decide +kernel⟩
theorem ok_Band_ddinitdd {P : Program} {w : World} {K : PySem.W.Frag} {mg : Str → Option Value} {cl : Str → Addr} {ts : Addr → Option Str} {base : Heap} {f : Addr} {fd : FuncData} (F : Fun K "__init__" "Band.__init__" s_Band_ddinitdd f fd) (tx : Tx P w K mg cl)
    (d_Band_put_in : Mdf false P w K mg base 5 (cl "Band") "put_in" (spD ⟨K, cl⟩ (SRB ⟨K, cl⟩ ts) 2 (semOf 3 g_Band_put_in)))
    (d_is_colouring : Dfn false P w K mg base 2 "is_colouring" (spD ⟨K, cl⟩ (SRB ⟨K, cl⟩ ts) 2 (semOf 2 g_is_colouring))) :
    FnG false P w K mg base 7 f fd ["self", "colouring"] (spD ⟨K, cl⟩ (SRB ⟨K, cl⟩ ts) 2 (semOf 2 g_Band_ddinitdd)) := by
  refine okDef (T := ⟨K, cl⟩) (SR := SRB ⟨K, cl⟩ ts) (k := 6) (gb := g_Band_ddinitdd) F sc_Band_ddinitdd rfl rfl fun cdv A out s H E hr hg => ?_
  exact (db_cons (ds_if (dt_w (dt_or (dt_not (dt_tru rfl (deB (cl_isi rfl) tx.b_isinstance bt_isinstance (da_cons (dv 1) (da_cons (de_ty tx.b_str bt_str) da_nil))))) (dw_or1 (dt_not (dt_chain op_leD op_leD de_int (deB (cl_len rfl) tx.b_len bt_len (da_cons (dv 1) da_nil)) (de_cint tx.k_MOST_STRINGS))))))
    (db_one (ds_raise PySem.F.excBase_ValueError PySem.W.kxs_ValueError PySem.F.store_ValueError tx.x_BadColouring hr rfl (takes_of rfl rfl rfl rfl) rfl (dv 1)))
    db_nil)
    (db_cons (ds_if (dt_not (dt_tru rfl (de_call d_is_colouring (hr.mono (by decide)) (fun z => nomatch z) rfl (takes_of rfl rfl rfl rfl) (da_cons (deB (cl_len rfl) tx.b_len bt_len (da_cons (dv 1) da_nil)) (da_cons (dv 1) da_nil)) (nArg_cons (nArg_cons nArg_nil)))))
    (db_one (ds_raise PySem.F.excBase_ValueError PySem.W.kxs_ValueError PySem.F.store_ValueError tx.x_BadColouring hr rfl (takes_of rfl rfl rfl rfl) rfl (dv 1)))
    db_nil)
    (db_cons (ds_fldH (i := 0) "Band" tx.c_Band.c tx.nf_Band_own_colouring rfl (dv 1))
    (db_one (ds_drop (de_mthH "Band" tx.c_Band.c d_Band_put_in (hr.mono (by decide)) (fun z => nomatch z) (takes_of rfl rfl rfl rfl) (dv 0) (da_cons (de_tup da_nil) da_nil) (nArg_cons nArg_nil)))))))
def g_Band_colouring : KB.Env → BS → RS BS :=
    (sRet (eFldH "Band" "own_colouring" (eVar 0)))
theorem sc_Band_colouring : FnScope ["self"] ["self"] (defScope s_Band_colouring) := ⟨rfl, rfl, rfl, by decide +kernel, rfl, by decide +kernel, by decide +kernel⟩
theorem ok_Band_colouring {P : Program} {w : World} {K : PySem.W.Frag} {mg : Str → Option Value} {cl : Str → Addr} {ts : Addr → Option Str} {base : Heap} {f : Addr} {fd : FuncData} (F : Fun K "colouring" "Band.colouring" s_Band_colouring f fd) (tx : Tx P w K mg cl) :
    FnG false P w K mg base 1 f fd ["self"] (spD ⟨K, cl⟩ (SRB ⟨K, cl⟩ ts) 1 (semOf 1 g_Band_colouring)) := by
  refine okDef (T := ⟨K, cl⟩) (SR := SRB ⟨K, cl⟩ ts) (k := 0) (gb := g_Band_colouring) F sc_Band_colouring rfl rfl fun cdv A out s H E hr hg => ?_
  exact (db_one (ds_ret (de_fldH "Band" tx.c_Band.c tx.nf_Band_own_colouring (dv 0))))
def g_Band_rows : KB.Env → BS → RS BS :=
    (sRet (eFldH "Band" "own_rows" (eVar 0)))
theorem sc_Band_rows : FnScope ["self"] ["self"] (defScope s_Band_rows) := ⟨rfl, rfl, rfl, by decide +kernel, rfl, by decide +kernel, by decide +kernel⟩
theorem ok_Band_rows {P : Program} {w : World} {K : PySem.W.Frag} {mg : Str → Option Value} {cl : Str → Addr} {ts : Addr → Option Str} {base : Heap} {f : Addr} {fd : FuncData} (F : Fun K "rows" "Band.rows" s_Band_rows f fd) (tx : Tx P w K mg cl) :
    FnG false P w K mg base 1 f fd ["self"] (spD ⟨K, cl⟩ (SRB ⟨K, cl⟩ ts) 1 (semOf 1 g_Band_rows)) := by
  refine okDef (T := ⟨K, cl⟩) (SR := SRB ⟨K, cl⟩ ts) (k := 0) (gb := g_Band_rows) F sc_Band_rows rfl rfl fun cdv A out s H E hr hg => ?_
  exact (db_one (ds_ret (de_fldH "Band" tx.c_Band.c tx.nf_Band_own_rows (dv 0))))
def g_Band_picture : KB.Env → BS → RS BS :=
    (sRet (eCl tupleD (aCons (eFz (fComp (iSq (eFldH "Band" "own_seen" (eVar 0))) (pName 1) bYes (eJoin (eC (.str [])) (eFz (fComp (iSq (eVar 1)) (pName 2) bYes (eOp2 ixD (eFldH "Band" "own_colouring" (eVar 0)) (eVar 2)) [2]))) [1])) aNil)))
theorem sc_Band_picture : FnScope ["self", "row", "string"] ["self"] (defScope s_Band_picture) := ⟨rfl, rfl, rfl, by decide +kernel, rfl, by decide +kernel, by decide +kernel⟩
theorem ok_Band_picture {P : Program} {w : World} {K : PySem.W.Frag} {mg : Str → Option Value} {cl : Str → Addr} {ts : Addr → Option Str} {base : Heap} {f : Addr} {fd : FuncData} (F : Fun K "picture" "Band.picture" s_Band_picture f fd) (tx : Tx P w K mg cl) :
    FnG false P w K mg base 1 f fd ["self"] (spD ⟨K, cl⟩ (SRB ⟨K, cl⟩ ts) 1 (semOf 3 g_Band_picture)) := by
  refine okDef (T := ⟨K, cl⟩) (SR := SRB ⟨K, cl⟩ ts) (k := 0) (gb := g_Band_picture) F sc_Band_picture rfl rfl fun cdv A out s H E hr hg => ?_
  exact (db_one (ds_ret (deT (cl_tuple rfl) tx.b_tuple bt_tuple (da_cons (de_fz (df_lc (own := [("row", 1)]) (is := [1]) rfl sc_Band_picture.nd (di_seq rfl (de_fldH "Band" tx.c_Band.c tx.nf_Band_own_seen (dv 0))) (blkOk_by (by rfl)) (fun _ _ _ _ _ => (dp_name sc_Band_picture.nd rfl (Or.inl rfl))) (fun _ _ _ _ _ => dts_nil) (fun _ _ _ _ _ => (de_join rfl (de_str (l := []) (by rfl)) (de_fz (df_lc (own := [("string", 2)]) (is := [2]) rfl sc_Band_picture.nd (di_seq rfl (dv 1)) (blkOk_by (by rfl)) (fun _ _ _ _ _ => (dp_name sc_Band_picture.nd rfl (Or.inl rfl))) (fun _ _ _ _ _ => dts_nil) (fun _ _ _ _ _ => (de_ix (ix_D rfl) (de_fldH "Band" tx.c_Band.c tx.nf_Band_own_colouring (dv 0)) (dv 2))) (by decide))))) (by decide))) da_nil))))
def g_Band_stand : KB.Env → BS → RS BS :=
    (sRet (eJoin (eC (.str [])) (eFz (fComp (iSq (eFldH "Band" "own_order" (eVar 0))) (pName 1) bYes (eOp2 ixD (eFldH "Band" "own_colouring" (eVar 0)) (eVar 1)) [1]))))
theorem sc_Band_stand : FnScope ["self", "string"] ["self"] (defScope s_Band_stand) := ⟨rfl, rfl, rfl, by decide +kernel, rfl, by decide +kernel, by decide +kernel⟩
theorem ok_Band_stand {P : Program} {w : World} {K : PySem.W.Frag} {mg : Str → Option Value} {cl : Str → Addr} {ts : Addr → Option Str} {base : Heap} {f : Addr} {fd : FuncData} (F : Fun K "stand" "Band.stand" s_Band_stand f fd) (tx : Tx P w K mg cl) :
    FnG false P w K mg base 1 f fd ["self"] (spD ⟨K, cl⟩ (SRB ⟨K, cl⟩ ts) 1 (semOf 2 g_Band_stand)) := by
  refine okDef (T := ⟨K, cl⟩) (SR := SRB ⟨K, cl⟩ ts) (k := 0) (gb := g_Band_stand) F sc_Band_stand rfl rfl fun cdv A out s H E hr hg => ?_
  exact (db_one (ds_ret (de_join rfl (de_str (l := []) (by rfl)) (de_fz (df_lc (own := [("string", 1)]) (is := [1]) rfl sc_Band_stand.nd (di_seq rfl (de_fldH "Band" tx.c_Band.c tx.nf_Band_own_order (dv 0))) (blkOk_by (by rfl)) (fun _ _ _ _ _ => (dp_name sc_Band_stand.nd rfl (Or.inl rfl))) (fun _ _ _ _ _ => dts_nil) (fun _ _ _ _ _ => (de_ix (ix_D rfl) (de_fldH "Band" tx.c_Band.c tx.nf_Band_own_colouring (dv 0)) (dv 1))) (by decide))))))
def g_Band_uses : KB.Env → BS → RS BS :=
    (sSeq (sPar [1, 2] (zD (eCl lenD (aCons (eFldH "Band" "own_rows" (eVar 0)) aNil)) (zD (eFz (fListR (gR1 (eCl lenD (aCons (eFldH "Band" "own_colouring" (eVar 0)) aNil))))) zNil)))
    (sRet (eCl tupleD (aCons (eFz (fComp (iSq (eVar 2)) (pName 3) bYes (eOp2 addD (eVar 1) (eOp2 mulX (eC (.int 3)) (eCl sumA (aCons (eFz (fComp (iSq (eFldH "Band" "own_seen" (eVar 0))) (pName 4) bYes (eCl intD (aCons (eOp2 inD (eVar 3) (eVar 4)) aNil)) [4])) aNil)))) [3])) aNil))))
theorem sc_Band_uses : FnScope ["self", "many", "strings", "string", "row"] ["self"] (defScope s_Band_uses) := ⟨rfl, rfl, rfl, by decide +kernel, rfl, by decide +kernel, by decide +kernel⟩
theorem ok_Band_uses {P : Program} {w : World} {K : PySem.W.Frag} {mg : Str → Option Value} {cl : Str → Addr} {ts : Addr → Option Str} {base : Heap} {f : Addr} {fd : FuncData} (F : Fun K "uses" "Band.uses" s_Band_uses f fd) (tx : Tx P w K mg cl) :
    FnG false P w K mg base 1 f fd ["self"] (spD ⟨K, cl⟩ (SRB ⟨K, cl⟩ ts) 1 (semOf 5 g_Band_uses)) := by
  refine okDef (T := ⟨K, cl⟩) (SR := SRB ⟨K, cl⟩ ts) (k := 0) (gb := g_Band_uses) F sc_Band_uses rfl rfl fun cdv A out s H E hr hg => ?_
  exact (db_cons (ds_par2c (i := 1) (j := 2) rfl rfl sc_Band_uses.nd rfl rfl (Or.inr rfl) (Or.inl rfl) (dz_d (deB (cl_len rfl) tx.b_len bt_len (da_cons (de_fldH "Band" tx.c_Band.c tx.nf_Band_own_rows (dv 0)) da_nil)) (dz_d (de_fz (df_listR rfl rfl tx.b_list (dr_1 rfl tx.b_range (deB (cl_len rfl) tx.b_len bt_len (da_cons (de_fldH "Band" tx.c_Band.c tx.nf_Band_own_colouring (dv 0)) da_nil))))) dz_nil)))
    (db_one (ds_ret (deT (cl_tuple rfl) tx.b_tuple bt_tuple (da_cons (de_fz (df_lc (own := [("string", 3)]) (is := [3]) rfl sc_Band_uses.nd (di_seq rfl (dv 2)) (blkOk_by (by rfl)) (fun _ _ _ _ _ => (dp_name sc_Band_uses.nd rfl (Or.inr rfl))) (fun _ _ _ _ _ => dts_nil) (fun _ _ _ _ _ => (de_bin (op_addD rfl) (dv 1) (de_bin (op_mulX rfl) (de_cint tx.k_MORE) (deB (cl_sumA rfl rfl) tx.b_sum bt_sum (da_cons (de_fz (df_lc (own := [("row", 4)]) (is := [4]) rfl sc_Band_uses.nd (di_seq rfl (de_fldH "Band" tx.c_Band.c tx.nf_Band_own_seen (dv 0))) (blkOk_by (by rfl)) (fun _ _ _ _ _ => (dp_name sc_Band_uses.nd rfl (Or.inl rfl))) (fun _ _ _ _ _ => dts_nil) (fun _ _ _ _ _ => (deT cl_int tx.b_int bt_int (da_cons (de_cmp (op_inD' rfl (u65 hr)) (dv 3) (dv 4) (by rfl)) da_nil))) (by decide))) da_nil))))) (by decide))) da_nil)))))
def g_Band_ddcalldd : KB.Env → BS → RS BS :=
    (sSeq (sSet 2 (eCall (semOf 6 g_row_fault) (aCons (eCl lenD (aCons (eFldH "Band" "own_colouring" (eVar 0)) aNil)) (aCons (eCl lenD (aCons (eFldH "Band" "own_rows" (eVar 0)) aNil)) (aCons (eVar 1) aNil)))))
    (sSeq (sIf (tBl (eOp2 nisD (eVar 2) (eC .non)))
    (sRaise "BadPattern" "place" (eVar 2))
    sNil)
    (sSeq (sIf (tBl (eOp2 eqD (eCl lenD (aCons (eFldH "Band" "own_rows" (eVar 0)) aNil)) (eC (.int 400))))
    (sRaise "TooGreat" "most" (eC (.int 400)))
    sNil)
    (sSeq (sDrop (eMthH "Band" "add_row" (semOf 3 g_Band_add_row) (eVar 0) (aCons (eVar 1) aNil)))
    (sRet (eOp2 ixD (ePrpH "Band" (semOf 3 g_Band_picture) (eVar 0)) (eOp1 negD (eC (.int 1)))))))))
theorem sc_Band_ddcalldd : FnScope ["self", "row", "place"] ["self", "row"] (defScope s_Band_ddcalldd) := ⟨rfl, rfl, rfl, by decide +kernel, rfl, by decide +kernel, by decide +kernel⟩
theorem ok_Band_ddcalldd {P : Program} {w : World} {K : PySem.W.Frag} {mg : Str → Option Value} {cl : Str → Addr} {ts : Addr → Option Str} {base : Heap} {f : Addr} {fd : FuncData} (F : Fun K "__call__" "Band.__call__" s_Band_ddcalldd f fd) (tx : Tx P w K mg cl)
    (d_Band_add_row : Mdf false P w K mg base 3 (cl "Band") "add_row" (spD ⟨K, cl⟩ (SRB ⟨K, cl⟩ ts) 2 (semOf 3 g_Band_add_row)))
    (d_Band_picture : Pdf P w K mg base 1 (cl "Band") "picture" (spD ⟨K, cl⟩ (SRB ⟨K, cl⟩ ts) 1 (semOf 3 g_Band_picture)))
    (d_row_fault : Dfn false P w K mg base 3 "row_fault" (spD ⟨K, cl⟩ (SRB ⟨K, cl⟩ ts) 3 (semOf 6 g_row_fault))) :
    FnG false P w K mg base 5 f fd ["self", "row"] (spD ⟨K, cl⟩ (SRB ⟨K, cl⟩ ts) 2 (semOf 3 g_Band_ddcalldd)) := by
  refine okDef (T := ⟨K, cl⟩) (SR := SRB ⟨K, cl⟩ ts) (k := 4) (gb := g_Band_ddcalldd) F sc_Band_ddcalldd rfl rfl fun cdv A out s H E hr hg => ?_
  exact (db_cons (ds_set sc_Band_ddcalldd.nd rfl (Or.inl rfl) (de_call d_row_fault (hr.mono (by decide)) (fun z => nomatch z) rfl (takes_of rfl rfl rfl rfl) (da_cons (deB (cl_len rfl) tx.b_len bt_len (da_cons (de_fldH "Band" tx.c_Band.c tx.nf_Band_own_colouring (dv 0)) da_nil)) (da_cons (deB (cl_len rfl) tx.b_len bt_len (da_cons (de_fldH "Band" tx.c_Band.c tx.nf_Band_own_rows (dv 0)) da_nil)) (da_cons (dv 1) da_nil))) (nArg_cons (nArg_cons (nArg_cons nArg_nil)))))
    (db_cons (ds_if (dt_cmp op_nisD (dv 2) de_non (nomark _))
    (db_one (ds_raise PySem.F.excBase_ValueError PySem.W.kxs_ValueError PySem.F.store_ValueError tx.x_BadPattern hr rfl (takes_of rfl rfl rfl rfl) rfl (dv 2)))
    db_nil)
    (db_cons (ds_if (dt_cmp (op_eqD' rfl hr.units) (deB (cl_len rfl) tx.b_len bt_len (da_cons (de_fldH "Band" tx.c_Band.c tx.nf_Band_own_rows (dv 0)) da_nil)) (de_cint tx.k_MOST_BAND) (nomark _))
    (db_one (ds_raise PySem.F.excBase_OverflowError PySem.W.kxs_OverflowError PySem.F.store_OverflowError tx.x_TooGreat hr rfl (takes_of rfl rfl rfl rfl) rfl (de_cint tx.k_MOST_BAND)))
    db_nil)
    (db_cons (ds_drop (de_mthH "Band" tx.c_Band.c d_Band_add_row (hr.mono (by decide)) (fun z => nomatch z) (takes_of rfl rfl rfl rfl) (dv 0) (da_cons (dv 1) da_nil) (nArg_cons nArg_nil)))
    (db_one (ds_ret (de_ix (ix_D rfl) (de_prpH "Band" tx.c_Band.c d_Band_picture (hr.mono (by decide)) (dv 0)) (de_un op_negD de_int))))))))
def g_Band_back : KB.Env → BS → RS BS :=
    (sSeq (sIf (bNot (tTru (eCall (semOf 3 g_is_whole) (aCons (eVar 1) (aCons (eC (.int 1)) (aCons (eC .non) aNil))))))
    (sRaise "OutOfPlace" "text" (eC (.str [110, 111, 32, 110, 117, 109, 98, 101, 114, 32, 111, 102, 32, 114, 111, 119, 115])))
    sNil)
    (sSeq (sIf (tBl (eOp2 gtD (eVar 1) (eCl lenD (aCons (eFldH "Band" "own_rows" (eVar 0)) aNil))))
    (sRaise "Nothing" "text" (eC (.str [110, 111, 116, 32, 115, 111, 32, 109, 97, 110, 121, 32, 114, 111, 119, 115])))
    sNil)
    (sDrop (eMthH "Band" "put_in" (semOf 3 g_Band_put_in) (eVar 0) (aCons (eSl slD (eFldH "Band" "own_rows" (eVar 0)) pNone (pSome (eOp2 subD (eCl lenD (aCons (eFldH "Band" "own_rows" (eVar 0)) aNil)) (eVar 1)))) aNil)))))
theorem sc_Band_back : FnScope ["self", "many"] ["self", "many"] (defScope s_Band_back) := ⟨rfl, rfl, rfl, by decide +kernel, rfl, by decide +kernel, by decide +kernel⟩
theorem ok_Band_back {P : Program} {w : World} {K : PySem.W.Frag} {mg : Str → Option Value} {cl : Str → Addr} {ts : Addr → Option Str} {base : Heap} {f : Addr} {fd : FuncData} (F : Fun K "back" "Band.back" s_Band_back f fd) (tx : Tx P w K mg cl)
    (d_Band_put_in : Mdf false P w K mg base 5 (cl "Band") "put_in" (spD ⟨K, cl⟩ (SRB ⟨K, cl⟩ ts) 2 (semOf 3 g_Band_put_in)))
    (d_is_whole : Dfn false P w K mg base 1 "is_whole" (spD ⟨K, cl⟩ (SRB ⟨K, cl⟩ ts) 3 (semOf 3 g_is_whole))) :
    FnG false P w K mg base 7 f fd ["self", "many"] (spD ⟨K, cl⟩ (SRB ⟨K, cl⟩ ts) 2 (semOf 2 g_Band_back)) := by
  refine okDef (T := ⟨K, cl⟩) (SR := SRB ⟨K, cl⟩ ts) (k := 6) (gb := g_Band_back) F sc_Band_back rfl rfl fun cdv A out s H E hr hg => ?_
  exact (db_cons (ds_if (dt_not (dt_tru rfl (de_call d_is_whole (hr.mono (by decide)) (fun z => nomatch z) rfl (takes_of rfl rfl rfl rfl) (da_cons (dv 1) (da_cons de_int (da_cons de_non da_nil))) (nArg_cons (nArg_cons (nArg_cons nArg_nil))))))
    (db_one (ds_raise PySem.F.excBase_ValueError PySem.W.kxs_ValueError PySem.F.store_ValueError tx.x_OutOfPlace hr rfl (takes_of rfl rfl rfl rfl) rfl (de_str (l := [110, 111, 32, 110, 117, 109, 98, 101, 114, 32, 111, 102, 32, 114, 111, 119, 115]) (by rfl))))
    db_nil)
    (db_cons (ds_if (dt_cmp op_gtD (dv 1) (deB (cl_len rfl) tx.b_len bt_len (da_cons (de_fldH "Band" tx.c_Band.c tx.nf_Band_own_rows (dv 0)) da_nil)) (nomark _))
    (db_one (ds_raise PySem.F.excBase_LookupError PySem.W.kxs_LookupError PySem.F.store_LookupError tx.x_Nothing hr rfl (takes_of rfl rfl rfl rfl) rfl (de_str (l := [110, 111, 116, 32, 115, 111, 32, 109, 97, 110, 121, 32, 114, 111, 119, 115]) (by rfl))))
    db_nil)
    (db_one (ds_drop (de_mthH "Band" tx.c_Band.c d_Band_put_in (hr.mono (by decide)) (fun z => nomatch z) (takes_of rfl rfl rfl rfl) (dv 0) (da_cons (de_slice (sl_D rfl) (de_fldH "Band" tx.c_Band.c tx.nf_Band_own_rows (dv 0)) do_none (do_some (de_bin op_subD (deB (cl_len rfl) tx.b_len bt_len (da_cons (de_fldH "Band" tx.c_Band.c tx.nf_Band_own_rows (dv 0)) da_nil)) (dv 1)))) da_nil) (nArg_cons nArg_nil))))))
def g_need_plain : KB.Env → BS → RS BS :=
    (sSeq (sDrop (eCall (semOf 1 g_need_strings) (aCons (eVar 0) aNil)))
    (sSeq (sDrop (eCall (semOf 4 g_picture_of) (aCons (eVar 0) (aCons (eVar 1) aNil))))
    (sIf (bNot (tTru (eCl allD (aCons (eFz (fComp (iSq (eVar 1)) (pName 2) bYes (eCall (semOf 4 g_is_text) (aCons (eVar 2) (aCons (eCl lenD (aCons (eVar 2) aNil)) (aCons (eC (.str [97, 98])) aNil)))) [2])) aNil))))
    (sRaise "BadPicture" "place" (eTup aNil))
    sNil)))
theorem sc_need_plain : FnScope ["strings", "picture", "row"] ["strings", "picture"] (defScope s_need_plain) := ⟨rfl, rfl, rfl, by decide +kernel, rfl, by decide +kernel, by decide +kernel⟩
theorem ok_need_plain {P : Program} {w : World} {K : PySem.W.Frag} {mg : Str → Option Value} {cl : Str → Addr} {ts : Addr → Option Str} {base : Heap} {f : Addr} {fd : FuncData} (F : Fun K "need_plain" "need_plain" s_need_plain f fd) (tx : Tx P w K mg cl)
    (d_is_text : Dfn false P w K mg base 1 "is_text" (spD ⟨K, cl⟩ (SRB ⟨K, cl⟩ ts) 3 (semOf 4 g_is_text)))
    (d_need_strings : Dfn false P w K mg base 2 "need_strings" (spD ⟨K, cl⟩ (SRB ⟨K, cl⟩ ts) 1 (semOf 1 g_need_strings)))
    (d_picture_of : Dfn false P w K mg base 3 "picture_of" (spD ⟨K, cl⟩ (SRB ⟨K, cl⟩ ts) 2 (semOf 4 g_picture_of))) :
    FnG false P w K mg base 4 f fd ["strings", "picture"] (spD ⟨K, cl⟩ (SRB ⟨K, cl⟩ ts) 2 (semOf 3 g_need_plain)) := by
  refine okDef (T := ⟨K, cl⟩) (SR := SRB ⟨K, cl⟩ ts) (k := 3) (gb := g_need_plain) F sc_need_plain rfl rfl fun cdv A out s H E hr hg => ?_
  exact (db_cons (ds_drop (de_call d_need_strings (hr.mono (by decide)) (fun z => nomatch z) rfl (takes_of rfl rfl rfl rfl) (da_cons (dv 0) da_nil) (nArg_cons nArg_nil)))
    (db_cons (ds_drop (de_call d_picture_of (hr.mono (by decide)) (fun z => nomatch z) rfl (takes_of rfl rfl rfl rfl) (da_cons (dv 0) (da_cons (dv 1) da_nil)) (nArg_cons (nArg_cons nArg_nil))))
    (db_one (ds_if (dt_not (dt_tru rfl (deB (cl_all rfl rfl) tx.b_all bt_all (da_cons (de_fz (df_lc (own := [("row", 2)]) (is := [2]) rfl sc_need_plain.nd (di_seq rfl (dv 1)) (blkOk_by (by rfl)) (fun _ _ _ _ _ => (dp_name sc_need_plain.nd rfl (Or.inl rfl))) (fun _ _ _ _ _ => dts_nil) (fun _ _ _ _ _ => (de_call d_is_text (hr.mono (by decide)) (fun z => nomatch z) rfl takes0 (da_cons (dv 2) (da_cons (deB (cl_len rfl) tx.b_len bt_len (da_cons (dv 2) da_nil)) (da_cons (de_str (l := [97, 98]) (by rfl)) da_nil))) (nArg_cons (nArg_cons (nArg_cons nArg_nil))))) (by decide))) da_nil))))
    (db_one (ds_raise PySem.F.excBase_ValueError PySem.W.kxs_ValueError PySem.F.store_ValueError tx.x_BadPicture hr rfl (takes_of rfl rfl rfl rfl) rfl (de_tup da_nil)))
    db_nil))))
def g_spread : KB.Env → BS → RS BS :=
    (sSeq (sDrop (eCall (semOf 3 g_need_plain) (aCons (eVar 0) (aCons (eVar 1) aNil))))
    (sSeq sBad
    sBad))
theorem sc_spread : FnScope ["strings", "picture", "some", "many"] ["strings", "picture"] (defScope s_spread) := ⟨rfl, rfl, rfl, by decide +kernel, rfl, by decide +kernel, by decide +kernel⟩
theorem ok_spread {P : Program} {w : World} {K : PySem.W.Frag} {mg : Str → Option Value} {cl : Str → Addr} {ts : Addr → Option Str} {base : Heap} {f : Addr} {fd : FuncData} (F : Fun K "spread" "spread" s_spread f fd) (tx : Tx P w K mg cl)
    (d_need_plain : Dfn false P w K mg base 4 "need_plain" (spD ⟨K, cl⟩ (SRB ⟨K, cl⟩ ts) 2 (semOf 3 g_need_plain))) :
    FnG false P w K mg base 5 f fd ["strings", "picture"] (spD ⟨K, cl⟩ (SRB ⟨K, cl⟩ ts) 2 (semOf 4 g_spread)) := by
  refine okDef (T := ⟨K, cl⟩) (SR := SRB ⟨K, cl⟩ ts) (k := 4) (gb := g_spread) F sc_spread rfl rfl fun cdv A out s H E hr hg => ?_
  exact (db_cons (ds_drop (de_call d_need_plain (hr.mono (by decide)) (fun z => nomatch z) rfl (takes_of rfl rfl rfl rfl) (da_cons (dv 0) (da_cons (dv 1) da_nil)) (nArg_cons (nArg_cons nArg_nil))))
    (db_cons ds_bad
    (db_one ds_bad)))
def g_number_of : KB.Env → BS → RS BS :=
    (sSeq (sIf (bOr (bNot (tBl (eChain leD leD (eC (.int 1)) (eCl lenD (aCons (eVar 0) aNil)) (eC (.int 3))))) (bNot (tTru (eCl allD (aCons (eFz (fComp (iSq (eVar 0)) (pName 1) bYes (eOp2 inD (eVar 1) (eC (.str [48, 49, 50, 51, 52, 53, 54, 55, 56, 57]))) [1])) aNil)))))
    (sRet (eC .non))
    sNil)
    (sRet (eIf (tBl (eOp2 eqD (eCl strD (aCons (eCl intX (aCons (eVar 0) aNil)) aNil)) (eVar 0))) (eCl intX (aCons (eVar 0) aNil)) (eC .non))))
theorem sc_number_of : FnScope ["word", "sign"] ["word"] (defScope s_number_of) := ⟨rfl, rfl, rfl, by decide +kernel, rfl, by decide +kernel, by decide +kernel⟩
theorem ok_number_of {P : Program} {w : World} {K : PySem.W.Frag} {mg : Str → Option Value} {cl : Str → Addr} {ts : Addr → Option Str} {base : Heap} {f : Addr} {fd : FuncData} (F : Fun K "number_of" "number_of" s_number_of f fd) (tx : Tx P w K mg cl) :
    FnG false P w K mg base 1 f fd ["word"] (spD ⟨K, cl⟩ (SRB ⟨K, cl⟩ ts) 1 (semOf 2 g_number_of)) := by
  refine okDef (T := ⟨K, cl⟩) (SR := SRB ⟨K, cl⟩ ts) (k := 0) (gb := g_number_of) F sc_number_of rfl rfl fun cdv A out s H E hr hg => ?_
  exact (db_cons (ds_if (dt_w (dt_or (dt_not (dt_chain op_leD op_leD de_int (deB (cl_len rfl) tx.b_len bt_len (da_cons (dv 0) da_nil)) de_int)) (dw_or1 (dt_not (dt_tru rfl (deB (cl_all rfl rfl) tx.b_all bt_all (da_cons (de_fz (df_lc (own := [("sign", 1)]) (is := [1]) rfl sc_number_of.nd (di_seq rfl (dv 0)) (blkOk_by (by rfl)) (fun _ _ _ _ _ => (dp_name sc_number_of.nd rfl (Or.inl rfl))) (fun _ _ _ _ _ => dts_nil) (fun _ _ _ _ _ => (de_cmp (op_inD' rfl (u65 hr)) (dv 1) (de_str (l := [48, 49, 50, 51, 52, 53, 54, 55, 56, 57]) (by rfl)) (by rfl))) (by decide))) da_nil)))))))
    (db_one (ds_ret de_non))
    db_nil)
    (db_one (ds_ret (de_if (dt_cmp (op_eqD' rfl hr.units) (deT cl_str tx.b_str bt_str (da_cons (deT cl_intX tx.b_int bt_int (da_cons (dv 0) da_nil)) da_nil)) (dv 0) (nomark _)) (deT cl_intX tx.b_int bt_int (da_cons (dv 0) da_nil)) de_non))))
def g_joined : KB.Env → BS → RS BS :=
    (sRet (eIf (tBl (eOp2 neD (eVar 0) (eTup aNil))) (eJoin (eC (.str [59, 32])) (eFz (fComp (iSq (eVar 0)) (pName 1) bYes (eIf (tBl (eOp2 neD (eVar 1) (eC (.str [])))) (eVar 1) (eC (.str [45]))) [1]))) (eC (.str [110, 111, 110, 101]))))
theorem sc_joined : FnScope ["rows", "row"] ["rows"] (defScope s_joined) := ⟨rfl, rfl, rfl, by decide +kernel, rfl, by decide +kernel, by decide +kernel⟩
theorem ok_joined {P : Program} {w : World} {K : PySem.W.Frag} {mg : Str → Option Value} {cl : Str → Addr} {ts : Addr → Option Str} {base : Heap} {f : Addr} {fd : FuncData} (F : Fun K "joined" "joined" s_joined f fd) (tx : Tx P w K mg cl) :
    FnG false P w K mg base 1 f fd ["rows"] (spD ⟨K, cl⟩ (SRB ⟨K, cl⟩ ts) 1 (semOf 2 g_joined)) := by
  refine okDef (T := ⟨K, cl⟩) (SR := SRB ⟨K, cl⟩ ts) (k := 0) (gb := g_joined) F sc_joined rfl rfl fun cdv A out s H E hr hg => ?_
  exact (db_one (ds_ret (de_if (dt_cmp (op_neD' rfl hr.units) (dv 0) (de_tup da_nil) (nomark _)) (de_join rfl (de_str (l := [59, 32]) (by rfl)) (de_fz (df_lc (own := [("row", 1)]) (is := [1]) rfl sc_joined.nd (di_seq rfl (dv 0)) (blkOk_by (by rfl)) (fun _ _ _ _ _ => (dp_name sc_joined.nd rfl (Or.inl rfl))) (fun _ _ _ _ _ => dts_nil) (fun _ _ _ _ _ => (de_if (dt_cmp (op_neD' rfl hr.units) (dv 1) (de_str (l := []) (by rfl)) (nomark _)) (dv 1) (de_cstr (l := [45]) tx.k_BARE))) (by decide)))) (de_cstr (l := [110, 111, 110, 101]) tx.k_NONE))))
def g_Desk_ddinitdd : KB.Env → BS → RS BS :=
    (sFldH "Desk" "own" 0 (eC .non))
theorem sc_Desk_ddinitdd : FnScope ["self"] ["self"] (defScope s_Desk_ddinitdd) := ⟨rfl, rfl, rfl, by decide +kernel, rfl, by decide +kernel, by decide +kernel⟩
theorem ok_Desk_ddinitdd {P : Program} {w : World} {K : PySem.W.Frag} {mg : Str → Option Value} {cl : Str → Addr} {ts : Addr → Option Str} {base : Heap} {f : Addr} {fd : FuncData} (F : Fun K "__init__" "Desk.__init__" s_Desk_ddinitdd f fd) (tx : Tx P w K mg cl) :
    FnG false P w K mg base 1 f fd ["self"] (spD ⟨K, cl⟩ (SRB ⟨K, cl⟩ ts) 1 (semOf 1 g_Desk_ddinitdd)) := by
  refine okDef (T := ⟨K, cl⟩) (SR := SRB ⟨K, cl⟩ ts) (k := 0) (gb := g_Desk_ddinitdd) F sc_Desk_ddinitdd rfl rfl fun cdv A out s H E hr hg => ?_
  exact (db_one (ds_fldH (i := 0) "Desk" tx.c_Desk.c tx.nf_Desk_own rfl de_non))
def g_Desk_band : KB.Env → BS → RS BS :=
    (sRet (eFldH "Desk" "own" (eVar 0)))
theorem sc_Desk_band : FnScope ["self"] ["self"] (defScope s_Desk_band) := ⟨rfl, rfl, rfl, by decide +kernel, rfl, by decide +kernel, by decide +kernel⟩
theorem ok_Desk_band {P : Program} {w : World} {K : PySem.W.Frag} {mg : Str → Option Value} {cl : Str → Addr} {ts : Addr → Option Str} {base : Heap} {f : Addr} {fd : FuncData} (F : Fun K "band" "Desk.band" s_Desk_band f fd) (tx : Tx P w K mg cl) :
    FnG false P w K mg base 1 f fd ["self"] (spD ⟨K, cl⟩ (SRB ⟨K, cl⟩ ts) 1 (semOf 1 g_Desk_band)) := by
  refine okDef (T := ⟨K, cl⟩) (SR := SRB ⟨K, cl⟩ ts) (k := 0) (gb := g_Desk_band) F sc_Desk_band rfl rfl fun cdv A out s H E hr hg => ?_
  exact (db_one (ds_ret (de_fldH "Desk" tx.c_Desk.c tx.nf_Desk_own (dv 0))))
def g_Desk_pattern : KB.Env → BS → RS BS :=
    (sRet (eMake "Pattern" (semInit 6 "Pattern" g_Pattern_ddinitdd) (aCons (eCl lenD (aCons (ePrpH "Band" (semOf 1 g_Band_colouring) (eFldH "Desk" "own" (eVar 0))) aNil)) (aCons (ePrpH "Band" (semOf 1 g_Band_rows) (eFldH "Desk" "own" (eVar 0))) aNil))))
theorem sc_Desk_pattern : FnScope ["self"] ["self"] (defScope s_Desk_pattern) := ⟨rfl, rfl, rfl, by decide +kernel, rfl, by decide +kernel, by decide +kernel⟩
theorem ok_Desk_pattern {P : Program} {w : World} {K : PySem.W.Frag} {mg : Str → Option Value} {cl : Str → Addr} {ts : Addr → Option Str} {base : Heap} {f : Addr} {fd : FuncData} (F : Fun K "pattern" "Desk.pattern" s_Desk_pattern f fd) (tx : Tx P w K mg cl)
    (d_Band_colouring : Pdf P w K mg base 1 (cl "Band") "colouring" (spD ⟨K, cl⟩ (SRB ⟨K, cl⟩ ts) 1 (semOf 1 g_Band_colouring)))
    (d_Band_rows : Pdf P w K mg base 1 (cl "Band") "rows" (spD ⟨K, cl⟩ (SRB ⟨K, cl⟩ ts) 1 (semOf 1 g_Band_rows)))
    (d_Pattern_ddinitdd : Idf P w K mg base 4 "Pattern" (cl "Pattern") (spI ⟨K, cl⟩ (SRB ⟨K, cl⟩ ts) "Pattern" 2 (semInit 6 "Pattern" g_Pattern_ddinitdd))) :
    FnG false P w K mg base 6 f fd ["self"] (spD ⟨K, cl⟩ (SRB ⟨K, cl⟩ ts) 1 (semOf 1 g_Desk_pattern)) := by
  refine okDef (T := ⟨K, cl⟩) (SR := SRB ⟨K, cl⟩ ts) (k := 5) (gb := g_Desk_pattern) F sc_Desk_pattern rfl rfl fun cdv A out s H E hr hg => ?_
  exact (db_one (ds_ret (de_make d_Pattern_ddinitdd (hr.mono (by decide)) (takes_of rfl rfl rfl rfl) (da_cons (deB (cl_len rfl) tx.b_len bt_len (da_cons (de_prpH "Band" tx.c_Band.c d_Band_colouring (hr.mono (by decide)) (de_fldH "Desk" tx.c_Desk.c tx.nf_Desk_own (dv 0))) da_nil)) (da_cons (de_prpH "Band" tx.c_Band.c d_Band_rows (hr.mono (by decide)) (de_fldH "Desk" tx.c_Desk.c tx.nf_Desk_own (dv 0))) da_nil)) (nArg_cons (nArg_cons nArg_nil)))))
def g_Desk_knotted : KB.Env → BS → RS BS :=
    (sSeq (sIf (tBl (eOp2 eqD (eVar 1) (eC (.str []))))
    (sRet (eC (.str [110, 111])))
    sNil)
    (sSeq (sSet 2 (eFldH "Desk" "own" (eVar 0)))
    (sSeq (sSet 3 (eCallH "Band" (semOf 3 g_Band_ddcalldd) (eVar 2) (aCons (eIf (tBl (eOp2 neD (eVar 1) (eC (.str [45])))) (eVar 1) (eC (.str []))) aNil)))
    (sRet (eIf (tBl (eOp2 neD (eVar 3) (eC (.str [])))) (eVar 3) (eC (.str [45])))))))
theorem sc_Desk_knotted : FnScope ["self", "word", "band", "shown"] ["self", "word"] (defScope s_Desk_knotted) := ⟨rfl, rfl, rfl, by decide +kernel, rfl, by decide +kernel, by decide +kernel⟩
theorem ok_Desk_knotted {P : Program} {w : World} {K : PySem.W.Frag} {mg : Str → Option Value} {cl : Str → Addr} {ts : Addr → Option Str} {base : Heap} {f : Addr} {fd : FuncData} (F : Fun K "knotted" "Desk.knotted" s_Desk_knotted f fd) (tx : Tx P w K mg cl)
    (d_Band_ddcalldd : Cdf P w K mg base 5 (cl "Band") (spD ⟨K, cl⟩ (SRB ⟨K, cl⟩ ts) 2 (semOf 3 g_Band_ddcalldd))) :
    FnG false P w K mg base 7 f fd ["self", "word"] (spD ⟨K, cl⟩ (SRB ⟨K, cl⟩ ts) 2 (semOf 4 g_Desk_knotted)) := by
  refine okDef (T := ⟨K, cl⟩) (SR := SRB ⟨K, cl⟩ ts) (k := 6) (gb := g_Desk_knotted) F sc_Desk_knotted rfl rfl fun cdv A out s H E hr hg => ?_
  exact (db_cons (ds_if (dt_cmp (op_eqD' rfl hr.units) (dv 1) (de_str (l := []) (by rfl)) (nomark _))
    (db_one (ds_ret (de_cstr (l := [110, 111]) tx.k_NO)))
    db_nil)
    (db_cons (ds_set sc_Desk_knotted.nd rfl (Or.inl rfl) (de_fldH "Desk" tx.c_Desk.c tx.nf_Desk_own (dv 0)))
    (db_cons (ds_set sc_Desk_knotted.nd rfl (Or.inl rfl) (de_callH "Band" d_Band_ddcalldd (hr.mono (by decide)) (takes_of rfl rfl rfl rfl) (dv 2) (da_cons (de_if (dt_cmp (op_neD' rfl hr.units) (dv 1) (de_cstr (l := [45]) tx.k_BARE) (nomark _)) (dv 1) (de_str (l := []) (by rfl))) da_nil) (nArg_cons nArg_nil)))
    (db_one (ds_ret (de_if (dt_cmp (op_neD' rfl hr.units) (dv 3) (de_str (l := []) (by rfl)) (nomark _)) (dv 3) (de_cstr (l := [45]) tx.k_BARE)))))))
def g_Desk_taken_back : KB.Env → BS → RS BS :=
    (sSeq (sDrop (eMkwH "Band" "back" (semOf 2 g_Band_back) (eFldH "Desk" "own" (eVar 0)) (eIf (tBl (eOp2 neD (eVar 1) (eFz (fLst aNil)))) (eCall (semOf 2 g_number_of) (aCons (eOp2 ixD (eVar 1) (eC (.int 0))) aNil)) (eC (.int 1)))))
    (sRet (eC (.str [100, 111, 110, 101]))))
theorem sc_Desk_taken_back : FnScope ["self", "words"] ["self", "words"] (defScope s_Desk_taken_back) := ⟨rfl, rfl, rfl, by decide +kernel, rfl, by decide +kernel, by decide +kernel⟩
theorem ok_Desk_taken_back {P : Program} {w : World} {K : PySem.W.Frag} {mg : Str → Option Value} {cl : Str → Addr} {ts : Addr → Option Str} {base : Heap} {f : Addr} {fd : FuncData} (F : Fun K "taken_back" "Desk.taken_back" s_Desk_taken_back f fd) (tx : Tx P w K mg cl)
    (d_Band_back : Mkw P w K mg base 7 (cl "Band") "back" "many" (.int 1) (spD ⟨K, cl⟩ (SRB ⟨K, cl⟩ ts) 2 (semOf 2 g_Band_back)))
    (d_number_of : Dfn false P w K mg base 1 "number_of" (spD ⟨K, cl⟩ (SRB ⟨K, cl⟩ ts) 1 (semOf 2 g_number_of))) :
    FnG false P w K mg base 9 f fd ["self", "words"] (spD ⟨K, cl⟩ (SRB ⟨K, cl⟩ ts) 2 (semOf 2 g_Desk_taken_back)) := by
  refine okDef (T := ⟨K, cl⟩) (SR := SRB ⟨K, cl⟩ ts) (k := 8) (gb := g_Desk_taken_back) F sc_Desk_taken_back rfl rfl fun cdv A out s H E hr hg => ?_
  exact (db_cons (ds_drop (de_mkwH "Band" tx.c_Band.c d_Band_back (hr.mono (by decide)) (takes_of rfl rfl rfl rfl) (de_fldH "Desk" tx.c_Desk.c tx.nf_Desk_own (dv 0)) (de_if (dt_cmp (op_neD' rfl hr.units) (dv 1) (de_fz (df_lst da_nil)) (nomark _)) (de_call d_number_of (hr.mono (by decide)) (fun z => nomatch z) rfl (takes_of rfl rfl rfl rfl) (da_cons (de_ix (ix_D rfl) (dv 1) de_int) da_nil) (nArg_cons nArg_nil)) de_int)))
    (db_one (ds_ret (de_cstr (l := [100, 111, 110, 101]) tx.k_DONE))))
def g_Desk_spread_told : KB.Env → BS → RS BS :=
    (sSeq (sSet 1 (eCall (semOf 4 g_spread) (aCons (eCl lenD (aCons (ePrpH "Band" (semOf 1 g_Band_colouring) (eFldH "Desk" "own" (eVar 0))) aNil)) (aCons (ePrpH "Band" (semOf 3 g_Band_picture) (eFldH "Desk" "own" (eVar 0))) aNil))))
    sBad)
theorem sc_Desk_spread_told : FnScope ["self", "found"] ["self"] (defScope s_Desk_spread_told) := ⟨rfl, rfl, rfl, by decide +kernel, rfl, by decide +kernel, by decide +kernel⟩
theorem ok_Desk_spread_told {P : Program} {w : World} {K : PySem.W.Frag} {mg : Str → Option Value} {cl : Str → Addr} {ts : Addr → Option Str} {base : Heap} {f : Addr} {fd : FuncData} (F : Fun K "spread_told" "Desk.spread_told" s_Desk_spread_told f fd) (tx : Tx P w K mg cl)
    (d_Band_colouring : Pdf P w K mg base 1 (cl "Band") "colouring" (spD ⟨K, cl⟩ (SRB ⟨K, cl⟩ ts) 1 (semOf 1 g_Band_colouring)))
    (d_Band_picture : Pdf P w K mg base 1 (cl "Band") "picture" (spD ⟨K, cl⟩ (SRB ⟨K, cl⟩ ts) 1 (semOf 3 g_Band_picture)))
    (d_spread : Dfn false P w K mg base 5 "spread" (spD ⟨K, cl⟩ (SRB ⟨K, cl⟩ ts) 2 (semOf 4 g_spread))) :
    FnG false P w K mg base 6 f fd ["self"] (spD ⟨K, cl⟩ (SRB ⟨K, cl⟩ ts) 1 (semOf 2 g_Desk_spread_told)) := by
  refine okDef (T := ⟨K, cl⟩) (SR := SRB ⟨K, cl⟩ ts) (k := 5) (gb := g_Desk_spread_told) F sc_Desk_spread_told rfl rfl fun cdv A out s H E hr hg => ?_
  exact (db_cons (ds_set sc_Desk_spread_told.nd rfl (Or.inl rfl) (de_call d_spread (hr.mono (by decide)) (fun z => nomatch z) rfl (takes_of rfl rfl rfl rfl) (da_cons (deB (cl_len rfl) tx.b_len bt_len (da_cons (de_prpH "Band" tx.c_Band.c d_Band_colouring (hr.mono (by decide)) (de_fldH "Desk" tx.c_Desk.c tx.nf_Desk_own (dv 0))) da_nil)) (da_cons (de_prpH "Band" tx.c_Band.c d_Band_picture (hr.mono (by decide)) (de_fldH "Desk" tx.c_Desk.c tx.nf_Desk_own (dv 0))) da_nil)) (nArg_cons (nArg_cons nArg_nil))))
    (db_one ds_bad))
def g_Desk_ever_told : KB.Env → BS → RS BS :=
    (sSeq (sSet 1 (eCall (semOf 3 g_most_rows) (aCons (eCl lenD (aCons (ePrpH "Band" (semOf 1 g_Band_colouring) (eFldH "Desk" "own" (eVar 0))) aNil)) (aCons (ePrpH "Band" (semOf 3 g_Band_picture) (eFldH "Desk" "own" (eVar 0))) (aCons (ePrpH "Band" (semOf 1 g_Band_colouring) (eFldH "Desk" "own" (eVar 0))) aNil)))))
    sBad)
theorem sc_Desk_ever_told : FnScope ["self", "found"] ["self"] (defScope s_Desk_ever_told) := ⟨rfl, rfl, rfl, by decide +kernel, rfl, by decide +kernel, by decide +kernel⟩
theorem ok_Desk_ever_told {P : Program} {w : World} {K : PySem.W.Frag} {mg : Str → Option Value} {cl : Str → Addr} {ts : Addr → Option Str} {base : Heap} {f : Addr} {fd : FuncData} (F : Fun K "ever_told" "Desk.ever_told" s_Desk_ever_told f fd) (tx : Tx P w K mg cl)
    (d_Band_colouring : Pdf P w K mg base 1 (cl "Band") "colouring" (spD ⟨K, cl⟩ (SRB ⟨K, cl⟩ ts) 1 (semOf 1 g_Band_colouring)))
    (d_Band_picture : Pdf P w K mg base 1 (cl "Band") "picture" (spD ⟨K, cl⟩ (SRB ⟨K, cl⟩ ts) 1 (semOf 3 g_Band_picture)))
    (d_most_rows : Dfn false P w K mg base 6 "most_rows" (spD ⟨K, cl⟩ (SRB ⟨K, cl⟩ ts) 3 (semOf 3 g_most_rows))) :
    FnG false P w K mg base 7 f fd ["self"] (spD ⟨K, cl⟩ (SRB ⟨K, cl⟩ ts) 1 (semOf 2 g_Desk_ever_told)) := by
  refine okDef (T := ⟨K, cl⟩) (SR := SRB ⟨K, cl⟩ ts) (k := 6) (gb := g_Desk_ever_told) F sc_Desk_ever_told rfl rfl fun cdv A out s H E hr hg => ?_
  exact (db_cons (ds_set sc_Desk_ever_told.nd rfl (Or.inl rfl) (de_call d_most_rows (hr.mono (by decide)) (fun z => nomatch z) rfl (takes_of rfl rfl rfl rfl) (da_cons (deB (cl_len rfl) tx.b_len bt_len (da_cons (de_prpH "Band" tx.c_Band.c d_Band_colouring (hr.mono (by decide)) (de_fldH "Desk" tx.c_Desk.c tx.nf_Desk_own (dv 0))) da_nil)) (da_cons (de_prpH "Band" tx.c_Band.c d_Band_picture (hr.mono (by decide)) (de_fldH "Desk" tx.c_Desk.c tx.nf_Desk_own (dv 0))) (da_cons (de_prpH "Band" tx.c_Band.c d_Band_colouring (hr.mono (by decide)) (de_fldH "Desk" tx.c_Desk.c tx.nf_Desk_own (dv 0))) da_nil))) (nArg_cons (nArg_cons (nArg_cons nArg_nil)))))
    (db_one ds_bad))
def g_Desk_made_told : KB.Env → BS → RS BS :=
    (sRet (eIf (tTru (eCall (semOf 3 g_can_be_made) (aCons (eCl lenD (aCons (ePrpH "Band" (semOf 1 g_Band_colouring) (eFldH "Desk" "own" (eVar 0))) aNil)) (aCons (ePrpH "Band" (semOf 3 g_Band_picture) (eFldH "Desk" "own" (eVar 0))) (aCons (eVar 1) aNil))))) (eC (.str [121, 101, 115])) (eC (.str [110, 111, 32, 119, 97, 121]))))
theorem sc_Desk_made_told : FnScope ["self", "word"] ["self", "word"] (defScope s_Desk_made_told) := ⟨rfl, rfl, rfl, by decide +kernel, rfl, by decide +kernel, by decide +kernel⟩
theorem ok_Desk_made_told {P : Program} {w : World} {K : PySem.W.Frag} {mg : Str → Option Value} {cl : Str → Addr} {ts : Addr → Option Str} {base : Heap} {f : Addr} {fd : FuncData} (F : Fun K "made_told" "Desk.made_told" s_Desk_made_told f fd) (tx : Tx P w K mg cl)
    (d_Band_colouring : Pdf P w K mg base 1 (cl "Band") "colouring" (spD ⟨K, cl⟩ (SRB ⟨K, cl⟩ ts) 1 (semOf 1 g_Band_colouring)))
    (d_Band_picture : Pdf P w K mg base 1 (cl "Band") "picture" (spD ⟨K, cl⟩ (SRB ⟨K, cl⟩ ts) 1 (semOf 3 g_Band_picture)))
    (d_can_be_made : Dfn false P w K mg base 5 "can_be_made" (spD ⟨K, cl⟩ (SRB ⟨K, cl⟩ ts) 3 (semOf 3 g_can_be_made))) :
    FnG false P w K mg base 6 f fd ["self", "word"] (spD ⟨K, cl⟩ (SRB ⟨K, cl⟩ ts) 2 (semOf 2 g_Desk_made_told)) := by
  refine okDef (T := ⟨K, cl⟩) (SR := SRB ⟨K, cl⟩ ts) (k := 5) (gb := g_Desk_made_told) F sc_Desk_made_told rfl rfl fun cdv A out s H E hr hg => ?_
  exact (db_one (ds_ret (de_if (dt_tru rfl (de_call d_can_be_made (hr.mono (by decide)) (fun z => nomatch z) rfl (takes_of rfl rfl rfl rfl) (da_cons (deB (cl_len rfl) tx.b_len bt_len (da_cons (de_prpH "Band" tx.c_Band.c d_Band_colouring (hr.mono (by decide)) (de_fldH "Desk" tx.c_Desk.c tx.nf_Desk_own (dv 0))) da_nil)) (da_cons (de_prpH "Band" tx.c_Band.c d_Band_picture (hr.mono (by decide)) (de_fldH "Desk" tx.c_Desk.c tx.nf_Desk_own (dv 0))) (da_cons (dv 1) da_nil))) (nArg_cons (nArg_cons (nArg_cons nArg_nil))))) (de_str (l := [121, 101, 115]) (by rfl)) (de_str (l := [110, 111, 32, 119, 97, 121]) (by rfl)))))
def g_Desk_alone : KB.Env → BS → RS BS :=
    (sSeq (sIf (tBl (eOp2 eqD (eVar 1) (eC (.str [114, 111, 119, 115]))))
    (sRet (eCall (semOf 2 g_joined) (aCons (ePrpH "Band" (semOf 1 g_Band_rows) (eFldH "Desk" "own" (eVar 0))) aNil)))
    sNil)
    (sSeq (sIf (tBl (eOp2 eqD (eVar 1) (eC (.str [112, 105, 99, 116, 117, 114, 101]))))
    (sRet (eCall (semOf 2 g_joined) (aCons (ePrpH "Band" (semOf 3 g_Band_picture) (eFldH "Desk" "own" (eVar 0))) aNil)))
    sNil)
    (sSeq (sIf (tBl (eOp2 eqD (eVar 1) (eC (.str [115, 116, 97, 110, 100]))))
    (sRet (ePrpH "Band" (semOf 2 g_Band_stand) (eFldH "Desk" "own" (eVar 0))))
    sNil)
    (sSeq (sIf (tBl (eOp2 eqD (eVar 1) (eC (.str [117, 115, 101, 115]))))
    (sRet (eJoin (eC (.str [32])) (eFz (fComp (iSq (ePrpH "Band" (semOf 5 g_Band_uses) (eFldH "Desk" "own" (eVar 0)))) (pName 2) bYes (eCl strD (aCons (eVar 2) aNil)) [2]))))
    sNil)
    (sSeq (sIf (tBl (eOp2 eqD (eVar 1) (eC (.str [114, 111, 117, 110, 100]))))
    (sRet (eCl strD (aCons (eCall (semOf 1 g_round_of) (aCons (eMthH "Desk" "pattern" (semOf 1 g_Desk_pattern) (eVar 0) aNo) aNil)) aNil)))
    sNil)
    (sSeq (sIf (tBl (eOp2 eqD (eVar 1) (eC (.str [112, 101, 114, 105, 111, 100]))))
    (sRet (eCl strD (aCons (eCall (semOf 2 g_period_by) (aCons (eMthH "Desk" "pattern" (semOf 1 g_Desk_pattern) (eVar 0) aNo) (aCons (ePrpH "Band" (semOf 1 g_Band_colouring) (eFldH "Desk" "own" (eVar 0))) aNil))) aNil)))
    sNil)
    (sSeq (sIf (tBl (eOp2 eqD (eVar 1) (eC (.str [115, 112, 114, 101, 97, 100]))))
    (sRet (eMthH "Desk" "spread_told" (semOf 2 g_Desk_spread_told) (eVar 0) aNo))
    sNil)
    (sRet (eIf (tBl (eOp2 eqD (eVar 1) (eC (.str [101, 118, 101, 114])))) (eMthH "Desk" "ever_told" (semOf 2 g_Desk_ever_told) (eVar 0) aNo) (eC (.str [110, 111])))))))))))
theorem sc_Desk_alone : FnScope ["self", "word", "number"] ["self", "word"] (defScope s_Desk_alone) := ⟨rfl, rfl, rfl, by decide +kernel, rfl, by decide +kernel, by decide +kernel⟩
theorem ok_Desk_alone {P : Program} {w : World} {K : PySem.W.Frag} {mg : Str → Option Value} {cl : Str → Addr} {ts : Addr → Option Str} {base : Heap} {f : Addr} {fd : FuncData} (F : Fun K "alone" "Desk.alone" s_Desk_alone f fd) (tx : Tx P w K mg cl)
    (d_Band_colouring : Pdf P w K mg base 1 (cl "Band") "colouring" (spD ⟨K, cl⟩ (SRB ⟨K, cl⟩ ts) 1 (semOf 1 g_Band_colouring)))
    (d_Band_picture : Pdf P w K mg base 1 (cl "Band") "picture" (spD ⟨K, cl⟩ (SRB ⟨K, cl⟩ ts) 1 (semOf 3 g_Band_picture)))
    (d_Band_rows : Pdf P w K mg base 1 (cl "Band") "rows" (spD ⟨K, cl⟩ (SRB ⟨K, cl⟩ ts) 1 (semOf 1 g_Band_rows)))
    (d_Band_stand : Pdf P w K mg base 1 (cl "Band") "stand" (spD ⟨K, cl⟩ (SRB ⟨K, cl⟩ ts) 1 (semOf 2 g_Band_stand)))
    (d_Band_uses : Pdf P w K mg base 1 (cl "Band") "uses" (spD ⟨K, cl⟩ (SRB ⟨K, cl⟩ ts) 1 (semOf 5 g_Band_uses)))
    (d_Desk_ever_told : Mdf false P w K mg base 7 (cl "Desk") "ever_told" (spD ⟨K, cl⟩ (SRB ⟨K, cl⟩ ts) 1 (semOf 2 g_Desk_ever_told)))
    (d_Desk_pattern : Mdf false P w K mg base 6 (cl "Desk") "pattern" (spD ⟨K, cl⟩ (SRB ⟨K, cl⟩ ts) 1 (semOf 1 g_Desk_pattern)))
    (d_Desk_spread_told : Mdf false P w K mg base 6 (cl "Desk") "spread_told" (spD ⟨K, cl⟩ (SRB ⟨K, cl⟩ ts) 1 (semOf 2 g_Desk_spread_told)))
    (d_joined : Dfn false P w K mg base 1 "joined" (spD ⟨K, cl⟩ (SRB ⟨K, cl⟩ ts) 1 (semOf 2 g_joined)))
    (d_period_by : Dfn false P w K mg base 8 "period_by" (spD ⟨K, cl⟩ (SRB ⟨K, cl⟩ ts) 2 (semOf 2 g_period_by)))
    (d_round_of : Dfn false P w K mg base 6 "round_of" (spD ⟨K, cl⟩ (SRB ⟨K, cl⟩ ts) 1 (semOf 1 g_round_of))) :
    FnG false P w K mg base 9 f fd ["self", "word"] (spD ⟨K, cl⟩ (SRB ⟨K, cl⟩ ts) 2 (semOf 3 g_Desk_alone)) := by
  refine okDef (T := ⟨K, cl⟩) (SR := SRB ⟨K, cl⟩ ts) (k := 8) (gb := g_Desk_alone) F sc_Desk_alone rfl rfl fun cdv A out s H E hr hg => ?_
  exact (db_cons (ds_if (dt_cmp (op_eqD' rfl hr.units) (dv 1) (de_str (l := [114, 111, 119, 115]) (by rfl)) (nomark _))
    (db_one (ds_ret (de_call d_joined (hr.mono (by decide)) (fun z => nomatch z) rfl (takes_of rfl rfl rfl rfl) (da_cons (de_prpH "Band" tx.c_Band.c d_Band_rows (hr.mono (by decide)) (de_fldH "Desk" tx.c_Desk.c tx.nf_Desk_own (dv 0))) da_nil) (nArg_cons nArg_nil))))
    db_nil)
    (db_cons (ds_if (dt_cmp (op_eqD' rfl hr.units) (dv 1) (de_str (l := [112, 105, 99, 116, 117, 114, 101]) (by rfl)) (nomark _))
    (db_one (ds_ret (de_call d_joined (hr.mono (by decide)) (fun z => nomatch z) rfl (takes_of rfl rfl rfl rfl) (da_cons (de_prpH "Band" tx.c_Band.c d_Band_picture (hr.mono (by decide)) (de_fldH "Desk" tx.c_Desk.c tx.nf_Desk_own (dv 0))) da_nil) (nArg_cons nArg_nil))))
    db_nil)
    (db_cons (ds_if (dt_cmp (op_eqD' rfl hr.units) (dv 1) (de_str (l := [115, 116, 97, 110, 100]) (by rfl)) (nomark _))
    (db_one (ds_ret (de_prpH "Band" tx.c_Band.c d_Band_stand (hr.mono (by decide)) (de_fldH "Desk" tx.c_Desk.c tx.nf_Desk_own (dv 0)))))
    db_nil)
    (db_cons (ds_if (dt_cmp (op_eqD' rfl hr.units) (dv 1) (de_str (l := [117, 115, 101, 115]) (by rfl)) (nomark _))
    (db_one (ds_ret (de_join rfl (de_str (l := [32]) (by rfl)) (de_fz (df_lc (own := [("number", 2)]) (is := [2]) rfl sc_Desk_alone.nd (di_seq rfl (de_prpH "Band" tx.c_Band.c d_Band_uses (hr.mono (by decide)) (de_fldH "Desk" tx.c_Desk.c tx.nf_Desk_own (dv 0)))) (blkOk_by (by rfl)) (fun _ _ _ _ _ => (dp_name sc_Desk_alone.nd rfl (Or.inl rfl))) (fun _ _ _ _ _ => dts_nil) (fun _ _ _ _ _ => (deT cl_str tx.b_str bt_str (da_cons (dv 2) da_nil))) (by decide))))))
    db_nil)
    (db_cons (ds_if (dt_cmp (op_eqD' rfl hr.units) (dv 1) (de_str (l := [114, 111, 117, 110, 100]) (by rfl)) (nomark _))
    (db_one (ds_ret (deT cl_str tx.b_str bt_str (da_cons (de_call d_round_of (hr.mono (by decide)) (fun z => nomatch z) rfl (takes_of rfl rfl rfl rfl) (da_cons (de_mth0H "Desk" tx.c_Desk.c d_Desk_pattern (hr.mono (by decide)) (fun z => nomatch z) (takes_of rfl rfl rfl rfl) (dv 0)) da_nil) (nArg_cons nArg_nil)) da_nil))))
    db_nil)
    (db_cons (ds_if (dt_cmp (op_eqD' rfl hr.units) (dv 1) (de_str (l := [112, 101, 114, 105, 111, 100]) (by rfl)) (nomark _))
    (db_one (ds_ret (deT cl_str tx.b_str bt_str (da_cons (de_call d_period_by (hr.mono (by decide)) (fun z => nomatch z) rfl (takes_of rfl rfl rfl rfl) (da_cons (de_mth0H "Desk" tx.c_Desk.c d_Desk_pattern (hr.mono (by decide)) (fun z => nomatch z) (takes_of rfl rfl rfl rfl) (dv 0)) (da_cons (de_prpH "Band" tx.c_Band.c d_Band_colouring (hr.mono (by decide)) (de_fldH "Desk" tx.c_Desk.c tx.nf_Desk_own (dv 0))) da_nil)) (nArg_cons (nArg_cons nArg_nil))) da_nil))))
    db_nil)
    (db_cons (ds_if (dt_cmp (op_eqD' rfl hr.units) (dv 1) (de_str (l := [115, 112, 114, 101, 97, 100]) (by rfl)) (nomark _))
    (db_one (ds_ret (de_mth0H "Desk" tx.c_Desk.c d_Desk_spread_told (hr.mono (by decide)) (fun z => nomatch z) (takes_of rfl rfl rfl rfl) (dv 0))))
    db_nil)
    (db_one (ds_ret (de_if (dt_cmp (op_eqD' rfl hr.units) (dv 1) (de_str (l := [101, 118, 101, 114]) (by rfl)) (nomark _)) (de_mth0H "Desk" tx.c_Desk.c d_Desk_ever_told (hr.mono (by decide)) (fun z => nomatch z) (takes_of rfl rfl rfl rfl) (dv 0)) (de_cstr (l := [110, 111]) tx.k_NO)))))))))))
def g_Desk_answered : KB.Env → BS → RS BS :=
    (sSeq (sStar 2 3 (eVar 1))
    (sSeq (sIf (bAnd (tBl (eOp2 eqD (eVar 2) (eC (.str [98, 97, 110, 100])))) (tBl (eOp2 eqD (eCl lenD (aCons (eVar 3) aNil)) (eC (.int 1)))))
    (sSeq (sFldH "Desk" "own" 0 (eMakeH "Band" (semOf 2 g_Band_ddinitdd) (aCons (eOp2 ixD (eVar 3) (eC (.int 0))) aNil)))
    (sRet (eC (.str [100, 111, 110, 101]))))
    sNil)
    (sSeq (sIf (tBl (eOp2 isD (eFldH "Desk" "own" (eVar 0)) (eC .non)))
    (sRet (eC (.str [110, 111])))
    sNil)
    (sSeq (sIf (bAnd (tBl (eOp2 eqD (eVar 2) (eC (.str [98, 97, 99, 107])))) (tBl (eOp2 ltD (eCl lenD (aCons (eVar 3) aNil)) (eC (.int 2)))))
    (sRet (eMthH "Desk" "taken_back" (semOf 2 g_Desk_taken_back) (eVar 0) (aCons (eVar 3) aNil)))
    sNil)
    (sSeq (sIf (tBl (eOp2 eqD (eVar 3) (eFz (fLst aNil))))
    (sRet (eMthH "Desk" "alone" (semOf 3 g_Desk_alone) (eVar 0) (aCons (eVar 2) aNil)))
    sNil)
    (sSeq (sIf (bAnd (tBl (eOp2 eqD (eVar 2) (eC (.str [107, 110, 111, 116])))) (tBl (eOp2 eqD (eCl lenD (aCons (eVar 3) aNil)) (eC (.int 1)))))
    (sRet (eMthH "Desk" "knotted" (semOf 4 g_Desk_knotted) (eVar 0) (aCons (eOp2 ixD (eVar 3) (eC (.int 0))) aNil)))
    sNil)
    (sRet (eIf (bAnd (tBl (eOp2 eqD (eVar 2) (eC (.str [109, 97, 100, 101])))) (tBl (eOp2 eqD (eCl lenD (aCons (eVar 3) aNil)) (eC (.int 1))))) (eMthH "Desk" "made_told" (semOf 2 g_Desk_made_told) (eVar 0) (aCons (eOp2 ixD (eVar 3) (eC (.int 0))) aNil)) (eC (.str [110, 111]))))))))))
theorem sc_Desk_answered : FnScope ["self", "words", "first", "rest"] ["self", "words"] (defScope s_Desk_answered) := ⟨rfl, rfl, rfl, by decide +kernel, rfl, by decide +kernel, by decide +kernel⟩
theorem ok_Desk_answered {P : Program} {w : World} {K : PySem.W.Frag} {mg : Str → Option Value} {cl : Str → Addr} {ts : Addr → Option Str} {base : Heap} {f : Addr} {fd : FuncData} (F : Fun K "answered" "Desk.answered" s_Desk_answered f fd) (tx : Tx P w K mg cl)
    (d_Band_ddinitdd : Idf P w K mg base 7 "Band" (cl "Band") (spD ⟨K, cl⟩ (SRB ⟨K, cl⟩ ts) 2 (semOf 2 g_Band_ddinitdd)))
    (d_Desk_alone : Mdf false P w K mg base 9 (cl "Desk") "alone" (spD ⟨K, cl⟩ (SRB ⟨K, cl⟩ ts) 2 (semOf 3 g_Desk_alone)))
    (d_Desk_knotted : Mdf false P w K mg base 7 (cl "Desk") "knotted" (spD ⟨K, cl⟩ (SRB ⟨K, cl⟩ ts) 2 (semOf 4 g_Desk_knotted)))
    (d_Desk_made_told : Mdf false P w K mg base 6 (cl "Desk") "made_told" (spD ⟨K, cl⟩ (SRB ⟨K, cl⟩ ts) 2 (semOf 2 g_Desk_made_told)))
    (d_Desk_taken_back : Mdf false P w K mg base 9 (cl "Desk") "taken_back" (spD ⟨K, cl⟩ (SRB ⟨K, cl⟩ ts) 2 (semOf 2 g_Desk_taken_back))) :
    FnG false P w K mg base 11 f fd ["self", "words"] (spD ⟨K, cl⟩ (SRB ⟨K, cl⟩ ts) 2 (semOf 4 g_Desk_answered)) := by
  refine okDef (T := ⟨K, cl⟩) (SR := SRB ⟨K, cl⟩ ts) (k := 10) (gb := g_Desk_answered) F sc_Desk_answered rfl rfl fun cdv A out s H E hr hg => ?_
  exact (db_cons (ds_star (i := 2) (j := 3) rfl sc_Desk_answered.nd rfl rfl (Or.inl rfl) (Or.inl rfl) (dv 1))
    (db_cons (ds_if (dt_w (dt_and (dt_cmp (op_eqD' rfl hr.units) (dv 2) (de_str (l := [98, 97, 110, 100]) (by rfl)) (nomark _)) (dw_and1 (dt_cmp (op_eqD' rfl hr.units) (deB (cl_len rfl) tx.b_len bt_len (da_cons (dv 3) da_nil)) de_int (nomark _)))))
    (db_cons (ds_fldH (i := 0) "Desk" tx.c_Desk.c tx.nf_Desk_own rfl (de_makeH d_Band_ddinitdd (hr.mono (by decide)) (takes_of rfl rfl rfl rfl) (da_cons (de_ix (ix_D rfl) (dv 3) de_int) da_nil) (nArg_cons nArg_nil)))
    (db_one (ds_ret (de_cstr (l := [100, 111, 110, 101]) tx.k_DONE))))
    db_nil)
    (db_cons (ds_if (dt_cmp op_isD (de_fldH "Desk" tx.c_Desk.c tx.nf_Desk_own (dv 0)) de_non (nomark _))
    (db_one (ds_ret (de_cstr (l := [110, 111]) tx.k_NO)))
    db_nil)
    (db_cons (ds_if (dt_w (dt_and (dt_cmp (op_eqD' rfl hr.units) (dv 2) (de_str (l := [98, 97, 99, 107]) (by rfl)) (nomark _)) (dw_and1 (dt_cmp op_ltD (deB (cl_len rfl) tx.b_len bt_len (da_cons (dv 3) da_nil)) de_int (nomark _)))))
    (db_one (ds_ret (de_mthH "Desk" tx.c_Desk.c d_Desk_taken_back (hr.mono (by decide)) (fun z => nomatch z) (takes_of rfl rfl rfl rfl) (dv 0) (da_cons (dv 3) da_nil) (nArg_cons nArg_nil))))
    db_nil)
    (db_cons (ds_if (dt_cmp (op_eqD' rfl hr.units) (dv 3) (de_fz (df_lst da_nil)) (nomark _))
    (db_one (ds_ret (de_mthH "Desk" tx.c_Desk.c d_Desk_alone (hr.mono (by decide)) (fun z => nomatch z) (takes_of rfl rfl rfl rfl) (dv 0) (da_cons (dv 2) da_nil) (nArg_cons nArg_nil))))
    db_nil)
    (db_cons (ds_if (dt_w (dt_and (dt_cmp (op_eqD' rfl hr.units) (dv 2) (de_str (l := [107, 110, 111, 116]) (by rfl)) (nomark _)) (dw_and1 (dt_cmp (op_eqD' rfl hr.units) (deB (cl_len rfl) tx.b_len bt_len (da_cons (dv 3) da_nil)) de_int (nomark _)))))
    (db_one (ds_ret (de_mthH "Desk" tx.c_Desk.c d_Desk_knotted (hr.mono (by decide)) (fun z => nomatch z) (takes_of rfl rfl rfl rfl) (dv 0) (da_cons (de_ix (ix_D rfl) (dv 3) de_int) da_nil) (nArg_cons nArg_nil))))
    db_nil)
    (db_one (ds_ret (de_if (dt_w (dt_and (dt_cmp (op_eqD' rfl hr.units) (dv 2) (de_str (l := [109, 97, 100, 101]) (by rfl)) (nomark _)) (dw_and1 (dt_cmp (op_eqD' rfl hr.units) (deB (cl_len rfl) tx.b_len bt_len (da_cons (dv 3) da_nil)) de_int (nomark _))))) (de_mthH "Desk" tx.c_Desk.c d_Desk_made_told (hr.mono (by decide)) (fun z => nomatch z) (takes_of rfl rfl rfl rfl) (dv 0) (da_cons (de_ix (ix_D rfl) (dv 3) de_int) da_nil) (nArg_cons nArg_nil)) (de_cstr (l := [110, 111]) tx.k_NO))))))))))
def g_Desk_say : KB.Env → BS → RS BS :=
    (sSeq (sIf (bNot (tTru (eCl isiD (aCons (eVar 1) (aCons (eC (.ty "str")) aNil)))))
    (sRaise "OutOfPlace" "text" (eC (.str [110, 111, 32, 108, 105, 110, 101])))
    sNil)
    (sTryT ["BadColouring", "BadPattern", "BadPicture", "BadStrings", "Nothing", "OutOfPlace", "TooGreat"] []
    (sRet (eMthH "Desk" "answered" (semOf 4 g_Desk_answered) (eVar 0) (aCons (eBm1 tyS splitD (eVar 1) (eC (.str [32]))) aNil)))
    (sRet (eC (.str [110, 111])))))
theorem sc_Desk_say : FnScope ["self", "line"] ["self", "line"] (defScope s_Desk_say) := ⟨rfl, rfl, rfl, by decide +kernel, rfl, by decide +kernel, by decide +kernel⟩
theorem ok_Desk_say {P : Program} {w : World} {K : PySem.W.Frag} {mg : Str → Option Value} {cl : Str → Addr} {ts : Addr → Option Str} {base : Heap} {f : Addr} {fd : FuncData} (F : Fun K "say" "Desk.say" s_Desk_say f fd) (tx : Tx P w K mg cl)
    (d_Desk_answered : Mdf false P w K mg base 11 (cl "Desk") "answered" (spD ⟨K, cl⟩ (SRB ⟨K, cl⟩ ts) 2 (semOf 4 g_Desk_answered))) :
    FnG false P w K mg base 13 f fd ["self", "line"] (spD ⟨K, cl⟩ (SRB ⟨K, cl⟩ ts) 2 (semOf 2 g_Desk_say)) := by
  refine okDef (T := ⟨K, cl⟩) (SR := SRB ⟨K, cl⟩ ts) (k := 12) (gb := g_Desk_say) F sc_Desk_say rfl rfl fun cdv A out s H E hr hg => ?_
  exact (db_cons (ds_if (dt_not (dt_tru rfl (deB (cl_isi rfl) tx.b_isinstance bt_isinstance (da_cons (dv 1) (da_cons (de_ty tx.b_str bt_str) da_nil)))))
    (db_one (ds_raise PySem.F.excBase_ValueError PySem.W.kxs_ValueError PySem.F.store_ValueError tx.x_OutOfPlace hr rfl (takes_of rfl rfl rfl rfl) rfl (de_str (l := [110, 111, 32, 108, 105, 110, 101]) (by rfl))))
    db_nil)
    (db_one (ds_tryT (ns := ["BadColouring", "BadPattern", "BadPicture", "BadStrings", "Nothing", "OutOfPlace", "TooGreat"]) (cs := []) rfl rfl (takes_of rfl rfl rfl rfl) (.cons ⟨rfl, by decide, .inl tx.x_BadColouring.gC⟩ (.cons ⟨rfl, by decide, .inl tx.x_BadPattern.gC⟩ (.cons ⟨rfl, by decide, .inl tx.x_BadPicture.gC⟩ (.cons ⟨rfl, by decide, .inl tx.x_BadStrings.gC⟩ (.cons ⟨rfl, by decide, .inl tx.x_Nothing.gC⟩ (.cons ⟨rfl, by decide, .inl tx.x_OutOfPlace.gC⟩ (.cons ⟨rfl, by decide, .inl tx.x_TooGreat.gC⟩ .nil))))))) (by decide) tx.et_Desk_say
    (fun _ _ _ tk po => (db_one (ds_ret (de_mthH "Desk" tx.c_Desk.c d_Desk_answered (hr.mono (by decide)) (fun z => nomatch z) tk (dv 0) (da_cons (de_mS PySem.F.slot_str_split PySem.F.type_str_split op_split (dv 1) (de_str (l := [32]) (by rfl))) da_nil) (nArg_cons nArg_nil)))))
    (fun _ _ => (db_one (ds_ret (de_cstr (l := [110, 111]) tx.k_NO)))))))
def g_law_begun : KB.Env → BS → RS BS :=
    gBegunB
theorem sc_law_begun : FnScope ["_law_script", "_law_cell"] ["_law_script"] (defScope s_law_begun) := ⟨rfl, rfl, rfl, by decide +kernel, rfl, by decide +kernel, by decide +kernel⟩
theorem ok_law_begun {P : Program} {w : World} {K : PySem.W.Frag} {mg : Str → Option Value} {cl : Str → Addr} {ts : Addr → Option Str} {base : Heap} {f : Addr} {fd : FuncData} (F : Fun K "_law_begun" "_law_begun" s_law_begun f fd) (tx : Tx P w K mg cl) :
    FnG false P w K mg base 1 f fd ["_law_script"] (spD ⟨K, cl⟩ (SRB ⟨K, cl⟩ ts) 1 (semOf 2 g_law_begun)) := by
  refine okDef (T := ⟨K, cl⟩) (SR := SRB ⟨K, cl⟩ ts) (k := 0) (gb := g_law_begun) F sc_law_begun rfl rfl fun cdv A out s H E hr hg => ?_
  exact (db_one (ds_begunB (i := 0) rfl rfl tx.b_list rfl (Or.inl rfl) (df_lc (own := [("_law_cell", 1)]) (is := [1]) rfl sc_law_begun.nd (di_seq rfl (dv 0)) (blkOk_by (by rfl)) (fun _ _ _ _ _ => (dp_name sc_law_begun.nd rfl (Or.inl rfl))) (fun _ _ _ _ _ => (dts_one (dt_cmp op_geD (dv 1) (de_bin op_powD de_int de_int) (nomark _)))) (fun _ _ _ _ _ => (dv 1)) (by decide))))
def g_law_next : KB.Env → BS → RS BS :=
    gNextB ⟨3, 2147483629, 7919, 19, 48271, 2147483647, 104729, 69621, 2147483587, 11⟩
theorem sc_law_next : FnScope ["_law_m", "_law_total", "_law_rest", "_law_k", "_law_cell", "_law_mixed"] ["_law_m", "_law_total"] (defScope s_law_next) := ⟨rfl, rfl, rfl, by decide +kernel, rfl, by decide +kernel, by decide +kernel⟩
theorem ok_law_next {P : Program} {w : World} {K : PySem.W.Frag} {mg : Str → Option Value} {cl : Str → Addr} {ts : Addr → Option Str} {base : Heap} {f : Addr} {fd : FuncData} (F : Fun K "_law_next" "_law_next" s_law_next f fd) (tx : Tx P w K mg cl) :
    FnG false P w K mg base 1 f fd ["_law_m", "_law_total"] (spD ⟨K, cl⟩ (SRB ⟨K, cl⟩ ts) 2 (semOf 6 g_law_next)) := by
  refine okDef (T := ⟨K, cl⟩) (SR := SRB ⟨K, cl⟩ ts) (k := 0) (gb := g_law_next) F sc_law_next rfl rfl fun cdv A out s H E hr hg => ?_
  exact (db_cons (ds_while 64 (passes_of rfl) (dt_w (dt_and (dt_lsNeB (i := 0) (kf := LS.left) hr.units (.inr ⟨rfl, rfl⟩) rfl (Or.inl rfl)) (dw_and1 (dt_cmp (op_eqD' rfl hr.units) (de_lsHdB (i := 0) hr.units rfl (Or.inl rfl)) de_int (nomark _))))) (db_one (ds_lsCutB (i := 0) hr.units rfl (Or.inl rfl))))
    (db_cons (ds_if (dt_lsNeB (i := 0) (kf := LS.left) hr.units (.inr ⟨rfl, rfl⟩) rfl (Or.inl rfl)) (db_cons (ds_set sc_law_next.nd rfl (Or.inl rfl) (deT cl_int tx.b_int bt_int (da_cons (de_lsHdB (i := 0) hr.units rfl (Or.inl rfl)) da_nil))) (db_cons (ds_lsHdB (i := 0) hr.units rfl (Or.inl rfl) (de_bin op_fdivD (dv 2) (dv 1))) (db_one (ds_ret (de_bin op_modD (dv 2) (dv 1)))))) db_nil)
    (db_cons (ds_set sc_law_next.nd rfl (Or.inl rfl) (de_bin (op_addD rfl) (de_lsAtB (i := 0) hr.units rfl (Or.inl rfl)) de_int))
    (db_cons (ds_lsAtB (i := 0) hr.units rfl (Or.inl rfl) (dv 3))
    (db_cons (ds_set sc_law_next.nd rfl (Or.inl rfl) (de_if (dt_lsNeB (i := 0) (kf := LS.cells) hr.units (.inl ⟨rfl, rfl⟩) rfl (Or.inl rfl)) (de_lsIxB (i := 0) (ik := 3) hr.units rfl tx.b_len rfl tx.b_int rfl (Or.inl rfl) rfl (Or.inl rfl)) de_int))
    (db_cons (ds_set sc_law_next.nd rfl (Or.inl rfl) (de_bin (op_mulD rfl) (deT cl_int tx.b_int bt_int (da_cons (de_bin (op_addD rfl) (de_bin (op_addD rfl) (de_bin op_modD (deT cl_int tx.b_int bt_int (da_cons (dv 4) da_nil)) de_int) (de_bin (op_mulD rfl) de_int (dv 3))) (de_bin (op_mulD rfl) (de_bin (op_mulD rfl) de_int (dv 3)) (dv 3))) da_nil)) de_int))
    (db_cons (ds_set sc_law_next.nd rfl (Or.inl rfl) (de_bin (op_mulD rfl) (deT cl_int tx.b_int bt_int (da_cons (de_bin (op_addD rfl) (de_bin op_modD (deT cl_int tx.b_int bt_int (da_cons (dv 5) da_nil)) de_int) (de_bin (op_mulD rfl) de_int (dv 3))) da_nil)) de_int))
    (db_one (ds_ret (de_bin op_modD (deT cl_int tx.b_int bt_int (da_cons (de_bin op_fdivD (de_bin op_modD (deT cl_int tx.b_int bt_int (da_cons (dv 5) da_nil)) de_int) de_int) da_nil)) (dv 1)))))))))))
def g_law_is_refused : KB.Env → BS → RS BS :=
    (sSeq (sSet 2 (eC (.bl false)))
    (sSeq (sTry [] "OutOfPlace"
    (sDrop (eMthH "Desk" "say" (semOf 2 g_Desk_say) (eVar 0) (aCons (eVar 1) aNil)))
    (sSet 2 (eC (.bl true))))
    (sRet (eVar 2))))
theorem sc_law_is_refused : FnScope ["_law_desk", "_law_thing", "_law_found"] ["_law_desk", "_law_thing"] (defScope s_law_is_refused) := ⟨rfl, rfl, rfl, by decide +kernel, rfl, by decide +kernel, by decide +kernel⟩
theorem ok_law_is_refused {P : Program} {w : World} {K : PySem.W.Frag} {mg : Str → Option Value} {cl : Str → Addr} {ts : Addr → Option Str} {base : Heap} {f : Addr} {fd : FuncData} (F : Fun K "_law_is_refused" "_law_is_refused" s_law_is_refused f fd) (tx : Tx P w K mg cl)
    (d_Desk_say : Mdf false P w K mg base 13 (cl "Desk") "say" (spD ⟨K, cl⟩ (SRB ⟨K, cl⟩ ts) 2 (semOf 2 g_Desk_say))) :
    FnG false P w K mg base 15 f fd ["_law_desk", "_law_thing"] (spD ⟨K, cl⟩ (SRB ⟨K, cl⟩ ts) 2 (semOf 3 g_law_is_refused)) := by
  refine okDef (T := ⟨K, cl⟩) (SR := SRB ⟨K, cl⟩ ts) (k := 14) (gb := g_law_is_refused) F sc_law_is_refused rfl rfl fun cdv A out s H E hr hg => ?_
  exact (db_cons (ds_set sc_law_is_refused.nd rfl (Or.inl rfl) de_bl)
    (db_cons (ds_try (cs := []) rfl rfl ⟨rfl, by decide, .inl tx.x_OutOfPlace.gC⟩ (takes_of rfl rfl rfl rfl) tx.ex_OutOfPlace
    (fun _ _ _ tk po => (db_one (ds_drop (de_mthH "Desk" tx.c_Desk.c d_Desk_say (hr.mono (by decide)) (fun z => nomatch z) tk (dv 0) (da_cons (dv 1) da_nil) (nArg_cons nArg_nil)))))
    (fun _ _ => (db_one (ds_set sc_law_is_refused.nd rfl (Or.inl rfl) de_bl))))
    (db_one (ds_ret (dv 2)))))
def g_law_no_right_b1 : KB.Env → BS → RS BS :=
    (sIf (bOr (tBl (eOp2 neD (eMthH "Desk" "say" (semOf 2 g_Desk_say) (eVar 0) (aCons (eVar 3) aNil)) (eC (.str [110, 111])))) (tBl (eOp2 neD (eMthH "Desk" "say" (semOf 2 g_Desk_say) (eVar 0) (aCons (eC (.str [114, 111, 119, 115])) aNil)) (eVar 1))))
    (sRet (eC (.bl false)))
    sNil)
def g_law_no_right : KB.Env → BS → RS BS :=
    (sSeq (sSet 2 (eFz (fLst (aCons (eC (.str [])) (aCons (eC (.str [32])) (aCons (eC (.str [114, 111, 119, 115, 32])) (aCons (eC (.str [32, 114, 111, 119, 115])) (aCons (eC (.str [82, 79, 87, 83])) (aCons (eC (.str [114, 111, 119, 115, 32, 114, 111, 119, 115])) (aCons (eC (.str [107, 110, 111, 116])) (aCons (eC (.str [107, 110, 111, 116, 32, 32])) (aCons (eC (.str [107, 110, 111, 116, 32])) (aCons (eC (.str [107, 110, 111, 116, 32, 82, 32, 82])) (aCons (eC (.str [107, 110, 111, 116, 32, 113])) aNil))))))))))))))
    (sSeq (sSet 2 (eOp2 addD (eVar 2) (eFz (fLst (aCons (eC (.str [98, 97, 99, 107, 32, 45, 49])) (aCons (eC (.str [98, 97, 99, 107, 32, 49, 32, 50])) (aCons (eC (.str [98, 97, 99, 107, 32, 49, 48, 48, 48])) (aCons (eC (.str [98, 97, 99, 107, 32, 48, 48])) (aCons (eC (.str [98, 97, 99, 107, 32, 111, 110, 101])) (aCons (eC (.str [98, 97, 110, 100])) (aCons (eC (.str [98, 97, 110, 100, 32, 97])) (aCons (eC (.str [98, 97, 110, 100, 32, 97, 98, 32, 99, 100])) aNil))))))))))))
    (sSeq (sSet 2 (eOp2 addD (eVar 2) (eFz (fLst (aCons (eC (.str [98, 97, 110, 100, 32, 65, 98])) (aCons (eC (.str [98, 97, 110, 100, 32, 97, 98, 99, 100, 101, 102, 103, 104, 105])) (aCons (eC (.str [109, 97, 100, 101])) (aCons (eC (.str [109, 97, 100, 101, 32, 97, 98, 32, 99, 100])) (aCons (eC (.str [109, 97, 100, 101, 32, 97])) (aCons (eC (.str [115, 112, 114, 101, 97, 100, 32, 49])) (aCons (eC (.str [101, 118, 101, 114, 32, 50])) (aCons (eC (.str [114, 111, 117, 110, 100, 32, 49])) aNil))))))))))))
    (sSeq (sSet 2 (eOp2 addD (eVar 2) (eFz (fLst (aCons (eC (.str [112, 101, 114, 105, 111, 100, 32, 97])) (aCons (eC (.str [117, 115, 101, 115, 32, 51])) (aCons (eC (.str [115, 116, 97, 110, 100, 32, 97])) (aCons (eC (.str [112, 105, 99, 116, 117, 114, 101, 32, 49])) (aCons (eC (.str [107, 110, 111, 119, 32, 82])) (aCons (eC (.str [107, 110, 111, 116, 10, 82])) (aCons (eC (.str [114, 111, 119, 115, 10])) (aCons (eC (.str [117, 110, 100, 111])) (aCons (eC (.str [98, 97, 99, 107, 32, 32, 49])) aNil)))))))))))))
    (sSeq (sSet 2 (eOp2 addD (eVar 2) (eFz (fLst (aCons (eC (.str [98, 97, 110, 100, 32, 32, 97, 98])) (aCons (eC (.str [107, 110, 111, 116, 32, 82, 82, 82, 82, 82])) aNil))))))
    (sSeq (sFor (iSq (eVar 2)) (pName 3) g_law_no_right_b1)
    (sRet (eC (.bl true)))))))))
theorem sc_law_no_right : FnScope ["_law_desk", "_law_kept", "_law_some", "_law_line"] ["_law_desk", "_law_kept"] (defScope s_law_no_right) := ⟨rfl, rfl, rfl, by decide +kernel, rfl, by decide +kernel, by decide +kernel⟩
theorem ok_law_no_right {P : Program} {w : World} {K : PySem.W.Frag} {mg : Str → Option Value} {cl : Str → Addr} {ts : Addr → Option Str} {base : Heap} {f : Addr} {fd : FuncData} (F : Fun K "_law_no_right" "_law_no_right" s_law_no_right f fd) (tx : Tx P w K mg cl)
    (d_Desk_say : Mdf false P w K mg base 13 (cl "Desk") "say" (spD ⟨K, cl⟩ (SRB ⟨K, cl⟩ ts) 2 (semOf 2 g_Desk_say))) :
    FnG false P w K mg base 15 f fd ["_law_desk", "_law_kept"] (spD ⟨K, cl⟩ (SRB ⟨K, cl⟩ ts) 2 (semOf 4 g_law_no_right)) := by
  refine okDef (T := ⟨K, cl⟩) (SR := SRB ⟨K, cl⟩ ts) (k := 14) (gb := g_law_no_right) F sc_law_no_right rfl rfl fun cdv A out s H E hr hg => ?_
  exact (db_cons (ds_set sc_law_no_right.nd rfl (Or.inl rfl) (de_fz (df_lst (da_cons (de_str (l := []) (by rfl)) (da_cons (de_str (l := [32]) (by rfl)) (da_cons (de_str (l := [114, 111, 119, 115, 32]) (by rfl)) (da_cons (de_str (l := [32, 114, 111, 119, 115]) (by rfl)) (da_cons (de_str (l := [82, 79, 87, 83]) (by rfl)) (da_cons (de_str (l := [114, 111, 119, 115, 32, 114, 111, 119, 115]) (by rfl)) (da_cons (de_str (l := [107, 110, 111, 116]) (by rfl)) (da_cons (de_str (l := [107, 110, 111, 116, 32, 32]) (by rfl)) (da_cons (de_str (l := [107, 110, 111, 116, 32]) (by rfl)) (da_cons (de_str (l := [107, 110, 111, 116, 32, 82, 32, 82]) (by rfl)) (da_cons (de_str (l := [107, 110, 111, 116, 32, 113]) (by rfl)) da_nil))))))))))))))
    (db_cons (ds_set sc_law_no_right.nd rfl (Or.inl rfl) (de_bin (op_addD rfl) (dv 2) (de_fz (df_lst (da_cons (de_str (l := [98, 97, 99, 107, 32, 45, 49]) (by rfl)) (da_cons (de_str (l := [98, 97, 99, 107, 32, 49, 32, 50]) (by rfl)) (da_cons (de_str (l := [98, 97, 99, 107, 32, 49, 48, 48, 48]) (by rfl)) (da_cons (de_str (l := [98, 97, 99, 107, 32, 48, 48]) (by rfl)) (da_cons (de_str (l := [98, 97, 99, 107, 32, 111, 110, 101]) (by rfl)) (da_cons (de_str (l := [98, 97, 110, 100]) (by rfl)) (da_cons (de_str (l := [98, 97, 110, 100, 32, 97]) (by rfl)) (da_cons (de_str (l := [98, 97, 110, 100, 32, 97, 98, 32, 99, 100]) (by rfl)) da_nil))))))))))))
    (db_cons (ds_set sc_law_no_right.nd rfl (Or.inl rfl) (de_bin (op_addD rfl) (dv 2) (de_fz (df_lst (da_cons (de_str (l := [98, 97, 110, 100, 32, 65, 98]) (by rfl)) (da_cons (de_str (l := [98, 97, 110, 100, 32, 97, 98, 99, 100, 101, 102, 103, 104, 105]) (by rfl)) (da_cons (de_str (l := [109, 97, 100, 101]) (by rfl)) (da_cons (de_str (l := [109, 97, 100, 101, 32, 97, 98, 32, 99, 100]) (by rfl)) (da_cons (de_str (l := [109, 97, 100, 101, 32, 97]) (by rfl)) (da_cons (de_str (l := [115, 112, 114, 101, 97, 100, 32, 49]) (by rfl)) (da_cons (de_str (l := [101, 118, 101, 114, 32, 50]) (by rfl)) (da_cons (de_str (l := [114, 111, 117, 110, 100, 32, 49]) (by rfl)) da_nil))))))))))))
    (db_cons (ds_set sc_law_no_right.nd rfl (Or.inl rfl) (de_bin (op_addD rfl) (dv 2) (de_fz (df_lst (da_cons (de_str (l := [112, 101, 114, 105, 111, 100, 32, 97]) (by rfl)) (da_cons (de_str (l := [117, 115, 101, 115, 32, 51]) (by rfl)) (da_cons (de_str (l := [115, 116, 97, 110, 100, 32, 97]) (by rfl)) (da_cons (de_str (l := [112, 105, 99, 116, 117, 114, 101, 32, 49]) (by rfl)) (da_cons (de_str (l := [107, 110, 111, 119, 32, 82]) (by rfl)) (da_cons (de_str (l := [107, 110, 111, 116, 10, 82]) (by rfl)) (da_cons (de_str (l := [114, 111, 119, 115, 10]) (by rfl)) (da_cons (de_str (l := [117, 110, 100, 111]) (by rfl)) (da_cons (de_str (l := [98, 97, 99, 107, 32, 32, 49]) (by rfl)) da_nil)))))))))))))
    (db_cons (ds_set sc_law_no_right.nd rfl (Or.inl rfl) (de_bin (op_addD rfl) (dv 2) (de_fz (df_lst (da_cons (de_str (l := [98, 97, 110, 100, 32, 32, 97, 98]) (by rfl)) (da_cons (de_str (l := [107, 110, 111, 116, 32, 82, 82, 82, 82, 82]) (by rfl)) da_nil))))))
    (db_cons (ds_for (is := [3]) (passes_of rfl) rfl (di_seq rfl (dv 2)) (dp_name sc_law_no_right.nd rfl (Or.inl rfl))
    (db_one (ds_if (dt_w (dt_or (dt_cmp (op_neD' rfl hr.units) (de_mthH "Desk" tx.c_Desk.c d_Desk_say (hr.mono (by decide)) (fun z => nomatch z) (takes_of rfl rfl rfl rfl) (dv 0) (da_cons (dv 3) da_nil) (nArg_cons nArg_nil)) (de_str (l := [110, 111]) (by rfl)) (nomark _)) (dw_or1 (dt_cmp (op_neD' rfl hr.units) (de_mthH "Desk" tx.c_Desk.c d_Desk_say (hr.mono (by decide)) (fun z => nomatch z) (takes_of rfl rfl rfl rfl) (dv 0) (da_cons (de_str (l := [114, 111, 119, 115]) (by rfl)) da_nil) (nArg_cons nArg_nil)) (dv 1) (nomark _)))))
    (db_one (ds_ret de_bl))
    db_nil)))
    (db_one (ds_ret de_bl))))))))
def g_law_drawn_text : KB.Env → BS → RS BS :=
    (sSeq (sSet 1 (eC (.str [97, 98, 107, 82, 76, 45, 32, 48, 49, 57, 59, 10, 63])))
    (sRet (eOp2 addD (eC (.str [120])) (eJoin (eC (.str [])) (eFz (fComp (iR1 (aCons (eCall (semOf 6 g_law_next) (aCons (eVar 0) (aCons (eC (.int 30)) aNil))) aNil)) (pName 2) bYes (eOp2 ixD (eVar 1) (eCall (semOf 6 g_law_next) (aCons (eVar 0) (aCons (eC (.int 13)) aNil)))) [2]))))))
theorem sc_law_drawn_text : FnScope ["_law_m", "_law_signs", "_law_k"] ["_law_m"] (defScope s_law_drawn_text) := ⟨rfl, rfl, rfl, by decide +kernel, rfl, by decide +kernel, by decide +kernel⟩
theorem ok_law_drawn_text {P : Program} {w : World} {K : PySem.W.Frag} {mg : Str → Option Value} {cl : Str → Addr} {ts : Addr → Option Str} {base : Heap} {f : Addr} {fd : FuncData} (F : Fun K "_law_drawn_text" "_law_drawn_text" s_law_drawn_text f fd) (tx : Tx P w K mg cl)
    (d_law_next : Dfn false P w K mg base 1 "_law_next" (spD ⟨K, cl⟩ (SRB ⟨K, cl⟩ ts) 2 (semOf 6 g_law_next))) :
    FnG false P w K mg base 2 f fd ["_law_m"] (spD ⟨K, cl⟩ (SRB ⟨K, cl⟩ ts) 1 (semOf 3 g_law_drawn_text)) := by
  refine okDef (T := ⟨K, cl⟩) (SR := SRB ⟨K, cl⟩ ts) (k := 1) (gb := g_law_drawn_text) F sc_law_drawn_text rfl rfl fun cdv A out s H E hr hg => ?_
  exact (db_cons (ds_set sc_law_drawn_text.nd rfl (Or.inr rfl) (de_str (l := [97, 98, 107, 82, 76, 45, 32, 48, 49, 57, 59, 10, 63]) (by rfl)))
    (db_one (ds_ret (de_bin (op_addD rfl) (de_str (l := [120]) (by rfl)) (de_join rfl (de_str (l := []) (by rfl)) (de_fz (df_lc (own := [("_law_k", 2)]) (is := [2]) rfl sc_law_drawn_text.nd (di_r1 rfl tx.b_range (da_cons (de_call d_law_next (hr.mono (by decide)) (fun z => nomatch z) rfl (takes_of rfl rfl rfl rfl) (da_cons (dv 0) (da_cons de_int da_nil)) (nArg_cons (nArg_cons nArg_nil))) da_nil)) (blkOk_by (by rfl)) (fun _ _ _ _ _ => (dp_name sc_law_drawn_text.nd rfl (Or.inl rfl))) (fun _ _ _ _ _ => dts_nil) (fun _ _ _ _ _ => (de_ix (ix_D rfl) (dv 1) (de_call d_law_next (hr.mono (by decide)) (fun z => nomatch z) rfl takes0 (da_cons (dv 0) (da_cons de_int da_nil)) (nArg_cons (nArg_cons nArg_nil))))) (by decide))))))))
def g_law_b1 : KB.Env → BS → RS BS :=
    (sIf (tBl (eOp2 neD (eMthH "Desk" "say" (semOf 2 g_Desk_say) (eVar 3) (aCons (eCall (semOf 3 g_law_drawn_text) (aCons (eVar 1) aNil)) aNil)) (eC (.str [110, 111]))))
    (sRet (eC (.bl false)))
    sNil)
def g_law_b2 : KB.Env → BS → RS BS :=
    (sIf (bNot (tTru (eCall (semOf 3 g_law_is_refused) (aCons (eVar 3) (aCons (eVar 5) aNil)))))
    (sRet (eC (.bl false)))
    sNil)
def g_law_b3 : KB.Env → BS → RS BS :=
    (sSeq (sSet 3 (eMakeH "Desk" (semOf 1 g_Desk_ddinitdd) aNo))
    (sSeq (sIf (bOr (tBl (eOp2 nisD (ePrpH "Desk" (semOf 1 g_Desk_band) (eVar 3)) (eC .non))) (bOr (bNot (tTru (eCall (semOf 4 g_law_no_right) (aCons (eVar 3) (aCons (eC (.str [110, 111])) aNil))))) (tBl (eOp2 nisD (ePrpH "Desk" (semOf 1 g_Desk_band) (eVar 3)) (eC .non)))))
    (sRet (eC (.bl false)))
    sNil)
    (sSeq (sIf (bOr (tBl (eOp2 neD (eMthH "Desk" "say" (semOf 2 g_Desk_say) (eVar 3) (aCons (eC (.str [98, 97, 110, 100, 32, 97, 98, 99])) aNil)) (eC (.str [100, 111, 110, 101])))) (bOr (tBl (eOp2 neD (eMthH "Desk" "say" (semOf 2 g_Desk_say) (eVar 3) (aCons (eC (.str [107, 110, 111, 116, 32, 82])) aNil)) (eC (.str [97])))) (bNot (tTru (eCall (semOf 4 g_law_no_right) (aCons (eVar 3) (aCons (eC (.str [82])) aNil)))))))
    (sRet (eC (.bl false)))
    sNil)
    (sSeq (sFor (iR1 (aCons (eC (.int 6)) aNil)) (pName 4) g_law_b1)
    (sSeq (sFor (iSq (eFz (fLst (aCons (eC .non) (aCons (eC (.int 5)) (aCons (eFz (fLst (aCons (eC (.str [114, 111, 119, 115])) aNil))) (aCons (eTup (aCons (eC (.str [114, 111, 119, 115])) aNil)) (aCons (eC (.bl true)) (aCons (eC (.dct [])) aNil))))))))) (pName 5) g_law_b2)
    (sSeq (sIf (bOr (tBl (eOp2 neD (ePrpH "Band" (semOf 1 g_Band_rows) (ePrpH "Desk" (semOf 1 g_Desk_band) (eVar 3))) (eTup (aCons (eC (.str [82])) aNil)))) (bOr (tBl (eOp2 neD (eMthH "Desk" "say" (semOf 2 g_Desk_say) (eVar 3) (aCons (eC (.str [115, 116, 97, 110, 100])) aNil)) (eC (.str [98, 97, 99])))) (tBl (eOp2 neD (eMthH "Desk" "say" (semOf 2 g_Desk_say) (eVar 3) (aCons (eC (.str [117, 115, 101, 115])) aNil)) (eC (.str [52, 32, 49, 32, 49]))))))
    (sRet (eC (.bl false)))
    sNil)
    (sSeq (sSet 6 (eFz (fComp (iSq (eTup (aCons (eC (.str [114, 111, 119, 115])) (aCons (eC (.str [112, 105, 99, 116, 117, 114, 101])) (aCons (eC (.str [98, 97, 99, 107])) (aCons (eC (.str [114, 111, 119, 115])) (aCons (eC (.str [112, 105, 99, 116, 117, 114, 101])) (aCons (eC (.str [115, 116, 97, 110, 100])) (aCons (eC (.str [117, 115, 101, 115])) aNil))))))))) (pName 10) bYes (eMthH "Desk" "say" (semOf 2 g_Desk_say) (eVar 3) (aCons (eVar 10) aNil)) [10])))
    (sIf (tBl (eOp2 neD (eVar 6) (eFz (fLst (aCons (eC (.str [82])) (aCons (eC (.str [97])) (aCons (eC (.str [100, 111, 110, 101])) (aCons (eC (.str [110, 111, 110, 101])) (aCons (eC (.str [110, 111, 110, 101])) (aCons (eC (.str [97, 98, 99])) (aCons (eC (.str [48, 32, 48, 32, 48])) aNil)))))))))))
    (sRet (eC (.bl false)))
    sNil))))))))
def g_law_s1 : KB.Env → BS → RS BS :=
    (sSet 1 (eCall (semOf 2 g_law_begun) (aCons (eVar 0) aNil)))
def g_law_s2 : KB.Env → BS → RS BS :=
    (sFor (iR1 (aCons (eOp2 addD (eC (.int 1)) (eCl minD (aCons (eCl lenD (aCons (eVar 0) aNil)) (aCons (eC (.int 3)) aNil)))) aNil)) (pName 2) g_law_b3)
def g_law_s3 : KB.Env → BS → RS BS :=
    (sSet 3 (eMakeH "Desk" (semOf 1 g_Desk_ddinitdd) aNo))
def g_law_s4 : KB.Env → BS → RS BS :=
    (sDrop (eMthH "Desk" "say" (semOf 2 g_Desk_say) (eVar 3) (aCons (eC (.str [98, 97, 110, 100, 32, 97, 98, 99])) aNil)))
def g_law_s5 : KB.Env → BS → RS BS :=
    (sSet 7 (ePrpH "Desk" (semOf 1 g_Desk_band) (eVar 3)))
def g_law_s6 : KB.Env → BS → RS BS :=
    (sIf (bOr (tBl (eOp2 neD (eCallH "Band" (semOf 3 g_Band_ddcalldd) (eVar 7) (aCons (eC (.str [82])) aNil)) (eC (.str [97])))) (bOr (tBl (eOp2 neD (eMthH "Desk" "say" (semOf 2 g_Desk_say) (eVar 3) (aCons (eC (.str [114, 111, 119, 115])) aNil)) (eC (.str [82])))) (tBl (eOp2 neD (eMthH "Desk" "say" (semOf 2 g_Desk_say) (eVar 3) (aCons (eC (.str [115, 116, 97, 110, 100])) aNil)) (eC (.str [98, 97, 99]))))))
    (sRet (eC (.bl false)))
    sNil)
def g_law_s7 : KB.Env → BS → RS BS :=
    (sDrop (eMthH "Desk" "say" (semOf 2 g_Desk_say) (eVar 3) (aCons (eC (.str [107, 110, 111, 116, 32, 76])) aNil)))
def g_law_s8 : KB.Env → BS → RS BS :=
    (sDrop (eMkw0H "Band" "back" 1 (semOf 2 g_Band_back) (eVar 7)))
def g_law_s9 : KB.Env → BS → RS BS :=
    (sIf (bOr (tBl (eOp2 neD (eMthH "Desk" "say" (semOf 2 g_Desk_say) (eVar 3) (aCons (eC (.str [114, 111, 119, 115])) aNil)) (eC (.str [82])))) (tBl (eOp2 neD (eMthH "Desk" "say" (semOf 2 g_Desk_say) (eVar 3) (aCons (eC (.str [107, 110, 111, 116, 32, 76])) aNil)) (eC (.str [99])))))
    (sRet (eC (.bl false)))
    sNil)
def g_law_s10 : KB.Env → BS → RS BS :=
    (sDrop (eMthH "Desk" "say" (semOf 2 g_Desk_say) (eVar 3) (aCons (eC (.str [98, 97, 110, 100, 32, 97, 98, 97])) aNil)))
def g_law_s11 : KB.Env → BS → RS BS :=
    (sIf (tBl (eOp2 neD (eFz (fComp (iR1 (aCons (eC (.int 42)) aNil)) (pName 11) bYes (eOp2 inD (eMthH "Desk" "say" (semOf 2 g_Desk_say) (eVar 3) (aCons (eC (.str [107, 110, 111, 116, 32, 82])) aNil)) (eTup (aCons (eC (.str [97])) (aCons (eC (.str [98])) aNil)))) [11])) (eFz (fRep (fLst (aCons (eC (.bl true)) aNil)) (eC (.int 42))))))
    (sRet (eC (.bl false)))
    sNil)
def g_law_s12 : KB.Env → BS → RS BS :=
    (sSet 8 (eFz (fLst (aCons (eC (.str [114, 111, 117, 110, 100])) (aCons (eC (.str [112, 101, 114, 105, 111, 100])) (aCons (eC (.str [115, 112, 114, 101, 97, 100])) (aCons (eC (.str [109, 97, 100, 101, 32, 97, 98, 97])) (aCons (eC (.str [101, 118, 101, 114])) (aCons (eC (.str [98, 97, 99, 107, 32, 49, 48, 48])) (aCons (eC (.str [98, 97, 99, 107, 32, 49, 50])) (aCons (eC (.str [114, 111, 117, 110, 100])) aNil)))))))))))
def g_law_s13 : KB.Env → BS → RS BS :=
    (sIf (tBl (eOp2 neD (eFz (fComp (iSq (eVar 8)) (pName 10) bYes (eMthH "Desk" "say" (semOf 2 g_Desk_say) (eVar 3) (aCons (eVar 10) aNil)) [10])) (eOp2 addD (eFz (fRep (fLst (aCons (eC (.str [110, 111])) aNil)) (eC (.int 6)))) (eFz (fLst (aCons (eC (.str [100, 111, 110, 101])) (aCons (eC (.str [49])) aNil)))))))
    (sRet (eC (.bl false)))
    sNil)
def g_law_s14 : KB.Env → BS → RS BS :=
    (sSet 3 (eMakeH "Desk" (semOf 1 g_Desk_ddinitdd) aNo))
def g_law_s15 : KB.Env → BS → RS BS :=
    (sSet 9 (eFz (fComp (iSq (eTup (aCons (eC (.str [98, 97, 110, 100, 32, 97, 98])) (aCons (eC (.str [107, 110, 111, 116, 32, 76])) (aCons (eC (.str [107, 110, 111, 116, 32])) (aCons (eC (.str [107, 110, 111, 116, 32, 82])) (aCons (eC (.str [107, 110, 111, 116, 32, 45])) (aCons (eC (.str [107, 110, 111, 116, 32, 45])) (aCons (eC (.str [114, 111, 119, 115])) (aCons (eC (.str [112, 105, 99, 116, 117, 114, 101])) aNil)))))))))) (pName 10) bYes (eMthH "Desk" "say" (semOf 2 g_Desk_say) (eVar 3) (aCons (eVar 10) aNil)) [10])))
def g_law_s16 : KB.Env → BS → RS BS :=
    (sRet (eOp2 eqD (eVar 9) (eFz (fLst (aCons (eC (.str [100, 111, 110, 101])) (aCons (eC (.str [98])) (aCons (eC (.str [110, 111])) (aCons (eC (.str [110, 111])) (aCons (eC (.str [45])) (aCons (eC (.str [110, 111])) (aCons (eC (.str [76, 59, 32, 45])) (aCons (eC (.str [98, 59, 32, 45])) aNil))))))))))))
def g_law : KB.Env → BS → RS BS :=
    (sSeq g_law_s1
    (sSeq g_law_s2
    (sSeq g_law_s3
    (sSeq g_law_s4
    (sSeq g_law_s5
    (sSeq g_law_s6
    (sSeq g_law_s7
    (sSeq g_law_s8
    (sSeq g_law_s9
    (sSeq g_law_s10
    (sSeq g_law_s11
    (sSeq g_law_s12
    (sSeq g_law_s13
    (sSeq g_law_s14
    (sSeq g_law_s15
    g_law_s16)))))))))))))))
theorem sc_law : FnScope ["_law_script", "_law_m", "_law_turn", "_law_desk", "_law_k", "_law_odd", "_law_found", "_law_band", "_law_lines", "_law_told", "_law_line", "_law_step"] ["_law_script"] (defScope s_law) := ⟨rfl, rfl, rfl, by decide +kernel, rfl, by decide +kernel, by decide +kernel⟩
theorem ok_law {P : Program} {w : World} {K : PySem.W.Frag} {mg : Str → Option Value} {cl : Str → Addr} {ts : Addr → Option Str} {base : Heap} {f : Addr} {fd : FuncData} (F : Fun K "law" "law" s_law f fd) (tx : Tx P w K mg cl)
    (d_Band_ddcalldd : Cdf P w K mg base 5 (cl "Band") (spD ⟨K, cl⟩ (SRB ⟨K, cl⟩ ts) 2 (semOf 3 g_Band_ddcalldd)))
    (d_Band_back : Mkw P w K mg base 7 (cl "Band") "back" "many" (.int 1) (spD ⟨K, cl⟩ (SRB ⟨K, cl⟩ ts) 2 (semOf 2 g_Band_back)))
    (d_Band_rows : Pdf P w K mg base 1 (cl "Band") "rows" (spD ⟨K, cl⟩ (SRB ⟨K, cl⟩ ts) 1 (semOf 1 g_Band_rows)))
    (d_Desk_ddinitdd : Idf P w K mg base 1 "Desk" (cl "Desk") (spD ⟨K, cl⟩ (SRB ⟨K, cl⟩ ts) 1 (semOf 1 g_Desk_ddinitdd)))
    (d_Desk_band : Pdf P w K mg base 1 (cl "Desk") "band" (spD ⟨K, cl⟩ (SRB ⟨K, cl⟩ ts) 1 (semOf 1 g_Desk_band)))
    (d_Desk_say : Mdf false P w K mg base 13 (cl "Desk") "say" (spD ⟨K, cl⟩ (SRB ⟨K, cl⟩ ts) 2 (semOf 2 g_Desk_say)))
    (d_law_begun : Dfn false P w K mg base 1 "_law_begun" (spD ⟨K, cl⟩ (SRB ⟨K, cl⟩ ts) 1 (semOf 2 g_law_begun)))
    (d_law_drawn_text : Dfn false P w K mg base 2 "_law_drawn_text" (spD ⟨K, cl⟩ (SRB ⟨K, cl⟩ ts) 1 (semOf 3 g_law_drawn_text)))
    (d_law_is_refused : Dfn false P w K mg base 15 "_law_is_refused" (spD ⟨K, cl⟩ (SRB ⟨K, cl⟩ ts) 2 (semOf 3 g_law_is_refused)))
    (d_law_no_right : Dfn false P w K mg base 15 "_law_no_right" (spD ⟨K, cl⟩ (SRB ⟨K, cl⟩ ts) 2 (semOf 4 g_law_no_right))) :
    FnG false P w K mg base 16 f fd ["_law_script"] (spD ⟨K, cl⟩ (SRB ⟨K, cl⟩ ts) 1 (semOf 12 g_law)) := by
  refine okDef (T := ⟨K, cl⟩) (SR := SRB ⟨K, cl⟩ ts) (k := 15) (gb := g_law) F sc_law rfl rfl fun cdv A out s H E hr hg => ?_
  exact (db_cons (ds_set sc_law.nd rfl (Or.inl rfl) (de_call d_law_begun (hr.mono (by decide)) (fun z => nomatch z) rfl (takes_of rfl rfl rfl rfl) (da_cons (dv 0) da_nil) (nArg_cons nArg_nil)))
    (db_cons (ds_for (is := [2]) (passes_of rfl) rfl (di_r1 rfl tx.b_range (da_cons (de_bin (op_addD rfl) de_int (deB (cl_min rfl) tx.b_min bt_min (da_cons (deB (cl_len rfl) tx.b_len bt_len (da_cons (dv 0) da_nil)) (da_cons de_int da_nil)))) da_nil)) (dp_name sc_law.nd rfl (Or.inl rfl))
    (db_cons (ds_set sc_law.nd rfl (Or.inr rfl) (de_make0H d_Desk_ddinitdd (hr.mono (by decide)) (takes_of rfl rfl rfl rfl)))
    (db_cons (ds_if (dt_w (dt_or (dt_cmp op_nisD (de_prpH "Desk" tx.c_Desk.c d_Desk_band (hr.mono (by decide)) (dv 3)) de_non (nomark _)) (dt_or (dt_not (dt_tru rfl (de_call d_law_no_right (hr.mono (by decide)) (fun z => nomatch z) rfl (takes_of rfl rfl rfl rfl) (da_cons (dv 3) (da_cons (de_str (l := [110, 111]) (by rfl)) da_nil)) (nArg_cons (nArg_cons nArg_nil))))) (dw_or1 (dt_cmp op_nisD (de_prpH "Desk" tx.c_Desk.c d_Desk_band (hr.mono (by decide)) (dv 3)) de_non (nomark _))))))
    (db_one (ds_ret de_bl))
    db_nil)
    (db_cons (ds_if (dt_w (dt_or (dt_cmp (op_neD' rfl hr.units) (de_mthH "Desk" tx.c_Desk.c d_Desk_say (hr.mono (by decide)) (fun z => nomatch z) (takes_of rfl rfl rfl rfl) (dv 3) (da_cons (de_str (l := [98, 97, 110, 100, 32, 97, 98, 99]) (by rfl)) da_nil) (nArg_cons nArg_nil)) (de_str (l := [100, 111, 110, 101]) (by rfl)) (nomark _)) (dt_or (dt_cmp (op_neD' rfl hr.units) (de_mthH "Desk" tx.c_Desk.c d_Desk_say (hr.mono (by decide)) (fun z => nomatch z) (takes_of rfl rfl rfl rfl) (dv 3) (da_cons (de_str (l := [107, 110, 111, 116, 32, 82]) (by rfl)) da_nil) (nArg_cons nArg_nil)) (de_str (l := [97]) (by rfl)) (nomark _)) (dw_or1 (dt_not (dt_tru rfl (de_call d_law_no_right (hr.mono (by decide)) (fun z => nomatch z) rfl (takes_of rfl rfl rfl rfl) (da_cons (dv 3) (da_cons (de_str (l := [82]) (by rfl)) da_nil)) (nArg_cons (nArg_cons nArg_nil)))))))))
    (db_one (ds_ret de_bl))
    db_nil)
    (db_cons (ds_for (is := [4]) (passes_of rfl) rfl (di_r1 rfl tx.b_range (da_cons de_int da_nil)) (dp_name sc_law.nd rfl (Or.inl rfl))
    (db_one (ds_if (dt_cmp (op_neD' rfl hr.units) (de_mthH "Desk" tx.c_Desk.c d_Desk_say (hr.mono (by decide)) (fun z => nomatch z) (takes_of rfl rfl rfl rfl) (dv 3) (da_cons (de_call d_law_drawn_text (hr.mono (by decide)) (fun z => nomatch z) rfl (takes_of rfl rfl rfl rfl) (da_cons (dv 1) da_nil) (nArg_cons nArg_nil)) da_nil) (nArg_cons nArg_nil)) (de_str (l := [110, 111]) (by rfl)) (nomark _))
    (db_one (ds_ret de_bl))
    db_nil)))
    (db_cons (ds_for (is := [5]) (passes_of rfl) rfl (di_seq rfl (de_fz (df_lst (da_cons de_non (da_cons de_int (da_cons (de_fz (df_lst (da_cons (de_str (l := [114, 111, 119, 115]) (by rfl)) da_nil))) (da_cons (de_tup (da_cons (de_str (l := [114, 111, 119, 115]) (by rfl)) da_nil)) (da_cons de_bl (da_cons de_dict0 da_nil))))))))) (dp_name sc_law.nd rfl (Or.inl rfl))
    (db_one (ds_if (dt_not (dt_tru rfl (de_call d_law_is_refused (hr.mono (by decide)) (fun z => nomatch z) rfl (takes_of rfl rfl rfl rfl) (da_cons (dv 3) (da_cons (dv 5) da_nil)) (nArg_cons (nArg_cons nArg_nil)))))
    (db_one (ds_ret de_bl))
    db_nil)))
    (db_cons (ds_if (dt_w (dt_or (dt_cmp (op_neD' rfl hr.units) (de_prpH "Band" tx.c_Band.c d_Band_rows (hr.mono (by decide)) (de_prpH "Desk" tx.c_Desk.c d_Desk_band (hr.mono (by decide)) (dv 3))) (de_tup (da_cons (de_str (l := [82]) (by rfl)) da_nil)) (nomark _)) (dt_or (dt_cmp (op_neD' rfl hr.units) (de_mthH "Desk" tx.c_Desk.c d_Desk_say (hr.mono (by decide)) (fun z => nomatch z) (takes_of rfl rfl rfl rfl) (dv 3) (da_cons (de_str (l := [115, 116, 97, 110, 100]) (by rfl)) da_nil) (nArg_cons nArg_nil)) (de_str (l := [98, 97, 99]) (by rfl)) (nomark _)) (dw_or1 (dt_cmp (op_neD' rfl hr.units) (de_mthH "Desk" tx.c_Desk.c d_Desk_say (hr.mono (by decide)) (fun z => nomatch z) (takes_of rfl rfl rfl rfl) (dv 3) (da_cons (de_str (l := [117, 115, 101, 115]) (by rfl)) da_nil) (nArg_cons nArg_nil)) (de_str (l := [52, 32, 49, 32, 49]) (by rfl)) (nomark _))))))
    (db_one (ds_ret de_bl))
    db_nil)
    (db_cons (ds_setLc (own := [("_law_line", 10)]) (is := [10]) rfl sc_law.nd (i := 6) rfl rfl (by rfl) (di_seq rfl (de_tup (da_cons (de_str (l := [114, 111, 119, 115]) (by rfl)) (da_cons (de_str (l := [112, 105, 99, 116, 117, 114, 101]) (by rfl)) (da_cons (de_str (l := [98, 97, 99, 107]) (by rfl)) (da_cons (de_str (l := [114, 111, 119, 115]) (by rfl)) (da_cons (de_str (l := [112, 105, 99, 116, 117, 114, 101]) (by rfl)) (da_cons (de_str (l := [115, 116, 97, 110, 100]) (by rfl)) (da_cons (de_str (l := [117, 115, 101, 115]) (by rfl)) da_nil))))))))) (blkOk_by (by rfl)) (fun _ _ _ _ _ => (dp_name sc_law.nd rfl (Or.inl rfl))) (fun _ _ _ _ _ => dts_nil) (fun _ _ _ _ _ => (de_mthH "Desk" tx.c_Desk.c d_Desk_say (hr.mono (by decide)) (fun z => nomatch z) takes0 (dv 3) (da_cons (dv 10) da_nil) (nArg_cons nArg_nil))) (by decide))
    (db_one (ds_if (dt_cmp (op_neD' rfl hr.units) (dv 6) (de_fz (df_lst (da_cons (de_str (l := [82]) (by rfl)) (da_cons (de_str (l := [97]) (by rfl)) (da_cons (de_str (l := [100, 111, 110, 101]) (by rfl)) (da_cons (de_str (l := [110, 111, 110, 101]) (by rfl)) (da_cons (de_str (l := [110, 111, 110, 101]) (by rfl)) (da_cons (de_str (l := [97, 98, 99]) (by rfl)) (da_cons (de_str (l := [48, 32, 48, 32, 48]) (by rfl)) da_nil))))))))) (nomark _))
    (db_one (ds_ret de_bl))
    db_nil))))))))))
    (db_cons (ds_set sc_law.nd rfl (Or.inr rfl) (de_make0H d_Desk_ddinitdd (hr.mono (by decide)) (takes_of rfl rfl rfl rfl)))
    (db_cons (ds_drop (de_mthH "Desk" tx.c_Desk.c d_Desk_say (hr.mono (by decide)) (fun z => nomatch z) (takes_of rfl rfl rfl rfl) (dv 3) (da_cons (de_str (l := [98, 97, 110, 100, 32, 97, 98, 99]) (by rfl)) da_nil) (nArg_cons nArg_nil)))
    (db_cons (ds_set sc_law.nd rfl (Or.inl rfl) (de_prpH "Desk" tx.c_Desk.c d_Desk_band (hr.mono (by decide)) (dv 3)))
    (db_cons (ds_if (dt_w (dt_or (dt_cmp (op_neD' rfl hr.units) (de_callH "Band" d_Band_ddcalldd (hr.mono (by decide)) (takes_of rfl rfl rfl rfl) (dv 7) (da_cons (de_str (l := [82]) (by rfl)) da_nil) (nArg_cons nArg_nil)) (de_str (l := [97]) (by rfl)) (nomark _)) (dt_or (dt_cmp (op_neD' rfl hr.units) (de_mthH "Desk" tx.c_Desk.c d_Desk_say (hr.mono (by decide)) (fun z => nomatch z) (takes_of rfl rfl rfl rfl) (dv 3) (da_cons (de_str (l := [114, 111, 119, 115]) (by rfl)) da_nil) (nArg_cons nArg_nil)) (de_str (l := [82]) (by rfl)) (nomark _)) (dw_or1 (dt_cmp (op_neD' rfl hr.units) (de_mthH "Desk" tx.c_Desk.c d_Desk_say (hr.mono (by decide)) (fun z => nomatch z) (takes_of rfl rfl rfl rfl) (dv 3) (da_cons (de_str (l := [115, 116, 97, 110, 100]) (by rfl)) da_nil) (nArg_cons nArg_nil)) (de_str (l := [98, 97, 99]) (by rfl)) (nomark _))))))
    (db_one (ds_ret de_bl))
    db_nil)
    (db_cons (ds_drop (de_mthH "Desk" tx.c_Desk.c d_Desk_say (hr.mono (by decide)) (fun z => nomatch z) (takes_of rfl rfl rfl rfl) (dv 3) (da_cons (de_str (l := [107, 110, 111, 116, 32, 76]) (by rfl)) da_nil) (nArg_cons nArg_nil)))
    (db_cons (ds_drop (de_mkw0H "Band" tx.c_Band.c d_Band_back (hr.mono (by decide)) (takes_of rfl rfl rfl rfl) (dv 7)))
    (db_cons (ds_if (dt_w (dt_or (dt_cmp (op_neD' rfl hr.units) (de_mthH "Desk" tx.c_Desk.c d_Desk_say (hr.mono (by decide)) (fun z => nomatch z) (takes_of rfl rfl rfl rfl) (dv 3) (da_cons (de_str (l := [114, 111, 119, 115]) (by rfl)) da_nil) (nArg_cons nArg_nil)) (de_str (l := [82]) (by rfl)) (nomark _)) (dw_or1 (dt_cmp (op_neD' rfl hr.units) (de_mthH "Desk" tx.c_Desk.c d_Desk_say (hr.mono (by decide)) (fun z => nomatch z) (takes_of rfl rfl rfl rfl) (dv 3) (da_cons (de_str (l := [107, 110, 111, 116, 32, 76]) (by rfl)) da_nil) (nArg_cons nArg_nil)) (de_str (l := [99]) (by rfl)) (nomark _)))))
    (db_one (ds_ret de_bl))
    db_nil)
    (db_cons (ds_drop (de_mthH "Desk" tx.c_Desk.c d_Desk_say (hr.mono (by decide)) (fun z => nomatch z) (takes_of rfl rfl rfl rfl) (dv 3) (da_cons (de_str (l := [98, 97, 110, 100, 32, 97, 98, 97]) (by rfl)) da_nil) (nArg_cons nArg_nil)))
    (db_cons (ds_if (dt_cmp (op_neD' rfl hr.units) (de_fz (df_lc (own := [("_law_step", 11)]) (is := [11]) rfl sc_law.nd (di_r1 rfl tx.b_range (da_cons de_int da_nil)) (blkOk_by (by rfl)) (fun _ _ _ _ _ => (dp_name sc_law.nd rfl (Or.inl rfl))) (fun _ _ _ _ _ => dts_nil) (fun _ _ _ _ _ => (de_cmp (op_inD' rfl (u65 hr)) (de_mthH "Desk" tx.c_Desk.c d_Desk_say (hr.mono (by decide)) (fun z => nomatch z) takes0 (dv 3) (da_cons (de_str (l := [107, 110, 111, 116, 32, 82]) (by rfl)) da_nil) (nArg_cons nArg_nil)) (de_tup (da_cons (de_str (l := [97]) (by rfl)) (da_cons (de_str (l := [98]) (by rfl)) da_nil))) (by rfl))) (by decide))) (de_fz (df_rep (df_lst (da_cons de_bl da_nil)) de_int)) (nomark _))
    (db_one (ds_ret de_bl))
    db_nil)
    (db_cons (ds_set sc_law.nd rfl (Or.inl rfl) (de_fz (df_lst (da_cons (de_str (l := [114, 111, 117, 110, 100]) (by rfl)) (da_cons (de_str (l := [112, 101, 114, 105, 111, 100]) (by rfl)) (da_cons (de_str (l := [115, 112, 114, 101, 97, 100]) (by rfl)) (da_cons (de_str (l := [109, 97, 100, 101, 32, 97, 98, 97]) (by rfl)) (da_cons (de_str (l := [101, 118, 101, 114]) (by rfl)) (da_cons (de_str (l := [98, 97, 99, 107, 32, 49, 48, 48]) (by rfl)) (da_cons (de_str (l := [98, 97, 99, 107, 32, 49, 50]) (by rfl)) (da_cons (de_str (l := [114, 111, 117, 110, 100]) (by rfl)) da_nil)))))))))))
    (db_cons (ds_if (dt_cmp (op_neD' rfl hr.units) (de_fz (df_lc (own := [("_law_line", 10)]) (is := [10]) rfl sc_law.nd (di_seq rfl (dv 8)) (blkOk_by (by rfl)) (fun _ _ _ _ _ => (dp_name sc_law.nd rfl (Or.inl rfl))) (fun _ _ _ _ _ => dts_nil) (fun _ _ _ _ _ => (de_mthH "Desk" tx.c_Desk.c d_Desk_say (hr.mono (by decide)) (fun z => nomatch z) takes0 (dv 3) (da_cons (dv 10) da_nil) (nArg_cons nArg_nil))) (by decide))) (de_bin (op_addD rfl) (de_fz (df_rep (df_lst (da_cons (de_str (l := [110, 111]) (by rfl)) da_nil)) de_int)) (de_fz (df_lst (da_cons (de_str (l := [100, 111, 110, 101]) (by rfl)) (da_cons (de_str (l := [49]) (by rfl)) da_nil))))) (nomark _))
    (db_one (ds_ret de_bl))
    db_nil)
    (db_cons (ds_set sc_law.nd rfl (Or.inr rfl) (de_make0H d_Desk_ddinitdd (hr.mono (by decide)) (takes_of rfl rfl rfl rfl)))
    (db_cons (ds_setLc (own := [("_law_line", 10)]) (is := [10]) rfl sc_law.nd (i := 9) rfl rfl (by rfl) (di_seq rfl (de_tup (da_cons (de_str (l := [98, 97, 110, 100, 32, 97, 98]) (by rfl)) (da_cons (de_str (l := [107, 110, 111, 116, 32, 76]) (by rfl)) (da_cons (de_str (l := [107, 110, 111, 116, 32]) (by rfl)) (da_cons (de_str (l := [107, 110, 111, 116, 32, 82]) (by rfl)) (da_cons (de_str (l := [107, 110, 111, 116, 32, 45]) (by rfl)) (da_cons (de_str (l := [107, 110, 111, 116, 32, 45]) (by rfl)) (da_cons (de_str (l := [114, 111, 119, 115]) (by rfl)) (da_cons (de_str (l := [112, 105, 99, 116, 117, 114, 101]) (by rfl)) da_nil)))))))))) (blkOk_by (by rfl)) (fun _ _ _ _ _ => (dp_name sc_law.nd rfl (Or.inl rfl))) (fun _ _ _ _ _ => dts_nil) (fun _ _ _ _ _ => (de_mthH "Desk" tx.c_Desk.c d_Desk_say (hr.mono (by decide)) (fun z => nomatch z) takes0 (dv 3) (da_cons (dv 10) da_nil) (nArg_cons nArg_nil))) (by decide))
    (db_one (ds_ret (de_cmp (op_eqD' rfl hr.units) (dv 9) (de_fz (df_lst (da_cons (de_str (l := [100, 111, 110, 101]) (by rfl)) (da_cons (de_str (l := [98]) (by rfl)) (da_cons (de_str (l := [110, 111]) (by rfl)) (da_cons (de_str (l := [110, 111]) (by rfl)) (da_cons (de_str (l := [45]) (by rfl)) (da_cons (de_str (l := [110, 111]) (by rfl)) (da_cons (de_str (l := [76, 59, 32, 45]) (by rfl)) (da_cons (de_str (l := [98, 59, 32, 45]) (by rfl)) da_nil)))))))))) (nomark _)))))))))))))))))))
end KB
set_option Elab.async false
set_option linter.all false
set_option maxRecDepth 100000
set_option maxHeartbeats 4000000
/-! what the package computes -/
namespace KB
open PySem
variable {bs : List Bd}
local macro_rules | `(tactic| simp! [$a,*]) => `(tactic| simp only [ev_eC, ev_eVar, ev_eOp2, ev_eOp1, ev_aNil, ev_aCons, ev_eTup, ev_fLst, ev_eFz, ev_eAnd, ev_eOr, ev_eIf, ev_tTru, ev_tBl, ev_bAnd, ev_bOr, ev_bNot, ev_eCl, ev_eCall, ev_fCall, ev_eJoin, ev_fList, ev_iSq, ev_eBor, ev_tBor, ev_fBor, ev_sNil, ev_sSeq, ev_sDrop, ev_sRet, ev_sRetL, ev_sRetO, ev_sIf, ev_sSet, ev_sSetL, ev_sApp, ev_sRaise, ev_sPar, ev_zNil, ev_zD, ev_zL, ev_eMake, ev_eOp2S, ev_eIsI, ev_eLenI, ev_ePrp, ev_eMth, ev_eSl, ev_pNone, ev_pM1, ev_eBm1, tyL_l, tyS_s, intX_int, intX_bl, lk_shown, lk_behind, eq_self, kIsI_pat, revA_t, mulX_int, reprX_l, reprX_t, bind_ok, bind_exc, bind_bad, toS_ok, toS_exc, of_some, chk_ok, noX_ok, seq_nx, seq_rt, seq_exc, seq_ct, seq_bk, on1_eq, on2_eq, truD_bl, truD_int, isiD2_eq, tyD_non, tyD_bl, tyD_int, tyD_str, tyD_lst, tyD_tup, tyD_dct, tupleD1_l, tupleD1_t, toD_d, toD_L, seqD_l, seqD_t, seqD_s, lenD1_l, lenD1_t, lenD1_c, minD2_eq, maxD2_eq, defR_rt, defR_nx, defR_exc, addD_int, subD_int, intD1_int, intD1_bl, eqD_int, neD_int, eqD_str, neD_str, ltD_int, leD_int, gtD_int, geD_int, inD_s, ninD_s, isD_non_int, isD_non_non, nisD_non_non, nisD_non_tup, isD_non_tup, notD_bl, setE, List.getElem?_cons_zero, List.getElem?_cons_succ, List.set_cons_zero, List.set_cons_succ, List.length_cons, List.length_nil, Option.bind_some, Option.map_some, Nat.reduceAdd, Nat.reduceLeDiff, Nat.reduceLT, if_true, if_false, Bool.false_eq_true, Bool.not_true, Bool.not_false, and_self, and_true, true_and, kit_bool_int, kit_int_int, kit_int_bool, kit_int_str, kit_str_str, kit_str_tuple, kit_tuple_tuple, kit_tuple_str, kit_str_int, kit_NoneType_str, kit_NoneType_tuple, kit_NoneType_int, kit_list_tuple, kit_list_str, kit_int_tuple, sv_get0, sv_get1, sv_set0, sv_set1, sv_len1, sv_len0, sv_bind, sv_map, sv_ift, sv_iff, sv_ft, sv_nt, sv_nf, sv_eq, sv_and1, sv_and2, sv_and3, ev_pSomeS, ev_iEnS, ev_iZpS, ev_sAsgS, ev_pTup, ev_pTupL, ev_psCons, ev_psNil, ev_pName, ev_bYes, ev_aNo, sv_envOf, sv_mapc, sv_mapn, sv_appc, sv_appn, sv_rep1, sv_rep0, $a,*])
theorem dr_ok : (⟨3, 2147483629, 7919, 19, 48271, 2147483647, 104729, 69621, 2147483587, 11⟩ : Dr).Ok := ⟨by decide, by decide, by decide, by decide, by decide, by decide, by decide, by decide, by decide, by decide⟩
theorem nxt {st : LS} {m : Nat} (ok : LsOk st m) (hm : m < 1000000) (t : Int) (h0 : 0 < t) (h1 : t < 1073741824) : ∃ (v : Nat) (st' : LS), (v : Int) < t ∧ LsOk st' (m + 1) ∧ semOf 6 g_law_next [.hnd 0, .int t] (some st, bs) = .ok (.d (.int (v : Int))) (some st', bs) := by
  obtain ⟨v, st1, e1, v0, v1, ok1⟩ := next_okB dr_ok ok (total := t) h0 h1 (by omega)
  obtain ⟨k, rfl⟩ : ∃ k : Nat, v = k := ⟨v.toNat, by omega⟩
  exact ⟨k, st1, v1, ok1, e1⟩
theorem begun (ns : List Int) (h : ns.length ≤ 63) : ∃ st, LsOk st 0 ∧ semOf 2 g_law_begun [.scr ns] (none, []) = .ok (.d (.hnd 0)) (some st, []) := by
  obtain ⟨st0, e0, ok0⟩ := begun_okB ns h
  exact ⟨st0, ok0, e0⟩
end KB
set_option Elab.async false
set_option linter.all false
set_option maxRecDepth 100000
set_option maxHeartbeats 4000000
namespace KB
open PySem
local macro_rules | `(tactic| simp! [$a,*]) => `(tactic| simp only [ev_eC, ev_eVar, ev_eOp2, ev_eOp1, ev_aNil, ev_aCons, ev_eTup, ev_fLst, ev_eFz, ev_eAnd, ev_eOr, ev_eIf, ev_tTru, ev_tBl, ev_bAnd, ev_bOr, ev_bNot, ev_eCl, ev_eCall, ev_fCall, ev_eJoin, ev_fList, ev_iSq, ev_eBor, ev_tBor, ev_fBor, ev_sNil, ev_sSeq, ev_sDrop, ev_sRet, ev_sRetL, ev_sRetO, ev_sIf, ev_sSet, ev_sSetL, ev_sApp, ev_sRaise, ev_sPar, ev_zNil, ev_zD, ev_zL, ev_eMake, ev_eOp2S, ev_eIsI, ev_eLenI, ev_ePrp, ev_eMth, ev_eSl, ev_pNone, ev_pM1, ev_eBm1, tyL_l, tyS_s, intX_int, intX_bl, lk_shown, lk_behind, eq_self, kIsI_pat, revA_t, mulX_int, reprX_l, reprX_t, bind_ok, bind_exc, bind_bad, toS_ok, toS_exc, of_some, chk_ok, noX_ok, seq_nx, seq_rt, seq_exc, seq_ct, seq_bk, on1_eq, on2_eq, truD_bl, truD_int, isiD2_eq, tyD_non, tyD_bl, tyD_int, tyD_str, tyD_lst, tyD_tup, tyD_dct, tupleD1_l, tupleD1_t, toD_d, toD_L, seqD_l, seqD_t, seqD_s, lenD1_l, lenD1_t, lenD1_c, minD2_eq, maxD2_eq, defR_rt, defR_nx, defR_exc, addD_int, subD_int, intD1_int, intD1_bl, eqD_int, neD_int, eqD_str, neD_str, ltD_int, leD_int, gtD_int, geD_int, inD_s, ninD_s, isD_non_int, isD_non_non, nisD_non_non, nisD_non_tup, isD_non_tup, notD_bl, setE, List.getElem?_cons_zero, List.getElem?_cons_succ, List.set_cons_zero, List.set_cons_succ, List.length_cons, List.length_nil, Option.bind_some, Option.map_some, Nat.reduceAdd, Nat.reduceLeDiff, Nat.reduceLT, if_true, if_false, Bool.false_eq_true, Bool.not_true, Bool.not_false, and_self, and_true, true_and, kit_bool_int, kit_int_int, kit_int_bool, kit_int_str, kit_str_str, kit_str_tuple, kit_tuple_tuple, kit_tuple_str, kit_str_int, kit_NoneType_str, kit_NoneType_tuple, kit_NoneType_int, kit_list_tuple, kit_list_str, kit_int_tuple, sv_get0, sv_get1, sv_set0, sv_set1, sv_len1, sv_len0, sv_bind, sv_map, sv_ift, sv_iff, sv_ft, sv_nt, sv_nf, sv_eq, sv_and1, sv_and2, sv_and3, ev_pSomeS, ev_iEnS, ev_iZpS, ev_sAsgS, ev_pTup, ev_pTupL, ev_psCons, ev_psNil, ev_pName, ev_bYes, ev_aNo, sv_envOf, sv_mapc, sv_mapn, sv_appc, sv_appn, sv_rep1, sv_rep0, $a,*])
abbrev brk : Bd := ⟨"Band", []⟩
abbrev dsk (d : D) : Bd := ⟨"Desk", [("own", d)]⟩
abbrev noS : D := .str [110, 111]
/-! ### a drawn text is no line -/
theorem spl_x : ∀ (l acc : List Nat), ∃ w rest, TL.spl [32] 0 (120 :: acc) l = (120 :: w) :: rest ∧ rest.length ≤ l.length
  | [], acc => ⟨acc, [], rfl, Nat.le_refl _⟩
  | c :: r, acc => by
    by_cases h : TL.pre [32] (c :: r) = true
    · have e : TL.spl [32] 0 (120 :: acc) (c :: r) = (120 :: acc) :: TL.spl [32] 0 [] r := TL.spl_hit h
      refine ⟨acc, _, e, ?_⟩
      have := spl_le r []
      rw [List.length_cons]
      omega
    · have e : TL.spl [32] 0 (120 :: acc) (c :: r) = TL.spl [32] 0 (120 :: acc ++ [c]) r := by
        show (if TL.pre [32] (c :: r) = true then _ else _) = _
        rw [if_neg h]
      obtain ⟨w, rest, e2, h2⟩ := spl_x r (acc ++ [c])
      exact ⟨w, rest, e.trans e2, by rw [List.length_cons]; omega⟩
where
  spl_le : ∀ (l acc : List Nat), (TL.spl [32] 0 acc l).length ≤ l.length + 1
    | [], acc => Nat.le_refl _
    | c :: r, acc => by
      by_cases h : TL.pre [32] (c :: r) = true
      · have e : TL.spl [32] 0 acc (c :: r) = acc :: TL.spl [32] 0 [] r := TL.spl_hit h
        have := spl_le r []
        rw [e, List.length_cons, List.length_cons]
        omega
      · have e : TL.spl [32] 0 acc (c :: r) = TL.spl [32] 0 (acc ++ [c]) r := by
          show (if TL.pre [32] (c :: r) = true then _ else _) = _
          rw [if_neg h]
        have := spl_le r (acc ++ [c])
        rw [e, List.length_cons]
        omega
theorem spl_ch : ∀ (l acc : List Nat), (∀ c ∈ l, c < 0x110000) → (∀ c ∈ acc, c < 0x110000) → ∀ p ∈ TL.spl [32] 0 acc l, ∀ c ∈ p, c < 0x110000
  | [], acc, _, ha, p, hp => by
    rw [TL.spl_nil] at hp
    simp at hp
    subst hp
    exact ha
  | c :: r, acc, hl, ha, p, hp => by
    by_cases h : TL.pre [32] (c :: r) = true
    · have e : TL.spl [32] 0 acc (c :: r) = acc :: TL.spl [32] 0 [] r := TL.spl_hit h
      rw [e] at hp
      rcases List.mem_cons.mp hp with rfl | hp
      · exact ha
      · exact spl_ch r [] (fun c hc => hl c (List.mem_cons_of_mem _ hc)) (fun c hc => by simp at hc) p hp
    · have e : TL.spl [32] 0 acc (c :: r) = TL.spl [32] 0 (acc ++ [c]) r := by
        conv => lhs; unfold TL.spl
        rw [if_neg h]
      rw [e] at hp
      refine spl_ch r (acc ++ [c]) (fun c hc => hl c (List.mem_cons_of_mem _ hc)) (fun d hd => ?_) p hp
      rcases List.mem_append.mp hd with hd | hd
      · exact ha d hd
      · simp at hd
        rw [hd]
        exact hl c List.mem_cons_self
theorem alone_x {w : List Nat} {s : OLS} {bs : List Bd} {d : Nat} : semOf 3 g_Desk_alone [.hnd (d + 1), .str (120 :: w)] (s, bs) = .ok (.d noS) (s, bs) := by
  refine sem_nx (rs := .rt (.d noS) (s, bs)) rfl ?_ rfl
  unfold g_Desk_alone
  kernel_rfl
theorem answered_x {w : List Nat} {rest : List (List Nat)} (hl : rest.length ≤ 16000) (hc : ∀ p ∈ rest, ∀ c ∈ p, c < 0x110000) {s : OLS} {bs : List Bd} {d j : Nat} (hb : bs[d]? = some (dsk (.hnd j))) : semOf 4 g_Desk_answered [.hnd (d + 1), .lst (txts ((120 :: w) :: rest))] (s, bs) = .ok (.d noS) (s, bs) := by
  have hf : eFldH "Desk" "own" (eVar 0) [.d (.hnd (d + 1)), .d (.lst (txts ((120 :: w) :: rest))), .d (.str (120 :: w)), .d (.lst (txts rest))] (s, bs) = .ok (.hnd j) (s, bs) := fB hb rfl rfl rfl
  refine sem_nx (env := [.d (.hnd (d + 1)), .d (.lst (txts ((120 :: w) :: rest))), .no, .no]) (rs := .rt (.d noS) (s, bs)) rfl ?_ rfl
  unfold g_Desk_answered
  refine go (env1 := [.d (.hnd (d + 1)), .d (.lst (txts ((120 :: w) :: rest))), .d (.str (120 :: w)), .d (.lst (txts rest))]) (s1 := (s, bs)) ?_ ?_
  · show (if (txts rest).length ≤ 16000 then (.nx _ _ : RS BS) else .bad) = _
    rw [if_pos (by rw [List.length_map]; exact hl)]
    rfl
  refine go (if_n (s1 := (s, bs)) rfl rfl) ?_
  refine go (if_n (s1 := (s, bs)) ?_ rfl) ?_
  · unfold tBl eOp2
    rw [hf]
    rfl
  refine go (if_n (s1 := (s, bs)) rfl rfl) ?_
  cases rest with
  | nil =>
    refine go_rt (if_y (s1 := (s, bs)) rfl ?_)
    have e := alone_x (w := w) (s := s) (bs := bs) (d := d)
    have hm := mthB (m := "alone") (nm := "Desk") (sem := semOf 3 g_Desk_alone) (fs := aCons (eVar 2) aNil) (i := 0) (env := [.d (.hnd (d + 1)), .d (.lst (txts ((120 :: w) :: []))), .d (.str (120 :: w)), .d (.lst (txts []))]) (s := s) hb rfl rfl (s1 := s) (bs1 := bs) rfl e rfl
    show (eMthH "Desk" "alone" _ _ _ _ _).toS _ _ = _
    rw [hm]
    rfl
  | cons r rest =>
    have q : eqD (.lst (txts (r :: rest))) (.lst []) = some (.bl false) := (eqD_lstM eqv_str (ys := []) (n := 1) (by decide) (fit_txtsL hc) rfl).trans rfl
    refine go (if_n (s1 := (s, bs)) ?_ rfl) ?_
    · show (R.of (eqD (.lst (txts (r :: rest))) (.lst [])) (s, bs)).bind _ = _
      rw [q]
      rfl
    refine go (if_n (s1 := (s, bs)) rfl rfl) ?_
    rfl
theorem say_x {l : List Nat} (hl : l.length ≤ 1000) (hc : ∀ c ∈ l, c < 0x110000) {s : OLS} {bs : List Bd} {d j : Nat} (hb : bs[d]? = some (dsk (.hnd j))) : semOf 2 g_Desk_say [.hnd (d + 1), .str (120 :: l)] (s, bs) = .ok (.d noS) (s, bs) := by
  obtain ⟨w, rest, e, hr⟩ := spl_x l []
  have hsp : splitD (.str (120 :: l)) (.str [32]) = some (.lst (txts ((120 :: w) :: rest))) := by
    show (if [32] ≠ [] ∧ [32].all (· < 256) = true ∧ (120 :: l).length ≤ 16777214 then some (D.lst ((TL.spl [32] 0 [] (120 :: l)).map D.str)) else none) = _
    rw [if_pos ⟨by decide, by decide, by rw [List.length_cons]; omega⟩, show TL.spl [32] 0 [] (120 :: l) = TL.spl [32] 0 [120] l from rfl, e]
  have hsc := spl_ch l [120] hc (fun c h => by simp at h; subst h; decide)
  rw [e] at hsc
  have ha := answered_x (w := w) (rest := rest) (by omega) (fun p hp => hsc p (List.mem_cons_of_mem _ hp)) (s := s) hb
  have hm := mthB (m := "answered") (nm := "Desk") (sem := semOf 4 g_Desk_answered) (fs := aCons (eBm1 tyS splitD (eVar 1) (eC (.str [32]))) aNil) (i := 0) (env := [.d (.hnd (d + 1)), .d (.str (120 :: l))]) (s := s) hb rfl rfl (s1 := s) (bs1 := bs) (ds := [.lst (txts ((120 :: w) :: rest))]) (by simp! [hsp] <;> rfl) ha rfl
  refine sem_nx (env := [.d (.hnd (d + 1)), .d (.str (120 :: l))]) (rs := .rt (.d noS) (s, bs)) rfl ?_ rfl
  unfold g_Desk_say
  refine go (if_n (s1 := (s, bs)) rfl rfl) ?_
  have er : sRet (eMthH "Desk" "answered" (semOf 4 g_Desk_answered) (eVar 0) (aCons (eBm1 tyS splitD (eVar 1) (eC (.str [32]))) aNil)) [.d (.hnd (d + 1)), .d (.str (120 :: l))] (s, bs) = .rt (.d noS) (s, bs) := by
    simp! [hm] <;> rfl
  unfold sTryT
  rw [er]
abbrev SGt : List Nat := [97, 98, 107, 82, 76, 45, 32, 48, 49, 57, 59, 10, 63]
theorem iR1_eqS {fs : KB.Env → BS → R BS (List D)} {env : KB.Env} {s s1 : BS} {n : Int} (e : fs env s = .ok [.int n] s1) (h : -(2 ^ 62) ≤ n) (h2 : n < 2 ^ 62) : iR1 fs env s = .ok (rng 0 n.toNat) s1 := by
  unfold iR1
  rw [e]
  show (if -(2 ^ 62) ≤ n ∧ n < 2 ^ 62 then R.ok (rng 0 n.toNat) s1 else .bad) = _
  rw [if_pos ⟨h, h2⟩]
theorem drawn_text_ok {st : LS} {m : Nat} (ok : LsOk st m) (hm : m < 800000) {bs : List Bd} : ∃ (l : List Nat) (st' : LS), l.length ≤ 30 ∧ (∀ c ∈ l, c < 0x110000) ∧ LsOk st' (m + 31) ∧ semOf 3 g_law_drawn_text [.hnd 0] (some st, bs) = .ok (.d (.str (120 :: l))) (some st', bs) := by
  obtain ⟨v, st1, hv, ok1, e1⟩ := nxt (bs := bs) ok (by omega) 30 (by decide) (by decide)
  have ew := iR1_eqS (fs := aCons (eCall (semOf 6 g_law_next) (aCons (eVar 0) (aCons (eC (.int 30)) aNil))) aNil) (env := [.d (.hnd 0), .d (.str SGt), .no]) (s := (some st, bs)) (s1 := (some st1, bs)) (n := (v : Int)) (by simp! [e1] <;> rfl) (by omega) (by omega)
  rw [nn] at ew
  obtain ⟨ys, s3, e3, hl3, py, st3, rfl, ok3⟩ := fComp_draw (h := pName 2) (f := eOp2 ixD (eVar 1) (eCall (semOf 6 g_law_next) (aCons (eVar 0) (aCons (eC (.int 13)) aNil)))) (vs := [2]) (fun k s => ∃ st3, s = (some st3, bs) ∧ LsOk st3 (m + 1 + k)) (fun y => ∃ c, y = .str [c] ∧ c ∈ SGt) ew (by simp; omega) ⟨st1, rfl, ok1⟩ (by
    rintro k x s hk ⟨st3, rfl, ok3⟩
    obtain ⟨hk', rfl⟩ := rng_get0 hk
    refine ⟨_, rfl, ?_⟩
    obtain ⟨u, st4, u1, ok4, e4⟩ := nxt (bs := bs) ok3 (by omega) 13 (by decide) (by decide)
    obtain ⟨c, hc, ec⟩ := ixD_s (l := SGt) (i := (u : Int)) (by decide) (by omega) (by simpa using u1)
    refine ⟨.str [c], (some st4, bs), ?_, ⟨c, rfl, List.mem_of_getElem? hc⟩, st4, rfl, ok4⟩
    simp! [wipeE, List.foldl_cons, List.foldl_nil, e4, ec] <;> rfl)
  obtain ⟨l, rfl, hc⟩ := signs_of py
  have hl : l.length = v := by simpa using hl3
  have hj := join_signs (show l.length ≤ 16777216 by omega)
  have ha : addD (.str [120]) (.str l) = some (.str (120 :: l)) := by
    show (if [120].length + l.length ≤ 16777216 then some (D.str ([120] ++ l)) else none) = _
    rw [if_pos (by simp; omega)]
    rfl
  refine ⟨l, st3, by omega, fun c h => by have := hc c h; revert this; simp; omega, ok3.mono (by simp; omega), ?_⟩
  refine sem_nx (env := [.d (.hnd 0), .no, .no]) (rs := .rt (.d (.str (120 :: l))) (some st3, bs)) rfl ?_ rfl
  unfold g_law_drawn_text
  refine go (env1 := [.d (.hnd 0), .d (.str SGt), .no]) (s1 := (some st, bs)) rfl ?_
  simp! [e3, hj, ha] <;> rfl
/-! ### a turn -/
def tb (n : Nat) : List Bd := [dsk (.hnd (n + 5)), brk, brk, brk, bd [97, 98, 99] [], brk, brk, brk]
def tbR (n : Nat) : List Bd := [dsk (.hnd (n + 5)), brk, brk, brk, bd [97, 98, 99] [[82]], brk, brk, brk]
def Bs : Nat → List Bd
  | 0 => []
  | i + 1 => Bs i ++ tb (8 * i)
def bA (n : Nat) : List Bd := [dsk .non]
def bB (n : Nat) : List Bd := [dsk .non, brk, brk, brk]
/-- six drawn texts -/
theorem texts_ok {st : LS} {m : Nat} (ok : LsOk st m) (hm : m < 700000) {bs : List Bd} {d j : Nat} (hb : bs[d]? = some (dsk (.hnd j))) (x0 x2 x4 x5 x6 x7 x8 x9 x10 x11 : Sl) : ∃ (st' : LS) (y4 : Sl), LsOk st' (m + 31 * 6) ∧
    sFor (iR1 (aCons (eC (.int 6)) aNil)) (pName 4) g_law_b1 [x0, .d (.hnd 0), x2, .d (.hnd (d + 1)), x4, x5, x6, x7, x8, x9, x10, x11] (some st, bs) = .nx [x0, .d (.hnd 0), x2, .d (.hnd (d + 1)), y4, x5, x6, x7, x8, x9, x10, x11] (some st', bs) := by
  have w := iR1_eq (fs := aCons (eC (.int 6)) aNil) (env := [x0, .d (.hnd 0), x2, .d (.hnd (d + 1)), x4, x5, x6, x7, x8, x9, x10, x11]) (s := ((some st, bs) : BS)) (n := ((6 : Nat) : Int)) rfl (by decide) (by decide)
  rw [nn] at w
  obtain ⟨env', s', e2, st', y4, rfl, rfl, ok'⟩ := sFor_inv (h := pName 4) (g := g_law_b1) w (fun i env s => ∃ (st' : LS) (y4 : Sl), s = (some st', bs) ∧ env = [x0, .d (.hnd 0), x2, .d (.hnd (d + 1)), y4, x5, x6, x7, x8, x9, x10, x11] ∧ LsOk st' (m + 31 * i)) ⟨st, x4, rfl, rfl, ok⟩ (by
    rintro i x env s hi ⟨st1, y4, rfl, rfl, ok1⟩
    obtain ⟨hi6, rfl⟩ := rng_get0 hi
    obtain ⟨l, st2, hl, hc, ok2, e⟩ := drawn_text_ok (bs := bs) ok1 (by omega)
    have es := say_x (l := l) (by omega) hc (s := some st2) hb
    have em := mthB (m := "say") (nm := "Desk") (sem := semOf 2 g_Desk_say) (fs := aCons (eCall (semOf 3 g_law_drawn_text) (aCons (eVar 1) aNil)) aNil) (i := 3) (env := [x0, .d (.hnd 0), x2, .d (.hnd (d + 1)), .d (.int i), x5, x6, x7, x8, x9, x10, x11]) (s := some st1) hb rfl rfl (s1 := some st2) (bs1 := bs) (ds := [.str (120 :: l)]) (by simp! [e] <;> rfl) es rfl
    refine ⟨[x0, .d (.hnd 0), x2, .d (.hnd (d + 1)), .d (.int i), x5, x6, x7, x8, x9, x10, x11], rfl, _, _, .inl (if_n (s1 := (some st2, bs)) ?_ rfl), st2, .d (.int i), rfl, rfl, ok2.mono (by omega)⟩
    unfold tBl eOp2
    rw [em]
    rfl)
  exact ⟨st', y4, ok'.mono (by simp), e2⟩
theorem turn_0 {st : LS} {m : Nat} (ok : LsOk st m) (hm : m < 700000) (x0 x3 x4 x5 x6 x7 x8 x9 x10 x11 : Sl) : ∃ (st' : LS) (y3 y4 y5 y6 : Sl), LsOk st' (m + 200) ∧
    g_law_b3 [x0, .d (.hnd 0), .d (.int 0), x3, x4, x5, x6, x7, x8, x9, x10, x11] (some st, Bs 0) = .nx [x0, .d (.hnd 0), .d (.int 0), y3, y4, y5, y6, x7, x8, x9, x10, x11] (some st', Bs 1) := by
  obtain ⟨st1, y4, ok1, e4⟩ := texts_ok ok hm (bs := Bs 0 ++ tbR 0) (d := 0) (j := 5) rfl x0 (.d (.int 0)) x4 x5 x6 x7 x8 x9 x10 x11
  refine ⟨st1, .d (.hnd 1), y4, .d (.dct []), .d (.lst [.str [82], .str [97], .str [100, 111, 110, 101], .str [110, 111, 110, 101], .str [110, 111, 110, 101], .str [97, 98, 99], .str [48, 32, 48, 32, 48]]), ok1.mono (by omega), ?_⟩
  unfold g_law_b3
  refine go (env1 := [x0, .d (.hnd 0), .d (.int 0), .d (.hnd 1), x4, x5, x6, x7, x8, x9, x10, x11]) (s1 := (some st, Bs 0 ++ bA 0)) (by kernel_rfl) ?_
  refine go (env1 := [x0, .d (.hnd 0), .d (.int 0), .d (.hnd 1), x4, x5, x6, x7, x8, x9, x10, x11]) (s1 := (some st, Bs 0 ++ bB 0)) (by kernel_rfl) ?_
  refine go (env1 := [x0, .d (.hnd 0), .d (.int 0), .d (.hnd 1), x4, x5, x6, x7, x8, x9, x10, x11]) (s1 := (some st, Bs 0 ++ tbR 0)) (by kernel_rfl) ?_
  refine go e4 ?_
  refine go (env1 := [x0, .d (.hnd 0), .d (.int 0), .d (.hnd 1), y4, .d (.dct []), x6, x7, x8, x9, x10, x11]) (s1 := (some st1, Bs 0 ++ tbR 0)) (by kernel_rfl) ?_
  refine go (env1 := [x0, .d (.hnd 0), .d (.int 0), .d (.hnd 1), y4, .d (.dct []), x6, x7, x8, x9, x10, x11]) (s1 := (some st1, Bs 0 ++ tbR 0)) (by kernel_rfl) ?_
  refine go (env1 := [x0, .d (.hnd 0), .d (.int 0), .d (.hnd 1), y4, .d (.dct []), .d (.lst [.str [82], .str [97], .str [100, 111, 110, 101], .str [110, 111, 110, 101], .str [110, 111, 110, 101], .str [97, 98, 99], .str [48, 32, 48, 32, 48]]), x7, x8, x9, x10, x11]) (s1 := (some st1, Bs 0 ++ tb 0)) (by kernel_rfl) ?_
  kernel_rfl
theorem turn_1 {st : LS} {m : Nat} (ok : LsOk st m) (hm : m < 700000) (x0 x3 x4 x5 x6 x7 x8 x9 x10 x11 : Sl) : ∃ (st' : LS) (y3 y4 y5 y6 : Sl), LsOk st' (m + 200) ∧
    g_law_b3 [x0, .d (.hnd 0), .d (.int 1), x3, x4, x5, x6, x7, x8, x9, x10, x11] (some st, Bs 1) = .nx [x0, .d (.hnd 0), .d (.int 1), y3, y4, y5, y6, x7, x8, x9, x10, x11] (some st', Bs 2) := by
  obtain ⟨st1, y4, ok1, e4⟩ := texts_ok ok hm (bs := Bs 1 ++ tbR 8) (d := 8) (j := 13) rfl x0 (.d (.int 1)) x4 x5 x6 x7 x8 x9 x10 x11
  refine ⟨st1, .d (.hnd 9), y4, .d (.dct []), .d (.lst [.str [82], .str [97], .str [100, 111, 110, 101], .str [110, 111, 110, 101], .str [110, 111, 110, 101], .str [97, 98, 99], .str [48, 32, 48, 32, 48]]), ok1.mono (by omega), ?_⟩
  unfold g_law_b3
  refine go (env1 := [x0, .d (.hnd 0), .d (.int 1), .d (.hnd 9), x4, x5, x6, x7, x8, x9, x10, x11]) (s1 := (some st, Bs 1 ++ bA 8)) (by kernel_rfl) ?_
  refine go (env1 := [x0, .d (.hnd 0), .d (.int 1), .d (.hnd 9), x4, x5, x6, x7, x8, x9, x10, x11]) (s1 := (some st, Bs 1 ++ bB 8)) (by kernel_rfl) ?_
  refine go (env1 := [x0, .d (.hnd 0), .d (.int 1), .d (.hnd 9), x4, x5, x6, x7, x8, x9, x10, x11]) (s1 := (some st, Bs 1 ++ tbR 8)) (by kernel_rfl) ?_
  refine go e4 ?_
  refine go (env1 := [x0, .d (.hnd 0), .d (.int 1), .d (.hnd 9), y4, .d (.dct []), x6, x7, x8, x9, x10, x11]) (s1 := (some st1, Bs 1 ++ tbR 8)) (by kernel_rfl) ?_
  refine go (env1 := [x0, .d (.hnd 0), .d (.int 1), .d (.hnd 9), y4, .d (.dct []), x6, x7, x8, x9, x10, x11]) (s1 := (some st1, Bs 1 ++ tbR 8)) (by kernel_rfl) ?_
  refine go (env1 := [x0, .d (.hnd 0), .d (.int 1), .d (.hnd 9), y4, .d (.dct []), .d (.lst [.str [82], .str [97], .str [100, 111, 110, 101], .str [110, 111, 110, 101], .str [110, 111, 110, 101], .str [97, 98, 99], .str [48, 32, 48, 32, 48]]), x7, x8, x9, x10, x11]) (s1 := (some st1, Bs 1 ++ tb 8)) (by kernel_rfl) ?_
  kernel_rfl
theorem turn_2 {st : LS} {m : Nat} (ok : LsOk st m) (hm : m < 700000) (x0 x3 x4 x5 x6 x7 x8 x9 x10 x11 : Sl) : ∃ (st' : LS) (y3 y4 y5 y6 : Sl), LsOk st' (m + 200) ∧
    g_law_b3 [x0, .d (.hnd 0), .d (.int 2), x3, x4, x5, x6, x7, x8, x9, x10, x11] (some st, Bs 2) = .nx [x0, .d (.hnd 0), .d (.int 2), y3, y4, y5, y6, x7, x8, x9, x10, x11] (some st', Bs 3) := by
  obtain ⟨st1, y4, ok1, e4⟩ := texts_ok ok hm (bs := Bs 2 ++ tbR 16) (d := 16) (j := 21) rfl x0 (.d (.int 2)) x4 x5 x6 x7 x8 x9 x10 x11
  refine ⟨st1, .d (.hnd 17), y4, .d (.dct []), .d (.lst [.str [82], .str [97], .str [100, 111, 110, 101], .str [110, 111, 110, 101], .str [110, 111, 110, 101], .str [97, 98, 99], .str [48, 32, 48, 32, 48]]), ok1.mono (by omega), ?_⟩
  unfold g_law_b3
  refine go (env1 := [x0, .d (.hnd 0), .d (.int 2), .d (.hnd 17), x4, x5, x6, x7, x8, x9, x10, x11]) (s1 := (some st, Bs 2 ++ bA 16)) (by kernel_rfl) ?_
  refine go (env1 := [x0, .d (.hnd 0), .d (.int 2), .d (.hnd 17), x4, x5, x6, x7, x8, x9, x10, x11]) (s1 := (some st, Bs 2 ++ bB 16)) (by kernel_rfl) ?_
  refine go (env1 := [x0, .d (.hnd 0), .d (.int 2), .d (.hnd 17), x4, x5, x6, x7, x8, x9, x10, x11]) (s1 := (some st, Bs 2 ++ tbR 16)) (by kernel_rfl) ?_
  refine go e4 ?_
  refine go (env1 := [x0, .d (.hnd 0), .d (.int 2), .d (.hnd 17), y4, .d (.dct []), x6, x7, x8, x9, x10, x11]) (s1 := (some st1, Bs 2 ++ tbR 16)) (by kernel_rfl) ?_
  refine go (env1 := [x0, .d (.hnd 0), .d (.int 2), .d (.hnd 17), y4, .d (.dct []), x6, x7, x8, x9, x10, x11]) (s1 := (some st1, Bs 2 ++ tbR 16)) (by kernel_rfl) ?_
  refine go (env1 := [x0, .d (.hnd 0), .d (.int 2), .d (.hnd 17), y4, .d (.dct []), .d (.lst [.str [82], .str [97], .str [100, 111, 110, 101], .str [110, 111, 110, 101], .str [110, 111, 110, 101], .str [97, 98, 99], .str [48, 32, 48, 32, 48]]), x7, x8, x9, x10, x11]) (s1 := (some st1, Bs 2 ++ tb 16)) (by kernel_rfl) ?_
  kernel_rfl
theorem turn_3 {st : LS} {m : Nat} (ok : LsOk st m) (hm : m < 700000) (x0 x3 x4 x5 x6 x7 x8 x9 x10 x11 : Sl) : ∃ (st' : LS) (y3 y4 y5 y6 : Sl), LsOk st' (m + 200) ∧
    g_law_b3 [x0, .d (.hnd 0), .d (.int 3), x3, x4, x5, x6, x7, x8, x9, x10, x11] (some st, Bs 3) = .nx [x0, .d (.hnd 0), .d (.int 3), y3, y4, y5, y6, x7, x8, x9, x10, x11] (some st', Bs 4) := by
  obtain ⟨st1, y4, ok1, e4⟩ := texts_ok ok hm (bs := Bs 3 ++ tbR 24) (d := 24) (j := 29) rfl x0 (.d (.int 3)) x4 x5 x6 x7 x8 x9 x10 x11
  refine ⟨st1, .d (.hnd 25), y4, .d (.dct []), .d (.lst [.str [82], .str [97], .str [100, 111, 110, 101], .str [110, 111, 110, 101], .str [110, 111, 110, 101], .str [97, 98, 99], .str [48, 32, 48, 32, 48]]), ok1.mono (by omega), ?_⟩
  unfold g_law_b3
  refine go (env1 := [x0, .d (.hnd 0), .d (.int 3), .d (.hnd 25), x4, x5, x6, x7, x8, x9, x10, x11]) (s1 := (some st, Bs 3 ++ bA 24)) (by kernel_rfl) ?_
  refine go (env1 := [x0, .d (.hnd 0), .d (.int 3), .d (.hnd 25), x4, x5, x6, x7, x8, x9, x10, x11]) (s1 := (some st, Bs 3 ++ bB 24)) (by kernel_rfl) ?_
  refine go (env1 := [x0, .d (.hnd 0), .d (.int 3), .d (.hnd 25), x4, x5, x6, x7, x8, x9, x10, x11]) (s1 := (some st, Bs 3 ++ tbR 24)) (by kernel_rfl) ?_
  refine go e4 ?_
  refine go (env1 := [x0, .d (.hnd 0), .d (.int 3), .d (.hnd 25), y4, .d (.dct []), x6, x7, x8, x9, x10, x11]) (s1 := (some st1, Bs 3 ++ tbR 24)) (by kernel_rfl) ?_
  refine go (env1 := [x0, .d (.hnd 0), .d (.int 3), .d (.hnd 25), y4, .d (.dct []), x6, x7, x8, x9, x10, x11]) (s1 := (some st1, Bs 3 ++ tbR 24)) (by kernel_rfl) ?_
  refine go (env1 := [x0, .d (.hnd 0), .d (.int 3), .d (.hnd 25), y4, .d (.dct []), .d (.lst [.str [82], .str [97], .str [100, 111, 110, 101], .str [110, 111, 110, 101], .str [110, 111, 110, 101], .str [97, 98, 99], .str [48, 32, 48, 32, 48]]), x7, x8, x9, x10, x11]) (s1 := (some st1, Bs 3 ++ tb 24)) (by kernel_rfl) ?_
  kernel_rfl
theorem e0_0 {st : LS} (x0 x2 x3 x4 x5 x6 x7 x8 x9 x10 x11 : Sl) : g_law_s3 [x0, .d (.hnd 0), x2, x3, x4, x5, x6, x7, x8, x9, x10, x11] (some st, Bs 0) = .nx [x0, .d (.hnd 0), x2, .d (.hnd 1), x4, x5, x6, x7, x8, x9, x10, x11] (some st, Bs 0 ++ [dsk .non]) := by kernel_rfl
theorem e0_1 {st : LS} (x0 x2 x3 x4 x5 x6 x7 x8 x9 x10 x11 : Sl) : g_law_s4 [x0, .d (.hnd 0), x2, .d (.hnd 1), x4, x5, x6, x7, x8, x9, x10, x11] (some st, Bs 0 ++ [dsk .non]) = .nx [x0, .d (.hnd 0), x2, .d (.hnd 1), x4, x5, x6, x7, x8, x9, x10, x11] (some st, Bs 0 ++ [dsk (.hnd 2), bd [97, 98, 99] []]) := by kernel_rfl
theorem e0_2 {st : LS} (x0 x2 x3 x4 x5 x6 x7 x8 x9 x10 x11 : Sl) : g_law_s5 [x0, .d (.hnd 0), x2, .d (.hnd 1), x4, x5, x6, x7, x8, x9, x10, x11] (some st, Bs 0 ++ [dsk (.hnd 2), bd [97, 98, 99] []]) = .nx [x0, .d (.hnd 0), x2, .d (.hnd 1), x4, x5, x6, .d (.hnd 2), x8, x9, x10, x11] (some st, Bs 0 ++ [dsk (.hnd 2), bd [97, 98, 99] []]) := by kernel_rfl
theorem e0_3 {st : LS} (x0 x2 x3 x4 x5 x6 x7 x8 x9 x10 x11 : Sl) : g_law_s6 [x0, .d (.hnd 0), x2, .d (.hnd 1), x4, x5, x6, .d (.hnd 2), x8, x9, x10, x11] (some st, Bs 0 ++ [dsk (.hnd 2), bd [97, 98, 99] []]) = .nx [x0, .d (.hnd 0), x2, .d (.hnd 1), x4, x5, x6, .d (.hnd 2), x8, x9, x10, x11] (some st, Bs 0 ++ [dsk (.hnd 2), bd [97, 98, 99] [[82]]]) := by kernel_rfl
theorem e0_4 {st : LS} (x0 x2 x3 x4 x5 x6 x7 x8 x9 x10 x11 : Sl) : g_law_s7 [x0, .d (.hnd 0), x2, .d (.hnd 1), x4, x5, x6, .d (.hnd 2), x8, x9, x10, x11] (some st, Bs 0 ++ [dsk (.hnd 2), bd [97, 98, 99] [[82]]]) = .nx [x0, .d (.hnd 0), x2, .d (.hnd 1), x4, x5, x6, .d (.hnd 2), x8, x9, x10, x11] (some st, Bs 0 ++ [dsk (.hnd 2), bd [97, 98, 99] [[82], [76]]]) := by kernel_rfl
theorem e0_5 {st : LS} (x0 x2 x3 x4 x5 x6 x7 x8 x9 x10 x11 : Sl) : g_law_s8 [x0, .d (.hnd 0), x2, .d (.hnd 1), x4, x5, x6, .d (.hnd 2), x8, x9, x10, x11] (some st, Bs 0 ++ [dsk (.hnd 2), bd [97, 98, 99] [[82], [76]]]) = .nx [x0, .d (.hnd 0), x2, .d (.hnd 1), x4, x5, x6, .d (.hnd 2), x8, x9, x10, x11] (some st, Bs 0 ++ [dsk (.hnd 2), bd [97, 98, 99] [[82]]]) := by kernel_rfl
theorem e0_6 {st : LS} (x0 x2 x3 x4 x5 x6 x7 x8 x9 x10 x11 : Sl) : g_law_s9 [x0, .d (.hnd 0), x2, .d (.hnd 1), x4, x5, x6, .d (.hnd 2), x8, x9, x10, x11] (some st, Bs 0 ++ [dsk (.hnd 2), bd [97, 98, 99] [[82]]]) = .nx [x0, .d (.hnd 0), x2, .d (.hnd 1), x4, x5, x6, .d (.hnd 2), x8, x9, x10, x11] (some st, Bs 0 ++ [dsk (.hnd 2), bd [97, 98, 99] [[82], [76]]]) := by kernel_rfl
theorem e0_7 {st : LS} (x0 x2 x3 x4 x5 x6 x7 x8 x9 x10 x11 : Sl) : g_law_s10 [x0, .d (.hnd 0), x2, .d (.hnd 1), x4, x5, x6, .d (.hnd 2), x8, x9, x10, x11] (some st, Bs 0 ++ [dsk (.hnd 2), bd [97, 98, 99] [[82], [76]]]) = .nx [x0, .d (.hnd 0), x2, .d (.hnd 1), x4, x5, x6, .d (.hnd 2), x8, x9, x10, x11] (some st, Bs 0 ++ [dsk (.hnd 3), bd [97, 98, 99] [[82], [76]], bd [97, 98, 97] []]) := by kernel_rfl
theorem e0_8 {st : LS} (x0 x2 x3 x4 x5 x6 x7 x8 x9 x10 x11 : Sl) : g_law_s11 [x0, .d (.hnd 0), x2, .d (.hnd 1), x4, x5, x6, .d (.hnd 2), x8, x9, x10, x11] (some st, Bs 0 ++ [dsk (.hnd 3), bd [97, 98, 99] [[82], [76]], bd [97, 98, 97] []]) = .nx [x0, .d (.hnd 0), x2, .d (.hnd 1), x4, x5, x6, .d (.hnd 2), x8, x9, x10, x11] (some st, Bs 0 ++ [dsk (.hnd 3), bd [97, 98, 99] [[82], [76]], bd [97, 98, 97] (List.replicate 42 [82])]) := by kernel_rfl
theorem e0_9 {st : LS} (x0 x2 x3 x4 x5 x6 x7 x8 x9 x10 x11 : Sl) : g_law_s12 [x0, .d (.hnd 0), x2, .d (.hnd 1), x4, x5, x6, .d (.hnd 2), x8, x9, x10, x11] (some st, Bs 0 ++ [dsk (.hnd 3), bd [97, 98, 99] [[82], [76]], bd [97, 98, 97] (List.replicate 42 [82])]) = .nx [x0, .d (.hnd 0), x2, .d (.hnd 1), x4, x5, x6, .d (.hnd 2), .d (.lst [.str [114, 111, 117, 110, 100], .str [112, 101, 114, 105, 111, 100], .str [115, 112, 114, 101, 97, 100], .str [109, 97, 100, 101, 32, 97, 98, 97], .str [101, 118, 101, 114], .str [98, 97, 99, 107, 32, 49, 48, 48], .str [98, 97, 99, 107, 32, 49, 50], .str [114, 111, 117, 110, 100]]), x9, x10, x11] (some st, Bs 0 ++ [dsk (.hnd 3), bd [97, 98, 99] [[82], [76]], bd [97, 98, 97] (List.replicate 42 [82])]) := by kernel_rfl
theorem e0_10 {st : LS} (x0 x2 x3 x4 x5 x6 x7 x8 x9 x10 x11 : Sl) : g_law_s13 [x0, .d (.hnd 0), x2, .d (.hnd 1), x4, x5, x6, .d (.hnd 2), .d (.lst [.str [114, 111, 117, 110, 100], .str [112, 101, 114, 105, 111, 100], .str [115, 112, 114, 101, 97, 100], .str [109, 97, 100, 101, 32, 97, 98, 97], .str [101, 118, 101, 114], .str [98, 97, 99, 107, 32, 49, 48, 48], .str [98, 97, 99, 107, 32, 49, 50], .str [114, 111, 117, 110, 100]]), x9, x10, x11] (some st, Bs 0 ++ [dsk (.hnd 3), bd [97, 98, 99] [[82], [76]], bd [97, 98, 97] (List.replicate 42 [82])]) = .nx [x0, .d (.hnd 0), x2, .d (.hnd 1), x4, x5, x6, .d (.hnd 2), .d (.lst [.str [114, 111, 117, 110, 100], .str [112, 101, 114, 105, 111, 100], .str [115, 112, 114, 101, 97, 100], .str [109, 97, 100, 101, 32, 97, 98, 97], .str [101, 118, 101, 114], .str [98, 97, 99, 107, 32, 49, 48, 48], .str [98, 97, 99, 107, 32, 49, 50], .str [114, 111, 117, 110, 100]]), x9, x10, x11] (some st, Bs 0 ++ [dsk (.hnd 3), bd [97, 98, 99] [[82], [76]], bd [97, 98, 97] (List.replicate 30 [82])]) := by kernel_rfl
theorem e0_11 {st : LS} (x0 x2 x3 x4 x5 x6 x7 x8 x9 x10 x11 : Sl) : g_law_s14 [x0, .d (.hnd 0), x2, .d (.hnd 1), x4, x5, x6, .d (.hnd 2), .d (.lst [.str [114, 111, 117, 110, 100], .str [112, 101, 114, 105, 111, 100], .str [115, 112, 114, 101, 97, 100], .str [109, 97, 100, 101, 32, 97, 98, 97], .str [101, 118, 101, 114], .str [98, 97, 99, 107, 32, 49, 48, 48], .str [98, 97, 99, 107, 32, 49, 50], .str [114, 111, 117, 110, 100]]), x9, x10, x11] (some st, Bs 0 ++ [dsk (.hnd 3), bd [97, 98, 99] [[82], [76]], bd [97, 98, 97] (List.replicate 30 [82])]) = .nx [x0, .d (.hnd 0), x2, .d (.hnd 4), x4, x5, x6, .d (.hnd 2), .d (.lst [.str [114, 111, 117, 110, 100], .str [112, 101, 114, 105, 111, 100], .str [115, 112, 114, 101, 97, 100], .str [109, 97, 100, 101, 32, 97, 98, 97], .str [101, 118, 101, 114], .str [98, 97, 99, 107, 32, 49, 48, 48], .str [98, 97, 99, 107, 32, 49, 50], .str [114, 111, 117, 110, 100]]), x9, x10, x11] (some st, Bs 0 ++ [dsk (.hnd 3), bd [97, 98, 99] [[82], [76]], bd [97, 98, 97] (List.replicate 30 [82]), dsk .non]) := by kernel_rfl
theorem e0_12 {st : LS} (x0 x2 x3 x4 x5 x6 x7 x8 x9 x10 x11 : Sl) : g_law_s15 [x0, .d (.hnd 0), x2, .d (.hnd 4), x4, x5, x6, .d (.hnd 2), .d (.lst [.str [114, 111, 117, 110, 100], .str [112, 101, 114, 105, 111, 100], .str [115, 112, 114, 101, 97, 100], .str [109, 97, 100, 101, 32, 97, 98, 97], .str [101, 118, 101, 114], .str [98, 97, 99, 107, 32, 49, 48, 48], .str [98, 97, 99, 107, 32, 49, 50], .str [114, 111, 117, 110, 100]]), x9, x10, x11] (some st, Bs 0 ++ [dsk (.hnd 3), bd [97, 98, 99] [[82], [76]], bd [97, 98, 97] (List.replicate 30 [82]), dsk .non]) = .nx [x0, .d (.hnd 0), x2, .d (.hnd 4), x4, x5, x6, .d (.hnd 2), .d (.lst [.str [114, 111, 117, 110, 100], .str [112, 101, 114, 105, 111, 100], .str [115, 112, 114, 101, 97, 100], .str [109, 97, 100, 101, 32, 97, 98, 97], .str [101, 118, 101, 114], .str [98, 97, 99, 107, 32, 49, 48, 48], .str [98, 97, 99, 107, 32, 49, 50], .str [114, 111, 117, 110, 100]]), .d (.lst [.str [100, 111, 110, 101], .str [98], .str [110, 111], .str [110, 111], .str [45], .str [110, 111], .str [76, 59, 32, 45], .str [98, 59, 32, 45]]), x10, x11] (some st, Bs 0 ++ [dsk (.hnd 3), bd [97, 98, 99] [[82], [76]], bd [97, 98, 97] (List.replicate 30 [82]), dsk (.hnd 5), bd [97, 98] [[76], []]]) := by kernel_rfl
theorem e0_13 {st : LS} (x0 x2 x3 x4 x5 x6 x7 x8 x9 x10 x11 : Sl) : g_law_s16 [x0, .d (.hnd 0), x2, .d (.hnd 4), x4, x5, x6, .d (.hnd 2), .d (.lst [.str [114, 111, 117, 110, 100], .str [112, 101, 114, 105, 111, 100], .str [115, 112, 114, 101, 97, 100], .str [109, 97, 100, 101, 32, 97, 98, 97], .str [101, 118, 101, 114], .str [98, 97, 99, 107, 32, 49, 48, 48], .str [98, 97, 99, 107, 32, 49, 50], .str [114, 111, 117, 110, 100]]), .d (.lst [.str [100, 111, 110, 101], .str [98], .str [110, 111], .str [110, 111], .str [45], .str [110, 111], .str [76, 59, 32, 45], .str [98, 59, 32, 45]]), x10, x11] (some st, Bs 0 ++ [dsk (.hnd 3), bd [97, 98, 99] [[82], [76]], bd [97, 98, 97] (List.replicate 30 [82]), dsk (.hnd 5), bd [97, 98] [[76], []]]) = .rt (.d (.bl true)) (some st, Bs 0 ++ [dsk (.hnd 3), bd [97, 98, 99] [[82], [76]], bd [97, 98, 97] (List.replicate 30 [82]), dsk (.hnd 5), bd [97, 98] [[76], []]]) := by kernel_rfl
theorem end_0 {st : LS} (x0 x2 x3 x4 x5 x6 x7 x8 x9 x10 x11 : Sl) : ∃ s, (sSeq g_law_s3 (sSeq g_law_s4 (sSeq g_law_s5 (sSeq g_law_s6 (sSeq g_law_s7 (sSeq g_law_s8 (sSeq g_law_s9 (sSeq g_law_s10 (sSeq g_law_s11 (sSeq g_law_s12 (sSeq g_law_s13 (sSeq g_law_s14 (sSeq g_law_s15 g_law_s16))))))))))))) [x0, .d (.hnd 0), x2, x3, x4, x5, x6, x7, x8, x9, x10, x11] (some st, Bs 0) = .rt (.d (.bl true)) s :=
  ⟨(some st, Bs 0 ++ [dsk (.hnd 3), bd [97, 98, 99] [[82], [76]], bd [97, 98, 97] (List.replicate 30 [82]), dsk (.hnd 5), bd [97, 98] [[76], []]]), go (e0_0 x0 x2 x3 x4 x5 x6 x7 x8 x9 x10 x11) (go (e0_1 x0 x2 x3 x4 x5 x6 x7 x8 x9 x10 x11) (go (e0_2 x0 x2 x3 x4 x5 x6 x7 x8 x9 x10 x11) (go (e0_3 x0 x2 x3 x4 x5 x6 x7 x8 x9 x10 x11) (go (e0_4 x0 x2 x3 x4 x5 x6 x7 x8 x9 x10 x11) (go (e0_5 x0 x2 x3 x4 x5 x6 x7 x8 x9 x10 x11) (go (e0_6 x0 x2 x3 x4 x5 x6 x7 x8 x9 x10 x11) (go (e0_7 x0 x2 x3 x4 x5 x6 x7 x8 x9 x10 x11) (go (e0_8 x0 x2 x3 x4 x5 x6 x7 x8 x9 x10 x11) (go (e0_9 x0 x2 x3 x4 x5 x6 x7 x8 x9 x10 x11) (go (e0_10 x0 x2 x3 x4 x5 x6 x7 x8 x9 x10 x11) (go (e0_11 x0 x2 x3 x4 x5 x6 x7 x8 x9 x10 x11) (go (e0_12 x0 x2 x3 x4 x5 x6 x7 x8 x9 x10 x11) (e0_13 x0 x2 x3 x4 x5 x6 x7 x8 x9 x10 x11)))))))))))))⟩
theorem e1_0 {st : LS} (x0 x2 x3 x4 x5 x6 x7 x8 x9 x10 x11 : Sl) : g_law_s3 [x0, .d (.hnd 0), x2, x3, x4, x5, x6, x7, x8, x9, x10, x11] (some st, Bs 1) = .nx [x0, .d (.hnd 0), x2, .d (.hnd 9), x4, x5, x6, x7, x8, x9, x10, x11] (some st, Bs 1 ++ [dsk .non]) := by kernel_rfl
theorem e1_1 {st : LS} (x0 x2 x3 x4 x5 x6 x7 x8 x9 x10 x11 : Sl) : g_law_s4 [x0, .d (.hnd 0), x2, .d (.hnd 9), x4, x5, x6, x7, x8, x9, x10, x11] (some st, Bs 1 ++ [dsk .non]) = .nx [x0, .d (.hnd 0), x2, .d (.hnd 9), x4, x5, x6, x7, x8, x9, x10, x11] (some st, Bs 1 ++ [dsk (.hnd 10), bd [97, 98, 99] []]) := by kernel_rfl
theorem e1_2 {st : LS} (x0 x2 x3 x4 x5 x6 x7 x8 x9 x10 x11 : Sl) : g_law_s5 [x0, .d (.hnd 0), x2, .d (.hnd 9), x4, x5, x6, x7, x8, x9, x10, x11] (some st, Bs 1 ++ [dsk (.hnd 10), bd [97, 98, 99] []]) = .nx [x0, .d (.hnd 0), x2, .d (.hnd 9), x4, x5, x6, .d (.hnd 10), x8, x9, x10, x11] (some st, Bs 1 ++ [dsk (.hnd 10), bd [97, 98, 99] []]) := by kernel_rfl
theorem e1_3 {st : LS} (x0 x2 x3 x4 x5 x6 x7 x8 x9 x10 x11 : Sl) : g_law_s6 [x0, .d (.hnd 0), x2, .d (.hnd 9), x4, x5, x6, .d (.hnd 10), x8, x9, x10, x11] (some st, Bs 1 ++ [dsk (.hnd 10), bd [97, 98, 99] []]) = .nx [x0, .d (.hnd 0), x2, .d (.hnd 9), x4, x5, x6, .d (.hnd 10), x8, x9, x10, x11] (some st, Bs 1 ++ [dsk (.hnd 10), bd [97, 98, 99] [[82]]]) := by kernel_rfl
theorem e1_4 {st : LS} (x0 x2 x3 x4 x5 x6 x7 x8 x9 x10 x11 : Sl) : g_law_s7 [x0, .d (.hnd 0), x2, .d (.hnd 9), x4, x5, x6, .d (.hnd 10), x8, x9, x10, x11] (some st, Bs 1 ++ [dsk (.hnd 10), bd [97, 98, 99] [[82]]]) = .nx [x0, .d (.hnd 0), x2, .d (.hnd 9), x4, x5, x6, .d (.hnd 10), x8, x9, x10, x11] (some st, Bs 1 ++ [dsk (.hnd 10), bd [97, 98, 99] [[82], [76]]]) := by kernel_rfl
theorem e1_5 {st : LS} (x0 x2 x3 x4 x5 x6 x7 x8 x9 x10 x11 : Sl) : g_law_s8 [x0, .d (.hnd 0), x2, .d (.hnd 9), x4, x5, x6, .d (.hnd 10), x8, x9, x10, x11] (some st, Bs 1 ++ [dsk (.hnd 10), bd [97, 98, 99] [[82], [76]]]) = .nx [x0, .d (.hnd 0), x2, .d (.hnd 9), x4, x5, x6, .d (.hnd 10), x8, x9, x10, x11] (some st, Bs 1 ++ [dsk (.hnd 10), bd [97, 98, 99] [[82]]]) := by kernel_rfl
theorem e1_6 {st : LS} (x0 x2 x3 x4 x5 x6 x7 x8 x9 x10 x11 : Sl) : g_law_s9 [x0, .d (.hnd 0), x2, .d (.hnd 9), x4, x5, x6, .d (.hnd 10), x8, x9, x10, x11] (some st, Bs 1 ++ [dsk (.hnd 10), bd [97, 98, 99] [[82]]]) = .nx [x0, .d (.hnd 0), x2, .d (.hnd 9), x4, x5, x6, .d (.hnd 10), x8, x9, x10, x11] (some st, Bs 1 ++ [dsk (.hnd 10), bd [97, 98, 99] [[82], [76]]]) := by kernel_rfl
theorem e1_7 {st : LS} (x0 x2 x3 x4 x5 x6 x7 x8 x9 x10 x11 : Sl) : g_law_s10 [x0, .d (.hnd 0), x2, .d (.hnd 9), x4, x5, x6, .d (.hnd 10), x8, x9, x10, x11] (some st, Bs 1 ++ [dsk (.hnd 10), bd [97, 98, 99] [[82], [76]]]) = .nx [x0, .d (.hnd 0), x2, .d (.hnd 9), x4, x5, x6, .d (.hnd 10), x8, x9, x10, x11] (some st, Bs 1 ++ [dsk (.hnd 11), bd [97, 98, 99] [[82], [76]], bd [97, 98, 97] []]) := by kernel_rfl
theorem e1_8 {st : LS} (x0 x2 x3 x4 x5 x6 x7 x8 x9 x10 x11 : Sl) : g_law_s11 [x0, .d (.hnd 0), x2, .d (.hnd 9), x4, x5, x6, .d (.hnd 10), x8, x9, x10, x11] (some st, Bs 1 ++ [dsk (.hnd 11), bd [97, 98, 99] [[82], [76]], bd [97, 98, 97] []]) = .nx [x0, .d (.hnd 0), x2, .d (.hnd 9), x4, x5, x6, .d (.hnd 10), x8, x9, x10, x11] (some st, Bs 1 ++ [dsk (.hnd 11), bd [97, 98, 99] [[82], [76]], bd [97, 98, 97] (List.replicate 42 [82])]) := by kernel_rfl
theorem e1_9 {st : LS} (x0 x2 x3 x4 x5 x6 x7 x8 x9 x10 x11 : Sl) : g_law_s12 [x0, .d (.hnd 0), x2, .d (.hnd 9), x4, x5, x6, .d (.hnd 10), x8, x9, x10, x11] (some st, Bs 1 ++ [dsk (.hnd 11), bd [97, 98, 99] [[82], [76]], bd [97, 98, 97] (List.replicate 42 [82])]) = .nx [x0, .d (.hnd 0), x2, .d (.hnd 9), x4, x5, x6, .d (.hnd 10), .d (.lst [.str [114, 111, 117, 110, 100], .str [112, 101, 114, 105, 111, 100], .str [115, 112, 114, 101, 97, 100], .str [109, 97, 100, 101, 32, 97, 98, 97], .str [101, 118, 101, 114], .str [98, 97, 99, 107, 32, 49, 48, 48], .str [98, 97, 99, 107, 32, 49, 50], .str [114, 111, 117, 110, 100]]), x9, x10, x11] (some st, Bs 1 ++ [dsk (.hnd 11), bd [97, 98, 99] [[82], [76]], bd [97, 98, 97] (List.replicate 42 [82])]) := by kernel_rfl
theorem e1_10 {st : LS} (x0 x2 x3 x4 x5 x6 x7 x8 x9 x10 x11 : Sl) : g_law_s13 [x0, .d (.hnd 0), x2, .d (.hnd 9), x4, x5, x6, .d (.hnd 10), .d (.lst [.str [114, 111, 117, 110, 100], .str [112, 101, 114, 105, 111, 100], .str [115, 112, 114, 101, 97, 100], .str [109, 97, 100, 101, 32, 97, 98, 97], .str [101, 118, 101, 114], .str [98, 97, 99, 107, 32, 49, 48, 48], .str [98, 97, 99, 107, 32, 49, 50], .str [114, 111, 117, 110, 100]]), x9, x10, x11] (some st, Bs 1 ++ [dsk (.hnd 11), bd [97, 98, 99] [[82], [76]], bd [97, 98, 97] (List.replicate 42 [82])]) = .nx [x0, .d (.hnd 0), x2, .d (.hnd 9), x4, x5, x6, .d (.hnd 10), .d (.lst [.str [114, 111, 117, 110, 100], .str [112, 101, 114, 105, 111, 100], .str [115, 112, 114, 101, 97, 100], .str [109, 97, 100, 101, 32, 97, 98, 97], .str [101, 118, 101, 114], .str [98, 97, 99, 107, 32, 49, 48, 48], .str [98, 97, 99, 107, 32, 49, 50], .str [114, 111, 117, 110, 100]]), x9, x10, x11] (some st, Bs 1 ++ [dsk (.hnd 11), bd [97, 98, 99] [[82], [76]], bd [97, 98, 97] (List.replicate 30 [82])]) := by kernel_rfl
theorem e1_11 {st : LS} (x0 x2 x3 x4 x5 x6 x7 x8 x9 x10 x11 : Sl) : g_law_s14 [x0, .d (.hnd 0), x2, .d (.hnd 9), x4, x5, x6, .d (.hnd 10), .d (.lst [.str [114, 111, 117, 110, 100], .str [112, 101, 114, 105, 111, 100], .str [115, 112, 114, 101, 97, 100], .str [109, 97, 100, 101, 32, 97, 98, 97], .str [101, 118, 101, 114], .str [98, 97, 99, 107, 32, 49, 48, 48], .str [98, 97, 99, 107, 32, 49, 50], .str [114, 111, 117, 110, 100]]), x9, x10, x11] (some st, Bs 1 ++ [dsk (.hnd 11), bd [97, 98, 99] [[82], [76]], bd [97, 98, 97] (List.replicate 30 [82])]) = .nx [x0, .d (.hnd 0), x2, .d (.hnd 12), x4, x5, x6, .d (.hnd 10), .d (.lst [.str [114, 111, 117, 110, 100], .str [112, 101, 114, 105, 111, 100], .str [115, 112, 114, 101, 97, 100], .str [109, 97, 100, 101, 32, 97, 98, 97], .str [101, 118, 101, 114], .str [98, 97, 99, 107, 32, 49, 48, 48], .str [98, 97, 99, 107, 32, 49, 50], .str [114, 111, 117, 110, 100]]), x9, x10, x11] (some st, Bs 1 ++ [dsk (.hnd 11), bd [97, 98, 99] [[82], [76]], bd [97, 98, 97] (List.replicate 30 [82]), dsk .non]) := by kernel_rfl
theorem e1_12 {st : LS} (x0 x2 x3 x4 x5 x6 x7 x8 x9 x10 x11 : Sl) : g_law_s15 [x0, .d (.hnd 0), x2, .d (.hnd 12), x4, x5, x6, .d (.hnd 10), .d (.lst [.str [114, 111, 117, 110, 100], .str [112, 101, 114, 105, 111, 100], .str [115, 112, 114, 101, 97, 100], .str [109, 97, 100, 101, 32, 97, 98, 97], .str [101, 118, 101, 114], .str [98, 97, 99, 107, 32, 49, 48, 48], .str [98, 97, 99, 107, 32, 49, 50], .str [114, 111, 117, 110, 100]]), x9, x10, x11] (some st, Bs 1 ++ [dsk (.hnd 11), bd [97, 98, 99] [[82], [76]], bd [97, 98, 97] (List.replicate 30 [82]), dsk .non]) = .nx [x0, .d (.hnd 0), x2, .d (.hnd 12), x4, x5, x6, .d (.hnd 10), .d (.lst [.str [114, 111, 117, 110, 100], .str [112, 101, 114, 105, 111, 100], .str [115, 112, 114, 101, 97, 100], .str [109, 97, 100, 101, 32, 97, 98, 97], .str [101, 118, 101, 114], .str [98, 97, 99, 107, 32, 49, 48, 48], .str [98, 97, 99, 107, 32, 49, 50], .str [114, 111, 117, 110, 100]]), .d (.lst [.str [100, 111, 110, 101], .str [98], .str [110, 111], .str [110, 111], .str [45], .str [110, 111], .str [76, 59, 32, 45], .str [98, 59, 32, 45]]), x10, x11] (some st, Bs 1 ++ [dsk (.hnd 11), bd [97, 98, 99] [[82], [76]], bd [97, 98, 97] (List.replicate 30 [82]), dsk (.hnd 13), bd [97, 98] [[76], []]]) := by kernel_rfl
theorem e1_13 {st : LS} (x0 x2 x3 x4 x5 x6 x7 x8 x9 x10 x11 : Sl) : g_law_s16 [x0, .d (.hnd 0), x2, .d (.hnd 12), x4, x5, x6, .d (.hnd 10), .d (.lst [.str [114, 111, 117, 110, 100], .str [112, 101, 114, 105, 111, 100], .str [115, 112, 114, 101, 97, 100], .str [109, 97, 100, 101, 32, 97, 98, 97], .str [101, 118, 101, 114], .str [98, 97, 99, 107, 32, 49, 48, 48], .str [98, 97, 99, 107, 32, 49, 50], .str [114, 111, 117, 110, 100]]), .d (.lst [.str [100, 111, 110, 101], .str [98], .str [110, 111], .str [110, 111], .str [45], .str [110, 111], .str [76, 59, 32, 45], .str [98, 59, 32, 45]]), x10, x11] (some st, Bs 1 ++ [dsk (.hnd 11), bd [97, 98, 99] [[82], [76]], bd [97, 98, 97] (List.replicate 30 [82]), dsk (.hnd 13), bd [97, 98] [[76], []]]) = .rt (.d (.bl true)) (some st, Bs 1 ++ [dsk (.hnd 11), bd [97, 98, 99] [[82], [76]], bd [97, 98, 97] (List.replicate 30 [82]), dsk (.hnd 13), bd [97, 98] [[76], []]]) := by kernel_rfl
theorem end_1 {st : LS} (x0 x2 x3 x4 x5 x6 x7 x8 x9 x10 x11 : Sl) : ∃ s, (sSeq g_law_s3 (sSeq g_law_s4 (sSeq g_law_s5 (sSeq g_law_s6 (sSeq g_law_s7 (sSeq g_law_s8 (sSeq g_law_s9 (sSeq g_law_s10 (sSeq g_law_s11 (sSeq g_law_s12 (sSeq g_law_s13 (sSeq g_law_s14 (sSeq g_law_s15 g_law_s16))))))))))))) [x0, .d (.hnd 0), x2, x3, x4, x5, x6, x7, x8, x9, x10, x11] (some st, Bs 1) = .rt (.d (.bl true)) s :=
  ⟨(some st, Bs 1 ++ [dsk (.hnd 11), bd [97, 98, 99] [[82], [76]], bd [97, 98, 97] (List.replicate 30 [82]), dsk (.hnd 13), bd [97, 98] [[76], []]]), go (e1_0 x0 x2 x3 x4 x5 x6 x7 x8 x9 x10 x11) (go (e1_1 x0 x2 x3 x4 x5 x6 x7 x8 x9 x10 x11) (go (e1_2 x0 x2 x3 x4 x5 x6 x7 x8 x9 x10 x11) (go (e1_3 x0 x2 x3 x4 x5 x6 x7 x8 x9 x10 x11) (go (e1_4 x0 x2 x3 x4 x5 x6 x7 x8 x9 x10 x11) (go (e1_5 x0 x2 x3 x4 x5 x6 x7 x8 x9 x10 x11) (go (e1_6 x0 x2 x3 x4 x5 x6 x7 x8 x9 x10 x11) (go (e1_7 x0 x2 x3 x4 x5 x6 x7 x8 x9 x10 x11) (go (e1_8 x0 x2 x3 x4 x5 x6 x7 x8 x9 x10 x11) (go (e1_9 x0 x2 x3 x4 x5 x6 x7 x8 x9 x10 x11) (go (e1_10 x0 x2 x3 x4 x5 x6 x7 x8 x9 x10 x11) (go (e1_11 x0 x2 x3 x4 x5 x6 x7 x8 x9 x10 x11) (go (e1_12 x0 x2 x3 x4 x5 x6 x7 x8 x9 x10 x11) (e1_13 x0 x2 x3 x4 x5 x6 x7 x8 x9 x10 x11)))))))))))))⟩
theorem e2_0 {st : LS} (x0 x2 x3 x4 x5 x6 x7 x8 x9 x10 x11 : Sl) : g_law_s3 [x0, .d (.hnd 0), x2, x3, x4, x5, x6, x7, x8, x9, x10, x11] (some st, Bs 2) = .nx [x0, .d (.hnd 0), x2, .d (.hnd 17), x4, x5, x6, x7, x8, x9, x10, x11] (some st, Bs 2 ++ [dsk .non]) := by kernel_rfl
theorem e2_1 {st : LS} (x0 x2 x3 x4 x5 x6 x7 x8 x9 x10 x11 : Sl) : g_law_s4 [x0, .d (.hnd 0), x2, .d (.hnd 17), x4, x5, x6, x7, x8, x9, x10, x11] (some st, Bs 2 ++ [dsk .non]) = .nx [x0, .d (.hnd 0), x2, .d (.hnd 17), x4, x5, x6, x7, x8, x9, x10, x11] (some st, Bs 2 ++ [dsk (.hnd 18), bd [97, 98, 99] []]) := by kernel_rfl
theorem e2_2 {st : LS} (x0 x2 x3 x4 x5 x6 x7 x8 x9 x10 x11 : Sl) : g_law_s5 [x0, .d (.hnd 0), x2, .d (.hnd 17), x4, x5, x6, x7, x8, x9, x10, x11] (some st, Bs 2 ++ [dsk (.hnd 18), bd [97, 98, 99] []]) = .nx [x0, .d (.hnd 0), x2, .d (.hnd 17), x4, x5, x6, .d (.hnd 18), x8, x9, x10, x11] (some st, Bs 2 ++ [dsk (.hnd 18), bd [97, 98, 99] []]) := by kernel_rfl
theorem e2_3 {st : LS} (x0 x2 x3 x4 x5 x6 x7 x8 x9 x10 x11 : Sl) : g_law_s6 [x0, .d (.hnd 0), x2, .d (.hnd 17), x4, x5, x6, .d (.hnd 18), x8, x9, x10, x11] (some st, Bs 2 ++ [dsk (.hnd 18), bd [97, 98, 99] []]) = .nx [x0, .d (.hnd 0), x2, .d (.hnd 17), x4, x5, x6, .d (.hnd 18), x8, x9, x10, x11] (some st, Bs 2 ++ [dsk (.hnd 18), bd [97, 98, 99] [[82]]]) := by kernel_rfl
theorem e2_4 {st : LS} (x0 x2 x3 x4 x5 x6 x7 x8 x9 x10 x11 : Sl) : g_law_s7 [x0, .d (.hnd 0), x2, .d (.hnd 17), x4, x5, x6, .d (.hnd 18), x8, x9, x10, x11] (some st, Bs 2 ++ [dsk (.hnd 18), bd [97, 98, 99] [[82]]]) = .nx [x0, .d (.hnd 0), x2, .d (.hnd 17), x4, x5, x6, .d (.hnd 18), x8, x9, x10, x11] (some st, Bs 2 ++ [dsk (.hnd 18), bd [97, 98, 99] [[82], [76]]]) := by kernel_rfl
theorem e2_5 {st : LS} (x0 x2 x3 x4 x5 x6 x7 x8 x9 x10 x11 : Sl) : g_law_s8 [x0, .d (.hnd 0), x2, .d (.hnd 17), x4, x5, x6, .d (.hnd 18), x8, x9, x10, x11] (some st, Bs 2 ++ [dsk (.hnd 18), bd [97, 98, 99] [[82], [76]]]) = .nx [x0, .d (.hnd 0), x2, .d (.hnd 17), x4, x5, x6, .d (.hnd 18), x8, x9, x10, x11] (some st, Bs 2 ++ [dsk (.hnd 18), bd [97, 98, 99] [[82]]]) := by kernel_rfl
theorem e2_6 {st : LS} (x0 x2 x3 x4 x5 x6 x7 x8 x9 x10 x11 : Sl) : g_law_s9 [x0, .d (.hnd 0), x2, .d (.hnd 17), x4, x5, x6, .d (.hnd 18), x8, x9, x10, x11] (some st, Bs 2 ++ [dsk (.hnd 18), bd [97, 98, 99] [[82]]]) = .nx [x0, .d (.hnd 0), x2, .d (.hnd 17), x4, x5, x6, .d (.hnd 18), x8, x9, x10, x11] (some st, Bs 2 ++ [dsk (.hnd 18), bd [97, 98, 99] [[82], [76]]]) := by kernel_rfl
theorem e2_7 {st : LS} (x0 x2 x3 x4 x5 x6 x7 x8 x9 x10 x11 : Sl) : g_law_s10 [x0, .d (.hnd 0), x2, .d (.hnd 17), x4, x5, x6, .d (.hnd 18), x8, x9, x10, x11] (some st, Bs 2 ++ [dsk (.hnd 18), bd [97, 98, 99] [[82], [76]]]) = .nx [x0, .d (.hnd 0), x2, .d (.hnd 17), x4, x5, x6, .d (.hnd 18), x8, x9, x10, x11] (some st, Bs 2 ++ [dsk (.hnd 19), bd [97, 98, 99] [[82], [76]], bd [97, 98, 97] []]) := by kernel_rfl
theorem e2_8 {st : LS} (x0 x2 x3 x4 x5 x6 x7 x8 x9 x10 x11 : Sl) : g_law_s11 [x0, .d (.hnd 0), x2, .d (.hnd 17), x4, x5, x6, .d (.hnd 18), x8, x9, x10, x11] (some st, Bs 2 ++ [dsk (.hnd 19), bd [97, 98, 99] [[82], [76]], bd [97, 98, 97] []]) = .nx [x0, .d (.hnd 0), x2, .d (.hnd 17), x4, x5, x6, .d (.hnd 18), x8, x9, x10, x11] (some st, Bs 2 ++ [dsk (.hnd 19), bd [97, 98, 99] [[82], [76]], bd [97, 98, 97] (List.replicate 42 [82])]) := by kernel_rfl
theorem e2_9 {st : LS} (x0 x2 x3 x4 x5 x6 x7 x8 x9 x10 x11 : Sl) : g_law_s12 [x0, .d (.hnd 0), x2, .d (.hnd 17), x4, x5, x6, .d (.hnd 18), x8, x9, x10, x11] (some st, Bs 2 ++ [dsk (.hnd 19), bd [97, 98, 99] [[82], [76]], bd [97, 98, 97] (List.replicate 42 [82])]) = .nx [x0, .d (.hnd 0), x2, .d (.hnd 17), x4, x5, x6, .d (.hnd 18), .d (.lst [.str [114, 111, 117, 110, 100], .str [112, 101, 114, 105, 111, 100], .str [115, 112, 114, 101, 97, 100], .str [109, 97, 100, 101, 32, 97, 98, 97], .str [101, 118, 101, 114], .str [98, 97, 99, 107, 32, 49, 48, 48], .str [98, 97, 99, 107, 32, 49, 50], .str [114, 111, 117, 110, 100]]), x9, x10, x11] (some st, Bs 2 ++ [dsk (.hnd 19), bd [97, 98, 99] [[82], [76]], bd [97, 98, 97] (List.replicate 42 [82])]) := by kernel_rfl
theorem e2_10 {st : LS} (x0 x2 x3 x4 x5 x6 x7 x8 x9 x10 x11 : Sl) : g_law_s13 [x0, .d (.hnd 0), x2, .d (.hnd 17), x4, x5, x6, .d (.hnd 18), .d (.lst [.str [114, 111, 117, 110, 100], .str [112, 101, 114, 105, 111, 100], .str [115, 112, 114, 101, 97, 100], .str [109, 97, 100, 101, 32, 97, 98, 97], .str [101, 118, 101, 114], .str [98, 97, 99, 107, 32, 49, 48, 48], .str [98, 97, 99, 107, 32, 49, 50], .str [114, 111, 117, 110, 100]]), x9, x10, x11] (some st, Bs 2 ++ [dsk (.hnd 19), bd [97, 98, 99] [[82], [76]], bd [97, 98, 97] (List.replicate 42 [82])]) = .nx [x0, .d (.hnd 0), x2, .d (.hnd 17), x4, x5, x6, .d (.hnd 18), .d (.lst [.str [114, 111, 117, 110, 100], .str [112, 101, 114, 105, 111, 100], .str [115, 112, 114, 101, 97, 100], .str [109, 97, 100, 101, 32, 97, 98, 97], .str [101, 118, 101, 114], .str [98, 97, 99, 107, 32, 49, 48, 48], .str [98, 97, 99, 107, 32, 49, 50], .str [114, 111, 117, 110, 100]]), x9, x10, x11] (some st, Bs 2 ++ [dsk (.hnd 19), bd [97, 98, 99] [[82], [76]], bd [97, 98, 97] (List.replicate 30 [82])]) := by kernel_rfl
theorem e2_11 {st : LS} (x0 x2 x3 x4 x5 x6 x7 x8 x9 x10 x11 : Sl) : g_law_s14 [x0, .d (.hnd 0), x2, .d (.hnd 17), x4, x5, x6, .d (.hnd 18), .d (.lst [.str [114, 111, 117, 110, 100], .str [112, 101, 114, 105, 111, 100], .str [115, 112, 114, 101, 97, 100], .str [109, 97, 100, 101, 32, 97, 98, 97], .str [101, 118, 101, 114], .str [98, 97, 99, 107, 32, 49, 48, 48], .str [98, 97, 99, 107, 32, 49, 50], .str [114, 111, 117, 110, 100]]), x9, x10, x11] (some st, Bs 2 ++ [dsk (.hnd 19), bd [97, 98, 99] [[82], [76]], bd [97, 98, 97] (List.replicate 30 [82])]) = .nx [x0, .d (.hnd 0), x2, .d (.hnd 20), x4, x5, x6, .d (.hnd 18), .d (.lst [.str [114, 111, 117, 110, 100], .str [112, 101, 114, 105, 111, 100], .str [115, 112, 114, 101, 97, 100], .str [109, 97, 100, 101, 32, 97, 98, 97], .str [101, 118, 101, 114], .str [98, 97, 99, 107, 32, 49, 48, 48], .str [98, 97, 99, 107, 32, 49, 50], .str [114, 111, 117, 110, 100]]), x9, x10, x11] (some st, Bs 2 ++ [dsk (.hnd 19), bd [97, 98, 99] [[82], [76]], bd [97, 98, 97] (List.replicate 30 [82]), dsk .non]) := by kernel_rfl
theorem e2_12 {st : LS} (x0 x2 x3 x4 x5 x6 x7 x8 x9 x10 x11 : Sl) : g_law_s15 [x0, .d (.hnd 0), x2, .d (.hnd 20), x4, x5, x6, .d (.hnd 18), .d (.lst [.str [114, 111, 117, 110, 100], .str [112, 101, 114, 105, 111, 100], .str [115, 112, 114, 101, 97, 100], .str [109, 97, 100, 101, 32, 97, 98, 97], .str [101, 118, 101, 114], .str [98, 97, 99, 107, 32, 49, 48, 48], .str [98, 97, 99, 107, 32, 49, 50], .str [114, 111, 117, 110, 100]]), x9, x10, x11] (some st, Bs 2 ++ [dsk (.hnd 19), bd [97, 98, 99] [[82], [76]], bd [97, 98, 97] (List.replicate 30 [82]), dsk .non]) = .nx [x0, .d (.hnd 0), x2, .d (.hnd 20), x4, x5, x6, .d (.hnd 18), .d (.lst [.str [114, 111, 117, 110, 100], .str [112, 101, 114, 105, 111, 100], .str [115, 112, 114, 101, 97, 100], .str [109, 97, 100, 101, 32, 97, 98, 97], .str [101, 118, 101, 114], .str [98, 97, 99, 107, 32, 49, 48, 48], .str [98, 97, 99, 107, 32, 49, 50], .str [114, 111, 117, 110, 100]]), .d (.lst [.str [100, 111, 110, 101], .str [98], .str [110, 111], .str [110, 111], .str [45], .str [110, 111], .str [76, 59, 32, 45], .str [98, 59, 32, 45]]), x10, x11] (some st, Bs 2 ++ [dsk (.hnd 19), bd [97, 98, 99] [[82], [76]], bd [97, 98, 97] (List.replicate 30 [82]), dsk (.hnd 21), bd [97, 98] [[76], []]]) := by kernel_rfl
theorem e2_13 {st : LS} (x0 x2 x3 x4 x5 x6 x7 x8 x9 x10 x11 : Sl) : g_law_s16 [x0, .d (.hnd 0), x2, .d (.hnd 20), x4, x5, x6, .d (.hnd 18), .d (.lst [.str [114, 111, 117, 110, 100], .str [112, 101, 114, 105, 111, 100], .str [115, 112, 114, 101, 97, 100], .str [109, 97, 100, 101, 32, 97, 98, 97], .str [101, 118, 101, 114], .str [98, 97, 99, 107, 32, 49, 48, 48], .str [98, 97, 99, 107, 32, 49, 50], .str [114, 111, 117, 110, 100]]), .d (.lst [.str [100, 111, 110, 101], .str [98], .str [110, 111], .str [110, 111], .str [45], .str [110, 111], .str [76, 59, 32, 45], .str [98, 59, 32, 45]]), x10, x11] (some st, Bs 2 ++ [dsk (.hnd 19), bd [97, 98, 99] [[82], [76]], bd [97, 98, 97] (List.replicate 30 [82]), dsk (.hnd 21), bd [97, 98] [[76], []]]) = .rt (.d (.bl true)) (some st, Bs 2 ++ [dsk (.hnd 19), bd [97, 98, 99] [[82], [76]], bd [97, 98, 97] (List.replicate 30 [82]), dsk (.hnd 21), bd [97, 98] [[76], []]]) := by kernel_rfl
theorem end_2 {st : LS} (x0 x2 x3 x4 x5 x6 x7 x8 x9 x10 x11 : Sl) : ∃ s, (sSeq g_law_s3 (sSeq g_law_s4 (sSeq g_law_s5 (sSeq g_law_s6 (sSeq g_law_s7 (sSeq g_law_s8 (sSeq g_law_s9 (sSeq g_law_s10 (sSeq g_law_s11 (sSeq g_law_s12 (sSeq g_law_s13 (sSeq g_law_s14 (sSeq g_law_s15 g_law_s16))))))))))))) [x0, .d (.hnd 0), x2, x3, x4, x5, x6, x7, x8, x9, x10, x11] (some st, Bs 2) = .rt (.d (.bl true)) s :=
  ⟨(some st, Bs 2 ++ [dsk (.hnd 19), bd [97, 98, 99] [[82], [76]], bd [97, 98, 97] (List.replicate 30 [82]), dsk (.hnd 21), bd [97, 98] [[76], []]]), go (e2_0 x0 x2 x3 x4 x5 x6 x7 x8 x9 x10 x11) (go (e2_1 x0 x2 x3 x4 x5 x6 x7 x8 x9 x10 x11) (go (e2_2 x0 x2 x3 x4 x5 x6 x7 x8 x9 x10 x11) (go (e2_3 x0 x2 x3 x4 x5 x6 x7 x8 x9 x10 x11) (go (e2_4 x0 x2 x3 x4 x5 x6 x7 x8 x9 x10 x11) (go (e2_5 x0 x2 x3 x4 x5 x6 x7 x8 x9 x10 x11) (go (e2_6 x0 x2 x3 x4 x5 x6 x7 x8 x9 x10 x11) (go (e2_7 x0 x2 x3 x4 x5 x6 x7 x8 x9 x10 x11) (go (e2_8 x0 x2 x3 x4 x5 x6 x7 x8 x9 x10 x11) (go (e2_9 x0 x2 x3 x4 x5 x6 x7 x8 x9 x10 x11) (go (e2_10 x0 x2 x3 x4 x5 x6 x7 x8 x9 x10 x11) (go (e2_11 x0 x2 x3 x4 x5 x6 x7 x8 x9 x10 x11) (go (e2_12 x0 x2 x3 x4 x5 x6 x7 x8 x9 x10 x11) (e2_13 x0 x2 x3 x4 x5 x6 x7 x8 x9 x10 x11)))))))))))))⟩
theorem e3_0 {st : LS} (x0 x2 x3 x4 x5 x6 x7 x8 x9 x10 x11 : Sl) : g_law_s3 [x0, .d (.hnd 0), x2, x3, x4, x5, x6, x7, x8, x9, x10, x11] (some st, Bs 3) = .nx [x0, .d (.hnd 0), x2, .d (.hnd 25), x4, x5, x6, x7, x8, x9, x10, x11] (some st, Bs 3 ++ [dsk .non]) := by kernel_rfl
theorem e3_1 {st : LS} (x0 x2 x3 x4 x5 x6 x7 x8 x9 x10 x11 : Sl) : g_law_s4 [x0, .d (.hnd 0), x2, .d (.hnd 25), x4, x5, x6, x7, x8, x9, x10, x11] (some st, Bs 3 ++ [dsk .non]) = .nx [x0, .d (.hnd 0), x2, .d (.hnd 25), x4, x5, x6, x7, x8, x9, x10, x11] (some st, Bs 3 ++ [dsk (.hnd 26), bd [97, 98, 99] []]) := by kernel_rfl
theorem e3_2 {st : LS} (x0 x2 x3 x4 x5 x6 x7 x8 x9 x10 x11 : Sl) : g_law_s5 [x0, .d (.hnd 0), x2, .d (.hnd 25), x4, x5, x6, x7, x8, x9, x10, x11] (some st, Bs 3 ++ [dsk (.hnd 26), bd [97, 98, 99] []]) = .nx [x0, .d (.hnd 0), x2, .d (.hnd 25), x4, x5, x6, .d (.hnd 26), x8, x9, x10, x11] (some st, Bs 3 ++ [dsk (.hnd 26), bd [97, 98, 99] []]) := by kernel_rfl
theorem e3_3 {st : LS} (x0 x2 x3 x4 x5 x6 x7 x8 x9 x10 x11 : Sl) : g_law_s6 [x0, .d (.hnd 0), x2, .d (.hnd 25), x4, x5, x6, .d (.hnd 26), x8, x9, x10, x11] (some st, Bs 3 ++ [dsk (.hnd 26), bd [97, 98, 99] []]) = .nx [x0, .d (.hnd 0), x2, .d (.hnd 25), x4, x5, x6, .d (.hnd 26), x8, x9, x10, x11] (some st, Bs 3 ++ [dsk (.hnd 26), bd [97, 98, 99] [[82]]]) := by kernel_rfl
theorem e3_4 {st : LS} (x0 x2 x3 x4 x5 x6 x7 x8 x9 x10 x11 : Sl) : g_law_s7 [x0, .d (.hnd 0), x2, .d (.hnd 25), x4, x5, x6, .d (.hnd 26), x8, x9, x10, x11] (some st, Bs 3 ++ [dsk (.hnd 26), bd [97, 98, 99] [[82]]]) = .nx [x0, .d (.hnd 0), x2, .d (.hnd 25), x4, x5, x6, .d (.hnd 26), x8, x9, x10, x11] (some st, Bs 3 ++ [dsk (.hnd 26), bd [97, 98, 99] [[82], [76]]]) := by kernel_rfl
theorem e3_5 {st : LS} (x0 x2 x3 x4 x5 x6 x7 x8 x9 x10 x11 : Sl) : g_law_s8 [x0, .d (.hnd 0), x2, .d (.hnd 25), x4, x5, x6, .d (.hnd 26), x8, x9, x10, x11] (some st, Bs 3 ++ [dsk (.hnd 26), bd [97, 98, 99] [[82], [76]]]) = .nx [x0, .d (.hnd 0), x2, .d (.hnd 25), x4, x5, x6, .d (.hnd 26), x8, x9, x10, x11] (some st, Bs 3 ++ [dsk (.hnd 26), bd [97, 98, 99] [[82]]]) := by kernel_rfl
theorem e3_6 {st : LS} (x0 x2 x3 x4 x5 x6 x7 x8 x9 x10 x11 : Sl) : g_law_s9 [x0, .d (.hnd 0), x2, .d (.hnd 25), x4, x5, x6, .d (.hnd 26), x8, x9, x10, x11] (some st, Bs 3 ++ [dsk (.hnd 26), bd [97, 98, 99] [[82]]]) = .nx [x0, .d (.hnd 0), x2, .d (.hnd 25), x4, x5, x6, .d (.hnd 26), x8, x9, x10, x11] (some st, Bs 3 ++ [dsk (.hnd 26), bd [97, 98, 99] [[82], [76]]]) := by kernel_rfl
theorem e3_7 {st : LS} (x0 x2 x3 x4 x5 x6 x7 x8 x9 x10 x11 : Sl) : g_law_s10 [x0, .d (.hnd 0), x2, .d (.hnd 25), x4, x5, x6, .d (.hnd 26), x8, x9, x10, x11] (some st, Bs 3 ++ [dsk (.hnd 26), bd [97, 98, 99] [[82], [76]]]) = .nx [x0, .d (.hnd 0), x2, .d (.hnd 25), x4, x5, x6, .d (.hnd 26), x8, x9, x10, x11] (some st, Bs 3 ++ [dsk (.hnd 27), bd [97, 98, 99] [[82], [76]], bd [97, 98, 97] []]) := by kernel_rfl
theorem e3_8 {st : LS} (x0 x2 x3 x4 x5 x6 x7 x8 x9 x10 x11 : Sl) : g_law_s11 [x0, .d (.hnd 0), x2, .d (.hnd 25), x4, x5, x6, .d (.hnd 26), x8, x9, x10, x11] (some st, Bs 3 ++ [dsk (.hnd 27), bd [97, 98, 99] [[82], [76]], bd [97, 98, 97] []]) = .nx [x0, .d (.hnd 0), x2, .d (.hnd 25), x4, x5, x6, .d (.hnd 26), x8, x9, x10, x11] (some st, Bs 3 ++ [dsk (.hnd 27), bd [97, 98, 99] [[82], [76]], bd [97, 98, 97] (List.replicate 42 [82])]) := by kernel_rfl
theorem e3_9 {st : LS} (x0 x2 x3 x4 x5 x6 x7 x8 x9 x10 x11 : Sl) : g_law_s12 [x0, .d (.hnd 0), x2, .d (.hnd 25), x4, x5, x6, .d (.hnd 26), x8, x9, x10, x11] (some st, Bs 3 ++ [dsk (.hnd 27), bd [97, 98, 99] [[82], [76]], bd [97, 98, 97] (List.replicate 42 [82])]) = .nx [x0, .d (.hnd 0), x2, .d (.hnd 25), x4, x5, x6, .d (.hnd 26), .d (.lst [.str [114, 111, 117, 110, 100], .str [112, 101, 114, 105, 111, 100], .str [115, 112, 114, 101, 97, 100], .str [109, 97, 100, 101, 32, 97, 98, 97], .str [101, 118, 101, 114], .str [98, 97, 99, 107, 32, 49, 48, 48], .str [98, 97, 99, 107, 32, 49, 50], .str [114, 111, 117, 110, 100]]), x9, x10, x11] (some st, Bs 3 ++ [dsk (.hnd 27), bd [97, 98, 99] [[82], [76]], bd [97, 98, 97] (List.replicate 42 [82])]) := by kernel_rfl
theorem e3_10 {st : LS} (x0 x2 x3 x4 x5 x6 x7 x8 x9 x10 x11 : Sl) : g_law_s13 [x0, .d (.hnd 0), x2, .d (.hnd 25), x4, x5, x6, .d (.hnd 26), .d (.lst [.str [114, 111, 117, 110, 100], .str [112, 101, 114, 105, 111, 100], .str [115, 112, 114, 101, 97, 100], .str [109, 97, 100, 101, 32, 97, 98, 97], .str [101, 118, 101, 114], .str [98, 97, 99, 107, 32, 49, 48, 48], .str [98, 97, 99, 107, 32, 49, 50], .str [114, 111, 117, 110, 100]]), x9, x10, x11] (some st, Bs 3 ++ [dsk (.hnd 27), bd [97, 98, 99] [[82], [76]], bd [97, 98, 97] (List.replicate 42 [82])]) = .nx [x0, .d (.hnd 0), x2, .d (.hnd 25), x4, x5, x6, .d (.hnd 26), .d (.lst [.str [114, 111, 117, 110, 100], .str [112, 101, 114, 105, 111, 100], .str [115, 112, 114, 101, 97, 100], .str [109, 97, 100, 101, 32, 97, 98, 97], .str [101, 118, 101, 114], .str [98, 97, 99, 107, 32, 49, 48, 48], .str [98, 97, 99, 107, 32, 49, 50], .str [114, 111, 117, 110, 100]]), x9, x10, x11] (some st, Bs 3 ++ [dsk (.hnd 27), bd [97, 98, 99] [[82], [76]], bd [97, 98, 97] (List.replicate 30 [82])]) := by kernel_rfl
theorem e3_11 {st : LS} (x0 x2 x3 x4 x5 x6 x7 x8 x9 x10 x11 : Sl) : g_law_s14 [x0, .d (.hnd 0), x2, .d (.hnd 25), x4, x5, x6, .d (.hnd 26), .d (.lst [.str [114, 111, 117, 110, 100], .str [112, 101, 114, 105, 111, 100], .str [115, 112, 114, 101, 97, 100], .str [109, 97, 100, 101, 32, 97, 98, 97], .str [101, 118, 101, 114], .str [98, 97, 99, 107, 32, 49, 48, 48], .str [98, 97, 99, 107, 32, 49, 50], .str [114, 111, 117, 110, 100]]), x9, x10, x11] (some st, Bs 3 ++ [dsk (.hnd 27), bd [97, 98, 99] [[82], [76]], bd [97, 98, 97] (List.replicate 30 [82])]) = .nx [x0, .d (.hnd 0), x2, .d (.hnd 28), x4, x5, x6, .d (.hnd 26), .d (.lst [.str [114, 111, 117, 110, 100], .str [112, 101, 114, 105, 111, 100], .str [115, 112, 114, 101, 97, 100], .str [109, 97, 100, 101, 32, 97, 98, 97], .str [101, 118, 101, 114], .str [98, 97, 99, 107, 32, 49, 48, 48], .str [98, 97, 99, 107, 32, 49, 50], .str [114, 111, 117, 110, 100]]), x9, x10, x11] (some st, Bs 3 ++ [dsk (.hnd 27), bd [97, 98, 99] [[82], [76]], bd [97, 98, 97] (List.replicate 30 [82]), dsk .non]) := by kernel_rfl
theorem e3_12 {st : LS} (x0 x2 x3 x4 x5 x6 x7 x8 x9 x10 x11 : Sl) : g_law_s15 [x0, .d (.hnd 0), x2, .d (.hnd 28), x4, x5, x6, .d (.hnd 26), .d (.lst [.str [114, 111, 117, 110, 100], .str [112, 101, 114, 105, 111, 100], .str [115, 112, 114, 101, 97, 100], .str [109, 97, 100, 101, 32, 97, 98, 97], .str [101, 118, 101, 114], .str [98, 97, 99, 107, 32, 49, 48, 48], .str [98, 97, 99, 107, 32, 49, 50], .str [114, 111, 117, 110, 100]]), x9, x10, x11] (some st, Bs 3 ++ [dsk (.hnd 27), bd [97, 98, 99] [[82], [76]], bd [97, 98, 97] (List.replicate 30 [82]), dsk .non]) = .nx [x0, .d (.hnd 0), x2, .d (.hnd 28), x4, x5, x6, .d (.hnd 26), .d (.lst [.str [114, 111, 117, 110, 100], .str [112, 101, 114, 105, 111, 100], .str [115, 112, 114, 101, 97, 100], .str [109, 97, 100, 101, 32, 97, 98, 97], .str [101, 118, 101, 114], .str [98, 97, 99, 107, 32, 49, 48, 48], .str [98, 97, 99, 107, 32, 49, 50], .str [114, 111, 117, 110, 100]]), .d (.lst [.str [100, 111, 110, 101], .str [98], .str [110, 111], .str [110, 111], .str [45], .str [110, 111], .str [76, 59, 32, 45], .str [98, 59, 32, 45]]), x10, x11] (some st, Bs 3 ++ [dsk (.hnd 27), bd [97, 98, 99] [[82], [76]], bd [97, 98, 97] (List.replicate 30 [82]), dsk (.hnd 29), bd [97, 98] [[76], []]]) := by kernel_rfl
theorem e3_13 {st : LS} (x0 x2 x3 x4 x5 x6 x7 x8 x9 x10 x11 : Sl) : g_law_s16 [x0, .d (.hnd 0), x2, .d (.hnd 28), x4, x5, x6, .d (.hnd 26), .d (.lst [.str [114, 111, 117, 110, 100], .str [112, 101, 114, 105, 111, 100], .str [115, 112, 114, 101, 97, 100], .str [109, 97, 100, 101, 32, 97, 98, 97], .str [101, 118, 101, 114], .str [98, 97, 99, 107, 32, 49, 48, 48], .str [98, 97, 99, 107, 32, 49, 50], .str [114, 111, 117, 110, 100]]), .d (.lst [.str [100, 111, 110, 101], .str [98], .str [110, 111], .str [110, 111], .str [45], .str [110, 111], .str [76, 59, 32, 45], .str [98, 59, 32, 45]]), x10, x11] (some st, Bs 3 ++ [dsk (.hnd 27), bd [97, 98, 99] [[82], [76]], bd [97, 98, 97] (List.replicate 30 [82]), dsk (.hnd 29), bd [97, 98] [[76], []]]) = .rt (.d (.bl true)) (some st, Bs 3 ++ [dsk (.hnd 27), bd [97, 98, 99] [[82], [76]], bd [97, 98, 97] (List.replicate 30 [82]), dsk (.hnd 29), bd [97, 98] [[76], []]]) := by kernel_rfl
theorem end_3 {st : LS} (x0 x2 x3 x4 x5 x6 x7 x8 x9 x10 x11 : Sl) : ∃ s, (sSeq g_law_s3 (sSeq g_law_s4 (sSeq g_law_s5 (sSeq g_law_s6 (sSeq g_law_s7 (sSeq g_law_s8 (sSeq g_law_s9 (sSeq g_law_s10 (sSeq g_law_s11 (sSeq g_law_s12 (sSeq g_law_s13 (sSeq g_law_s14 (sSeq g_law_s15 g_law_s16))))))))))))) [x0, .d (.hnd 0), x2, x3, x4, x5, x6, x7, x8, x9, x10, x11] (some st, Bs 3) = .rt (.d (.bl true)) s :=
  ⟨(some st, Bs 3 ++ [dsk (.hnd 27), bd [97, 98, 99] [[82], [76]], bd [97, 98, 97] (List.replicate 30 [82]), dsk (.hnd 29), bd [97, 98] [[76], []]]), go (e3_0 x0 x2 x3 x4 x5 x6 x7 x8 x9 x10 x11) (go (e3_1 x0 x2 x3 x4 x5 x6 x7 x8 x9 x10 x11) (go (e3_2 x0 x2 x3 x4 x5 x6 x7 x8 x9 x10 x11) (go (e3_3 x0 x2 x3 x4 x5 x6 x7 x8 x9 x10 x11) (go (e3_4 x0 x2 x3 x4 x5 x6 x7 x8 x9 x10 x11) (go (e3_5 x0 x2 x3 x4 x5 x6 x7 x8 x9 x10 x11) (go (e3_6 x0 x2 x3 x4 x5 x6 x7 x8 x9 x10 x11) (go (e3_7 x0 x2 x3 x4 x5 x6 x7 x8 x9 x10 x11) (go (e3_8 x0 x2 x3 x4 x5 x6 x7 x8 x9 x10 x11) (go (e3_9 x0 x2 x3 x4 x5 x6 x7 x8 x9 x10 x11) (go (e3_10 x0 x2 x3 x4 x5 x6 x7 x8 x9 x10 x11) (go (e3_11 x0 x2 x3 x4 x5 x6 x7 x8 x9 x10 x11) (go (e3_12 x0 x2 x3 x4 x5 x6 x7 x8 x9 x10 x11) (e3_13 x0 x2 x3 x4 x5 x6 x7 x8 x9 x10 x11)))))))))))))⟩
theorem e4_0 {st : LS} (x0 x2 x3 x4 x5 x6 x7 x8 x9 x10 x11 : Sl) : g_law_s3 [x0, .d (.hnd 0), x2, x3, x4, x5, x6, x7, x8, x9, x10, x11] (some st, Bs 4) = .nx [x0, .d (.hnd 0), x2, .d (.hnd 33), x4, x5, x6, x7, x8, x9, x10, x11] (some st, Bs 4 ++ [dsk .non]) := by kernel_rfl
theorem e4_1 {st : LS} (x0 x2 x3 x4 x5 x6 x7 x8 x9 x10 x11 : Sl) : g_law_s4 [x0, .d (.hnd 0), x2, .d (.hnd 33), x4, x5, x6, x7, x8, x9, x10, x11] (some st, Bs 4 ++ [dsk .non]) = .nx [x0, .d (.hnd 0), x2, .d (.hnd 33), x4, x5, x6, x7, x8, x9, x10, x11] (some st, Bs 4 ++ [dsk (.hnd 34), bd [97, 98, 99] []]) := by kernel_rfl
theorem e4_2 {st : LS} (x0 x2 x3 x4 x5 x6 x7 x8 x9 x10 x11 : Sl) : g_law_s5 [x0, .d (.hnd 0), x2, .d (.hnd 33), x4, x5, x6, x7, x8, x9, x10, x11] (some st, Bs 4 ++ [dsk (.hnd 34), bd [97, 98, 99] []]) = .nx [x0, .d (.hnd 0), x2, .d (.hnd 33), x4, x5, x6, .d (.hnd 34), x8, x9, x10, x11] (some st, Bs 4 ++ [dsk (.hnd 34), bd [97, 98, 99] []]) := by kernel_rfl
theorem e4_3 {st : LS} (x0 x2 x3 x4 x5 x6 x7 x8 x9 x10 x11 : Sl) : g_law_s6 [x0, .d (.hnd 0), x2, .d (.hnd 33), x4, x5, x6, .d (.hnd 34), x8, x9, x10, x11] (some st, Bs 4 ++ [dsk (.hnd 34), bd [97, 98, 99] []]) = .nx [x0, .d (.hnd 0), x2, .d (.hnd 33), x4, x5, x6, .d (.hnd 34), x8, x9, x10, x11] (some st, Bs 4 ++ [dsk (.hnd 34), bd [97, 98, 99] [[82]]]) := by kernel_rfl
theorem e4_4 {st : LS} (x0 x2 x3 x4 x5 x6 x7 x8 x9 x10 x11 : Sl) : g_law_s7 [x0, .d (.hnd 0), x2, .d (.hnd 33), x4, x5, x6, .d (.hnd 34), x8, x9, x10, x11] (some st, Bs 4 ++ [dsk (.hnd 34), bd [97, 98, 99] [[82]]]) = .nx [x0, .d (.hnd 0), x2, .d (.hnd 33), x4, x5, x6, .d (.hnd 34), x8, x9, x10, x11] (some st, Bs 4 ++ [dsk (.hnd 34), bd [97, 98, 99] [[82], [76]]]) := by kernel_rfl
theorem e4_5 {st : LS} (x0 x2 x3 x4 x5 x6 x7 x8 x9 x10 x11 : Sl) : g_law_s8 [x0, .d (.hnd 0), x2, .d (.hnd 33), x4, x5, x6, .d (.hnd 34), x8, x9, x10, x11] (some st, Bs 4 ++ [dsk (.hnd 34), bd [97, 98, 99] [[82], [76]]]) = .nx [x0, .d (.hnd 0), x2, .d (.hnd 33), x4, x5, x6, .d (.hnd 34), x8, x9, x10, x11] (some st, Bs 4 ++ [dsk (.hnd 34), bd [97, 98, 99] [[82]]]) := by kernel_rfl
theorem e4_6 {st : LS} (x0 x2 x3 x4 x5 x6 x7 x8 x9 x10 x11 : Sl) : g_law_s9 [x0, .d (.hnd 0), x2, .d (.hnd 33), x4, x5, x6, .d (.hnd 34), x8, x9, x10, x11] (some st, Bs 4 ++ [dsk (.hnd 34), bd [97, 98, 99] [[82]]]) = .nx [x0, .d (.hnd 0), x2, .d (.hnd 33), x4, x5, x6, .d (.hnd 34), x8, x9, x10, x11] (some st, Bs 4 ++ [dsk (.hnd 34), bd [97, 98, 99] [[82], [76]]]) := by kernel_rfl
theorem e4_7 {st : LS} (x0 x2 x3 x4 x5 x6 x7 x8 x9 x10 x11 : Sl) : g_law_s10 [x0, .d (.hnd 0), x2, .d (.hnd 33), x4, x5, x6, .d (.hnd 34), x8, x9, x10, x11] (some st, Bs 4 ++ [dsk (.hnd 34), bd [97, 98, 99] [[82], [76]]]) = .nx [x0, .d (.hnd 0), x2, .d (.hnd 33), x4, x5, x6, .d (.hnd 34), x8, x9, x10, x11] (some st, Bs 4 ++ [dsk (.hnd 35), bd [97, 98, 99] [[82], [76]], bd [97, 98, 97] []]) := by kernel_rfl
theorem e4_8 {st : LS} (x0 x2 x3 x4 x5 x6 x7 x8 x9 x10 x11 : Sl) : g_law_s11 [x0, .d (.hnd 0), x2, .d (.hnd 33), x4, x5, x6, .d (.hnd 34), x8, x9, x10, x11] (some st, Bs 4 ++ [dsk (.hnd 35), bd [97, 98, 99] [[82], [76]], bd [97, 98, 97] []]) = .nx [x0, .d (.hnd 0), x2, .d (.hnd 33), x4, x5, x6, .d (.hnd 34), x8, x9, x10, x11] (some st, Bs 4 ++ [dsk (.hnd 35), bd [97, 98, 99] [[82], [76]], bd [97, 98, 97] (List.replicate 42 [82])]) := by kernel_rfl
theorem e4_9 {st : LS} (x0 x2 x3 x4 x5 x6 x7 x8 x9 x10 x11 : Sl) : g_law_s12 [x0, .d (.hnd 0), x2, .d (.hnd 33), x4, x5, x6, .d (.hnd 34), x8, x9, x10, x11] (some st, Bs 4 ++ [dsk (.hnd 35), bd [97, 98, 99] [[82], [76]], bd [97, 98, 97] (List.replicate 42 [82])]) = .nx [x0, .d (.hnd 0), x2, .d (.hnd 33), x4, x5, x6, .d (.hnd 34), .d (.lst [.str [114, 111, 117, 110, 100], .str [112, 101, 114, 105, 111, 100], .str [115, 112, 114, 101, 97, 100], .str [109, 97, 100, 101, 32, 97, 98, 97], .str [101, 118, 101, 114], .str [98, 97, 99, 107, 32, 49, 48, 48], .str [98, 97, 99, 107, 32, 49, 50], .str [114, 111, 117, 110, 100]]), x9, x10, x11] (some st, Bs 4 ++ [dsk (.hnd 35), bd [97, 98, 99] [[82], [76]], bd [97, 98, 97] (List.replicate 42 [82])]) := by kernel_rfl
theorem e4_10 {st : LS} (x0 x2 x3 x4 x5 x6 x7 x8 x9 x10 x11 : Sl) : g_law_s13 [x0, .d (.hnd 0), x2, .d (.hnd 33), x4, x5, x6, .d (.hnd 34), .d (.lst [.str [114, 111, 117, 110, 100], .str [112, 101, 114, 105, 111, 100], .str [115, 112, 114, 101, 97, 100], .str [109, 97, 100, 101, 32, 97, 98, 97], .str [101, 118, 101, 114], .str [98, 97, 99, 107, 32, 49, 48, 48], .str [98, 97, 99, 107, 32, 49, 50], .str [114, 111, 117, 110, 100]]), x9, x10, x11] (some st, Bs 4 ++ [dsk (.hnd 35), bd [97, 98, 99] [[82], [76]], bd [97, 98, 97] (List.replicate 42 [82])]) = .nx [x0, .d (.hnd 0), x2, .d (.hnd 33), x4, x5, x6, .d (.hnd 34), .d (.lst [.str [114, 111, 117, 110, 100], .str [112, 101, 114, 105, 111, 100], .str [115, 112, 114, 101, 97, 100], .str [109, 97, 100, 101, 32, 97, 98, 97], .str [101, 118, 101, 114], .str [98, 97, 99, 107, 32, 49, 48, 48], .str [98, 97, 99, 107, 32, 49, 50], .str [114, 111, 117, 110, 100]]), x9, x10, x11] (some st, Bs 4 ++ [dsk (.hnd 35), bd [97, 98, 99] [[82], [76]], bd [97, 98, 97] (List.replicate 30 [82])]) := by kernel_rfl
theorem e4_11 {st : LS} (x0 x2 x3 x4 x5 x6 x7 x8 x9 x10 x11 : Sl) : g_law_s14 [x0, .d (.hnd 0), x2, .d (.hnd 33), x4, x5, x6, .d (.hnd 34), .d (.lst [.str [114, 111, 117, 110, 100], .str [112, 101, 114, 105, 111, 100], .str [115, 112, 114, 101, 97, 100], .str [109, 97, 100, 101, 32, 97, 98, 97], .str [101, 118, 101, 114], .str [98, 97, 99, 107, 32, 49, 48, 48], .str [98, 97, 99, 107, 32, 49, 50], .str [114, 111, 117, 110, 100]]), x9, x10, x11] (some st, Bs 4 ++ [dsk (.hnd 35), bd [97, 98, 99] [[82], [76]], bd [97, 98, 97] (List.replicate 30 [82])]) = .nx [x0, .d (.hnd 0), x2, .d (.hnd 36), x4, x5, x6, .d (.hnd 34), .d (.lst [.str [114, 111, 117, 110, 100], .str [112, 101, 114, 105, 111, 100], .str [115, 112, 114, 101, 97, 100], .str [109, 97, 100, 101, 32, 97, 98, 97], .str [101, 118, 101, 114], .str [98, 97, 99, 107, 32, 49, 48, 48], .str [98, 97, 99, 107, 32, 49, 50], .str [114, 111, 117, 110, 100]]), x9, x10, x11] (some st, Bs 4 ++ [dsk (.hnd 35), bd [97, 98, 99] [[82], [76]], bd [97, 98, 97] (List.replicate 30 [82]), dsk .non]) := by kernel_rfl
theorem e4_12 {st : LS} (x0 x2 x3 x4 x5 x6 x7 x8 x9 x10 x11 : Sl) : g_law_s15 [x0, .d (.hnd 0), x2, .d (.hnd 36), x4, x5, x6, .d (.hnd 34), .d (.lst [.str [114, 111, 117, 110, 100], .str [112, 101, 114, 105, 111, 100], .str [115, 112, 114, 101, 97, 100], .str [109, 97, 100, 101, 32, 97, 98, 97], .str [101, 118, 101, 114], .str [98, 97, 99, 107, 32, 49, 48, 48], .str [98, 97, 99, 107, 32, 49, 50], .str [114, 111, 117, 110, 100]]), x9, x10, x11] (some st, Bs 4 ++ [dsk (.hnd 35), bd [97, 98, 99] [[82], [76]], bd [97, 98, 97] (List.replicate 30 [82]), dsk .non]) = .nx [x0, .d (.hnd 0), x2, .d (.hnd 36), x4, x5, x6, .d (.hnd 34), .d (.lst [.str [114, 111, 117, 110, 100], .str [112, 101, 114, 105, 111, 100], .str [115, 112, 114, 101, 97, 100], .str [109, 97, 100, 101, 32, 97, 98, 97], .str [101, 118, 101, 114], .str [98, 97, 99, 107, 32, 49, 48, 48], .str [98, 97, 99, 107, 32, 49, 50], .str [114, 111, 117, 110, 100]]), .d (.lst [.str [100, 111, 110, 101], .str [98], .str [110, 111], .str [110, 111], .str [45], .str [110, 111], .str [76, 59, 32, 45], .str [98, 59, 32, 45]]), x10, x11] (some st, Bs 4 ++ [dsk (.hnd 35), bd [97, 98, 99] [[82], [76]], bd [97, 98, 97] (List.replicate 30 [82]), dsk (.hnd 37), bd [97, 98] [[76], []]]) := by kernel_rfl
theorem e4_13 {st : LS} (x0 x2 x3 x4 x5 x6 x7 x8 x9 x10 x11 : Sl) : g_law_s16 [x0, .d (.hnd 0), x2, .d (.hnd 36), x4, x5, x6, .d (.hnd 34), .d (.lst [.str [114, 111, 117, 110, 100], .str [112, 101, 114, 105, 111, 100], .str [115, 112, 114, 101, 97, 100], .str [109, 97, 100, 101, 32, 97, 98, 97], .str [101, 118, 101, 114], .str [98, 97, 99, 107, 32, 49, 48, 48], .str [98, 97, 99, 107, 32, 49, 50], .str [114, 111, 117, 110, 100]]), .d (.lst [.str [100, 111, 110, 101], .str [98], .str [110, 111], .str [110, 111], .str [45], .str [110, 111], .str [76, 59, 32, 45], .str [98, 59, 32, 45]]), x10, x11] (some st, Bs 4 ++ [dsk (.hnd 35), bd [97, 98, 99] [[82], [76]], bd [97, 98, 97] (List.replicate 30 [82]), dsk (.hnd 37), bd [97, 98] [[76], []]]) = .rt (.d (.bl true)) (some st, Bs 4 ++ [dsk (.hnd 35), bd [97, 98, 99] [[82], [76]], bd [97, 98, 97] (List.replicate 30 [82]), dsk (.hnd 37), bd [97, 98] [[76], []]]) := by kernel_rfl
theorem end_4 {st : LS} (x0 x2 x3 x4 x5 x6 x7 x8 x9 x10 x11 : Sl) : ∃ s, (sSeq g_law_s3 (sSeq g_law_s4 (sSeq g_law_s5 (sSeq g_law_s6 (sSeq g_law_s7 (sSeq g_law_s8 (sSeq g_law_s9 (sSeq g_law_s10 (sSeq g_law_s11 (sSeq g_law_s12 (sSeq g_law_s13 (sSeq g_law_s14 (sSeq g_law_s15 g_law_s16))))))))))))) [x0, .d (.hnd 0), x2, x3, x4, x5, x6, x7, x8, x9, x10, x11] (some st, Bs 4) = .rt (.d (.bl true)) s :=
  ⟨(some st, Bs 4 ++ [dsk (.hnd 35), bd [97, 98, 99] [[82], [76]], bd [97, 98, 97] (List.replicate 30 [82]), dsk (.hnd 37), bd [97, 98] [[76], []]]), go (e4_0 x0 x2 x3 x4 x5 x6 x7 x8 x9 x10 x11) (go (e4_1 x0 x2 x3 x4 x5 x6 x7 x8 x9 x10 x11) (go (e4_2 x0 x2 x3 x4 x5 x6 x7 x8 x9 x10 x11) (go (e4_3 x0 x2 x3 x4 x5 x6 x7 x8 x9 x10 x11) (go (e4_4 x0 x2 x3 x4 x5 x6 x7 x8 x9 x10 x11) (go (e4_5 x0 x2 x3 x4 x5 x6 x7 x8 x9 x10 x11) (go (e4_6 x0 x2 x3 x4 x5 x6 x7 x8 x9 x10 x11) (go (e4_7 x0 x2 x3 x4 x5 x6 x7 x8 x9 x10 x11) (go (e4_8 x0 x2 x3 x4 x5 x6 x7 x8 x9 x10 x11) (go (e4_9 x0 x2 x3 x4 x5 x6 x7 x8 x9 x10 x11) (go (e4_10 x0 x2 x3 x4 x5 x6 x7 x8 x9 x10 x11) (go (e4_11 x0 x2 x3 x4 x5 x6 x7 x8 x9 x10 x11) (go (e4_12 x0 x2 x3 x4 x5 x6 x7 x8 x9 x10 x11) (e4_13 x0 x2 x3 x4 x5 x6 x7 x8 x9 x10 x11)))))))))))))⟩
theorem turn_ok (i : Nat) (hi : i < 4) {st : LS} {m : Nat} (ok : LsOk st m) (hm : m < 700000) (x0 x3 x4 x5 x6 x7 x8 x9 x10 x11 : Sl) : ∃ (st' : LS) (y3 y4 y5 y6 : Sl), LsOk st' (m + 200) ∧
    g_law_b3 [x0, .d (.hnd 0), .d (.int (i : Int)), x3, x4, x5, x6, x7, x8, x9, x10, x11] (some st, Bs i) = .nx [x0, .d (.hnd 0), .d (.int (i : Int)), y3, y4, y5, y6, x7, x8, x9, x10, x11] (some st', Bs (i + 1)) := by
  match i, hi with
  | 0, _ => exact turn_0 ok hm x0 x3 x4 x5 x6 x7 x8 x9 x10 x11
  | 1, _ => exact turn_1 ok hm x0 x3 x4 x5 x6 x7 x8 x9 x10 x11
  | 2, _ => exact turn_2 ok hm x0 x3 x4 x5 x6 x7 x8 x9 x10 x11
  | 3, _ => exact turn_3 ok hm x0 x3 x4 x5 x6 x7 x8 x9 x10 x11
theorem end_ok (k : Nat) (hk : k < 5) {st : LS} (x0 x2 x3 x4 x5 x6 x7 x8 x9 x10 x11 : Sl) : ∃ s, (sSeq g_law_s3 (sSeq g_law_s4 (sSeq g_law_s5 (sSeq g_law_s6 (sSeq g_law_s7 (sSeq g_law_s8 (sSeq g_law_s9 (sSeq g_law_s10 (sSeq g_law_s11 (sSeq g_law_s12 (sSeq g_law_s13 (sSeq g_law_s14 (sSeq g_law_s15 g_law_s16))))))))))))) [x0, .d (.hnd 0), x2, x3, x4, x5, x6, x7, x8, x9, x10, x11] (some st, Bs k) = .rt (.d (.bl true)) s := by
  match k, hk with
  | 0, _ => exact end_0 x0 x2 x3 x4 x5 x6 x7 x8 x9 x10 x11
  | 1, _ => exact end_1 x0 x2 x3 x4 x5 x6 x7 x8 x9 x10 x11
  | 2, _ => exact end_2 x0 x2 x3 x4 x5 x6 x7 x8 x9 x10 x11
  | 3, _ => exact end_3 x0 x2 x3 x4 x5 x6 x7 x8 x9 x10 x11
  | 4, _ => exact end_4 x0 x2 x3 x4 x5 x6 x7 x8 x9 x10 x11
theorem turns_ok (a b : Int) (l : Nat) (ha : 0 ≤ a) (hb : 0 ≤ b) : ∃ k : Nat, (k : Int) ≤ a + b ∧ addD (.int a) (.int (if b < (l : Int) then b else (l : Int))) = some (.int (k : Int)) := by
  split
  · exact ⟨(a + b).toNat, by omega, by rw [show (((a + b).toNat : Nat) : Int) = a + b by omega]; rfl⟩
  · exact ⟨(a + l).toNat, by omega, by rw [show (((a + l).toNat : Nat) : Int) = a + l by omega]; rfl⟩
theorem law_true (ns : List Int) (h : ns.length ≤ 63) : ∃ s', semOf 12 g_law [.scr ns] (none, []) = .ok (.d (.bl true)) s' := by
  obtain ⟨st0, ok0, e0⟩ := begun ns h
  obtain ⟨k, hk, ek⟩ := turns_ok 1 3 ns.length (by decide) (by decide)
  have hl := lenD1_c (l := ns)
  have w := iR1_eq (fs := aCons (eOp2 addD (eC (.int 1)) (eCl minD (aCons (eCl lenD (aCons (eVar 0) aNil)) (aCons (eC (.int 3)) aNil)))) aNil) (env := [.d (.scr ns), .d (.hnd 0), .no, .no, .no, .no, .no, .no, .no, .no, .no, .no]) (s := ((some st0, []) : BS)) (n := (k : Int)) (by simp! [hl, ek] <;> rfl) (by omega) (by omega)
  rw [nn] at w
  obtain ⟨env', s', e2, st', y2, y3, y4, y5, y6, rfl, rfl, ok'⟩ := sFor_inv (h := pName 2) (g := g_law_b3) w (fun i env s => ∃ (st' : LS) (y2 y3 y4 y5 y6 : Sl), s = (some st', Bs i) ∧ env = [.d (.scr ns), .d (.hnd 0), y2, y3, y4, y5, y6, .no, .no, .no, .no, .no] ∧ LsOk st' (200 * i)) ⟨st0, _, _, _, _, _, rfl, rfl, ok0⟩ (by
    rintro i x env s hi ⟨st2, y2, y3, y4, y5, y6, rfl, rfl, ok2⟩
    obtain ⟨hik, rfl⟩ := rng_get0 hi
    obtain ⟨st3, z3, z4, z5, z6, ok3, e3⟩ := turn_ok i (by omega) ok2 (by omega) (.d (.scr ns)) y3 y4 y5 y6 .no .no .no .no .no
    exact ⟨_, rfl, _, _, .inl e3, st3, .d (.int i), z3, z4, z5, z6, rfl, rfl, ok3.mono (by omega)⟩)
  have hlr : (rng 0 k).length = k := by simp [rng]
  rw [hlr] at e2
  obtain ⟨sF, eF⟩ := end_ok k (by omega) (st := st') (.d (.scr ns)) y2 y3 y4 y5 y6 .no .no .no .no .no
  refine ⟨sF, ?_⟩
  refine sem_nx (env := [.d (.scr ns), .no, .no, .no, .no, .no, .no, .no, .no, .no, .no, .no]) (rs := .rt (.d (.bl true)) sF) rfl ?_ rfl
  unfold g_law
  apply go
  · unfold g_law_s1
    simp! [e0] <;> rfl
  apply go
  · exact e2
  · exact eF
end KB
set_option Elab.async false
set_option linter.all false
set_option maxRecDepth 100000
set_option maxHeartbeats 1000000
namespace KB
open PySem PySem.Spec PyProof.Rows PySem.W L2
theorem all_mk {l : OpenLaw} {w : World} {K : Frag} {h : Heap} {mg : Str → Option Value} {fa : Addr} (X : K.In h) (G : h.Ns mainGlobals mg) (hfa : mg "law" = some (.ref fa))
    {C_BadStrings fI_BadStrings cda_BadStrings cc_BadStrings : Addr} {oc_BadStrings ccl_BadStrings cl_BadStrings doc_BadStrings pm_BadStrings ct_BadStrings : Value} {od_BadStrings cdd_BadStrings cld_BadStrings an_BadStrings : Option Addr} {osl_BadStrings ccs_BadStrings csl_BadStrings : Array (Option Value)} {qual_BadStrings msg_BadStrings file_BadStrings : Str} {j_BadStrings : Nat} {tf_BadStrings : Tok} {vs_BadStrings : Array Value} {a1_BadStrings a2_BadStrings p0_BadStrings p1_BadStrings p2_BadStrings p3_BadStrings p4_BadStrings p5_BadStrings q1_BadStrings q2_BadStrings q3_BadStrings q4_BadStrings : Pos}
    {C_BadPattern fI_BadPattern cda_BadPattern cc_BadPattern : Addr} {oc_BadPattern ccl_BadPattern cl_BadPattern doc_BadPattern pm_BadPattern ct_BadPattern : Value} {od_BadPattern cdd_BadPattern cld_BadPattern an_BadPattern : Option Addr} {osl_BadPattern ccs_BadPattern csl_BadPattern : Array (Option Value)} {qual_BadPattern msg_BadPattern file_BadPattern : Str} {j_BadPattern : Nat} {tf_BadPattern : Tok} {vs_BadPattern : Array Value} {a1_BadPattern a2_BadPattern p0_BadPattern p1_BadPattern p2_BadPattern p3_BadPattern p4_BadPattern p5_BadPattern q1_BadPattern q2_BadPattern q3_BadPattern q4_BadPattern : Pos}
    {C_BadColouring fI_BadColouring cda_BadColouring cc_BadColouring : Addr} {oc_BadColouring ccl_BadColouring cl_BadColouring doc_BadColouring pm_BadColouring ct_BadColouring : Value} {od_BadColouring cdd_BadColouring cld_BadColouring an_BadColouring : Option Addr} {osl_BadColouring ccs_BadColouring csl_BadColouring : Array (Option Value)} {qual_BadColouring msg_BadColouring file_BadColouring : Str} {j_BadColouring : Nat} {tf_BadColouring : Tok} {vs_BadColouring : Array Value} {a1_BadColouring a2_BadColouring p0_BadColouring p1_BadColouring p2_BadColouring p3_BadColouring p4_BadColouring p5_BadColouring q1_BadColouring q2_BadColouring q3_BadColouring q4_BadColouring : Pos}
    {C_BadPicture fI_BadPicture cda_BadPicture cc_BadPicture : Addr} {oc_BadPicture ccl_BadPicture cl_BadPicture doc_BadPicture pm_BadPicture ct_BadPicture : Value} {od_BadPicture cdd_BadPicture cld_BadPicture an_BadPicture : Option Addr} {osl_BadPicture ccs_BadPicture csl_BadPicture : Array (Option Value)} {qual_BadPicture msg_BadPicture file_BadPicture : Str} {j_BadPicture : Nat} {tf_BadPicture : Tok} {vs_BadPicture : Array Value} {a1_BadPicture a2_BadPicture p0_BadPicture p1_BadPicture p2_BadPicture p3_BadPicture p4_BadPicture p5_BadPicture q1_BadPicture q2_BadPicture q3_BadPicture q4_BadPicture : Pos}
    {C_OutOfPlace fI_OutOfPlace cda_OutOfPlace cc_OutOfPlace : Addr} {oc_OutOfPlace ccl_OutOfPlace cl_OutOfPlace doc_OutOfPlace pm_OutOfPlace ct_OutOfPlace : Value} {od_OutOfPlace cdd_OutOfPlace cld_OutOfPlace an_OutOfPlace : Option Addr} {osl_OutOfPlace ccs_OutOfPlace csl_OutOfPlace : Array (Option Value)} {qual_OutOfPlace msg_OutOfPlace file_OutOfPlace : Str} {j_OutOfPlace : Nat} {tf_OutOfPlace : Tok} {vs_OutOfPlace : Array Value} {a1_OutOfPlace a2_OutOfPlace p0_OutOfPlace p1_OutOfPlace p2_OutOfPlace p3_OutOfPlace p4_OutOfPlace p5_OutOfPlace q1_OutOfPlace q2_OutOfPlace q3_OutOfPlace q4_OutOfPlace : Pos}
    {C_TooGreat fI_TooGreat cda_TooGreat cc_TooGreat : Addr} {oc_TooGreat ccl_TooGreat cl_TooGreat doc_TooGreat pm_TooGreat ct_TooGreat : Value} {od_TooGreat cdd_TooGreat cld_TooGreat an_TooGreat : Option Addr} {osl_TooGreat ccs_TooGreat csl_TooGreat : Array (Option Value)} {qual_TooGreat msg_TooGreat file_TooGreat : Str} {j_TooGreat : Nat} {tf_TooGreat : Tok} {vs_TooGreat : Array Value} {a1_TooGreat a2_TooGreat p0_TooGreat p1_TooGreat p2_TooGreat p3_TooGreat p4_TooGreat p5_TooGreat q1_TooGreat q2_TooGreat q3_TooGreat q4_TooGreat : Pos}
    {C_Nothing fI_Nothing cda_Nothing cc_Nothing : Addr} {oc_Nothing ccl_Nothing cl_Nothing doc_Nothing pm_Nothing ct_Nothing : Value} {od_Nothing cdd_Nothing cld_Nothing an_Nothing : Option Addr} {osl_Nothing ccs_Nothing csl_Nothing : Array (Option Value)} {qual_Nothing msg_Nothing file_Nothing : Str} {j_Nothing : Nat} {tf_Nothing : Tok} {vs_Nothing : Array Value} {a1_Nothing a2_Nothing p0_Nothing p1_Nothing p2_Nothing p3_Nothing p4_Nothing p5_Nothing q1_Nothing q2_Nothing q3_Nothing q4_Nothing : Pos}
    {C_Pattern : Addr}
    {C_Band : Addr}
    {C_Desk : Addr}
    {t_MOST_STRINGS : Tok}
    {t_MOST_ROWS : Tok}
    {t_KNOTS : Tok}
    {t_LETTERS : Tok}
    {t_MOST_FEW : Tok}
    {t_MORE : Tok}
    {t_MOST_BAND : Tok}
    {t_FIRST : Tok}
    {t_BARE : Tok}
    {t_NO : Tok}
    {t_DONE : Tok}
    {t_NONE : Tok}
    {f_is_whole : Addr} {oc_is_whole kV_is_whole dc_is_whole pm_is_whole cd_is_whole ct_is_whole : Value} {od_is_whole an_is_whole : Option Addr} {sl_is_whole : Array (Option Value)}
    {f_need_strings : Addr} {oc_need_strings kV_need_strings dc_need_strings pm_need_strings cd_need_strings ct_need_strings : Value} {od_need_strings an_need_strings : Option Addr} {sl_need_strings : Array (Option Value)}
    {f_places_in : Addr} {oc_places_in kV_places_in dc_places_in pm_places_in cd_places_in ct_places_in : Value} {od_places_in an_places_in : Option Addr} {sl_places_in : Array (Option Value)}
    {f_many_in : Addr} {oc_many_in kV_many_in dc_many_in pm_many_in cd_many_in ct_many_in : Value} {od_many_in an_many_in : Option Addr} {sl_many_in : Array (Option Value)}
    {f_is_text : Addr} {oc_is_text kV_is_text dc_is_text pm_is_text cd_is_text ct_is_text : Value} {od_is_text an_is_text : Option Addr} {sl_is_text : Array (Option Value)}
    {f_is_colouring : Addr} {oc_is_colouring kV_is_colouring dc_is_colouring pm_is_colouring cd_is_colouring ct_is_colouring : Value} {od_is_colouring an_is_colouring : Option Addr} {sl_is_colouring : Array (Option Value)}
    {f_colouring_of : Addr} {oc_colouring_of kV_colouring_of dc_colouring_of pm_colouring_of cd_colouring_of ct_colouring_of : Value} {od_colouring_of an_colouring_of : Option Addr} {sl_colouring_of : Array (Option Value)}
    {f_row_fault : Addr} {oc_row_fault kV_row_fault dc_row_fault pm_row_fault cd_row_fault ct_row_fault : Value} {od_row_fault an_row_fault : Option Addr} {sl_row_fault : Array (Option Value)}
    {f_knotted : Addr} {oc_knotted kV_knotted dc_knotted pm_knotted cd_knotted ct_knotted : Value} {od_knotted an_knotted : Option Addr} {sl_knotted : Array (Option Value)}
    {f_seen_in : Addr} {oc_seen_in kV_seen_in dc_seen_in pm_seen_in cd_seen_in ct_seen_in : Value} {od_seen_in an_seen_in : Option Addr} {sl_seen_in : Array (Option Value)}
    {f_seen_through : Addr} {oc_seen_through kV_seen_through dc_seen_through pm_seen_through cd_seen_through ct_seen_through : Value} {od_seen_through an_seen_through : Option Addr} {sl_seen_through : Array (Option Value)}
    {f_Pattern_ddinitdd : Addr} {oc_Pattern_ddinitdd kV_Pattern_ddinitdd dc_Pattern_ddinitdd pm_Pattern_ddinitdd cd_Pattern_ddinitdd ct_Pattern_ddinitdd : Value} {od_Pattern_ddinitdd an_Pattern_ddinitdd : Option Addr} {sl_Pattern_ddinitdd : Array (Option Value)}
    {f_Pattern_strings : Addr} {oc_Pattern_strings kV_Pattern_strings dc_Pattern_strings pm_Pattern_strings cd_Pattern_strings ct_Pattern_strings : Value} {od_Pattern_strings an_Pattern_strings : Option Addr} {sl_Pattern_strings : Array (Option Value)}
    {p_Pattern_strings : Addr} {rest_Pattern_strings : List Value}
    {f_Pattern_order : Addr} {oc_Pattern_order kV_Pattern_order dc_Pattern_order pm_Pattern_order cd_Pattern_order ct_Pattern_order : Value} {od_Pattern_order an_Pattern_order : Option Addr} {sl_Pattern_order : Array (Option Value)}
    {p_Pattern_order : Addr} {rest_Pattern_order : List Value}
    {f_Pattern_seen : Addr} {oc_Pattern_seen kV_Pattern_seen dc_Pattern_seen pm_Pattern_seen cd_Pattern_seen ct_Pattern_seen : Value} {od_Pattern_seen an_Pattern_seen : Option Addr} {sl_Pattern_seen : Array (Option Value)}
    {p_Pattern_seen : Addr} {rest_Pattern_seen : List Value}
    {f_Pattern_is_even : Addr} {oc_Pattern_is_even kV_Pattern_is_even dc_Pattern_is_even pm_Pattern_is_even cd_Pattern_is_even ct_Pattern_is_even : Value} {od_Pattern_is_even an_Pattern_is_even : Option Addr} {sl_Pattern_is_even : Array (Option Value)}
    {p_Pattern_is_even : Addr} {rest_Pattern_is_even : List Value}
    {f_Pattern_ddlendd : Addr} {oc_Pattern_ddlendd kV_Pattern_ddlendd dc_Pattern_ddlendd pm_Pattern_ddlendd cd_Pattern_ddlendd ct_Pattern_ddlendd : Value} {od_Pattern_ddlendd an_Pattern_ddlendd : Option Addr} {sl_Pattern_ddlendd : Array (Option Value)}
    {f_need_pattern : Addr} {oc_need_pattern kV_need_pattern dc_need_pattern pm_need_pattern cd_need_pattern ct_need_pattern : Value} {od_need_pattern an_need_pattern : Option Addr} {sl_need_pattern : Array (Option Value)}
    {f_picture_of : Addr} {oc_picture_of kV_picture_of dc_picture_of pm_picture_of cd_picture_of ct_picture_of : Value} {od_picture_of an_picture_of : Option Addr} {sl_picture_of : Array (Option Value)}
    {f_need_few : Addr} {oc_need_few kV_need_few dc_need_few pm_need_few cd_need_few ct_need_few : Value} {od_need_few an_need_few : Option Addr} {sl_need_few : Array (Option Value)}
    {f_need_all : Addr} {oc_need_all kV_need_all dc_need_all pm_need_all cd_need_all ct_need_all : Value} {od_need_all an_need_all : Option Addr} {sl_need_all : Array (Option Value)}
    {f_can_be_made : Addr} {oc_can_be_made kV_can_be_made dc_can_be_made pm_can_be_made cd_can_be_made ct_can_be_made : Value} {od_can_be_made an_can_be_made : Option Addr} {sl_can_be_made : Array (Option Value)}
    {f_check_motif : Addr} {oc_check_motif kV_check_motif dc_check_motif pm_check_motif cd_check_motif ct_check_motif : Value} {od_check_motif an_check_motif : Option Addr} {sl_check_motif : Array (Option Value)}
    {f_need_motif : Addr} {oc_need_motif kV_need_motif dc_need_motif pm_need_motif cd_need_motif ct_need_motif : Value} {od_need_motif an_need_motif : Option Addr} {sl_need_motif : Array (Option Value)}
    {f_most_rows : Addr} {oc_most_rows kV_most_rows dc_most_rows pm_most_rows cd_most_rows ct_most_rows : Value} {od_most_rows an_most_rows : Option Addr} {sl_most_rows : Array (Option Value)}
    {f_check_loop : Addr} {oc_check_loop kV_check_loop dc_check_loop pm_check_loop cd_check_loop ct_check_loop : Value} {od_check_loop an_check_loop : Option Addr} {sl_check_loop : Array (Option Value)}
    {f_need_loop : Addr} {oc_need_loop kV_need_loop dc_need_loop pm_need_loop cd_need_loop ct_need_loop : Value} {od_need_loop an_need_loop : Option Addr} {sl_need_loop : Array (Option Value)}
    {f_begun_as : Addr} {oc_begun_as kV_begun_as dc_begun_as pm_begun_as cd_begun_as ct_begun_as : Value} {od_begun_as an_begun_as : Option Addr} {sl_begun_as : Array (Option Value)}
    {f_round_in : Addr} {oc_round_in kV_round_in dc_round_in pm_round_in cd_round_in ct_round_in : Value} {od_round_in an_round_in : Option Addr} {sl_round_in : Array (Option Value)}
    {f_round_of : Addr} {oc_round_of kV_round_of dc_round_of pm_round_of cd_round_of ct_round_of : Value} {od_round_of an_round_of : Option Addr} {sl_round_of : Array (Option Value)}
    {f_seen_round : Addr} {oc_seen_round kV_seen_round dc_seen_round pm_seen_round cd_seen_round ct_seen_round : Value} {od_seen_round an_seen_round : Option Addr} {sl_seen_round : Array (Option Value)}
    {f_least_shift : Addr} {oc_least_shift kV_least_shift dc_least_shift pm_least_shift cd_least_shift ct_least_shift : Value} {od_least_shift an_least_shift : Option Addr} {sl_least_shift : Array (Option Value)}
    {f_period_in : Addr} {oc_period_in kV_period_in dc_period_in pm_period_in cd_period_in ct_period_in : Value} {od_period_in an_period_in : Option Addr} {sl_period_in : Array (Option Value)}
    {f_period_by : Addr} {oc_period_by kV_period_by dc_period_by pm_period_by cd_period_by ct_period_by : Value} {od_period_by an_period_by : Option Addr} {sl_period_by : Array (Option Value)}
    {f_Band_add_row : Addr} {oc_Band_add_row kV_Band_add_row dc_Band_add_row pm_Band_add_row cd_Band_add_row ct_Band_add_row : Value} {od_Band_add_row an_Band_add_row : Option Addr} {sl_Band_add_row : Array (Option Value)}
    {f_Band_put_in : Addr} {oc_Band_put_in kV_Band_put_in dc_Band_put_in pm_Band_put_in cd_Band_put_in ct_Band_put_in : Value} {od_Band_put_in an_Band_put_in : Option Addr} {sl_Band_put_in : Array (Option Value)}
    {f_Band_ddinitdd : Addr} {oc_Band_ddinitdd kV_Band_ddinitdd dc_Band_ddinitdd pm_Band_ddinitdd cd_Band_ddinitdd ct_Band_ddinitdd : Value} {od_Band_ddinitdd an_Band_ddinitdd : Option Addr} {sl_Band_ddinitdd : Array (Option Value)}
    {f_Band_colouring : Addr} {oc_Band_colouring kV_Band_colouring dc_Band_colouring pm_Band_colouring cd_Band_colouring ct_Band_colouring : Value} {od_Band_colouring an_Band_colouring : Option Addr} {sl_Band_colouring : Array (Option Value)}
    {p_Band_colouring : Addr} {rest_Band_colouring : List Value}
    {f_Band_rows : Addr} {oc_Band_rows kV_Band_rows dc_Band_rows pm_Band_rows cd_Band_rows ct_Band_rows : Value} {od_Band_rows an_Band_rows : Option Addr} {sl_Band_rows : Array (Option Value)}
    {p_Band_rows : Addr} {rest_Band_rows : List Value}
    {f_Band_picture : Addr} {oc_Band_picture kV_Band_picture dc_Band_picture pm_Band_picture cd_Band_picture ct_Band_picture : Value} {od_Band_picture an_Band_picture : Option Addr} {sl_Band_picture : Array (Option Value)}
    {p_Band_picture : Addr} {rest_Band_picture : List Value}
    {f_Band_stand : Addr} {oc_Band_stand kV_Band_stand dc_Band_stand pm_Band_stand cd_Band_stand ct_Band_stand : Value} {od_Band_stand an_Band_stand : Option Addr} {sl_Band_stand : Array (Option Value)}
    {p_Band_stand : Addr} {rest_Band_stand : List Value}
    {f_Band_uses : Addr} {oc_Band_uses kV_Band_uses dc_Band_uses pm_Band_uses cd_Band_uses ct_Band_uses : Value} {od_Band_uses an_Band_uses : Option Addr} {sl_Band_uses : Array (Option Value)}
    {p_Band_uses : Addr} {rest_Band_uses : List Value}
    {f_Band_ddcalldd : Addr} {oc_Band_ddcalldd kV_Band_ddcalldd dc_Band_ddcalldd pm_Band_ddcalldd cd_Band_ddcalldd ct_Band_ddcalldd : Value} {od_Band_ddcalldd an_Band_ddcalldd : Option Addr} {sl_Band_ddcalldd : Array (Option Value)}
    {f_Band_back : Addr} {oc_Band_back kV_Band_back dc_Band_back pm_Band_back cd_Band_back ct_Band_back : Value} {od_Band_back an_Band_back : Option Addr} {sl_Band_back : Array (Option Value)}
    {kD_Band_back : Addr} {kt_Band_back : Tok}
    {f_need_plain : Addr} {oc_need_plain kV_need_plain dc_need_plain pm_need_plain cd_need_plain ct_need_plain : Value} {od_need_plain an_need_plain : Option Addr} {sl_need_plain : Array (Option Value)}
    {f_spread : Addr} {oc_spread kV_spread dc_spread pm_spread cd_spread ct_spread : Value} {od_spread an_spread : Option Addr} {sl_spread : Array (Option Value)}
    {f_number_of : Addr} {oc_number_of kV_number_of dc_number_of pm_number_of cd_number_of ct_number_of : Value} {od_number_of an_number_of : Option Addr} {sl_number_of : Array (Option Value)}
    {f_joined : Addr} {oc_joined kV_joined dc_joined pm_joined cd_joined ct_joined : Value} {od_joined an_joined : Option Addr} {sl_joined : Array (Option Value)}
    {f_Desk_ddinitdd : Addr} {oc_Desk_ddinitdd kV_Desk_ddinitdd dc_Desk_ddinitdd pm_Desk_ddinitdd cd_Desk_ddinitdd ct_Desk_ddinitdd : Value} {od_Desk_ddinitdd an_Desk_ddinitdd : Option Addr} {sl_Desk_ddinitdd : Array (Option Value)}
    {f_Desk_band : Addr} {oc_Desk_band kV_Desk_band dc_Desk_band pm_Desk_band cd_Desk_band ct_Desk_band : Value} {od_Desk_band an_Desk_band : Option Addr} {sl_Desk_band : Array (Option Value)}
    {p_Desk_band : Addr} {rest_Desk_band : List Value}
    {f_Desk_pattern : Addr} {oc_Desk_pattern kV_Desk_pattern dc_Desk_pattern pm_Desk_pattern cd_Desk_pattern ct_Desk_pattern : Value} {od_Desk_pattern an_Desk_pattern : Option Addr} {sl_Desk_pattern : Array (Option Value)}
    {f_Desk_knotted : Addr} {oc_Desk_knotted kV_Desk_knotted dc_Desk_knotted pm_Desk_knotted cd_Desk_knotted ct_Desk_knotted : Value} {od_Desk_knotted an_Desk_knotted : Option Addr} {sl_Desk_knotted : Array (Option Value)}
    {f_Desk_taken_back : Addr} {oc_Desk_taken_back kV_Desk_taken_back dc_Desk_taken_back pm_Desk_taken_back cd_Desk_taken_back ct_Desk_taken_back : Value} {od_Desk_taken_back an_Desk_taken_back : Option Addr} {sl_Desk_taken_back : Array (Option Value)}
    {f_Desk_spread_told : Addr} {oc_Desk_spread_told kV_Desk_spread_told dc_Desk_spread_told pm_Desk_spread_told cd_Desk_spread_told ct_Desk_spread_told : Value} {od_Desk_spread_told an_Desk_spread_told : Option Addr} {sl_Desk_spread_told : Array (Option Value)}
    {f_Desk_ever_told : Addr} {oc_Desk_ever_told kV_Desk_ever_told dc_Desk_ever_told pm_Desk_ever_told cd_Desk_ever_told ct_Desk_ever_told : Value} {od_Desk_ever_told an_Desk_ever_told : Option Addr} {sl_Desk_ever_told : Array (Option Value)}
    {f_Desk_made_told : Addr} {oc_Desk_made_told kV_Desk_made_told dc_Desk_made_told pm_Desk_made_told cd_Desk_made_told ct_Desk_made_told : Value} {od_Desk_made_told an_Desk_made_told : Option Addr} {sl_Desk_made_told : Array (Option Value)}
    {f_Desk_alone : Addr} {oc_Desk_alone kV_Desk_alone dc_Desk_alone pm_Desk_alone cd_Desk_alone ct_Desk_alone : Value} {od_Desk_alone an_Desk_alone : Option Addr} {sl_Desk_alone : Array (Option Value)}
    {f_Desk_answered : Addr} {oc_Desk_answered kV_Desk_answered dc_Desk_answered pm_Desk_answered cd_Desk_answered ct_Desk_answered : Value} {od_Desk_answered an_Desk_answered : Option Addr} {sl_Desk_answered : Array (Option Value)}
    {f_Desk_say : Addr} {oc_Desk_say kV_Desk_say dc_Desk_say pm_Desk_say cd_Desk_say ct_Desk_say : Value} {od_Desk_say an_Desk_say : Option Addr} {sl_Desk_say : Array (Option Value)}
    {f_law_begun : Addr} {oc_law_begun kV_law_begun dc_law_begun pm_law_begun cd_law_begun ct_law_begun : Value} {od_law_begun an_law_begun : Option Addr} {sl_law_begun : Array (Option Value)}
    {f_law_next : Addr} {oc_law_next kV_law_next dc_law_next pm_law_next cd_law_next ct_law_next : Value} {od_law_next an_law_next : Option Addr} {sl_law_next : Array (Option Value)}
    {f_law_is_refused : Addr} {oc_law_is_refused kV_law_is_refused dc_law_is_refused pm_law_is_refused cd_law_is_refused ct_law_is_refused : Value} {od_law_is_refused an_law_is_refused : Option Addr} {sl_law_is_refused : Array (Option Value)}
    {f_law_no_right : Addr} {oc_law_no_right kV_law_no_right dc_law_no_right pm_law_no_right cd_law_no_right ct_law_no_right : Value} {od_law_no_right an_law_no_right : Option Addr} {sl_law_no_right : Array (Option Value)}
    {f_law_drawn_text : Addr} {oc_law_drawn_text kV_law_drawn_text dc_law_drawn_text pm_law_drawn_text cd_law_drawn_text ct_law_drawn_text : Value} {od_law_drawn_text an_law_drawn_text : Option Addr} {sl_law_drawn_text : Array (Option Value)}
    {f_law : Addr} {oc_law kV_law dc_law pm_law cd_law ct_law : Value} {od_law an_law : Option Addr} {sl_law : Array (Option Value)}
    (xn_BadStrings : nsIn K mainGlobals "BadStrings" = some (some (.ref C_BadStrings)))
    (xq_BadStrings : excInitIn K C_BadStrings [.type "ValueError", .type "Exception", .type "BaseException", .type "object"] "ValueError.__new__" = true)
    (xo_BadStrings : excOver K C_BadStrings [.type "ValueError", .type "Exception", .type "BaseException", .type "object"] = true)
    (xs_BadStrings : findIn K (.ref C_BadStrings) "__setattr__" = some (some (.builtin "object.__setattr__")))
    (xg_BadStrings : findIn K (.ref C_BadStrings) "__getattribute__" = some (some (.builtin "BaseException.__getattribute__")))
    (xh_BadStrings : findIn K (.ref C_BadStrings) "__getattr__" = some none)
    (xf_BadStrings : findIn K (.ref C_BadStrings) "value" = some none)
    (xk_BadStrings : keepIn K (.ref C_BadStrings) = true)
    (xe_BadStrings : subIn K (.ref C_BadStrings) (.type "BaseException") = some true)
    (xt_BadStrings : typeIn K (.ref C_BadStrings) = some (.type "type"))
    (xd_BadStrings : hasDictIn K C_BadStrings = true)
    (xb_BadStrings : subIn K (.ref C_BadStrings) (.type "ValueError") = some true)
    (xu_BadStrings : ks_superIn K C_BadStrings C_BadStrings "__init__" = some (some (.builtin "ValueError.__init__")))
    (xa_BadStrings : nsIn K cStatics "thirdparty.any" = some none)
    (xz_BadStrings : nsIn K mainGlobals "super" = some none)
    (xm_BadStrings : mroIn K C_BadStrings (.ref C_BadStrings) = some true)
    (x1_BadStrings : findIn K (.ref C_BadStrings) "__init__" = some (some (.ref fI_BadStrings)))
    (x2_BadStrings : typeIn K (.ref fI_BadStrings) = some (.type "function"))
    (x3_BadStrings : K.lookup fI_BadStrings = some ⟨oc_BadStrings, od_BadStrings, .func (ksFn "__init__" qual_BadStrings (xA "value" a1_BadStrings a2_BadStrings) (xB "value" msg_BadStrings j_BadStrings p0_BadStrings p1_BadStrings p2_BadStrings p3_BadStrings p4_BadStrings p5_BadStrings q1_BadStrings q2_BadStrings q3_BadStrings q4_BadStrings) (xS "value") .none .none doc_BadStrings pm_BadStrings an_BadStrings (.ref cda_BadStrings) ct_BadStrings cc_BadStrings), osl_BadStrings⟩)
    (x4_BadStrings : codeIn K (.ref cda_BadStrings) qual_BadStrings = true)
    (x5_BadStrings : K.lookup cda_BadStrings = some ⟨ccl_BadStrings, cdd_BadStrings, .fields vs_BadStrings, ccs_BadStrings⟩)
    (x6_BadStrings : vs_BadStrings[2]? = some (.str file_BadStrings tf_BadStrings))
    (x7_BadStrings : ((l.prog.main.file : Str) == file_BadStrings) = true)
    (x8_BadStrings : K.lookup cc_BadStrings = some ⟨cl_BadStrings, cld_BadStrings, .cell (some (.ref C_BadStrings)), csl_BadStrings⟩)
    (x9_BadStrings : XCall msg_BadStrings j_BadStrings p0_BadStrings p1_BadStrings p2_BadStrings p3_BadStrings p4_BadStrings)
    (xn_BadPattern : nsIn K mainGlobals "BadPattern" = some (some (.ref C_BadPattern)))
    (xq_BadPattern : excInitIn K C_BadPattern [.type "ValueError", .type "Exception", .type "BaseException", .type "object"] "ValueError.__new__" = true)
    (xo_BadPattern : excOver K C_BadPattern [.type "ValueError", .type "Exception", .type "BaseException", .type "object"] = true)
    (xs_BadPattern : findIn K (.ref C_BadPattern) "__setattr__" = some (some (.builtin "object.__setattr__")))
    (xg_BadPattern : findIn K (.ref C_BadPattern) "__getattribute__" = some (some (.builtin "BaseException.__getattribute__")))
    (xh_BadPattern : findIn K (.ref C_BadPattern) "__getattr__" = some none)
    (xf_BadPattern : findIn K (.ref C_BadPattern) "place" = some none)
    (xk_BadPattern : keepIn K (.ref C_BadPattern) = true)
    (xe_BadPattern : subIn K (.ref C_BadPattern) (.type "BaseException") = some true)
    (xt_BadPattern : typeIn K (.ref C_BadPattern) = some (.type "type"))
    (xd_BadPattern : hasDictIn K C_BadPattern = true)
    (xb_BadPattern : subIn K (.ref C_BadPattern) (.type "ValueError") = some true)
    (xu_BadPattern : ks_superIn K C_BadPattern C_BadPattern "__init__" = some (some (.builtin "ValueError.__init__")))
    (xa_BadPattern : nsIn K cStatics "thirdparty.any" = some none)
    (xz_BadPattern : nsIn K mainGlobals "super" = some none)
    (xm_BadPattern : mroIn K C_BadPattern (.ref C_BadPattern) = some true)
    (x1_BadPattern : findIn K (.ref C_BadPattern) "__init__" = some (some (.ref fI_BadPattern)))
    (x2_BadPattern : typeIn K (.ref fI_BadPattern) = some (.type "function"))
    (x3_BadPattern : K.lookup fI_BadPattern = some ⟨oc_BadPattern, od_BadPattern, .func (ksFn "__init__" qual_BadPattern (xA "place" a1_BadPattern a2_BadPattern) (xB "place" msg_BadPattern j_BadPattern p0_BadPattern p1_BadPattern p2_BadPattern p3_BadPattern p4_BadPattern p5_BadPattern q1_BadPattern q2_BadPattern q3_BadPattern q4_BadPattern) (xS "place") .none .none doc_BadPattern pm_BadPattern an_BadPattern (.ref cda_BadPattern) ct_BadPattern cc_BadPattern), osl_BadPattern⟩)
    (x4_BadPattern : codeIn K (.ref cda_BadPattern) qual_BadPattern = true)
    (x5_BadPattern : K.lookup cda_BadPattern = some ⟨ccl_BadPattern, cdd_BadPattern, .fields vs_BadPattern, ccs_BadPattern⟩)
    (x6_BadPattern : vs_BadPattern[2]? = some (.str file_BadPattern tf_BadPattern))
    (x7_BadPattern : ((l.prog.main.file : Str) == file_BadPattern) = true)
    (x8_BadPattern : K.lookup cc_BadPattern = some ⟨cl_BadPattern, cld_BadPattern, .cell (some (.ref C_BadPattern)), csl_BadPattern⟩)
    (x9_BadPattern : XCall msg_BadPattern j_BadPattern p0_BadPattern p1_BadPattern p2_BadPattern p3_BadPattern p4_BadPattern)
    (xn_BadColouring : nsIn K mainGlobals "BadColouring" = some (some (.ref C_BadColouring)))
    (xq_BadColouring : excInitIn K C_BadColouring [.type "ValueError", .type "Exception", .type "BaseException", .type "object"] "ValueError.__new__" = true)
    (xo_BadColouring : excOver K C_BadColouring [.type "ValueError", .type "Exception", .type "BaseException", .type "object"] = true)
    (xs_BadColouring : findIn K (.ref C_BadColouring) "__setattr__" = some (some (.builtin "object.__setattr__")))
    (xg_BadColouring : findIn K (.ref C_BadColouring) "__getattribute__" = some (some (.builtin "BaseException.__getattribute__")))
    (xh_BadColouring : findIn K (.ref C_BadColouring) "__getattr__" = some none)
    (xf_BadColouring : findIn K (.ref C_BadColouring) "value" = some none)
    (xk_BadColouring : keepIn K (.ref C_BadColouring) = true)
    (xe_BadColouring : subIn K (.ref C_BadColouring) (.type "BaseException") = some true)
    (xt_BadColouring : typeIn K (.ref C_BadColouring) = some (.type "type"))
    (xd_BadColouring : hasDictIn K C_BadColouring = true)
    (xb_BadColouring : subIn K (.ref C_BadColouring) (.type "ValueError") = some true)
    (xu_BadColouring : ks_superIn K C_BadColouring C_BadColouring "__init__" = some (some (.builtin "ValueError.__init__")))
    (xa_BadColouring : nsIn K cStatics "thirdparty.any" = some none)
    (xz_BadColouring : nsIn K mainGlobals "super" = some none)
    (xm_BadColouring : mroIn K C_BadColouring (.ref C_BadColouring) = some true)
    (x1_BadColouring : findIn K (.ref C_BadColouring) "__init__" = some (some (.ref fI_BadColouring)))
    (x2_BadColouring : typeIn K (.ref fI_BadColouring) = some (.type "function"))
    (x3_BadColouring : K.lookup fI_BadColouring = some ⟨oc_BadColouring, od_BadColouring, .func (ksFn "__init__" qual_BadColouring (xA "value" a1_BadColouring a2_BadColouring) (xB "value" msg_BadColouring j_BadColouring p0_BadColouring p1_BadColouring p2_BadColouring p3_BadColouring p4_BadColouring p5_BadColouring q1_BadColouring q2_BadColouring q3_BadColouring q4_BadColouring) (xS "value") .none .none doc_BadColouring pm_BadColouring an_BadColouring (.ref cda_BadColouring) ct_BadColouring cc_BadColouring), osl_BadColouring⟩)
    (x4_BadColouring : codeIn K (.ref cda_BadColouring) qual_BadColouring = true)
    (x5_BadColouring : K.lookup cda_BadColouring = some ⟨ccl_BadColouring, cdd_BadColouring, .fields vs_BadColouring, ccs_BadColouring⟩)
    (x6_BadColouring : vs_BadColouring[2]? = some (.str file_BadColouring tf_BadColouring))
    (x7_BadColouring : ((l.prog.main.file : Str) == file_BadColouring) = true)
    (x8_BadColouring : K.lookup cc_BadColouring = some ⟨cl_BadColouring, cld_BadColouring, .cell (some (.ref C_BadColouring)), csl_BadColouring⟩)
    (x9_BadColouring : XCall msg_BadColouring j_BadColouring p0_BadColouring p1_BadColouring p2_BadColouring p3_BadColouring p4_BadColouring)
    (xn_BadPicture : nsIn K mainGlobals "BadPicture" = some (some (.ref C_BadPicture)))
    (xq_BadPicture : excInitIn K C_BadPicture [.type "ValueError", .type "Exception", .type "BaseException", .type "object"] "ValueError.__new__" = true)
    (xo_BadPicture : excOver K C_BadPicture [.type "ValueError", .type "Exception", .type "BaseException", .type "object"] = true)
    (xs_BadPicture : findIn K (.ref C_BadPicture) "__setattr__" = some (some (.builtin "object.__setattr__")))
    (xg_BadPicture : findIn K (.ref C_BadPicture) "__getattribute__" = some (some (.builtin "BaseException.__getattribute__")))
    (xh_BadPicture : findIn K (.ref C_BadPicture) "__getattr__" = some none)
    (xf_BadPicture : findIn K (.ref C_BadPicture) "place" = some none)
    (xk_BadPicture : keepIn K (.ref C_BadPicture) = true)
    (xe_BadPicture : subIn K (.ref C_BadPicture) (.type "BaseException") = some true)
    (xt_BadPicture : typeIn K (.ref C_BadPicture) = some (.type "type"))
    (xd_BadPicture : hasDictIn K C_BadPicture = true)
    (xb_BadPicture : subIn K (.ref C_BadPicture) (.type "ValueError") = some true)
    (xu_BadPicture : ks_superIn K C_BadPicture C_BadPicture "__init__" = some (some (.builtin "ValueError.__init__")))
    (xa_BadPicture : nsIn K cStatics "thirdparty.any" = some none)
    (xz_BadPicture : nsIn K mainGlobals "super" = some none)
    (xm_BadPicture : mroIn K C_BadPicture (.ref C_BadPicture) = some true)
    (x1_BadPicture : findIn K (.ref C_BadPicture) "__init__" = some (some (.ref fI_BadPicture)))
    (x2_BadPicture : typeIn K (.ref fI_BadPicture) = some (.type "function"))
    (x3_BadPicture : K.lookup fI_BadPicture = some ⟨oc_BadPicture, od_BadPicture, .func (ksFn "__init__" qual_BadPicture (xA "place" a1_BadPicture a2_BadPicture) (xB "place" msg_BadPicture j_BadPicture p0_BadPicture p1_BadPicture p2_BadPicture p3_BadPicture p4_BadPicture p5_BadPicture q1_BadPicture q2_BadPicture q3_BadPicture q4_BadPicture) (xS "place") .none .none doc_BadPicture pm_BadPicture an_BadPicture (.ref cda_BadPicture) ct_BadPicture cc_BadPicture), osl_BadPicture⟩)
    (x4_BadPicture : codeIn K (.ref cda_BadPicture) qual_BadPicture = true)
    (x5_BadPicture : K.lookup cda_BadPicture = some ⟨ccl_BadPicture, cdd_BadPicture, .fields vs_BadPicture, ccs_BadPicture⟩)
    (x6_BadPicture : vs_BadPicture[2]? = some (.str file_BadPicture tf_BadPicture))
    (x7_BadPicture : ((l.prog.main.file : Str) == file_BadPicture) = true)
    (x8_BadPicture : K.lookup cc_BadPicture = some ⟨cl_BadPicture, cld_BadPicture, .cell (some (.ref C_BadPicture)), csl_BadPicture⟩)
    (x9_BadPicture : XCall msg_BadPicture j_BadPicture p0_BadPicture p1_BadPicture p2_BadPicture p3_BadPicture p4_BadPicture)
    (xn_OutOfPlace : nsIn K mainGlobals "OutOfPlace" = some (some (.ref C_OutOfPlace)))
    (xq_OutOfPlace : excInitIn K C_OutOfPlace [.type "ValueError", .type "Exception", .type "BaseException", .type "object"] "ValueError.__new__" = true)
    (xo_OutOfPlace : excOver K C_OutOfPlace [.type "ValueError", .type "Exception", .type "BaseException", .type "object"] = true)
    (xs_OutOfPlace : findIn K (.ref C_OutOfPlace) "__setattr__" = some (some (.builtin "object.__setattr__")))
    (xg_OutOfPlace : findIn K (.ref C_OutOfPlace) "__getattribute__" = some (some (.builtin "BaseException.__getattribute__")))
    (xh_OutOfPlace : findIn K (.ref C_OutOfPlace) "__getattr__" = some none)
    (xf_OutOfPlace : findIn K (.ref C_OutOfPlace) "text" = some none)
    (xk_OutOfPlace : keepIn K (.ref C_OutOfPlace) = true)
    (xe_OutOfPlace : subIn K (.ref C_OutOfPlace) (.type "BaseException") = some true)
    (xt_OutOfPlace : typeIn K (.ref C_OutOfPlace) = some (.type "type"))
    (xd_OutOfPlace : hasDictIn K C_OutOfPlace = true)
    (xb_OutOfPlace : subIn K (.ref C_OutOfPlace) (.type "ValueError") = some true)
    (xu_OutOfPlace : ks_superIn K C_OutOfPlace C_OutOfPlace "__init__" = some (some (.builtin "ValueError.__init__")))
    (xa_OutOfPlace : nsIn K cStatics "thirdparty.any" = some none)
    (xz_OutOfPlace : nsIn K mainGlobals "super" = some none)
    (xm_OutOfPlace : mroIn K C_OutOfPlace (.ref C_OutOfPlace) = some true)
    (x1_OutOfPlace : findIn K (.ref C_OutOfPlace) "__init__" = some (some (.ref fI_OutOfPlace)))
    (x2_OutOfPlace : typeIn K (.ref fI_OutOfPlace) = some (.type "function"))
    (x3_OutOfPlace : K.lookup fI_OutOfPlace = some ⟨oc_OutOfPlace, od_OutOfPlace, .func (ksFn "__init__" qual_OutOfPlace (xA "text" a1_OutOfPlace a2_OutOfPlace) (xB "text" msg_OutOfPlace j_OutOfPlace p0_OutOfPlace p1_OutOfPlace p2_OutOfPlace p3_OutOfPlace p4_OutOfPlace p5_OutOfPlace q1_OutOfPlace q2_OutOfPlace q3_OutOfPlace q4_OutOfPlace) (xS "text") .none .none doc_OutOfPlace pm_OutOfPlace an_OutOfPlace (.ref cda_OutOfPlace) ct_OutOfPlace cc_OutOfPlace), osl_OutOfPlace⟩)
    (x4_OutOfPlace : codeIn K (.ref cda_OutOfPlace) qual_OutOfPlace = true)
    (x5_OutOfPlace : K.lookup cda_OutOfPlace = some ⟨ccl_OutOfPlace, cdd_OutOfPlace, .fields vs_OutOfPlace, ccs_OutOfPlace⟩)
    (x6_OutOfPlace : vs_OutOfPlace[2]? = some (.str file_OutOfPlace tf_OutOfPlace))
    (x7_OutOfPlace : ((l.prog.main.file : Str) == file_OutOfPlace) = true)
    (x8_OutOfPlace : K.lookup cc_OutOfPlace = some ⟨cl_OutOfPlace, cld_OutOfPlace, .cell (some (.ref C_OutOfPlace)), csl_OutOfPlace⟩)
    (x9_OutOfPlace : XCall msg_OutOfPlace j_OutOfPlace p0_OutOfPlace p1_OutOfPlace p2_OutOfPlace p3_OutOfPlace p4_OutOfPlace)
    (xn_TooGreat : nsIn K mainGlobals "TooGreat" = some (some (.ref C_TooGreat)))
    (xq_TooGreat : excInitIn K C_TooGreat [.type "OverflowError", .type "ArithmeticError", .type "Exception", .type "BaseException", .type "object"] "OverflowError.__new__" = true)
    (xo_TooGreat : excOver K C_TooGreat [.type "OverflowError", .type "ArithmeticError", .type "Exception", .type "BaseException", .type "object"] = true)
    (xs_TooGreat : findIn K (.ref C_TooGreat) "__setattr__" = some (some (.builtin "object.__setattr__")))
    (xg_TooGreat : findIn K (.ref C_TooGreat) "__getattribute__" = some (some (.builtin "BaseException.__getattribute__")))
    (xh_TooGreat : findIn K (.ref C_TooGreat) "__getattr__" = some none)
    (xf_TooGreat : findIn K (.ref C_TooGreat) "most" = some none)
    (xk_TooGreat : keepIn K (.ref C_TooGreat) = true)
    (xe_TooGreat : subIn K (.ref C_TooGreat) (.type "BaseException") = some true)
    (xt_TooGreat : typeIn K (.ref C_TooGreat) = some (.type "type"))
    (xd_TooGreat : hasDictIn K C_TooGreat = true)
    (xb_TooGreat : subIn K (.ref C_TooGreat) (.type "OverflowError") = some true)
    (xu_TooGreat : ks_superIn K C_TooGreat C_TooGreat "__init__" = some (some (.builtin "OverflowError.__init__")))
    (xa_TooGreat : nsIn K cStatics "thirdparty.any" = some none)
    (xz_TooGreat : nsIn K mainGlobals "super" = some none)
    (xm_TooGreat : mroIn K C_TooGreat (.ref C_TooGreat) = some true)
    (x1_TooGreat : findIn K (.ref C_TooGreat) "__init__" = some (some (.ref fI_TooGreat)))
    (x2_TooGreat : typeIn K (.ref fI_TooGreat) = some (.type "function"))
    (x3_TooGreat : K.lookup fI_TooGreat = some ⟨oc_TooGreat, od_TooGreat, .func (ksFn "__init__" qual_TooGreat (xA "most" a1_TooGreat a2_TooGreat) (xB "most" msg_TooGreat j_TooGreat p0_TooGreat p1_TooGreat p2_TooGreat p3_TooGreat p4_TooGreat p5_TooGreat q1_TooGreat q2_TooGreat q3_TooGreat q4_TooGreat) (xS "most") .none .none doc_TooGreat pm_TooGreat an_TooGreat (.ref cda_TooGreat) ct_TooGreat cc_TooGreat), osl_TooGreat⟩)
    (x4_TooGreat : codeIn K (.ref cda_TooGreat) qual_TooGreat = true)
    (x5_TooGreat : K.lookup cda_TooGreat = some ⟨ccl_TooGreat, cdd_TooGreat, .fields vs_TooGreat, ccs_TooGreat⟩)
    (x6_TooGreat : vs_TooGreat[2]? = some (.str file_TooGreat tf_TooGreat))
    (x7_TooGreat : ((l.prog.main.file : Str) == file_TooGreat) = true)
    (x8_TooGreat : K.lookup cc_TooGreat = some ⟨cl_TooGreat, cld_TooGreat, .cell (some (.ref C_TooGreat)), csl_TooGreat⟩)
    (x9_TooGreat : XCall msg_TooGreat j_TooGreat p0_TooGreat p1_TooGreat p2_TooGreat p3_TooGreat p4_TooGreat)
    (xn_Nothing : nsIn K mainGlobals "Nothing" = some (some (.ref C_Nothing)))
    (xq_Nothing : excInitIn K C_Nothing [.type "LookupError", .type "Exception", .type "BaseException", .type "object"] "LookupError.__new__" = true)
    (xo_Nothing : excOver K C_Nothing [.type "LookupError", .type "Exception", .type "BaseException", .type "object"] = true)
    (xs_Nothing : findIn K (.ref C_Nothing) "__setattr__" = some (some (.builtin "object.__setattr__")))
    (xg_Nothing : findIn K (.ref C_Nothing) "__getattribute__" = some (some (.builtin "BaseException.__getattribute__")))
    (xh_Nothing : findIn K (.ref C_Nothing) "__getattr__" = some none)
    (xf_Nothing : findIn K (.ref C_Nothing) "text" = some none)
    (xk_Nothing : keepIn K (.ref C_Nothing) = true)
    (xe_Nothing : subIn K (.ref C_Nothing) (.type "BaseException") = some true)
    (xt_Nothing : typeIn K (.ref C_Nothing) = some (.type "type"))
    (xd_Nothing : hasDictIn K C_Nothing = true)
    (xb_Nothing : subIn K (.ref C_Nothing) (.type "LookupError") = some true)
    (xu_Nothing : ks_superIn K C_Nothing C_Nothing "__init__" = some (some (.builtin "LookupError.__init__")))
    (xa_Nothing : nsIn K cStatics "thirdparty.any" = some none)
    (xz_Nothing : nsIn K mainGlobals "super" = some none)
    (xm_Nothing : mroIn K C_Nothing (.ref C_Nothing) = some true)
    (x1_Nothing : findIn K (.ref C_Nothing) "__init__" = some (some (.ref fI_Nothing)))
    (x2_Nothing : typeIn K (.ref fI_Nothing) = some (.type "function"))
    (x3_Nothing : K.lookup fI_Nothing = some ⟨oc_Nothing, od_Nothing, .func (ksFn "__init__" qual_Nothing (xA "text" a1_Nothing a2_Nothing) (xB "text" msg_Nothing j_Nothing p0_Nothing p1_Nothing p2_Nothing p3_Nothing p4_Nothing p5_Nothing q1_Nothing q2_Nothing q3_Nothing q4_Nothing) (xS "text") .none .none doc_Nothing pm_Nothing an_Nothing (.ref cda_Nothing) ct_Nothing cc_Nothing), osl_Nothing⟩)
    (x4_Nothing : codeIn K (.ref cda_Nothing) qual_Nothing = true)
    (x5_Nothing : K.lookup cda_Nothing = some ⟨ccl_Nothing, cdd_Nothing, .fields vs_Nothing, ccs_Nothing⟩)
    (x6_Nothing : vs_Nothing[2]? = some (.str file_Nothing tf_Nothing))
    (x7_Nothing : ((l.prog.main.file : Str) == file_Nothing) = true)
    (x8_Nothing : K.lookup cc_Nothing = some ⟨cl_Nothing, cld_Nothing, .cell (some (.ref C_Nothing)), csl_Nothing⟩)
    (x9_Nothing : XCall msg_Nothing j_Nothing p0_Nothing p1_Nothing p2_Nothing p3_Nothing p4_Nothing)
    (ex_OutOfPlace_OutOfPlace : exmOne K (.ref C_OutOfPlace) (.ref C_OutOfPlace) = some true)
    (qn_Pattern : nsIn K mainGlobals "Pattern" = some (some (.ref C_Pattern)))
    (qg_Pattern : plainGet K C_Pattern Str.empty = true)
    (qh_Pattern : hasDictIn K C_Pattern = true)
    (qp_Pattern : plainOver K C_Pattern = true)
    (qs_Pattern : findIn K (.ref C_Pattern) "__setattr__" = some (some (.builtin "object.__setattr__")))
    (qm_Pattern : makesIn K C_Pattern = true)
    (qk_Pattern : keepIn K (.ref C_Pattern) = true)
    (qc_Pattern : findIn K (.ref C_Pattern) "__class__" = some (some (.builtin "object.__class__")))
    (qd_Pattern : specialIn K (.builtin "object.__class__") "__get__" = some (some (.builtin "getset_descriptor.__get__")))
    (qt_Pattern : takesIn K (.builtin "object.__class__") = some true)
    (qo_Pattern : mroIn K C_Pattern (.type "object") = some true)
    (qf_Pattern : selfFirst K C_Pattern = true)
    (qx_Pattern : findIn K (.ref C_Pattern) "__ne__" = some (some (.builtin "object.__ne__")))
    (qr_Pattern : findIn K (.ref C_Pattern) "__rmul__" = some none)
    (qi0_Pattern : kitOne K (.type "NoneType") (.ref C_Pattern) = some false)
    (qi1_Pattern : kitOne K (.type "bool") (.ref C_Pattern) = some false)
    (qi2_Pattern : kitOne K (.type "int") (.ref C_Pattern) = some false)
    (qi3_Pattern : kitOne K (.type "str") (.ref C_Pattern) = some false)
    (qi4_Pattern : kitOne K (.type "list") (.ref C_Pattern) = some false)
    (qi5_Pattern : kitOne K (.type "tuple") (.ref C_Pattern) = some false)
    (qi6_Pattern : kitOne K (.type "dict") (.ref C_Pattern) = some false)
    (qf_own_strings_Pattern : findIn K (.ref C_Pattern) "own_strings" = some none)
    (qf_own_rows_Pattern : findIn K (.ref C_Pattern) "own_rows" = some none)
    (qn_Band : nsIn K mainGlobals "Band" = some (some (.ref C_Band)))
    (qg_Band : plainGet K C_Band Str.empty = true)
    (qh_Band : hasDictIn K C_Band = true)
    (qp_Band : plainOver K C_Band = true)
    (qs_Band : findIn K (.ref C_Band) "__setattr__" = some (some (.builtin "object.__setattr__")))
    (qm_Band : makesIn K C_Band = true)
    (qk_Band : keepIn K (.ref C_Band) = true)
    (qc_Band : findIn K (.ref C_Band) "__class__" = some (some (.builtin "object.__class__")))
    (qd_Band : specialIn K (.builtin "object.__class__") "__get__" = some (some (.builtin "getset_descriptor.__get__")))
    (qt_Band : takesIn K (.builtin "object.__class__") = some true)
    (qo_Band : mroIn K C_Band (.type "object") = some true)
    (qx_Band : findIn K (.ref C_Band) "__ne__" = some (some (.builtin "object.__ne__")))
    (qi0_Band : kitOne K (.type "NoneType") (.ref C_Band) = some false)
    (qi1_Band : kitOne K (.type "bool") (.ref C_Band) = some false)
    (qi2_Band : kitOne K (.type "int") (.ref C_Band) = some false)
    (qi3_Band : kitOne K (.type "str") (.ref C_Band) = some false)
    (qi4_Band : kitOne K (.type "list") (.ref C_Band) = some false)
    (qi5_Band : kitOne K (.type "tuple") (.ref C_Band) = some false)
    (qi6_Band : kitOne K (.type "dict") (.ref C_Band) = some false)
    (qf_own_colouring_Band : findIn K (.ref C_Band) "own_colouring" = some none)
    (qf_own_rows_Band : findIn K (.ref C_Band) "own_rows" = some none)
    (qf_own_order_Band : findIn K (.ref C_Band) "own_order" = some none)
    (qf_own_seen_Band : findIn K (.ref C_Band) "own_seen" = some none)
    (qn_Desk : nsIn K mainGlobals "Desk" = some (some (.ref C_Desk)))
    (qg_Desk : plainGet K C_Desk Str.empty = true)
    (qh_Desk : hasDictIn K C_Desk = true)
    (qp_Desk : plainOver K C_Desk = true)
    (qs_Desk : findIn K (.ref C_Desk) "__setattr__" = some (some (.builtin "object.__setattr__")))
    (qm_Desk : makesIn K C_Desk = true)
    (qk_Desk : keepIn K (.ref C_Desk) = true)
    (qc_Desk : findIn K (.ref C_Desk) "__class__" = some (some (.builtin "object.__class__")))
    (qd_Desk : specialIn K (.builtin "object.__class__") "__get__" = some (some (.builtin "getset_descriptor.__get__")))
    (qt_Desk : takesIn K (.builtin "object.__class__") = some true)
    (qo_Desk : mroIn K C_Desk (.type "object") = some true)
    (qx_Desk : findIn K (.ref C_Desk) "__ne__" = some (some (.builtin "object.__ne__")))
    (qi0_Desk : kitOne K (.type "NoneType") (.ref C_Desk) = some false)
    (qi1_Desk : kitOne K (.type "bool") (.ref C_Desk) = some false)
    (qi2_Desk : kitOne K (.type "int") (.ref C_Desk) = some false)
    (qi3_Desk : kitOne K (.type "str") (.ref C_Desk) = some false)
    (qi4_Desk : kitOne K (.type "list") (.ref C_Desk) = some false)
    (qi5_Desk : kitOne K (.type "tuple") (.ref C_Desk) = some false)
    (qi6_Desk : kitOne K (.type "dict") (.ref C_Desk) = some false)
    (qf_own_Desk : findIn K (.ref C_Desk) "own" = some none)
    (ex_BadColouring_BadColouring : exmOne K (.ref C_BadColouring) (.ref C_BadColouring) = some true)
    (ex_BadColouring_BadPattern : exmOne K (.ref C_BadPattern) (.ref C_BadColouring) = some false)
    (ex_BadColouring_BadPicture : exmOne K (.ref C_BadPicture) (.ref C_BadColouring) = some false)
    (ex_BadColouring_BadStrings : exmOne K (.ref C_BadStrings) (.ref C_BadColouring) = some false)
    (ex_BadColouring_Nothing : exmOne K (.ref C_Nothing) (.ref C_BadColouring) = some false)
    (ex_BadColouring_OutOfPlace : exmOne K (.ref C_OutOfPlace) (.ref C_BadColouring) = some false)
    (ex_BadColouring_TooGreat : exmOne K (.ref C_TooGreat) (.ref C_BadColouring) = some false)
    (ex_BadPattern_BadColouring : exmOne K (.ref C_BadColouring) (.ref C_BadPattern) = some false)
    (ex_BadPattern_BadPattern : exmOne K (.ref C_BadPattern) (.ref C_BadPattern) = some true)
    (ex_BadPattern_BadPicture : exmOne K (.ref C_BadPicture) (.ref C_BadPattern) = some false)
    (ex_BadPattern_BadStrings : exmOne K (.ref C_BadStrings) (.ref C_BadPattern) = some false)
    (ex_BadPattern_Nothing : exmOne K (.ref C_Nothing) (.ref C_BadPattern) = some false)
    (ex_BadPattern_OutOfPlace : exmOne K (.ref C_OutOfPlace) (.ref C_BadPattern) = some false)
    (ex_BadPattern_TooGreat : exmOne K (.ref C_TooGreat) (.ref C_BadPattern) = some false)
    (ex_BadPicture_BadColouring : exmOne K (.ref C_BadColouring) (.ref C_BadPicture) = some false)
    (ex_BadPicture_BadPattern : exmOne K (.ref C_BadPattern) (.ref C_BadPicture) = some false)
    (ex_BadPicture_BadPicture : exmOne K (.ref C_BadPicture) (.ref C_BadPicture) = some true)
    (ex_BadPicture_BadStrings : exmOne K (.ref C_BadStrings) (.ref C_BadPicture) = some false)
    (ex_BadPicture_Nothing : exmOne K (.ref C_Nothing) (.ref C_BadPicture) = some false)
    (ex_BadPicture_OutOfPlace : exmOne K (.ref C_OutOfPlace) (.ref C_BadPicture) = some false)
    (ex_BadPicture_TooGreat : exmOne K (.ref C_TooGreat) (.ref C_BadPicture) = some false)
    (ex_BadStrings_BadColouring : exmOne K (.ref C_BadColouring) (.ref C_BadStrings) = some false)
    (ex_BadStrings_BadPattern : exmOne K (.ref C_BadPattern) (.ref C_BadStrings) = some false)
    (ex_BadStrings_BadPicture : exmOne K (.ref C_BadPicture) (.ref C_BadStrings) = some false)
    (ex_BadStrings_BadStrings : exmOne K (.ref C_BadStrings) (.ref C_BadStrings) = some true)
    (ex_BadStrings_Nothing : exmOne K (.ref C_Nothing) (.ref C_BadStrings) = some false)
    (ex_BadStrings_OutOfPlace : exmOne K (.ref C_OutOfPlace) (.ref C_BadStrings) = some false)
    (ex_BadStrings_TooGreat : exmOne K (.ref C_TooGreat) (.ref C_BadStrings) = some false)
    (ex_Nothing_BadColouring : exmOne K (.ref C_BadColouring) (.ref C_Nothing) = some false)
    (ex_Nothing_BadPattern : exmOne K (.ref C_BadPattern) (.ref C_Nothing) = some false)
    (ex_Nothing_BadPicture : exmOne K (.ref C_BadPicture) (.ref C_Nothing) = some false)
    (ex_Nothing_BadStrings : exmOne K (.ref C_BadStrings) (.ref C_Nothing) = some false)
    (ex_Nothing_Nothing : exmOne K (.ref C_Nothing) (.ref C_Nothing) = some true)
    (ex_Nothing_OutOfPlace : exmOne K (.ref C_OutOfPlace) (.ref C_Nothing) = some false)
    (ex_Nothing_TooGreat : exmOne K (.ref C_TooGreat) (.ref C_Nothing) = some false)
    (ex_OutOfPlace_BadColouring : exmOne K (.ref C_BadColouring) (.ref C_OutOfPlace) = some false)
    (ex_OutOfPlace_BadPattern : exmOne K (.ref C_BadPattern) (.ref C_OutOfPlace) = some false)
    (ex_OutOfPlace_BadPicture : exmOne K (.ref C_BadPicture) (.ref C_OutOfPlace) = some false)
    (ex_OutOfPlace_BadStrings : exmOne K (.ref C_BadStrings) (.ref C_OutOfPlace) = some false)
    (ex_OutOfPlace_Nothing : exmOne K (.ref C_Nothing) (.ref C_OutOfPlace) = some false)
    (ex_OutOfPlace_TooGreat : exmOne K (.ref C_TooGreat) (.ref C_OutOfPlace) = some false)
    (ex_TooGreat_BadColouring : exmOne K (.ref C_BadColouring) (.ref C_TooGreat) = some false)
    (ex_TooGreat_BadPattern : exmOne K (.ref C_BadPattern) (.ref C_TooGreat) = some false)
    (ex_TooGreat_BadPicture : exmOne K (.ref C_BadPicture) (.ref C_TooGreat) = some false)
    (ex_TooGreat_BadStrings : exmOne K (.ref C_BadStrings) (.ref C_TooGreat) = some false)
    (ex_TooGreat_Nothing : exmOne K (.ref C_Nothing) (.ref C_TooGreat) = some false)
    (ex_TooGreat_OutOfPlace : exmOne K (.ref C_OutOfPlace) (.ref C_TooGreat) = some false)
    (ex_TooGreat_TooGreat : exmOne K (.ref C_TooGreat) (.ref C_TooGreat) = some true)
    (htop : (l.prog.main.scope.names.lookup ("super" : Str)).isSome = false)
    (k_MOST_STRINGS : nsIn K mainGlobals "MOST_STRINGS" = some (some (.int 8 t_MOST_STRINGS)))
    (k_MOST_ROWS : nsIn K mainGlobals "MOST_ROWS" = some (some (.int 40 t_MOST_ROWS)))
    (k_KNOTS : nsIn K mainGlobals "KNOTS" = some (some (.str "LRlr" t_KNOTS)))
    (k_LETTERS : nsIn K mainGlobals "LETTERS" = some (some (.str "abcdefghijklmnopqrstuvwxyz" t_LETTERS)))
    (k_MOST_FEW : nsIn K mainGlobals "MOST_FEW" = some (some (.int 6 t_MOST_FEW)))
    (k_MORE : nsIn K mainGlobals "MORE" = some (some (.int 3 t_MORE)))
    (k_MOST_BAND : nsIn K mainGlobals "MOST_BAND" = some (some (.int 400 t_MOST_BAND)))
    (k_FIRST : nsIn K mainGlobals "FIRST" = some (some (.str "a" t_FIRST)))
    (k_BARE : nsIn K mainGlobals "BARE" = some (some (.str "-" t_BARE)))
    (k_NO : nsIn K mainGlobals "NO" = some (some (.str "no" t_NO)))
    (k_DONE : nsIn K mainGlobals "DONE" = some (some (.str "done" t_DONE)))
    (k_NONE : nsIn K mainGlobals "NONE" = some (some (.str "none" t_NONE)))
    (z_all : nsIn K mainGlobals "all" = some none)
    (z_bool : nsIn K mainGlobals "bool" = some none)
    (z_enumerate : nsIn K mainGlobals "enumerate" = some none)
    (z_int : nsIn K mainGlobals "int" = some none)
    (z_isinstance : nsIn K mainGlobals "isinstance" = some none)
    (z_len : nsIn K mainGlobals "len" = some none)
    (z_list : nsIn K mainGlobals "list" = some none)
    (z_min : nsIn K mainGlobals "min" = some none)
    (z_range : nsIn K mainGlobals "range" = some none)
    (z_str : nsIn K mainGlobals "str" = some none)
    (z_sum : nsIn K mainGlobals "sum" = some none)
    (z_tuple : nsIn K mainGlobals "tuple" = some none)
    (z_zip : nsIn K mainGlobals "zip" = some none)
    (a_is_whole : nsIn K mainGlobals "is_whole" = some (some (.ref f_is_whole)))
    (l_is_whole : K.lookup f_is_whole = some ⟨oc_is_whole, od_is_whole, .func (fnOf "is_whole" "is_whole" (defArgs s_is_whole) (defBody s_is_whole) (defScope s_is_whole) .none kV_is_whole dc_is_whole pm_is_whole an_is_whole cd_is_whole ct_is_whole), sl_is_whole⟩)
    (c_is_whole : codeIn K cd_is_whole "is_whole" = true)
    (k_is_whole : keepIn K (.ref f_is_whole) = true)
    (a_need_strings : nsIn K mainGlobals "need_strings" = some (some (.ref f_need_strings)))
    (l_need_strings : K.lookup f_need_strings = some ⟨oc_need_strings, od_need_strings, .func (fnOf "need_strings" "need_strings" (defArgs s_need_strings) (defBody s_need_strings) (defScope s_need_strings) .none kV_need_strings dc_need_strings pm_need_strings an_need_strings cd_need_strings ct_need_strings), sl_need_strings⟩)
    (c_need_strings : codeIn K cd_need_strings "need_strings" = true)
    (k_need_strings : keepIn K (.ref f_need_strings) = true)
    (a_places_in : nsIn K mainGlobals "places_in" = some (some (.ref f_places_in)))
    (l_places_in : K.lookup f_places_in = some ⟨oc_places_in, od_places_in, .func (fnOf "places_in" "places_in" (defArgs s_places_in) (defBody s_places_in) (defScope s_places_in) .none kV_places_in dc_places_in pm_places_in an_places_in cd_places_in ct_places_in), sl_places_in⟩)
    (c_places_in : codeIn K cd_places_in "places_in" = true)
    (k_places_in : keepIn K (.ref f_places_in) = true)
    (a_many_in : nsIn K mainGlobals "many_in" = some (some (.ref f_many_in)))
    (l_many_in : K.lookup f_many_in = some ⟨oc_many_in, od_many_in, .func (fnOf "many_in" "many_in" (defArgs s_many_in) (defBody s_many_in) (defScope s_many_in) .none kV_many_in dc_many_in pm_many_in an_many_in cd_many_in ct_many_in), sl_many_in⟩)
    (c_many_in : codeIn K cd_many_in "many_in" = true)
    (k_many_in : keepIn K (.ref f_many_in) = true)
    (a_is_text : nsIn K mainGlobals "is_text" = some (some (.ref f_is_text)))
    (l_is_text : K.lookup f_is_text = some ⟨oc_is_text, od_is_text, .func (fnOf "is_text" "is_text" (defArgs s_is_text) (defBody s_is_text) (defScope s_is_text) .none kV_is_text dc_is_text pm_is_text an_is_text cd_is_text ct_is_text), sl_is_text⟩)
    (c_is_text : codeIn K cd_is_text "is_text" = true)
    (k_is_text : keepIn K (.ref f_is_text) = true)
    (a_is_colouring : nsIn K mainGlobals "is_colouring" = some (some (.ref f_is_colouring)))
    (l_is_colouring : K.lookup f_is_colouring = some ⟨oc_is_colouring, od_is_colouring, .func (fnOf "is_colouring" "is_colouring" (defArgs s_is_colouring) (defBody s_is_colouring) (defScope s_is_colouring) .none kV_is_colouring dc_is_colouring pm_is_colouring an_is_colouring cd_is_colouring ct_is_colouring), sl_is_colouring⟩)
    (c_is_colouring : codeIn K cd_is_colouring "is_colouring" = true)
    (k_is_colouring : keepIn K (.ref f_is_colouring) = true)
    (a_colouring_of : nsIn K mainGlobals "colouring_of" = some (some (.ref f_colouring_of)))
    (l_colouring_of : K.lookup f_colouring_of = some ⟨oc_colouring_of, od_colouring_of, .func (fnOf "colouring_of" "colouring_of" (defArgs s_colouring_of) (defBody s_colouring_of) (defScope s_colouring_of) .none kV_colouring_of dc_colouring_of pm_colouring_of an_colouring_of cd_colouring_of ct_colouring_of), sl_colouring_of⟩)
    (c_colouring_of : codeIn K cd_colouring_of "colouring_of" = true)
    (k_colouring_of : keepIn K (.ref f_colouring_of) = true)
    (a_row_fault : nsIn K mainGlobals "row_fault" = some (some (.ref f_row_fault)))
    (l_row_fault : K.lookup f_row_fault = some ⟨oc_row_fault, od_row_fault, .func (fnOf "row_fault" "row_fault" (defArgs s_row_fault) (defBody s_row_fault) (defScope s_row_fault) .none kV_row_fault dc_row_fault pm_row_fault an_row_fault cd_row_fault ct_row_fault), sl_row_fault⟩)
    (c_row_fault : codeIn K cd_row_fault "row_fault" = true)
    (k_row_fault : keepIn K (.ref f_row_fault) = true)
    (a_knotted : nsIn K mainGlobals "knotted" = some (some (.ref f_knotted)))
    (l_knotted : K.lookup f_knotted = some ⟨oc_knotted, od_knotted, .func (fnOf "knotted" "knotted" (defArgs s_knotted) (defBody s_knotted) (defScope s_knotted) .none kV_knotted dc_knotted pm_knotted an_knotted cd_knotted ct_knotted), sl_knotted⟩)
    (c_knotted : codeIn K cd_knotted "knotted" = true)
    (k_knotted : keepIn K (.ref f_knotted) = true)
    (a_seen_in : nsIn K mainGlobals "seen_in" = some (some (.ref f_seen_in)))
    (l_seen_in : K.lookup f_seen_in = some ⟨oc_seen_in, od_seen_in, .func (fnOf "seen_in" "seen_in" (defArgs s_seen_in) (defBody s_seen_in) (defScope s_seen_in) .none kV_seen_in dc_seen_in pm_seen_in an_seen_in cd_seen_in ct_seen_in), sl_seen_in⟩)
    (c_seen_in : codeIn K cd_seen_in "seen_in" = true)
    (k_seen_in : keepIn K (.ref f_seen_in) = true)
    (a_seen_through : nsIn K mainGlobals "seen_through" = some (some (.ref f_seen_through)))
    (l_seen_through : K.lookup f_seen_through = some ⟨oc_seen_through, od_seen_through, .func (fnOf "seen_through" "seen_through" (defArgs s_seen_through) (defBody s_seen_through) (defScope s_seen_through) .none kV_seen_through dc_seen_through pm_seen_through an_seen_through cd_seen_through ct_seen_through), sl_seen_through⟩)
    (c_seen_through : codeIn K cd_seen_through "seen_through" = true)
    (k_seen_through : keepIn K (.ref f_seen_through) = true)
    (a_Pattern_ddinitdd : findIn K (.ref C_Pattern) "__init__" = some (some (.ref f_Pattern_ddinitdd)))
    (i_Pattern_ddinitdd : isFn K (.ref f_Pattern_ddinitdd) = true)
    (l_Pattern_ddinitdd : K.lookup f_Pattern_ddinitdd = some ⟨oc_Pattern_ddinitdd, od_Pattern_ddinitdd, .func (fnOf "__init__" "Pattern.__init__" (defArgs s_Pattern_ddinitdd) (defBody s_Pattern_ddinitdd) (defScope s_Pattern_ddinitdd) .none kV_Pattern_ddinitdd dc_Pattern_ddinitdd pm_Pattern_ddinitdd an_Pattern_ddinitdd cd_Pattern_ddinitdd ct_Pattern_ddinitdd), sl_Pattern_ddinitdd⟩)
    (c_Pattern_ddinitdd : codeIn K cd_Pattern_ddinitdd "Pattern.__init__" = true)
    (k_Pattern_ddinitdd : keepIn K (.ref f_Pattern_ddinitdd) = true)
    (a_Pattern_strings : findIn K (.ref C_Pattern) "strings" = some (some (.ref p_Pattern_strings)))
    (b_Pattern_strings : specialIn K (.ref p_Pattern_strings) "__get__" = some (some (.builtin "property.__get__")))
    (t_Pattern_strings : takesIn K (.ref p_Pattern_strings) = some true)
    (r_Pattern_strings : recIn K p_Pattern_strings "property" = some (.ref f_Pattern_strings :: rest_Pattern_strings))
    (l_Pattern_strings : K.lookup f_Pattern_strings = some ⟨oc_Pattern_strings, od_Pattern_strings, .func (fnOf "strings" "Pattern.strings" (defArgs s_Pattern_strings) (defBody s_Pattern_strings) (defScope s_Pattern_strings) .none kV_Pattern_strings dc_Pattern_strings pm_Pattern_strings an_Pattern_strings cd_Pattern_strings ct_Pattern_strings), sl_Pattern_strings⟩)
    (c_Pattern_strings : codeIn K cd_Pattern_strings "Pattern.strings" = true)
    (k_Pattern_strings : keepIn K (.ref f_Pattern_strings) = true)
    (a_Pattern_order : findIn K (.ref C_Pattern) "order" = some (some (.ref p_Pattern_order)))
    (b_Pattern_order : specialIn K (.ref p_Pattern_order) "__get__" = some (some (.builtin "property.__get__")))
    (t_Pattern_order : takesIn K (.ref p_Pattern_order) = some true)
    (r_Pattern_order : recIn K p_Pattern_order "property" = some (.ref f_Pattern_order :: rest_Pattern_order))
    (l_Pattern_order : K.lookup f_Pattern_order = some ⟨oc_Pattern_order, od_Pattern_order, .func (fnOf "order" "Pattern.order" (defArgs s_Pattern_order) (defBody s_Pattern_order) (defScope s_Pattern_order) .none kV_Pattern_order dc_Pattern_order pm_Pattern_order an_Pattern_order cd_Pattern_order ct_Pattern_order), sl_Pattern_order⟩)
    (c_Pattern_order : codeIn K cd_Pattern_order "Pattern.order" = true)
    (k_Pattern_order : keepIn K (.ref f_Pattern_order) = true)
    (a_Pattern_seen : findIn K (.ref C_Pattern) "seen" = some (some (.ref p_Pattern_seen)))
    (b_Pattern_seen : specialIn K (.ref p_Pattern_seen) "__get__" = some (some (.builtin "property.__get__")))
    (t_Pattern_seen : takesIn K (.ref p_Pattern_seen) = some true)
    (r_Pattern_seen : recIn K p_Pattern_seen "property" = some (.ref f_Pattern_seen :: rest_Pattern_seen))
    (l_Pattern_seen : K.lookup f_Pattern_seen = some ⟨oc_Pattern_seen, od_Pattern_seen, .func (fnOf "seen" "Pattern.seen" (defArgs s_Pattern_seen) (defBody s_Pattern_seen) (defScope s_Pattern_seen) .none kV_Pattern_seen dc_Pattern_seen pm_Pattern_seen an_Pattern_seen cd_Pattern_seen ct_Pattern_seen), sl_Pattern_seen⟩)
    (c_Pattern_seen : codeIn K cd_Pattern_seen "Pattern.seen" = true)
    (k_Pattern_seen : keepIn K (.ref f_Pattern_seen) = true)
    (a_Pattern_is_even : findIn K (.ref C_Pattern) "is_even" = some (some (.ref p_Pattern_is_even)))
    (b_Pattern_is_even : specialIn K (.ref p_Pattern_is_even) "__get__" = some (some (.builtin "property.__get__")))
    (t_Pattern_is_even : takesIn K (.ref p_Pattern_is_even) = some true)
    (r_Pattern_is_even : recIn K p_Pattern_is_even "property" = some (.ref f_Pattern_is_even :: rest_Pattern_is_even))
    (l_Pattern_is_even : K.lookup f_Pattern_is_even = some ⟨oc_Pattern_is_even, od_Pattern_is_even, .func (fnOf "is_even" "Pattern.is_even" (defArgs s_Pattern_is_even) (defBody s_Pattern_is_even) (defScope s_Pattern_is_even) .none kV_Pattern_is_even dc_Pattern_is_even pm_Pattern_is_even an_Pattern_is_even cd_Pattern_is_even ct_Pattern_is_even), sl_Pattern_is_even⟩)
    (c_Pattern_is_even : codeIn K cd_Pattern_is_even "Pattern.is_even" = true)
    (k_Pattern_is_even : keepIn K (.ref f_Pattern_is_even) = true)
    (a_Pattern_ddlendd : findIn K (.ref C_Pattern) "__len__" = some (some (.ref f_Pattern_ddlendd)))
    (i_Pattern_ddlendd : isFn K (.ref f_Pattern_ddlendd) = true)
    (l_Pattern_ddlendd : K.lookup f_Pattern_ddlendd = some ⟨oc_Pattern_ddlendd, od_Pattern_ddlendd, .func (fnOf "__len__" "Pattern.__len__" (defArgs s_Pattern_ddlendd) (defBody s_Pattern_ddlendd) (defScope s_Pattern_ddlendd) .none kV_Pattern_ddlendd dc_Pattern_ddlendd pm_Pattern_ddlendd an_Pattern_ddlendd cd_Pattern_ddlendd ct_Pattern_ddlendd), sl_Pattern_ddlendd⟩)
    (c_Pattern_ddlendd : codeIn K cd_Pattern_ddlendd "Pattern.__len__" = true)
    (k_Pattern_ddlendd : keepIn K (.ref f_Pattern_ddlendd) = true)
    (a_need_pattern : nsIn K mainGlobals "need_pattern" = some (some (.ref f_need_pattern)))
    (l_need_pattern : K.lookup f_need_pattern = some ⟨oc_need_pattern, od_need_pattern, .func (fnOf "need_pattern" "need_pattern" (defArgs s_need_pattern) (defBody s_need_pattern) (defScope s_need_pattern) .none kV_need_pattern dc_need_pattern pm_need_pattern an_need_pattern cd_need_pattern ct_need_pattern), sl_need_pattern⟩)
    (c_need_pattern : codeIn K cd_need_pattern "need_pattern" = true)
    (k_need_pattern : keepIn K (.ref f_need_pattern) = true)
    (a_picture_of : nsIn K mainGlobals "picture_of" = some (some (.ref f_picture_of)))
    (l_picture_of : K.lookup f_picture_of = some ⟨oc_picture_of, od_picture_of, .func (fnOf "picture_of" "picture_of" (defArgs s_picture_of) (defBody s_picture_of) (defScope s_picture_of) .none kV_picture_of dc_picture_of pm_picture_of an_picture_of cd_picture_of ct_picture_of), sl_picture_of⟩)
    (c_picture_of : codeIn K cd_picture_of "picture_of" = true)
    (k_picture_of : keepIn K (.ref f_picture_of) = true)
    (a_need_few : nsIn K mainGlobals "need_few" = some (some (.ref f_need_few)))
    (l_need_few : K.lookup f_need_few = some ⟨oc_need_few, od_need_few, .func (fnOf "need_few" "need_few" (defArgs s_need_few) (defBody s_need_few) (defScope s_need_few) .none kV_need_few dc_need_few pm_need_few an_need_few cd_need_few ct_need_few), sl_need_few⟩)
    (c_need_few : codeIn K cd_need_few "need_few" = true)
    (k_need_few : keepIn K (.ref f_need_few) = true)
    (a_need_all : nsIn K mainGlobals "need_all" = some (some (.ref f_need_all)))
    (l_need_all : K.lookup f_need_all = some ⟨oc_need_all, od_need_all, .func (fnOf "need_all" "need_all" (defArgs s_need_all) (defBody s_need_all) (defScope s_need_all) .none kV_need_all dc_need_all pm_need_all an_need_all cd_need_all ct_need_all), sl_need_all⟩)
    (c_need_all : codeIn K cd_need_all "need_all" = true)
    (k_need_all : keepIn K (.ref f_need_all) = true)
    (a_can_be_made : nsIn K mainGlobals "can_be_made" = some (some (.ref f_can_be_made)))
    (l_can_be_made : K.lookup f_can_be_made = some ⟨oc_can_be_made, od_can_be_made, .func (fnOf "can_be_made" "can_be_made" (defArgs s_can_be_made) (defBody s_can_be_made) (defScope s_can_be_made) .none kV_can_be_made dc_can_be_made pm_can_be_made an_can_be_made cd_can_be_made ct_can_be_made), sl_can_be_made⟩)
    (c_can_be_made : codeIn K cd_can_be_made "can_be_made" = true)
    (k_can_be_made : keepIn K (.ref f_can_be_made) = true)
    (a_check_motif : nsIn K mainGlobals "check_motif" = some (some (.ref f_check_motif)))
    (l_check_motif : K.lookup f_check_motif = some ⟨oc_check_motif, od_check_motif, .func (fnOf "check_motif" "check_motif" (defArgs s_check_motif) (defBody s_check_motif) (defScope s_check_motif) .none kV_check_motif dc_check_motif pm_check_motif an_check_motif cd_check_motif ct_check_motif), sl_check_motif⟩)
    (c_check_motif : codeIn K cd_check_motif "check_motif" = true)
    (k_check_motif : keepIn K (.ref f_check_motif) = true)
    (a_need_motif : nsIn K mainGlobals "need_motif" = some (some (.ref f_need_motif)))
    (l_need_motif : K.lookup f_need_motif = some ⟨oc_need_motif, od_need_motif, .func (fnOf "need_motif" "need_motif" (defArgs s_need_motif) (defBody s_need_motif) (defScope s_need_motif) .none kV_need_motif dc_need_motif pm_need_motif an_need_motif cd_need_motif ct_need_motif), sl_need_motif⟩)
    (c_need_motif : codeIn K cd_need_motif "need_motif" = true)
    (k_need_motif : keepIn K (.ref f_need_motif) = true)
    (a_most_rows : nsIn K mainGlobals "most_rows" = some (some (.ref f_most_rows)))
    (l_most_rows : K.lookup f_most_rows = some ⟨oc_most_rows, od_most_rows, .func (fnOf "most_rows" "most_rows" (defArgs s_most_rows) (defBody s_most_rows) (defScope s_most_rows) .none kV_most_rows dc_most_rows pm_most_rows an_most_rows cd_most_rows ct_most_rows), sl_most_rows⟩)
    (c_most_rows : codeIn K cd_most_rows "most_rows" = true)
    (k_most_rows : keepIn K (.ref f_most_rows) = true)
    (a_check_loop : nsIn K mainGlobals "check_loop" = some (some (.ref f_check_loop)))
    (l_check_loop : K.lookup f_check_loop = some ⟨oc_check_loop, od_check_loop, .func (fnOf "check_loop" "check_loop" (defArgs s_check_loop) (defBody s_check_loop) (defScope s_check_loop) .none kV_check_loop dc_check_loop pm_check_loop an_check_loop cd_check_loop ct_check_loop), sl_check_loop⟩)
    (c_check_loop : codeIn K cd_check_loop "check_loop" = true)
    (k_check_loop : keepIn K (.ref f_check_loop) = true)
    (a_need_loop : nsIn K mainGlobals "need_loop" = some (some (.ref f_need_loop)))
    (l_need_loop : K.lookup f_need_loop = some ⟨oc_need_loop, od_need_loop, .func (fnOf "need_loop" "need_loop" (defArgs s_need_loop) (defBody s_need_loop) (defScope s_need_loop) .none kV_need_loop dc_need_loop pm_need_loop an_need_loop cd_need_loop ct_need_loop), sl_need_loop⟩)
    (c_need_loop : codeIn K cd_need_loop "need_loop" = true)
    (k_need_loop : keepIn K (.ref f_need_loop) = true)
    (a_begun_as : nsIn K mainGlobals "begun_as" = some (some (.ref f_begun_as)))
    (l_begun_as : K.lookup f_begun_as = some ⟨oc_begun_as, od_begun_as, .func (fnOf "begun_as" "begun_as" (defArgs s_begun_as) (defBody s_begun_as) (defScope s_begun_as) .none kV_begun_as dc_begun_as pm_begun_as an_begun_as cd_begun_as ct_begun_as), sl_begun_as⟩)
    (c_begun_as : codeIn K cd_begun_as "begun_as" = true)
    (k_begun_as : keepIn K (.ref f_begun_as) = true)
    (a_round_in : nsIn K mainGlobals "round_in" = some (some (.ref f_round_in)))
    (l_round_in : K.lookup f_round_in = some ⟨oc_round_in, od_round_in, .func (fnOf "round_in" "round_in" (defArgs s_round_in) (defBody s_round_in) (defScope s_round_in) .none kV_round_in dc_round_in pm_round_in an_round_in cd_round_in ct_round_in), sl_round_in⟩)
    (c_round_in : codeIn K cd_round_in "round_in" = true)
    (k_round_in : keepIn K (.ref f_round_in) = true)
    (a_round_of : nsIn K mainGlobals "round_of" = some (some (.ref f_round_of)))
    (l_round_of : K.lookup f_round_of = some ⟨oc_round_of, od_round_of, .func (fnOf "round_of" "round_of" (defArgs s_round_of) (defBody s_round_of) (defScope s_round_of) .none kV_round_of dc_round_of pm_round_of an_round_of cd_round_of ct_round_of), sl_round_of⟩)
    (c_round_of : codeIn K cd_round_of "round_of" = true)
    (k_round_of : keepIn K (.ref f_round_of) = true)
    (a_seen_round : nsIn K mainGlobals "seen_round" = some (some (.ref f_seen_round)))
    (l_seen_round : K.lookup f_seen_round = some ⟨oc_seen_round, od_seen_round, .func (fnOf "seen_round" "seen_round" (defArgs s_seen_round) (defBody s_seen_round) (defScope s_seen_round) .none kV_seen_round dc_seen_round pm_seen_round an_seen_round cd_seen_round ct_seen_round), sl_seen_round⟩)
    (c_seen_round : codeIn K cd_seen_round "seen_round" = true)
    (k_seen_round : keepIn K (.ref f_seen_round) = true)
    (a_least_shift : nsIn K mainGlobals "least_shift" = some (some (.ref f_least_shift)))
    (l_least_shift : K.lookup f_least_shift = some ⟨oc_least_shift, od_least_shift, .func (fnOf "least_shift" "least_shift" (defArgs s_least_shift) (defBody s_least_shift) (defScope s_least_shift) .none kV_least_shift dc_least_shift pm_least_shift an_least_shift cd_least_shift ct_least_shift), sl_least_shift⟩)
    (c_least_shift : codeIn K cd_least_shift "least_shift" = true)
    (k_least_shift : keepIn K (.ref f_least_shift) = true)
    (a_period_in : nsIn K mainGlobals "period_in" = some (some (.ref f_period_in)))
    (l_period_in : K.lookup f_period_in = some ⟨oc_period_in, od_period_in, .func (fnOf "period_in" "period_in" (defArgs s_period_in) (defBody s_period_in) (defScope s_period_in) .none kV_period_in dc_period_in pm_period_in an_period_in cd_period_in ct_period_in), sl_period_in⟩)
    (c_period_in : codeIn K cd_period_in "period_in" = true)
    (k_period_in : keepIn K (.ref f_period_in) = true)
    (a_period_by : nsIn K mainGlobals "period_by" = some (some (.ref f_period_by)))
    (l_period_by : K.lookup f_period_by = some ⟨oc_period_by, od_period_by, .func (fnOf "period_by" "period_by" (defArgs s_period_by) (defBody s_period_by) (defScope s_period_by) .none kV_period_by dc_period_by pm_period_by an_period_by cd_period_by ct_period_by), sl_period_by⟩)
    (c_period_by : codeIn K cd_period_by "period_by" = true)
    (k_period_by : keepIn K (.ref f_period_by) = true)
    (a_Band_add_row : findIn K (.ref C_Band) "add_row" = some (some (.ref f_Band_add_row)))
    (i_Band_add_row : isFn K (.ref f_Band_add_row) = true)
    (l_Band_add_row : K.lookup f_Band_add_row = some ⟨oc_Band_add_row, od_Band_add_row, .func (fnOf "add_row" "Band.add_row" (defArgs s_Band_add_row) (defBody s_Band_add_row) (defScope s_Band_add_row) .none kV_Band_add_row dc_Band_add_row pm_Band_add_row an_Band_add_row cd_Band_add_row ct_Band_add_row), sl_Band_add_row⟩)
    (c_Band_add_row : codeIn K cd_Band_add_row "Band.add_row" = true)
    (k_Band_add_row : keepIn K (.ref f_Band_add_row) = true)
    (a_Band_put_in : findIn K (.ref C_Band) "put_in" = some (some (.ref f_Band_put_in)))
    (i_Band_put_in : isFn K (.ref f_Band_put_in) = true)
    (l_Band_put_in : K.lookup f_Band_put_in = some ⟨oc_Band_put_in, od_Band_put_in, .func (fnOf "put_in" "Band.put_in" (defArgs s_Band_put_in) (defBody s_Band_put_in) (defScope s_Band_put_in) .none kV_Band_put_in dc_Band_put_in pm_Band_put_in an_Band_put_in cd_Band_put_in ct_Band_put_in), sl_Band_put_in⟩)
    (c_Band_put_in : codeIn K cd_Band_put_in "Band.put_in" = true)
    (k_Band_put_in : keepIn K (.ref f_Band_put_in) = true)
    (a_Band_ddinitdd : findIn K (.ref C_Band) "__init__" = some (some (.ref f_Band_ddinitdd)))
    (i_Band_ddinitdd : isFn K (.ref f_Band_ddinitdd) = true)
    (l_Band_ddinitdd : K.lookup f_Band_ddinitdd = some ⟨oc_Band_ddinitdd, od_Band_ddinitdd, .func (fnOf "__init__" "Band.__init__" (defArgs s_Band_ddinitdd) (defBody s_Band_ddinitdd) (defScope s_Band_ddinitdd) .none kV_Band_ddinitdd dc_Band_ddinitdd pm_Band_ddinitdd an_Band_ddinitdd cd_Band_ddinitdd ct_Band_ddinitdd), sl_Band_ddinitdd⟩)
    (c_Band_ddinitdd : codeIn K cd_Band_ddinitdd "Band.__init__" = true)
    (k_Band_ddinitdd : keepIn K (.ref f_Band_ddinitdd) = true)
    (a_Band_colouring : findIn K (.ref C_Band) "colouring" = some (some (.ref p_Band_colouring)))
    (b_Band_colouring : specialIn K (.ref p_Band_colouring) "__get__" = some (some (.builtin "property.__get__")))
    (t_Band_colouring : takesIn K (.ref p_Band_colouring) = some true)
    (r_Band_colouring : recIn K p_Band_colouring "property" = some (.ref f_Band_colouring :: rest_Band_colouring))
    (l_Band_colouring : K.lookup f_Band_colouring = some ⟨oc_Band_colouring, od_Band_colouring, .func (fnOf "colouring" "Band.colouring" (defArgs s_Band_colouring) (defBody s_Band_colouring) (defScope s_Band_colouring) .none kV_Band_colouring dc_Band_colouring pm_Band_colouring an_Band_colouring cd_Band_colouring ct_Band_colouring), sl_Band_colouring⟩)
    (c_Band_colouring : codeIn K cd_Band_colouring "Band.colouring" = true)
    (k_Band_colouring : keepIn K (.ref f_Band_colouring) = true)
    (a_Band_rows : findIn K (.ref C_Band) "rows" = some (some (.ref p_Band_rows)))
    (b_Band_rows : specialIn K (.ref p_Band_rows) "__get__" = some (some (.builtin "property.__get__")))
    (t_Band_rows : takesIn K (.ref p_Band_rows) = some true)
    (r_Band_rows : recIn K p_Band_rows "property" = some (.ref f_Band_rows :: rest_Band_rows))
    (l_Band_rows : K.lookup f_Band_rows = some ⟨oc_Band_rows, od_Band_rows, .func (fnOf "rows" "Band.rows" (defArgs s_Band_rows) (defBody s_Band_rows) (defScope s_Band_rows) .none kV_Band_rows dc_Band_rows pm_Band_rows an_Band_rows cd_Band_rows ct_Band_rows), sl_Band_rows⟩)
    (c_Band_rows : codeIn K cd_Band_rows "Band.rows" = true)
    (k_Band_rows : keepIn K (.ref f_Band_rows) = true)
    (a_Band_picture : findIn K (.ref C_Band) "picture" = some (some (.ref p_Band_picture)))
    (b_Band_picture : specialIn K (.ref p_Band_picture) "__get__" = some (some (.builtin "property.__get__")))
    (t_Band_picture : takesIn K (.ref p_Band_picture) = some true)
    (r_Band_picture : recIn K p_Band_picture "property" = some (.ref f_Band_picture :: rest_Band_picture))
    (l_Band_picture : K.lookup f_Band_picture = some ⟨oc_Band_picture, od_Band_picture, .func (fnOf "picture" "Band.picture" (defArgs s_Band_picture) (defBody s_Band_picture) (defScope s_Band_picture) .none kV_Band_picture dc_Band_picture pm_Band_picture an_Band_picture cd_Band_picture ct_Band_picture), sl_Band_picture⟩)
    (c_Band_picture : codeIn K cd_Band_picture "Band.picture" = true)
    (k_Band_picture : keepIn K (.ref f_Band_picture) = true)
    (a_Band_stand : findIn K (.ref C_Band) "stand" = some (some (.ref p_Band_stand)))
    (b_Band_stand : specialIn K (.ref p_Band_stand) "__get__" = some (some (.builtin "property.__get__")))
    (t_Band_stand : takesIn K (.ref p_Band_stand) = some true)
    (r_Band_stand : recIn K p_Band_stand "property" = some (.ref f_Band_stand :: rest_Band_stand))
    (l_Band_stand : K.lookup f_Band_stand = some ⟨oc_Band_stand, od_Band_stand, .func (fnOf "stand" "Band.stand" (defArgs s_Band_stand) (defBody s_Band_stand) (defScope s_Band_stand) .none kV_Band_stand dc_Band_stand pm_Band_stand an_Band_stand cd_Band_stand ct_Band_stand), sl_Band_stand⟩)
    (c_Band_stand : codeIn K cd_Band_stand "Band.stand" = true)
    (k_Band_stand : keepIn K (.ref f_Band_stand) = true)
    (a_Band_uses : findIn K (.ref C_Band) "uses" = some (some (.ref p_Band_uses)))
    (b_Band_uses : specialIn K (.ref p_Band_uses) "__get__" = some (some (.builtin "property.__get__")))
    (t_Band_uses : takesIn K (.ref p_Band_uses) = some true)
    (r_Band_uses : recIn K p_Band_uses "property" = some (.ref f_Band_uses :: rest_Band_uses))
    (l_Band_uses : K.lookup f_Band_uses = some ⟨oc_Band_uses, od_Band_uses, .func (fnOf "uses" "Band.uses" (defArgs s_Band_uses) (defBody s_Band_uses) (defScope s_Band_uses) .none kV_Band_uses dc_Band_uses pm_Band_uses an_Band_uses cd_Band_uses ct_Band_uses), sl_Band_uses⟩)
    (c_Band_uses : codeIn K cd_Band_uses "Band.uses" = true)
    (k_Band_uses : keepIn K (.ref f_Band_uses) = true)
    (a_Band_ddcalldd : findIn K (.ref C_Band) "__call__" = some (some (.ref f_Band_ddcalldd)))
    (i_Band_ddcalldd : isFn K (.ref f_Band_ddcalldd) = true)
    (fi_Band_ddcalldd : fnIn K f_Band_ddcalldd = true)
    (l_Band_ddcalldd : K.lookup f_Band_ddcalldd = some ⟨oc_Band_ddcalldd, od_Band_ddcalldd, .func (fnOf "__call__" "Band.__call__" (defArgs s_Band_ddcalldd) (defBody s_Band_ddcalldd) (defScope s_Band_ddcalldd) .none kV_Band_ddcalldd dc_Band_ddcalldd pm_Band_ddcalldd an_Band_ddcalldd cd_Band_ddcalldd ct_Band_ddcalldd), sl_Band_ddcalldd⟩)
    (c_Band_ddcalldd : codeIn K cd_Band_ddcalldd "Band.__call__" = true)
    (k_Band_ddcalldd : keepIn K (.ref f_Band_ddcalldd) = true)
    (a_Band_back : findIn K (.ref C_Band) "back" = some (some (.ref f_Band_back)))
    (i_Band_back : isFn K (.ref f_Band_back) = true)
    (l_Band_back : K.lookup f_Band_back = some ⟨oc_Band_back, od_Band_back, .func (fnOf "back" "Band.back" (defArgs s_Band_back) (defBody s_Band_back) (defScope s_Band_back) .none kV_Band_back dc_Band_back pm_Band_back an_Band_back cd_Band_back ct_Band_back), sl_Band_back⟩)
    (c_Band_back : codeIn K cd_Band_back "Band.back" = true)
    (k_Band_back : keepIn K (.ref f_Band_back) = true)
    (kr_Band_back : kV_Band_back = .ref kD_Band_back)
    (kn_Band_back : nsIn K kD_Band_back "many" = some (some (.int 1 kt_Band_back)))
    (a_need_plain : nsIn K mainGlobals "need_plain" = some (some (.ref f_need_plain)))
    (l_need_plain : K.lookup f_need_plain = some ⟨oc_need_plain, od_need_plain, .func (fnOf "need_plain" "need_plain" (defArgs s_need_plain) (defBody s_need_plain) (defScope s_need_plain) .none kV_need_plain dc_need_plain pm_need_plain an_need_plain cd_need_plain ct_need_plain), sl_need_plain⟩)
    (c_need_plain : codeIn K cd_need_plain "need_plain" = true)
    (k_need_plain : keepIn K (.ref f_need_plain) = true)
    (a_spread : nsIn K mainGlobals "spread" = some (some (.ref f_spread)))
    (l_spread : K.lookup f_spread = some ⟨oc_spread, od_spread, .func (fnOf "spread" "spread" (defArgs s_spread) (defBody s_spread) (defScope s_spread) .none kV_spread dc_spread pm_spread an_spread cd_spread ct_spread), sl_spread⟩)
    (c_spread : codeIn K cd_spread "spread" = true)
    (k_spread : keepIn K (.ref f_spread) = true)
    (a_number_of : nsIn K mainGlobals "number_of" = some (some (.ref f_number_of)))
    (l_number_of : K.lookup f_number_of = some ⟨oc_number_of, od_number_of, .func (fnOf "number_of" "number_of" (defArgs s_number_of) (defBody s_number_of) (defScope s_number_of) .none kV_number_of dc_number_of pm_number_of an_number_of cd_number_of ct_number_of), sl_number_of⟩)
    (c_number_of : codeIn K cd_number_of "number_of" = true)
    (k_number_of : keepIn K (.ref f_number_of) = true)
    (a_joined : nsIn K mainGlobals "joined" = some (some (.ref f_joined)))
    (l_joined : K.lookup f_joined = some ⟨oc_joined, od_joined, .func (fnOf "joined" "joined" (defArgs s_joined) (defBody s_joined) (defScope s_joined) .none kV_joined dc_joined pm_joined an_joined cd_joined ct_joined), sl_joined⟩)
    (c_joined : codeIn K cd_joined "joined" = true)
    (k_joined : keepIn K (.ref f_joined) = true)
    (a_Desk_ddinitdd : findIn K (.ref C_Desk) "__init__" = some (some (.ref f_Desk_ddinitdd)))
    (i_Desk_ddinitdd : isFn K (.ref f_Desk_ddinitdd) = true)
    (l_Desk_ddinitdd : K.lookup f_Desk_ddinitdd = some ⟨oc_Desk_ddinitdd, od_Desk_ddinitdd, .func (fnOf "__init__" "Desk.__init__" (defArgs s_Desk_ddinitdd) (defBody s_Desk_ddinitdd) (defScope s_Desk_ddinitdd) .none kV_Desk_ddinitdd dc_Desk_ddinitdd pm_Desk_ddinitdd an_Desk_ddinitdd cd_Desk_ddinitdd ct_Desk_ddinitdd), sl_Desk_ddinitdd⟩)
    (c_Desk_ddinitdd : codeIn K cd_Desk_ddinitdd "Desk.__init__" = true)
    (k_Desk_ddinitdd : keepIn K (.ref f_Desk_ddinitdd) = true)
    (a_Desk_band : findIn K (.ref C_Desk) "band" = some (some (.ref p_Desk_band)))
    (b_Desk_band : specialIn K (.ref p_Desk_band) "__get__" = some (some (.builtin "property.__get__")))
    (t_Desk_band : takesIn K (.ref p_Desk_band) = some true)
    (r_Desk_band : recIn K p_Desk_band "property" = some (.ref f_Desk_band :: rest_Desk_band))
    (l_Desk_band : K.lookup f_Desk_band = some ⟨oc_Desk_band, od_Desk_band, .func (fnOf "band" "Desk.band" (defArgs s_Desk_band) (defBody s_Desk_band) (defScope s_Desk_band) .none kV_Desk_band dc_Desk_band pm_Desk_band an_Desk_band cd_Desk_band ct_Desk_band), sl_Desk_band⟩)
    (c_Desk_band : codeIn K cd_Desk_band "Desk.band" = true)
    (k_Desk_band : keepIn K (.ref f_Desk_band) = true)
    (a_Desk_pattern : findIn K (.ref C_Desk) "pattern" = some (some (.ref f_Desk_pattern)))
    (i_Desk_pattern : isFn K (.ref f_Desk_pattern) = true)
    (l_Desk_pattern : K.lookup f_Desk_pattern = some ⟨oc_Desk_pattern, od_Desk_pattern, .func (fnOf "pattern" "Desk.pattern" (defArgs s_Desk_pattern) (defBody s_Desk_pattern) (defScope s_Desk_pattern) .none kV_Desk_pattern dc_Desk_pattern pm_Desk_pattern an_Desk_pattern cd_Desk_pattern ct_Desk_pattern), sl_Desk_pattern⟩)
    (c_Desk_pattern : codeIn K cd_Desk_pattern "Desk.pattern" = true)
    (k_Desk_pattern : keepIn K (.ref f_Desk_pattern) = true)
    (a_Desk_knotted : findIn K (.ref C_Desk) "knotted" = some (some (.ref f_Desk_knotted)))
    (i_Desk_knotted : isFn K (.ref f_Desk_knotted) = true)
    (l_Desk_knotted : K.lookup f_Desk_knotted = some ⟨oc_Desk_knotted, od_Desk_knotted, .func (fnOf "knotted" "Desk.knotted" (defArgs s_Desk_knotted) (defBody s_Desk_knotted) (defScope s_Desk_knotted) .none kV_Desk_knotted dc_Desk_knotted pm_Desk_knotted an_Desk_knotted cd_Desk_knotted ct_Desk_knotted), sl_Desk_knotted⟩)
    (c_Desk_knotted : codeIn K cd_Desk_knotted "Desk.knotted" = true)
    (k_Desk_knotted : keepIn K (.ref f_Desk_knotted) = true)
    (a_Desk_taken_back : findIn K (.ref C_Desk) "taken_back" = some (some (.ref f_Desk_taken_back)))
    (i_Desk_taken_back : isFn K (.ref f_Desk_taken_back) = true)
    (l_Desk_taken_back : K.lookup f_Desk_taken_back = some ⟨oc_Desk_taken_back, od_Desk_taken_back, .func (fnOf "taken_back" "Desk.taken_back" (defArgs s_Desk_taken_back) (defBody s_Desk_taken_back) (defScope s_Desk_taken_back) .none kV_Desk_taken_back dc_Desk_taken_back pm_Desk_taken_back an_Desk_taken_back cd_Desk_taken_back ct_Desk_taken_back), sl_Desk_taken_back⟩)
    (c_Desk_taken_back : codeIn K cd_Desk_taken_back "Desk.taken_back" = true)
    (k_Desk_taken_back : keepIn K (.ref f_Desk_taken_back) = true)
    (a_Desk_spread_told : findIn K (.ref C_Desk) "spread_told" = some (some (.ref f_Desk_spread_told)))
    (i_Desk_spread_told : isFn K (.ref f_Desk_spread_told) = true)
    (l_Desk_spread_told : K.lookup f_Desk_spread_told = some ⟨oc_Desk_spread_told, od_Desk_spread_told, .func (fnOf "spread_told" "Desk.spread_told" (defArgs s_Desk_spread_told) (defBody s_Desk_spread_told) (defScope s_Desk_spread_told) .none kV_Desk_spread_told dc_Desk_spread_told pm_Desk_spread_told an_Desk_spread_told cd_Desk_spread_told ct_Desk_spread_told), sl_Desk_spread_told⟩)
    (c_Desk_spread_told : codeIn K cd_Desk_spread_told "Desk.spread_told" = true)
    (k_Desk_spread_told : keepIn K (.ref f_Desk_spread_told) = true)
    (a_Desk_ever_told : findIn K (.ref C_Desk) "ever_told" = some (some (.ref f_Desk_ever_told)))
    (i_Desk_ever_told : isFn K (.ref f_Desk_ever_told) = true)
    (l_Desk_ever_told : K.lookup f_Desk_ever_told = some ⟨oc_Desk_ever_told, od_Desk_ever_told, .func (fnOf "ever_told" "Desk.ever_told" (defArgs s_Desk_ever_told) (defBody s_Desk_ever_told) (defScope s_Desk_ever_told) .none kV_Desk_ever_told dc_Desk_ever_told pm_Desk_ever_told an_Desk_ever_told cd_Desk_ever_told ct_Desk_ever_told), sl_Desk_ever_told⟩)
    (c_Desk_ever_told : codeIn K cd_Desk_ever_told "Desk.ever_told" = true)
    (k_Desk_ever_told : keepIn K (.ref f_Desk_ever_told) = true)
    (a_Desk_made_told : findIn K (.ref C_Desk) "made_told" = some (some (.ref f_Desk_made_told)))
    (i_Desk_made_told : isFn K (.ref f_Desk_made_told) = true)
    (l_Desk_made_told : K.lookup f_Desk_made_told = some ⟨oc_Desk_made_told, od_Desk_made_told, .func (fnOf "made_told" "Desk.made_told" (defArgs s_Desk_made_told) (defBody s_Desk_made_told) (defScope s_Desk_made_told) .none kV_Desk_made_told dc_Desk_made_told pm_Desk_made_told an_Desk_made_told cd_Desk_made_told ct_Desk_made_told), sl_Desk_made_told⟩)
    (c_Desk_made_told : codeIn K cd_Desk_made_told "Desk.made_told" = true)
    (k_Desk_made_told : keepIn K (.ref f_Desk_made_told) = true)
    (a_Desk_alone : findIn K (.ref C_Desk) "alone" = some (some (.ref f_Desk_alone)))
    (i_Desk_alone : isFn K (.ref f_Desk_alone) = true)
    (l_Desk_alone : K.lookup f_Desk_alone = some ⟨oc_Desk_alone, od_Desk_alone, .func (fnOf "alone" "Desk.alone" (defArgs s_Desk_alone) (defBody s_Desk_alone) (defScope s_Desk_alone) .none kV_Desk_alone dc_Desk_alone pm_Desk_alone an_Desk_alone cd_Desk_alone ct_Desk_alone), sl_Desk_alone⟩)
    (c_Desk_alone : codeIn K cd_Desk_alone "Desk.alone" = true)
    (k_Desk_alone : keepIn K (.ref f_Desk_alone) = true)
    (a_Desk_answered : findIn K (.ref C_Desk) "answered" = some (some (.ref f_Desk_answered)))
    (i_Desk_answered : isFn K (.ref f_Desk_answered) = true)
    (l_Desk_answered : K.lookup f_Desk_answered = some ⟨oc_Desk_answered, od_Desk_answered, .func (fnOf "answered" "Desk.answered" (defArgs s_Desk_answered) (defBody s_Desk_answered) (defScope s_Desk_answered) .none kV_Desk_answered dc_Desk_answered pm_Desk_answered an_Desk_answered cd_Desk_answered ct_Desk_answered), sl_Desk_answered⟩)
    (c_Desk_answered : codeIn K cd_Desk_answered "Desk.answered" = true)
    (k_Desk_answered : keepIn K (.ref f_Desk_answered) = true)
    (a_Desk_say : findIn K (.ref C_Desk) "say" = some (some (.ref f_Desk_say)))
    (i_Desk_say : isFn K (.ref f_Desk_say) = true)
    (l_Desk_say : K.lookup f_Desk_say = some ⟨oc_Desk_say, od_Desk_say, .func (fnOf "say" "Desk.say" (defArgs s_Desk_say) (defBody s_Desk_say) (defScope s_Desk_say) .none kV_Desk_say dc_Desk_say pm_Desk_say an_Desk_say cd_Desk_say ct_Desk_say), sl_Desk_say⟩)
    (c_Desk_say : codeIn K cd_Desk_say "Desk.say" = true)
    (k_Desk_say : keepIn K (.ref f_Desk_say) = true)
    (a_law_begun : nsIn K mainGlobals "_law_begun" = some (some (.ref f_law_begun)))
    (l_law_begun : K.lookup f_law_begun = some ⟨oc_law_begun, od_law_begun, .func (fnOf "_law_begun" "_law_begun" (defArgs s_law_begun) (defBody s_law_begun) (defScope s_law_begun) .none kV_law_begun dc_law_begun pm_law_begun an_law_begun cd_law_begun ct_law_begun), sl_law_begun⟩)
    (c_law_begun : codeIn K cd_law_begun "_law_begun" = true)
    (k_law_begun : keepIn K (.ref f_law_begun) = true)
    (a_law_next : nsIn K mainGlobals "_law_next" = some (some (.ref f_law_next)))
    (l_law_next : K.lookup f_law_next = some ⟨oc_law_next, od_law_next, .func (fnOf "_law_next" "_law_next" (defArgs s_law_next) (defBody s_law_next) (defScope s_law_next) .none kV_law_next dc_law_next pm_law_next an_law_next cd_law_next ct_law_next), sl_law_next⟩)
    (c_law_next : codeIn K cd_law_next "_law_next" = true)
    (k_law_next : keepIn K (.ref f_law_next) = true)
    (a_law_is_refused : nsIn K mainGlobals "_law_is_refused" = some (some (.ref f_law_is_refused)))
    (l_law_is_refused : K.lookup f_law_is_refused = some ⟨oc_law_is_refused, od_law_is_refused, .func (fnOf "_law_is_refused" "_law_is_refused" (defArgs s_law_is_refused) (defBody s_law_is_refused) (defScope s_law_is_refused) .none kV_law_is_refused dc_law_is_refused pm_law_is_refused an_law_is_refused cd_law_is_refused ct_law_is_refused), sl_law_is_refused⟩)
    (c_law_is_refused : codeIn K cd_law_is_refused "_law_is_refused" = true)
    (k_law_is_refused : keepIn K (.ref f_law_is_refused) = true)
    (a_law_no_right : nsIn K mainGlobals "_law_no_right" = some (some (.ref f_law_no_right)))
    (l_law_no_right : K.lookup f_law_no_right = some ⟨oc_law_no_right, od_law_no_right, .func (fnOf "_law_no_right" "_law_no_right" (defArgs s_law_no_right) (defBody s_law_no_right) (defScope s_law_no_right) .none kV_law_no_right dc_law_no_right pm_law_no_right an_law_no_right cd_law_no_right ct_law_no_right), sl_law_no_right⟩)
    (c_law_no_right : codeIn K cd_law_no_right "_law_no_right" = true)
    (k_law_no_right : keepIn K (.ref f_law_no_right) = true)
    (a_law_drawn_text : nsIn K mainGlobals "_law_drawn_text" = some (some (.ref f_law_drawn_text)))
    (l_law_drawn_text : K.lookup f_law_drawn_text = some ⟨oc_law_drawn_text, od_law_drawn_text, .func (fnOf "_law_drawn_text" "_law_drawn_text" (defArgs s_law_drawn_text) (defBody s_law_drawn_text) (defScope s_law_drawn_text) .none kV_law_drawn_text dc_law_drawn_text pm_law_drawn_text an_law_drawn_text cd_law_drawn_text ct_law_drawn_text), sl_law_drawn_text⟩)
    (c_law_drawn_text : codeIn K cd_law_drawn_text "_law_drawn_text" = true)
    (k_law_drawn_text : keepIn K (.ref f_law_drawn_text) = true)
    (a_law : nsIn K mainGlobals "law" = some (some (.ref f_law)))
    (l_law : K.lookup f_law = some ⟨oc_law, od_law, .func (fnOf "law" "law" (defArgs s_law) (defBody s_law) (defScope s_law) .none kV_law dc_law pm_law an_law cd_law ct_law), sl_law⟩)
    (c_law : codeIn K cd_law "law" = true)
    (k_law : keepIn K (.ref f_law) = true) :
    ∃ (fd : FuncData) (cl : Str → Addr), (∀ (s : Shared) (v : Value), BindsTo s fd ⟨[v], []⟩ [("_law_script", v)]) ∧ ∀ base : Heap, K.In base → base.Ns mainGlobals mg → FnG true l.prog w K mg base 16 fa fd ["_law_script"] (spD ⟨K, cl⟩ (SRB ⟨K, cl⟩ fun _ => none) 1 (semOf 12 g_law)) := by
  have e := hfa.symm.trans (mg_of X G a_law)
  cases e
  have tx : Tx l.prog w K mg (clOf [("BadStrings", C_BadStrings), ("BadPattern", C_BadPattern), ("BadColouring", C_BadColouring), ("BadPicture", C_BadPicture), ("OutOfPlace", C_OutOfPlace), ("TooGreat", C_TooGreat), ("Nothing", C_Nothing), ("Pattern", C_Pattern), ("Band", C_Band), ("Desk", C_Desk)]) := {
    k_MOST_STRINGS := ⟨t_MOST_STRINGS, mg_of X G k_MOST_STRINGS⟩
    k_MOST_ROWS := ⟨t_MOST_ROWS, mg_of X G k_MOST_ROWS⟩
    k_KNOTS := ⟨t_KNOTS, mg_of X G k_KNOTS⟩
    k_LETTERS := ⟨t_LETTERS, mg_of X G k_LETTERS⟩
    k_MOST_FEW := ⟨t_MOST_FEW, mg_of X G k_MOST_FEW⟩
    k_MORE := ⟨t_MORE, mg_of X G k_MORE⟩
    k_MOST_BAND := ⟨t_MOST_BAND, mg_of X G k_MOST_BAND⟩
    k_FIRST := ⟨t_FIRST, mg_of X G k_FIRST⟩
    k_BARE := ⟨t_BARE, mg_of X G k_BARE⟩
    k_NO := ⟨t_NO, mg_of X G k_NO⟩
    k_DONE := ⟨t_DONE, mg_of X G k_DONE⟩
    k_NONE := ⟨t_NONE, mg_of X G k_NONE⟩
    b_all := mg_none_of X G z_all
    b_bool := mg_none_of X G z_bool
    b_enumerate := mg_none_of X G z_enumerate
    b_int := mg_none_of X G z_int
    b_isinstance := mg_none_of X G z_isinstance
    b_len := mg_none_of X G z_len
    b_list := mg_none_of X G z_list
    b_min := mg_none_of X G z_min
    b_range := mg_none_of X G z_range
    b_str := mg_none_of X G z_str
    b_sum := mg_none_of X G z_sum
    b_tuple := mg_none_of X G z_tuple
    b_zip := mg_none_of X G z_zip
    x_BadStrings := { gC := mg_of X G xn_BadStrings, q := xq_BadStrings, ov := xo_BadStrings, sa := xs_BadStrings, ga := xg_BadStrings, gg := xh_BadStrings, noN := xf_BadStrings, kC := xk_BadStrings, exC := xe_BadStrings, tyC := xt_BadStrings, hdC := xd_BadStrings, subB := xb_BadStrings, sup := xu_BadStrings, anyC := xa_BadStrings, noS := mg_none_of X G xz_BadStrings, cls := cls_of xd_BadStrings, own := xm_BadStrings, top := htop, pr := xp_value, fn := ⟨fI_BadStrings, cda_BadStrings, cc_BadStrings, oc_BadStrings, ccl_BadStrings, cl_BadStrings, od_BadStrings, cdd_BadStrings, cld_BadStrings, doc_BadStrings, pm_BadStrings, ct_BadStrings, an_BadStrings, osl_BadStrings, ccs_BadStrings, csl_BadStrings, qual_BadStrings, msg_BadStrings, file_BadStrings, j_BadStrings, tf_BadStrings, vs_BadStrings, a1_BadStrings, a2_BadStrings, p0_BadStrings, p1_BadStrings, p2_BadStrings, p3_BadStrings, p4_BadStrings, p5_BadStrings, q1_BadStrings, q2_BadStrings, q3_BadStrings, q4_BadStrings, x1_BadStrings, x2_BadStrings, x3_BadStrings, x4_BadStrings, x5_BadStrings, x6_BadStrings, x7_BadStrings, x8_BadStrings, x9_BadStrings⟩ }
    x_BadPattern := { gC := mg_of X G xn_BadPattern, q := xq_BadPattern, ov := xo_BadPattern, sa := xs_BadPattern, ga := xg_BadPattern, gg := xh_BadPattern, noN := xf_BadPattern, kC := xk_BadPattern, exC := xe_BadPattern, tyC := xt_BadPattern, hdC := xd_BadPattern, subB := xb_BadPattern, sup := xu_BadPattern, anyC := xa_BadPattern, noS := mg_none_of X G xz_BadPattern, cls := cls_of xd_BadPattern, own := xm_BadPattern, top := htop, pr := xp_place, fn := ⟨fI_BadPattern, cda_BadPattern, cc_BadPattern, oc_BadPattern, ccl_BadPattern, cl_BadPattern, od_BadPattern, cdd_BadPattern, cld_BadPattern, doc_BadPattern, pm_BadPattern, ct_BadPattern, an_BadPattern, osl_BadPattern, ccs_BadPattern, csl_BadPattern, qual_BadPattern, msg_BadPattern, file_BadPattern, j_BadPattern, tf_BadPattern, vs_BadPattern, a1_BadPattern, a2_BadPattern, p0_BadPattern, p1_BadPattern, p2_BadPattern, p3_BadPattern, p4_BadPattern, p5_BadPattern, q1_BadPattern, q2_BadPattern, q3_BadPattern, q4_BadPattern, x1_BadPattern, x2_BadPattern, x3_BadPattern, x4_BadPattern, x5_BadPattern, x6_BadPattern, x7_BadPattern, x8_BadPattern, x9_BadPattern⟩ }
    x_BadColouring := { gC := mg_of X G xn_BadColouring, q := xq_BadColouring, ov := xo_BadColouring, sa := xs_BadColouring, ga := xg_BadColouring, gg := xh_BadColouring, noN := xf_BadColouring, kC := xk_BadColouring, exC := xe_BadColouring, tyC := xt_BadColouring, hdC := xd_BadColouring, subB := xb_BadColouring, sup := xu_BadColouring, anyC := xa_BadColouring, noS := mg_none_of X G xz_BadColouring, cls := cls_of xd_BadColouring, own := xm_BadColouring, top := htop, pr := xp_value, fn := ⟨fI_BadColouring, cda_BadColouring, cc_BadColouring, oc_BadColouring, ccl_BadColouring, cl_BadColouring, od_BadColouring, cdd_BadColouring, cld_BadColouring, doc_BadColouring, pm_BadColouring, ct_BadColouring, an_BadColouring, osl_BadColouring, ccs_BadColouring, csl_BadColouring, qual_BadColouring, msg_BadColouring, file_BadColouring, j_BadColouring, tf_BadColouring, vs_BadColouring, a1_BadColouring, a2_BadColouring, p0_BadColouring, p1_BadColouring, p2_BadColouring, p3_BadColouring, p4_BadColouring, p5_BadColouring, q1_BadColouring, q2_BadColouring, q3_BadColouring, q4_BadColouring, x1_BadColouring, x2_BadColouring, x3_BadColouring, x4_BadColouring, x5_BadColouring, x6_BadColouring, x7_BadColouring, x8_BadColouring, x9_BadColouring⟩ }
    x_BadPicture := { gC := mg_of X G xn_BadPicture, q := xq_BadPicture, ov := xo_BadPicture, sa := xs_BadPicture, ga := xg_BadPicture, gg := xh_BadPicture, noN := xf_BadPicture, kC := xk_BadPicture, exC := xe_BadPicture, tyC := xt_BadPicture, hdC := xd_BadPicture, subB := xb_BadPicture, sup := xu_BadPicture, anyC := xa_BadPicture, noS := mg_none_of X G xz_BadPicture, cls := cls_of xd_BadPicture, own := xm_BadPicture, top := htop, pr := xp_place, fn := ⟨fI_BadPicture, cda_BadPicture, cc_BadPicture, oc_BadPicture, ccl_BadPicture, cl_BadPicture, od_BadPicture, cdd_BadPicture, cld_BadPicture, doc_BadPicture, pm_BadPicture, ct_BadPicture, an_BadPicture, osl_BadPicture, ccs_BadPicture, csl_BadPicture, qual_BadPicture, msg_BadPicture, file_BadPicture, j_BadPicture, tf_BadPicture, vs_BadPicture, a1_BadPicture, a2_BadPicture, p0_BadPicture, p1_BadPicture, p2_BadPicture, p3_BadPicture, p4_BadPicture, p5_BadPicture, q1_BadPicture, q2_BadPicture, q3_BadPicture, q4_BadPicture, x1_BadPicture, x2_BadPicture, x3_BadPicture, x4_BadPicture, x5_BadPicture, x6_BadPicture, x7_BadPicture, x8_BadPicture, x9_BadPicture⟩ }
    x_OutOfPlace := { gC := mg_of X G xn_OutOfPlace, q := xq_OutOfPlace, ov := xo_OutOfPlace, sa := xs_OutOfPlace, ga := xg_OutOfPlace, gg := xh_OutOfPlace, noN := xf_OutOfPlace, kC := xk_OutOfPlace, exC := xe_OutOfPlace, tyC := xt_OutOfPlace, hdC := xd_OutOfPlace, subB := xb_OutOfPlace, sup := xu_OutOfPlace, anyC := xa_OutOfPlace, noS := mg_none_of X G xz_OutOfPlace, cls := cls_of xd_OutOfPlace, own := xm_OutOfPlace, top := htop, pr := xp_text, fn := ⟨fI_OutOfPlace, cda_OutOfPlace, cc_OutOfPlace, oc_OutOfPlace, ccl_OutOfPlace, cl_OutOfPlace, od_OutOfPlace, cdd_OutOfPlace, cld_OutOfPlace, doc_OutOfPlace, pm_OutOfPlace, ct_OutOfPlace, an_OutOfPlace, osl_OutOfPlace, ccs_OutOfPlace, csl_OutOfPlace, qual_OutOfPlace, msg_OutOfPlace, file_OutOfPlace, j_OutOfPlace, tf_OutOfPlace, vs_OutOfPlace, a1_OutOfPlace, a2_OutOfPlace, p0_OutOfPlace, p1_OutOfPlace, p2_OutOfPlace, p3_OutOfPlace, p4_OutOfPlace, p5_OutOfPlace, q1_OutOfPlace, q2_OutOfPlace, q3_OutOfPlace, q4_OutOfPlace, x1_OutOfPlace, x2_OutOfPlace, x3_OutOfPlace, x4_OutOfPlace, x5_OutOfPlace, x6_OutOfPlace, x7_OutOfPlace, x8_OutOfPlace, x9_OutOfPlace⟩ }
    x_TooGreat := { gC := mg_of X G xn_TooGreat, q := xq_TooGreat, ov := xo_TooGreat, sa := xs_TooGreat, ga := xg_TooGreat, gg := xh_TooGreat, noN := xf_TooGreat, kC := xk_TooGreat, exC := xe_TooGreat, tyC := xt_TooGreat, hdC := xd_TooGreat, subB := xb_TooGreat, sup := xu_TooGreat, anyC := xa_TooGreat, noS := mg_none_of X G xz_TooGreat, cls := cls_of xd_TooGreat, own := xm_TooGreat, top := htop, pr := xp_most, fn := ⟨fI_TooGreat, cda_TooGreat, cc_TooGreat, oc_TooGreat, ccl_TooGreat, cl_TooGreat, od_TooGreat, cdd_TooGreat, cld_TooGreat, doc_TooGreat, pm_TooGreat, ct_TooGreat, an_TooGreat, osl_TooGreat, ccs_TooGreat, csl_TooGreat, qual_TooGreat, msg_TooGreat, file_TooGreat, j_TooGreat, tf_TooGreat, vs_TooGreat, a1_TooGreat, a2_TooGreat, p0_TooGreat, p1_TooGreat, p2_TooGreat, p3_TooGreat, p4_TooGreat, p5_TooGreat, q1_TooGreat, q2_TooGreat, q3_TooGreat, q4_TooGreat, x1_TooGreat, x2_TooGreat, x3_TooGreat, x4_TooGreat, x5_TooGreat, x6_TooGreat, x7_TooGreat, x8_TooGreat, x9_TooGreat⟩ }
    x_Nothing := { gC := mg_of X G xn_Nothing, q := xq_Nothing, ov := xo_Nothing, sa := xs_Nothing, ga := xg_Nothing, gg := xh_Nothing, noN := xf_Nothing, kC := xk_Nothing, exC := xe_Nothing, tyC := xt_Nothing, hdC := xd_Nothing, subB := xb_Nothing, sup := xu_Nothing, anyC := xa_Nothing, noS := mg_none_of X G xz_Nothing, cls := cls_of xd_Nothing, own := xm_Nothing, top := htop, pr := xp_text, fn := ⟨fI_Nothing, cda_Nothing, cc_Nothing, oc_Nothing, ccl_Nothing, cl_Nothing, od_Nothing, cdd_Nothing, cld_Nothing, doc_Nothing, pm_Nothing, ct_Nothing, an_Nothing, osl_Nothing, ccs_Nothing, csl_Nothing, qual_Nothing, msg_Nothing, file_Nothing, j_Nothing, tf_Nothing, vs_Nothing, a1_Nothing, a2_Nothing, p0_Nothing, p1_Nothing, p2_Nothing, p3_Nothing, p4_Nothing, p5_Nothing, q1_Nothing, q2_Nothing, q3_Nothing, q4_Nothing, x1_Nothing, x2_Nothing, x3_Nothing, x4_Nothing, x5_Nothing, x6_Nothing, x7_Nothing, x8_Nothing, x9_Nothing⟩ }
    ex_OutOfPlace := fun n hn => by
      simp only [List.mem_cons, List.not_mem_nil, or_false] at hn
      rcases hn with rfl
      · exact ex_OutOfPlace_OutOfPlace
    c_Pattern := ⟨⟨qg_Pattern, qh_Pattern, qp_Pattern, qs_Pattern⟩, qc_Pattern, qd_Pattern, qt_Pattern, qo_Pattern⟩
    g_Pattern := mg_of X G qn_Pattern
    sf_Pattern := qf_Pattern
    ne_Pattern := qx_Pattern
    rm_Pattern := qr_Pattern
    is_Pattern := fun t ht => by
      simp only [List.mem_cons, List.not_mem_nil, or_false] at ht
      rcases ht with rfl | rfl | rfl | rfl | rfl | rfl | rfl
      · exact qi0_Pattern
      · exact qi1_Pattern
      · exact qi2_Pattern
      · exact qi3_Pattern
      · exact qi4_Pattern
      · exact qi5_Pattern
      · exact qi6_Pattern
    nf_Pattern_own_strings := qf_own_strings_Pattern
    nf_Pattern_own_rows := qf_own_rows_Pattern
    c_Band := ⟨⟨qg_Band, qh_Band, qp_Band, qs_Band⟩, qc_Band, qd_Band, qt_Band, qo_Band⟩
    g_Band := mg_of X G qn_Band
    ne_Band := qx_Band
    is_Band := fun t ht => by
      simp only [List.mem_cons, List.not_mem_nil, or_false] at ht
      rcases ht with rfl | rfl | rfl | rfl | rfl | rfl | rfl
      · exact qi0_Band
      · exact qi1_Band
      · exact qi2_Band
      · exact qi3_Band
      · exact qi4_Band
      · exact qi5_Band
      · exact qi6_Band
    nf_Band_own_colouring := qf_own_colouring_Band
    nf_Band_own_rows := qf_own_rows_Band
    nf_Band_own_order := qf_own_order_Band
    nf_Band_own_seen := qf_own_seen_Band
    c_Desk := ⟨⟨qg_Desk, qh_Desk, qp_Desk, qs_Desk⟩, qc_Desk, qd_Desk, qt_Desk, qo_Desk⟩
    g_Desk := mg_of X G qn_Desk
    ne_Desk := qx_Desk
    is_Desk := fun t ht => by
      simp only [List.mem_cons, List.not_mem_nil, or_false] at ht
      rcases ht with rfl | rfl | rfl | rfl | rfl | rfl | rfl
      · exact qi0_Desk
      · exact qi1_Desk
      · exact qi2_Desk
      · exact qi3_Desk
      · exact qi4_Desk
      · exact qi5_Desk
      · exact qi6_Desk
    nf_Desk_own := qf_own_Desk
    et_Desk_say := fun n hn m hm => by
      simp only [List.append_nil, List.mem_cons, List.not_mem_nil, or_false] at hn hm
      rcases hn with rfl | rfl | rfl | rfl | rfl | rfl | rfl
      · rcases hm with rfl | rfl | rfl | rfl | rfl | rfl | rfl
        · exact ex_BadColouring_BadColouring
        · exact ex_BadPattern_BadColouring
        · exact ex_BadPicture_BadColouring
        · exact ex_BadStrings_BadColouring
        · exact ex_Nothing_BadColouring
        · exact ex_OutOfPlace_BadColouring
        · exact ex_TooGreat_BadColouring
      · rcases hm with rfl | rfl | rfl | rfl | rfl | rfl | rfl
        · exact ex_BadColouring_BadPattern
        · exact ex_BadPattern_BadPattern
        · exact ex_BadPicture_BadPattern
        · exact ex_BadStrings_BadPattern
        · exact ex_Nothing_BadPattern
        · exact ex_OutOfPlace_BadPattern
        · exact ex_TooGreat_BadPattern
      · rcases hm with rfl | rfl | rfl | rfl | rfl | rfl | rfl
        · exact ex_BadColouring_BadPicture
        · exact ex_BadPattern_BadPicture
        · exact ex_BadPicture_BadPicture
        · exact ex_BadStrings_BadPicture
        · exact ex_Nothing_BadPicture
        · exact ex_OutOfPlace_BadPicture
        · exact ex_TooGreat_BadPicture
      · rcases hm with rfl | rfl | rfl | rfl | rfl | rfl | rfl
        · exact ex_BadColouring_BadStrings
        · exact ex_BadPattern_BadStrings
        · exact ex_BadPicture_BadStrings
        · exact ex_BadStrings_BadStrings
        · exact ex_Nothing_BadStrings
        · exact ex_OutOfPlace_BadStrings
        · exact ex_TooGreat_BadStrings
      · rcases hm with rfl | rfl | rfl | rfl | rfl | rfl | rfl
        · exact ex_BadColouring_Nothing
        · exact ex_BadPattern_Nothing
        · exact ex_BadPicture_Nothing
        · exact ex_BadStrings_Nothing
        · exact ex_Nothing_Nothing
        · exact ex_OutOfPlace_Nothing
        · exact ex_TooGreat_Nothing
      · rcases hm with rfl | rfl | rfl | rfl | rfl | rfl | rfl
        · exact ex_BadColouring_OutOfPlace
        · exact ex_BadPattern_OutOfPlace
        · exact ex_BadPicture_OutOfPlace
        · exact ex_BadStrings_OutOfPlace
        · exact ex_Nothing_OutOfPlace
        · exact ex_OutOfPlace_OutOfPlace
        · exact ex_TooGreat_OutOfPlace
      · rcases hm with rfl | rfl | rfl | rfl | rfl | rfl | rfl
        · exact ex_BadColouring_TooGreat
        · exact ex_BadPattern_TooGreat
        · exact ex_BadPicture_TooGreat
        · exact ex_BadStrings_TooGreat
        · exact ex_Nothing_TooGreat
        · exact ex_OutOfPlace_TooGreat
        · exact ex_TooGreat_TooGreat }
  have F_is_whole := fun_mk (st := s_is_whole) l_is_whole c_is_whole k_is_whole
  have b_is_whole := F_is_whole.binds (ps := ["thing", "least", "most"]) fun _ _ _ _ _ _ us hl => match us, hl with | [_, _, _], _ => rfl
  have F_need_strings := fun_mk (st := s_need_strings) l_need_strings c_need_strings k_need_strings
  have b_need_strings := F_need_strings.binds (ps := ["strings"]) fun _ _ _ _ _ _ us hl => match us, hl with | [_], _ => rfl
  have F_places_in := fun_mk (st := s_places_in) l_places_in c_places_in k_places_in
  have b_places_in := F_places_in.binds (ps := ["strings", "row"]) fun _ _ _ _ _ _ us hl => match us, hl with | [_, _], _ => rfl
  have F_many_in := fun_mk (st := s_many_in) l_many_in c_many_in k_many_in
  have b_many_in := F_many_in.binds (ps := ["strings", "row"]) fun _ _ _ _ _ _ us hl => match us, hl with | [_, _], _ => rfl
  have F_is_text := fun_mk (st := s_is_text) l_is_text c_is_text k_is_text
  have b_is_text := F_is_text.binds (ps := ["thing", "many", "signs"]) fun _ _ _ _ _ _ us hl => match us, hl with | [_, _, _], _ => rfl
  have F_is_colouring := fun_mk (st := s_is_colouring) l_is_colouring c_is_colouring k_is_colouring
  have b_is_colouring := F_is_colouring.binds (ps := ["strings", "thing"]) fun _ _ _ _ _ _ us hl => match us, hl with | [_, _], _ => rfl
  have F_colouring_of := fun_mk (st := s_colouring_of) l_colouring_of c_colouring_of k_colouring_of
  have b_colouring_of := F_colouring_of.binds (ps := ["strings", "thing"]) fun _ _ _ _ _ _ us hl => match us, hl with | [_, _], _ => rfl
  have F_row_fault := fun_mk (st := s_row_fault) l_row_fault c_row_fault k_row_fault
  have b_row_fault := F_row_fault.binds (ps := ["strings", "number", "thing"]) fun _ _ _ _ _ _ us hl => match us, hl with | [_, _, _], _ => rfl
  have F_knotted := fun_mk (st := s_knotted) l_knotted c_knotted k_knotted
  have b_knotted := F_knotted.binds (ps := ["row", "number", "things"]) fun _ _ _ _ _ _ us hl => match us, hl with | [_, _, _], _ => rfl
  have F_seen_in := fun_mk (st := s_seen_in) l_seen_in c_seen_in k_seen_in
  have b_seen_in := F_seen_in.binds (ps := ["row", "number", "things"]) fun _ _ _ _ _ _ us hl => match us, hl with | [_, _, _], _ => rfl
  have F_seen_through := fun_mk (st := s_seen_through) l_seen_through c_seen_through k_seen_through
  have b_seen_through := F_seen_through.binds (ps := ["rows", "things"]) fun _ _ _ _ _ _ us hl => match us, hl with | [_, _], _ => rfl
  have F_Pattern_ddinitdd := fun_mk (st := s_Pattern_ddinitdd) l_Pattern_ddinitdd c_Pattern_ddinitdd k_Pattern_ddinitdd
  have b_Pattern_ddinitdd := F_Pattern_ddinitdd.binds (ps := ["self", "strings", "rows"]) fun _ _ _ _ _ _ us hl => match us, hl with | [_, _, _], _ => rfl
  have F_Pattern_strings := fun_mk (st := s_Pattern_strings) l_Pattern_strings c_Pattern_strings k_Pattern_strings
  have bd_Pattern_strings := F_Pattern_strings.binds (ps := ["self"]) fun _ _ _ _ _ _ us hl => match us, hl with | [_], _ => rfl
  have F_Pattern_order := fun_mk (st := s_Pattern_order) l_Pattern_order c_Pattern_order k_Pattern_order
  have bd_Pattern_order := F_Pattern_order.binds (ps := ["self"]) fun _ _ _ _ _ _ us hl => match us, hl with | [_], _ => rfl
  have F_Pattern_seen := fun_mk (st := s_Pattern_seen) l_Pattern_seen c_Pattern_seen k_Pattern_seen
  have bd_Pattern_seen := F_Pattern_seen.binds (ps := ["self"]) fun _ _ _ _ _ _ us hl => match us, hl with | [_], _ => rfl
  have F_Pattern_is_even := fun_mk (st := s_Pattern_is_even) l_Pattern_is_even c_Pattern_is_even k_Pattern_is_even
  have bd_Pattern_is_even := F_Pattern_is_even.binds (ps := ["self"]) fun _ _ _ _ _ _ us hl => match us, hl with | [_], _ => rfl
  have F_Pattern_ddlendd := fun_mk (st := s_Pattern_ddlendd) l_Pattern_ddlendd c_Pattern_ddlendd k_Pattern_ddlendd
  have b_Pattern_ddlendd := F_Pattern_ddlendd.binds (ps := ["self"]) fun _ _ _ _ _ _ us hl => match us, hl with | [_], _ => rfl
  have F_need_pattern := fun_mk (st := s_need_pattern) l_need_pattern c_need_pattern k_need_pattern
  have b_need_pattern := F_need_pattern.binds (ps := ["thing"]) fun _ _ _ _ _ _ us hl => match us, hl with | [_], _ => rfl
  have F_picture_of := fun_mk (st := s_picture_of) l_picture_of c_picture_of k_picture_of
  have b_picture_of := F_picture_of.binds (ps := ["strings", "thing"]) fun _ _ _ _ _ _ us hl => match us, hl with | [_, _], _ => rfl
  have F_need_few := fun_mk (st := s_need_few) l_need_few c_need_few k_need_few
  have b_need_few := F_need_few.binds (ps := ["strings"]) fun _ _ _ _ _ _ us hl => match us, hl with | [_], _ => rfl
  have F_need_all := fun_mk (st := s_need_all) l_need_all c_need_all k_need_all
  have b_need_all := F_need_all.binds (ps := ["strings", "picture", "colouring"]) fun _ _ _ _ _ _ us hl => match us, hl with | [_, _, _], _ => rfl
  have F_can_be_made := fun_mk (st := s_can_be_made) l_can_be_made c_can_be_made k_can_be_made
  have b_can_be_made := F_can_be_made.binds (ps := ["strings", "picture", "colouring"]) fun _ _ _ _ _ _ us hl => match us, hl with | [_, _, _], _ => rfl
  have F_check_motif := fun_mk (st := s_check_motif) l_check_motif c_check_motif k_check_motif
  have b_check_motif := F_check_motif.binds (ps := ["motif"]) fun _ _ _ _ _ _ us hl => match us, hl with | [_], _ => rfl
  have F_need_motif := fun_mk (st := s_need_motif) l_need_motif c_need_motif k_need_motif
  have b_need_motif := F_need_motif.binds (ps := ["strings", "motif", "colouring"]) fun _ _ _ _ _ _ us hl => match us, hl with | [_, _, _], _ => rfl
  have F_most_rows := fun_mk (st := s_most_rows) l_most_rows c_most_rows k_most_rows
  have b_most_rows := F_most_rows.binds (ps := ["strings", "motif", "colouring"]) fun _ _ _ _ _ _ us hl => match us, hl with | [_, _, _], _ => rfl
  have F_check_loop := fun_mk (st := s_check_loop) l_check_loop c_check_loop k_check_loop
  have b_check_loop := F_check_loop.binds (ps := ["loop"]) fun _ _ _ _ _ _ us hl => match us, hl with | [_], _ => rfl
  have F_need_loop := fun_mk (st := s_need_loop) l_need_loop c_need_loop k_need_loop
  have b_need_loop := F_need_loop.binds (ps := ["loop"]) fun _ _ _ _ _ _ us hl => match us, hl with | [_], _ => rfl
  have F_begun_as := fun_mk (st := s_begun_as) l_begun_as c_begun_as k_begun_as
  have b_begun_as := F_begun_as.binds (ps := ["order", "things"]) fun _ _ _ _ _ _ us hl => match us, hl with | [_, _], _ => rfl
  have F_round_in := fun_mk (st := s_round_in) l_round_in c_round_in k_round_in
  have b_round_in := F_round_in.binds (ps := ["loop"]) fun _ _ _ _ _ _ us hl => match us, hl with | [_], _ => rfl
  have F_round_of := fun_mk (st := s_round_of) l_round_of c_round_of k_round_of
  have b_round_of := F_round_of.binds (ps := ["loop"]) fun _ _ _ _ _ _ us hl => match us, hl with | [_], _ => rfl
  have F_seen_round := fun_mk (st := s_seen_round) l_seen_round c_seen_round k_seen_round
  have b_seen_round := F_seen_round.binds (ps := ["loop"]) fun _ _ _ _ _ _ us hl => match us, hl with | [_], _ => rfl
  have F_least_shift := fun_mk (st := s_least_shift) l_least_shift c_least_shift k_least_shift
  have b_least_shift := F_least_shift.binds (ps := ["rows"]) fun _ _ _ _ _ _ us hl => match us, hl with | [_], _ => rfl
  have F_period_in := fun_mk (st := s_period_in) l_period_in c_period_in k_period_in
  have b_period_in := F_period_in.binds (ps := ["loop", "colouring"]) fun _ _ _ _ _ _ us hl => match us, hl with | [_, _], _ => rfl
  have F_period_by := fun_mk (st := s_period_by) l_period_by c_period_by k_period_by
  have b_period_by := F_period_by.binds (ps := ["loop", "colouring"]) fun _ _ _ _ _ _ us hl => match us, hl with | [_, _], _ => rfl
  have F_Band_add_row := fun_mk (st := s_Band_add_row) l_Band_add_row c_Band_add_row k_Band_add_row
  have b_Band_add_row := F_Band_add_row.binds (ps := ["self", "row"]) fun _ _ _ _ _ _ us hl => match us, hl with | [_, _], _ => rfl
  have F_Band_put_in := fun_mk (st := s_Band_put_in) l_Band_put_in c_Band_put_in k_Band_put_in
  have b_Band_put_in := F_Band_put_in.binds (ps := ["self", "rows"]) fun _ _ _ _ _ _ us hl => match us, hl with | [_, _], _ => rfl
  have F_Band_ddinitdd := fun_mk (st := s_Band_ddinitdd) l_Band_ddinitdd c_Band_ddinitdd k_Band_ddinitdd
  have b_Band_ddinitdd := F_Band_ddinitdd.binds (ps := ["self", "colouring"]) fun _ _ _ _ _ _ us hl => match us, hl with | [_, _], _ => rfl
  have F_Band_colouring := fun_mk (st := s_Band_colouring) l_Band_colouring c_Band_colouring k_Band_colouring
  have bd_Band_colouring := F_Band_colouring.binds (ps := ["self"]) fun _ _ _ _ _ _ us hl => match us, hl with | [_], _ => rfl
  have F_Band_rows := fun_mk (st := s_Band_rows) l_Band_rows c_Band_rows k_Band_rows
  have bd_Band_rows := F_Band_rows.binds (ps := ["self"]) fun _ _ _ _ _ _ us hl => match us, hl with | [_], _ => rfl
  have F_Band_picture := fun_mk (st := s_Band_picture) l_Band_picture c_Band_picture k_Band_picture
  have bd_Band_picture := F_Band_picture.binds (ps := ["self"]) fun _ _ _ _ _ _ us hl => match us, hl with | [_], _ => rfl
  have F_Band_stand := fun_mk (st := s_Band_stand) l_Band_stand c_Band_stand k_Band_stand
  have bd_Band_stand := F_Band_stand.binds (ps := ["self"]) fun _ _ _ _ _ _ us hl => match us, hl with | [_], _ => rfl
  have F_Band_uses := fun_mk (st := s_Band_uses) l_Band_uses c_Band_uses k_Band_uses
  have bd_Band_uses := F_Band_uses.binds (ps := ["self"]) fun _ _ _ _ _ _ us hl => match us, hl with | [_], _ => rfl
  have F_Band_ddcalldd := fun_mk (st := s_Band_ddcalldd) l_Band_ddcalldd c_Band_ddcalldd k_Band_ddcalldd
  have b_Band_ddcalldd := F_Band_ddcalldd.binds (ps := ["self", "row"]) fun _ _ _ _ _ _ us hl => match us, hl with | [_, _], _ => rfl
  have F_Band_back := fun_mk (st := s_Band_back) l_Band_back c_Band_back k_Band_back
  have F_need_plain := fun_mk (st := s_need_plain) l_need_plain c_need_plain k_need_plain
  have b_need_plain := F_need_plain.binds (ps := ["strings", "picture"]) fun _ _ _ _ _ _ us hl => match us, hl with | [_, _], _ => rfl
  have F_spread := fun_mk (st := s_spread) l_spread c_spread k_spread
  have b_spread := F_spread.binds (ps := ["strings", "picture"]) fun _ _ _ _ _ _ us hl => match us, hl with | [_, _], _ => rfl
  have F_number_of := fun_mk (st := s_number_of) l_number_of c_number_of k_number_of
  have b_number_of := F_number_of.binds (ps := ["word"]) fun _ _ _ _ _ _ us hl => match us, hl with | [_], _ => rfl
  have F_joined := fun_mk (st := s_joined) l_joined c_joined k_joined
  have b_joined := F_joined.binds (ps := ["rows"]) fun _ _ _ _ _ _ us hl => match us, hl with | [_], _ => rfl
  have F_Desk_ddinitdd := fun_mk (st := s_Desk_ddinitdd) l_Desk_ddinitdd c_Desk_ddinitdd k_Desk_ddinitdd
  have b_Desk_ddinitdd := F_Desk_ddinitdd.binds (ps := ["self"]) fun _ _ _ _ _ _ us hl => match us, hl with | [_], _ => rfl
  have F_Desk_band := fun_mk (st := s_Desk_band) l_Desk_band c_Desk_band k_Desk_band
  have bd_Desk_band := F_Desk_band.binds (ps := ["self"]) fun _ _ _ _ _ _ us hl => match us, hl with | [_], _ => rfl
  have F_Desk_pattern := fun_mk (st := s_Desk_pattern) l_Desk_pattern c_Desk_pattern k_Desk_pattern
  have b_Desk_pattern := F_Desk_pattern.binds (ps := ["self"]) fun _ _ _ _ _ _ us hl => match us, hl with | [_], _ => rfl
  have F_Desk_knotted := fun_mk (st := s_Desk_knotted) l_Desk_knotted c_Desk_knotted k_Desk_knotted
  have b_Desk_knotted := F_Desk_knotted.binds (ps := ["self", "word"]) fun _ _ _ _ _ _ us hl => match us, hl with | [_, _], _ => rfl
  have F_Desk_taken_back := fun_mk (st := s_Desk_taken_back) l_Desk_taken_back c_Desk_taken_back k_Desk_taken_back
  have b_Desk_taken_back := F_Desk_taken_back.binds (ps := ["self", "words"]) fun _ _ _ _ _ _ us hl => match us, hl with | [_, _], _ => rfl
  have F_Desk_spread_told := fun_mk (st := s_Desk_spread_told) l_Desk_spread_told c_Desk_spread_told k_Desk_spread_told
  have b_Desk_spread_told := F_Desk_spread_told.binds (ps := ["self"]) fun _ _ _ _ _ _ us hl => match us, hl with | [_], _ => rfl
  have F_Desk_ever_told := fun_mk (st := s_Desk_ever_told) l_Desk_ever_told c_Desk_ever_told k_Desk_ever_told
  have b_Desk_ever_told := F_Desk_ever_told.binds (ps := ["self"]) fun _ _ _ _ _ _ us hl => match us, hl with | [_], _ => rfl
  have F_Desk_made_told := fun_mk (st := s_Desk_made_told) l_Desk_made_told c_Desk_made_told k_Desk_made_told
  have b_Desk_made_told := F_Desk_made_told.binds (ps := ["self", "word"]) fun _ _ _ _ _ _ us hl => match us, hl with | [_, _], _ => rfl
  have F_Desk_alone := fun_mk (st := s_Desk_alone) l_Desk_alone c_Desk_alone k_Desk_alone
  have b_Desk_alone := F_Desk_alone.binds (ps := ["self", "word"]) fun _ _ _ _ _ _ us hl => match us, hl with | [_, _], _ => rfl
  have F_Desk_answered := fun_mk (st := s_Desk_answered) l_Desk_answered c_Desk_answered k_Desk_answered
  have b_Desk_answered := F_Desk_answered.binds (ps := ["self", "words"]) fun _ _ _ _ _ _ us hl => match us, hl with | [_, _], _ => rfl
  have F_Desk_say := fun_mk (st := s_Desk_say) l_Desk_say c_Desk_say k_Desk_say
  have b_Desk_say := F_Desk_say.binds (ps := ["self", "line"]) fun _ _ _ _ _ _ us hl => match us, hl with | [_, _], _ => rfl
  have F_law_begun := fun_mk (st := s_law_begun) l_law_begun c_law_begun k_law_begun
  have b_law_begun := F_law_begun.binds (ps := ["_law_script"]) fun _ _ _ _ _ _ us hl => match us, hl with | [_], _ => rfl
  have F_law_next := fun_mk (st := s_law_next) l_law_next c_law_next k_law_next
  have b_law_next := F_law_next.binds (ps := ["_law_m", "_law_total"]) fun _ _ _ _ _ _ us hl => match us, hl with | [_, _], _ => rfl
  have F_law_is_refused := fun_mk (st := s_law_is_refused) l_law_is_refused c_law_is_refused k_law_is_refused
  have b_law_is_refused := F_law_is_refused.binds (ps := ["_law_desk", "_law_thing"]) fun _ _ _ _ _ _ us hl => match us, hl with | [_, _], _ => rfl
  have F_law_no_right := fun_mk (st := s_law_no_right) l_law_no_right c_law_no_right k_law_no_right
  have b_law_no_right := F_law_no_right.binds (ps := ["_law_desk", "_law_kept"]) fun _ _ _ _ _ _ us hl => match us, hl with | [_, _], _ => rfl
  have F_law_drawn_text := fun_mk (st := s_law_drawn_text) l_law_drawn_text c_law_drawn_text k_law_drawn_text
  have b_law_drawn_text := F_law_drawn_text.binds (ps := ["_law_m"]) fun _ _ _ _ _ _ us hl => match us, hl with | [_], _ => rfl
  have F_law := fun_mk (st := s_law) l_law c_law k_law
  refine ⟨fnOf "law" "law" (defArgs s_law) (defBody s_law) (defScope s_law) .none kV_law dc_law pm_law an_law cd_law ct_law, clOf [("BadStrings", C_BadStrings), ("BadPattern", C_BadPattern), ("BadColouring", C_BadColouring), ("BadPicture", C_BadPicture), ("OutOfPlace", C_OutOfPlace), ("TooGreat", C_TooGreat), ("Nothing", C_Nothing), ("Pattern", C_Pattern), ("Band", C_Band), ("Desk", C_Desk)], fun s v => .of_eq rfl, fun base _ _ => ?_⟩
  have d_is_whole : Dfn false l.prog w K mg base 1 "is_whole" (spD ⟨K, (clOf [("BadStrings", C_BadStrings), ("BadPattern", C_BadPattern), ("BadColouring", C_BadColouring), ("BadPicture", C_BadPicture), ("OutOfPlace", C_OutOfPlace), ("TooGreat", C_TooGreat), ("Nothing", C_Nothing), ("Pattern", C_Pattern), ("Band", C_Band), ("Desk", C_Desk)])⟩ (SRB ⟨K, (clOf [("BadStrings", C_BadStrings), ("BadPattern", C_BadPattern), ("BadColouring", C_BadColouring), ("BadPicture", C_BadPicture), ("OutOfPlace", C_OutOfPlace), ("TooGreat", C_TooGreat), ("Nothing", C_Nothing), ("Pattern", C_Pattern), ("Band", C_Band), ("Desk", C_Desk)])⟩ (fun _ => none)) 3 (semOf 3 g_is_whole)) := ⟨f_is_whole, _, _, ok_is_whole F_is_whole tx , mg_of X G a_is_whole, k_is_whole, b_is_whole⟩
  have d_need_strings : Dfn false l.prog w K mg base 2 "need_strings" (spD ⟨K, (clOf [("BadStrings", C_BadStrings), ("BadPattern", C_BadPattern), ("BadColouring", C_BadColouring), ("BadPicture", C_BadPicture), ("OutOfPlace", C_OutOfPlace), ("TooGreat", C_TooGreat), ("Nothing", C_Nothing), ("Pattern", C_Pattern), ("Band", C_Band), ("Desk", C_Desk)])⟩ (SRB ⟨K, (clOf [("BadStrings", C_BadStrings), ("BadPattern", C_BadPattern), ("BadColouring", C_BadColouring), ("BadPicture", C_BadPicture), ("OutOfPlace", C_OutOfPlace), ("TooGreat", C_TooGreat), ("Nothing", C_Nothing), ("Pattern", C_Pattern), ("Band", C_Band), ("Desk", C_Desk)])⟩ (fun _ => none)) 1 (semOf 1 g_need_strings)) := ⟨f_need_strings, _, _, ok_need_strings F_need_strings tx d_is_whole, mg_of X G a_need_strings, k_need_strings, b_need_strings⟩
  have d_places_in : Dfn false l.prog w K mg base 1 "places_in" (spD ⟨K, (clOf [("BadStrings", C_BadStrings), ("BadPattern", C_BadPattern), ("BadColouring", C_BadColouring), ("BadPicture", C_BadPicture), ("OutOfPlace", C_OutOfPlace), ("TooGreat", C_TooGreat), ("Nothing", C_Nothing), ("Pattern", C_Pattern), ("Band", C_Band), ("Desk", C_Desk)])⟩ (SRB ⟨K, (clOf [("BadStrings", C_BadStrings), ("BadPattern", C_BadPattern), ("BadColouring", C_BadColouring), ("BadPicture", C_BadPicture), ("OutOfPlace", C_OutOfPlace), ("TooGreat", C_TooGreat), ("Nothing", C_Nothing), ("Pattern", C_Pattern), ("Band", C_Band), ("Desk", C_Desk)])⟩ (fun _ => none)) 2 (semOf 2 g_places_in)) := ⟨f_places_in, _, _, ok_places_in F_places_in tx , mg_of X G a_places_in, k_places_in, b_places_in⟩
  have d_many_in : Dfn false l.prog w K mg base 2 "many_in" (spD ⟨K, (clOf [("BadStrings", C_BadStrings), ("BadPattern", C_BadPattern), ("BadColouring", C_BadColouring), ("BadPicture", C_BadPicture), ("OutOfPlace", C_OutOfPlace), ("TooGreat", C_TooGreat), ("Nothing", C_Nothing), ("Pattern", C_Pattern), ("Band", C_Band), ("Desk", C_Desk)])⟩ (SRB ⟨K, (clOf [("BadStrings", C_BadStrings), ("BadPattern", C_BadPattern), ("BadColouring", C_BadColouring), ("BadPicture", C_BadPicture), ("OutOfPlace", C_OutOfPlace), ("TooGreat", C_TooGreat), ("Nothing", C_Nothing), ("Pattern", C_Pattern), ("Band", C_Band), ("Desk", C_Desk)])⟩ (fun _ => none)) 2 (semOf 2 g_many_in)) := ⟨f_many_in, _, _, ok_many_in F_many_in tx d_places_in, mg_of X G a_many_in, k_many_in, b_many_in⟩
  have d_is_text : Dfn false l.prog w K mg base 1 "is_text" (spD ⟨K, (clOf [("BadStrings", C_BadStrings), ("BadPattern", C_BadPattern), ("BadColouring", C_BadColouring), ("BadPicture", C_BadPicture), ("OutOfPlace", C_OutOfPlace), ("TooGreat", C_TooGreat), ("Nothing", C_Nothing), ("Pattern", C_Pattern), ("Band", C_Band), ("Desk", C_Desk)])⟩ (SRB ⟨K, (clOf [("BadStrings", C_BadStrings), ("BadPattern", C_BadPattern), ("BadColouring", C_BadColouring), ("BadPicture", C_BadPicture), ("OutOfPlace", C_OutOfPlace), ("TooGreat", C_TooGreat), ("Nothing", C_Nothing), ("Pattern", C_Pattern), ("Band", C_Band), ("Desk", C_Desk)])⟩ (fun _ => none)) 3 (semOf 4 g_is_text)) := ⟨f_is_text, _, _, ok_is_text F_is_text tx , mg_of X G a_is_text, k_is_text, b_is_text⟩
  have d_is_colouring : Dfn false l.prog w K mg base 2 "is_colouring" (spD ⟨K, (clOf [("BadStrings", C_BadStrings), ("BadPattern", C_BadPattern), ("BadColouring", C_BadColouring), ("BadPicture", C_BadPicture), ("OutOfPlace", C_OutOfPlace), ("TooGreat", C_TooGreat), ("Nothing", C_Nothing), ("Pattern", C_Pattern), ("Band", C_Band), ("Desk", C_Desk)])⟩ (SRB ⟨K, (clOf [("BadStrings", C_BadStrings), ("BadPattern", C_BadPattern), ("BadColouring", C_BadColouring), ("BadPicture", C_BadPicture), ("OutOfPlace", C_OutOfPlace), ("TooGreat", C_TooGreat), ("Nothing", C_Nothing), ("Pattern", C_Pattern), ("Band", C_Band), ("Desk", C_Desk)])⟩ (fun _ => none)) 2 (semOf 2 g_is_colouring)) := ⟨f_is_colouring, _, _, ok_is_colouring F_is_colouring tx d_is_text, mg_of X G a_is_colouring, k_is_colouring, b_is_colouring⟩
  have d_colouring_of : Dfn false l.prog w K mg base 3 "colouring_of" (spD ⟨K, (clOf [("BadStrings", C_BadStrings), ("BadPattern", C_BadPattern), ("BadColouring", C_BadColouring), ("BadPicture", C_BadPicture), ("OutOfPlace", C_OutOfPlace), ("TooGreat", C_TooGreat), ("Nothing", C_Nothing), ("Pattern", C_Pattern), ("Band", C_Band), ("Desk", C_Desk)])⟩ (SRB ⟨K, (clOf [("BadStrings", C_BadStrings), ("BadPattern", C_BadPattern), ("BadColouring", C_BadColouring), ("BadPicture", C_BadPicture), ("OutOfPlace", C_OutOfPlace), ("TooGreat", C_TooGreat), ("Nothing", C_Nothing), ("Pattern", C_Pattern), ("Band", C_Band), ("Desk", C_Desk)])⟩ (fun _ => none)) 2 (semOf 2 g_colouring_of)) := ⟨f_colouring_of, _, _, ok_colouring_of F_colouring_of tx d_is_colouring, mg_of X G a_colouring_of, k_colouring_of, b_colouring_of⟩
  have d_row_fault : Dfn false l.prog w K mg base 3 "row_fault" (spD ⟨K, (clOf [("BadStrings", C_BadStrings), ("BadPattern", C_BadPattern), ("BadColouring", C_BadColouring), ("BadPicture", C_BadPicture), ("OutOfPlace", C_OutOfPlace), ("TooGreat", C_TooGreat), ("Nothing", C_Nothing), ("Pattern", C_Pattern), ("Band", C_Band), ("Desk", C_Desk)])⟩ (SRB ⟨K, (clOf [("BadStrings", C_BadStrings), ("BadPattern", C_BadPattern), ("BadColouring", C_BadColouring), ("BadPicture", C_BadPicture), ("OutOfPlace", C_OutOfPlace), ("TooGreat", C_TooGreat), ("Nothing", C_Nothing), ("Pattern", C_Pattern), ("Band", C_Band), ("Desk", C_Desk)])⟩ (fun _ => none)) 3 (semOf 6 g_row_fault)) := ⟨f_row_fault, _, _, ok_row_fault F_row_fault tx d_many_in, mg_of X G a_row_fault, k_row_fault, b_row_fault⟩
  have d_knotted : Dfn false l.prog w K mg base 2 "knotted" (spD ⟨K, (clOf [("BadStrings", C_BadStrings), ("BadPattern", C_BadPattern), ("BadColouring", C_BadColouring), ("BadPicture", C_BadPicture), ("OutOfPlace", C_OutOfPlace), ("TooGreat", C_TooGreat), ("Nothing", C_Nothing), ("Pattern", C_Pattern), ("Band", C_Band), ("Desk", C_Desk)])⟩ (SRB ⟨K, (clOf [("BadStrings", C_BadStrings), ("BadPattern", C_BadPattern), ("BadColouring", C_BadColouring), ("BadPicture", C_BadPicture), ("OutOfPlace", C_OutOfPlace), ("TooGreat", C_TooGreat), ("Nothing", C_Nothing), ("Pattern", C_Pattern), ("Band", C_Band), ("Desk", C_Desk)])⟩ (fun _ => none)) 3 (semOf 6 g_knotted)) := ⟨f_knotted, _, _, ok_knotted F_knotted tx d_places_in, mg_of X G a_knotted, k_knotted, b_knotted⟩
  have d_seen_in : Dfn false l.prog w K mg base 2 "seen_in" (spD ⟨K, (clOf [("BadStrings", C_BadStrings), ("BadPattern", C_BadPattern), ("BadColouring", C_BadColouring), ("BadPicture", C_BadPicture), ("OutOfPlace", C_OutOfPlace), ("TooGreat", C_TooGreat), ("Nothing", C_Nothing), ("Pattern", C_Pattern), ("Band", C_Band), ("Desk", C_Desk)])⟩ (SRB ⟨K, (clOf [("BadStrings", C_BadStrings), ("BadPattern", C_BadPattern), ("BadColouring", C_BadColouring), ("BadPicture", C_BadPicture), ("OutOfPlace", C_OutOfPlace), ("TooGreat", C_TooGreat), ("Nothing", C_Nothing), ("Pattern", C_Pattern), ("Band", C_Band), ("Desk", C_Desk)])⟩ (fun _ => none)) 3 (semOf 6 g_seen_in)) := ⟨f_seen_in, _, _, ok_seen_in F_seen_in tx d_places_in, mg_of X G a_seen_in, k_seen_in, b_seen_in⟩
  have d_seen_through : Dfn false l.prog w K mg base 3 "seen_through" (spD ⟨K, (clOf [("BadStrings", C_BadStrings), ("BadPattern", C_BadPattern), ("BadColouring", C_BadColouring), ("BadPicture", C_BadPicture), ("OutOfPlace", C_OutOfPlace), ("TooGreat", C_TooGreat), ("Nothing", C_Nothing), ("Pattern", C_Pattern), ("Band", C_Band), ("Desk", C_Desk)])⟩ (SRB ⟨K, (clOf [("BadStrings", C_BadStrings), ("BadPattern", C_BadPattern), ("BadColouring", C_BadColouring), ("BadPicture", C_BadPicture), ("OutOfPlace", C_OutOfPlace), ("TooGreat", C_TooGreat), ("Nothing", C_Nothing), ("Pattern", C_Pattern), ("Band", C_Band), ("Desk", C_Desk)])⟩ (fun _ => none)) 2 (semOf 6 g_seen_through)) := ⟨f_seen_through, _, _, ok_seen_through F_seen_through tx d_knotted d_seen_in, mg_of X G a_seen_through, k_seen_through, b_seen_through⟩
  have d_Pattern_ddinitdd : Idf l.prog w K mg base 4 "Pattern" ((clOf [("BadStrings", C_BadStrings), ("BadPattern", C_BadPattern), ("BadColouring", C_BadColouring), ("BadPicture", C_BadPicture), ("OutOfPlace", C_OutOfPlace), ("TooGreat", C_TooGreat), ("Nothing", C_Nothing), ("Pattern", C_Pattern), ("Band", C_Band), ("Desk", C_Desk)]) "Pattern") (spI ⟨K, (clOf [("BadStrings", C_BadStrings), ("BadPattern", C_BadPattern), ("BadColouring", C_BadColouring), ("BadPicture", C_BadPicture), ("OutOfPlace", C_OutOfPlace), ("TooGreat", C_TooGreat), ("Nothing", C_Nothing), ("Pattern", C_Pattern), ("Band", C_Band), ("Desk", C_Desk)])⟩ (SRB ⟨K, (clOf [("BadStrings", C_BadStrings), ("BadPattern", C_BadPattern), ("BadColouring", C_BadColouring), ("BadPicture", C_BadPicture), ("OutOfPlace", C_OutOfPlace), ("TooGreat", C_TooGreat), ("Nothing", C_Nothing), ("Pattern", C_Pattern), ("Band", C_Band), ("Desk", C_Desk)])⟩ (fun _ => none)) "Pattern" 2 (semInit 6 "Pattern" g_Pattern_ddinitdd)) := ⟨f_Pattern_ddinitdd, _, _, ok_Pattern_ddinitdd F_Pattern_ddinitdd tx d_need_strings d_row_fault, ⟨qm_Pattern, a_Pattern_ddinitdd, i_Pattern_ddinitdd, qk_Pattern⟩, mg_of X G qn_Pattern, b_Pattern_ddinitdd⟩
  have d_Pattern_strings : Pdf l.prog w K mg base 1 ((clOf [("BadStrings", C_BadStrings), ("BadPattern", C_BadPattern), ("BadColouring", C_BadColouring), ("BadPicture", C_BadPicture), ("OutOfPlace", C_OutOfPlace), ("TooGreat", C_TooGreat), ("Nothing", C_Nothing), ("Pattern", C_Pattern), ("Band", C_Band), ("Desk", C_Desk)]) "Pattern") "strings" (spD ⟨K, (clOf [("BadStrings", C_BadStrings), ("BadPattern", C_BadPattern), ("BadColouring", C_BadColouring), ("BadPicture", C_BadPicture), ("OutOfPlace", C_OutOfPlace), ("TooGreat", C_TooGreat), ("Nothing", C_Nothing), ("Pattern", C_Pattern), ("Band", C_Band), ("Desk", C_Desk)])⟩ (SRB ⟨K, (clOf [("BadStrings", C_BadStrings), ("BadPattern", C_BadPattern), ("BadColouring", C_BadColouring), ("BadPicture", C_BadPicture), ("OutOfPlace", C_OutOfPlace), ("TooGreat", C_TooGreat), ("Nothing", C_Nothing), ("Pattern", C_Pattern), ("Band", C_Band), ("Desk", C_Desk)])⟩ (fun _ => none)) 1 (semOf 1 g_Pattern_strings)) := ⟨p_Pattern_strings, f_Pattern_strings, _, _, ok_Pattern_strings F_Pattern_strings tx , ⟨a_Pattern_strings, b_Pattern_strings, t_Pattern_strings, rest_Pattern_strings, r_Pattern_strings⟩, bd_Pattern_strings⟩
  have d_Pattern_order : Pdf l.prog w K mg base 3 ((clOf [("BadStrings", C_BadStrings), ("BadPattern", C_BadPattern), ("BadColouring", C_BadColouring), ("BadPicture", C_BadPicture), ("OutOfPlace", C_OutOfPlace), ("TooGreat", C_TooGreat), ("Nothing", C_Nothing), ("Pattern", C_Pattern), ("Band", C_Band), ("Desk", C_Desk)]) "Pattern") "order" (spD ⟨K, (clOf [("BadStrings", C_BadStrings), ("BadPattern", C_BadPattern), ("BadColouring", C_BadColouring), ("BadPicture", C_BadPicture), ("OutOfPlace", C_OutOfPlace), ("TooGreat", C_TooGreat), ("Nothing", C_Nothing), ("Pattern", C_Pattern), ("Band", C_Band), ("Desk", C_Desk)])⟩ (SRB ⟨K, (clOf [("BadStrings", C_BadStrings), ("BadPattern", C_BadPattern), ("BadColouring", C_BadColouring), ("BadPicture", C_BadPicture), ("OutOfPlace", C_OutOfPlace), ("TooGreat", C_TooGreat), ("Nothing", C_Nothing), ("Pattern", C_Pattern), ("Band", C_Band), ("Desk", C_Desk)])⟩ (fun _ => none)) 1 (semOf 4 g_Pattern_order)) := ⟨p_Pattern_order, f_Pattern_order, _, _, ok_Pattern_order F_Pattern_order tx d_knotted, ⟨a_Pattern_order, b_Pattern_order, t_Pattern_order, rest_Pattern_order, r_Pattern_order⟩, bd_Pattern_order⟩
  have d_Pattern_seen : Pdf l.prog w K mg base 4 ((clOf [("BadStrings", C_BadStrings), ("BadPattern", C_BadPattern), ("BadColouring", C_BadColouring), ("BadPicture", C_BadPicture), ("OutOfPlace", C_OutOfPlace), ("TooGreat", C_TooGreat), ("Nothing", C_Nothing), ("Pattern", C_Pattern), ("Band", C_Band), ("Desk", C_Desk)]) "Pattern") "seen" (spD ⟨K, (clOf [("BadStrings", C_BadStrings), ("BadPattern", C_BadPattern), ("BadColouring", C_BadColouring), ("BadPicture", C_BadPicture), ("OutOfPlace", C_OutOfPlace), ("TooGreat", C_TooGreat), ("Nothing", C_Nothing), ("Pattern", C_Pattern), ("Band", C_Band), ("Desk", C_Desk)])⟩ (SRB ⟨K, (clOf [("BadStrings", C_BadStrings), ("BadPattern", C_BadPattern), ("BadColouring", C_BadColouring), ("BadPicture", C_BadPicture), ("OutOfPlace", C_OutOfPlace), ("TooGreat", C_TooGreat), ("Nothing", C_Nothing), ("Pattern", C_Pattern), ("Band", C_Band), ("Desk", C_Desk)])⟩ (fun _ => none)) 1 (semOf 1 g_Pattern_seen)) := ⟨p_Pattern_seen, f_Pattern_seen, _, _, ok_Pattern_seen F_Pattern_seen tx d_seen_through, ⟨a_Pattern_seen, b_Pattern_seen, t_Pattern_seen, rest_Pattern_seen, r_Pattern_seen⟩, bd_Pattern_seen⟩
  have d_Pattern_is_even : Pdf l.prog w K mg base 1 ((clOf [("BadStrings", C_BadStrings), ("BadPattern", C_BadPattern), ("BadColouring", C_BadColouring), ("BadPicture", C_BadPicture), ("OutOfPlace", C_OutOfPlace), ("TooGreat", C_TooGreat), ("Nothing", C_Nothing), ("Pattern", C_Pattern), ("Band", C_Band), ("Desk", C_Desk)]) "Pattern") "is_even" (spD ⟨K, (clOf [("BadStrings", C_BadStrings), ("BadPattern", C_BadPattern), ("BadColouring", C_BadColouring), ("BadPicture", C_BadPicture), ("OutOfPlace", C_OutOfPlace), ("TooGreat", C_TooGreat), ("Nothing", C_Nothing), ("Pattern", C_Pattern), ("Band", C_Band), ("Desk", C_Desk)])⟩ (SRB ⟨K, (clOf [("BadStrings", C_BadStrings), ("BadPattern", C_BadPattern), ("BadColouring", C_BadColouring), ("BadPicture", C_BadPicture), ("OutOfPlace", C_OutOfPlace), ("TooGreat", C_TooGreat), ("Nothing", C_Nothing), ("Pattern", C_Pattern), ("Band", C_Band), ("Desk", C_Desk)])⟩ (fun _ => none)) 1 (semOf 1 g_Pattern_is_even)) := ⟨p_Pattern_is_even, f_Pattern_is_even, _, _, ok_Pattern_is_even F_Pattern_is_even tx , ⟨a_Pattern_is_even, b_Pattern_is_even, t_Pattern_is_even, rest_Pattern_is_even, r_Pattern_is_even⟩, bd_Pattern_is_even⟩
  have d_Pattern_ddlendd : Mdf false l.prog w K mg base 1 ((clOf [("BadStrings", C_BadStrings), ("BadPattern", C_BadPattern), ("BadColouring", C_BadColouring), ("BadPicture", C_BadPicture), ("OutOfPlace", C_OutOfPlace), ("TooGreat", C_TooGreat), ("Nothing", C_Nothing), ("Pattern", C_Pattern), ("Band", C_Band), ("Desk", C_Desk)]) "Pattern") "__len__" (spD ⟨K, (clOf [("BadStrings", C_BadStrings), ("BadPattern", C_BadPattern), ("BadColouring", C_BadColouring), ("BadPicture", C_BadPicture), ("OutOfPlace", C_OutOfPlace), ("TooGreat", C_TooGreat), ("Nothing", C_Nothing), ("Pattern", C_Pattern), ("Band", C_Band), ("Desk", C_Desk)])⟩ (SRB ⟨K, (clOf [("BadStrings", C_BadStrings), ("BadPattern", C_BadPattern), ("BadColouring", C_BadColouring), ("BadPicture", C_BadPicture), ("OutOfPlace", C_OutOfPlace), ("TooGreat", C_TooGreat), ("Nothing", C_Nothing), ("Pattern", C_Pattern), ("Band", C_Band), ("Desk", C_Desk)])⟩ (fun _ => none)) 1 (semOf 1 g_Pattern_ddlendd)) := ⟨f_Pattern_ddlendd, _, _, ok_Pattern_ddlendd F_Pattern_ddlendd tx , ⟨a_Pattern_ddlendd, i_Pattern_ddlendd, k_Pattern_ddlendd⟩, b_Pattern_ddlendd⟩
  have d_need_pattern : Dfn false l.prog w K mg base 1 "need_pattern" (spD ⟨K, (clOf [("BadStrings", C_BadStrings), ("BadPattern", C_BadPattern), ("BadColouring", C_BadColouring), ("BadPicture", C_BadPicture), ("OutOfPlace", C_OutOfPlace), ("TooGreat", C_TooGreat), ("Nothing", C_Nothing), ("Pattern", C_Pattern), ("Band", C_Band), ("Desk", C_Desk)])⟩ (SRB ⟨K, (clOf [("BadStrings", C_BadStrings), ("BadPattern", C_BadPattern), ("BadColouring", C_BadColouring), ("BadPicture", C_BadPicture), ("OutOfPlace", C_OutOfPlace), ("TooGreat", C_TooGreat), ("Nothing", C_Nothing), ("Pattern", C_Pattern), ("Band", C_Band), ("Desk", C_Desk)])⟩ (fun _ => none)) 1 (semOf 1 g_need_pattern)) := ⟨f_need_pattern, _, _, ok_need_pattern F_need_pattern tx , mg_of X G a_need_pattern, k_need_pattern, b_need_pattern⟩
  have d_picture_of : Dfn false l.prog w K mg base 3 "picture_of" (spD ⟨K, (clOf [("BadStrings", C_BadStrings), ("BadPattern", C_BadPattern), ("BadColouring", C_BadColouring), ("BadPicture", C_BadPicture), ("OutOfPlace", C_OutOfPlace), ("TooGreat", C_TooGreat), ("Nothing", C_Nothing), ("Pattern", C_Pattern), ("Band", C_Band), ("Desk", C_Desk)])⟩ (SRB ⟨K, (clOf [("BadStrings", C_BadStrings), ("BadPattern", C_BadPattern), ("BadColouring", C_BadColouring), ("BadPicture", C_BadPicture), ("OutOfPlace", C_OutOfPlace), ("TooGreat", C_TooGreat), ("Nothing", C_Nothing), ("Pattern", C_Pattern), ("Band", C_Band), ("Desk", C_Desk)])⟩ (fun _ => none)) 2 (semOf 4 g_picture_of)) := ⟨f_picture_of, _, _, ok_picture_of F_picture_of tx d_is_text d_many_in, mg_of X G a_picture_of, k_picture_of, b_picture_of⟩
  have d_need_few : Dfn false l.prog w K mg base 3 "need_few" (spD ⟨K, (clOf [("BadStrings", C_BadStrings), ("BadPattern", C_BadPattern), ("BadColouring", C_BadColouring), ("BadPicture", C_BadPicture), ("OutOfPlace", C_OutOfPlace), ("TooGreat", C_TooGreat), ("Nothing", C_Nothing), ("Pattern", C_Pattern), ("Band", C_Band), ("Desk", C_Desk)])⟩ (SRB ⟨K, (clOf [("BadStrings", C_BadStrings), ("BadPattern", C_BadPattern), ("BadColouring", C_BadColouring), ("BadPicture", C_BadPicture), ("OutOfPlace", C_OutOfPlace), ("TooGreat", C_TooGreat), ("Nothing", C_Nothing), ("Pattern", C_Pattern), ("Band", C_Band), ("Desk", C_Desk)])⟩ (fun _ => none)) 1 (semOf 1 g_need_few)) := ⟨f_need_few, _, _, ok_need_few F_need_few tx d_need_strings, mg_of X G a_need_few, k_need_few, b_need_few⟩
  have d_need_all : Dfn false l.prog w K mg base 4 "need_all" (spD ⟨K, (clOf [("BadStrings", C_BadStrings), ("BadPattern", C_BadPattern), ("BadColouring", C_BadColouring), ("BadPicture", C_BadPicture), ("OutOfPlace", C_OutOfPlace), ("TooGreat", C_TooGreat), ("Nothing", C_Nothing), ("Pattern", C_Pattern), ("Band", C_Band), ("Desk", C_Desk)])⟩ (SRB ⟨K, (clOf [("BadStrings", C_BadStrings), ("BadPattern", C_BadPattern), ("BadColouring", C_BadColouring), ("BadPicture", C_BadPicture), ("OutOfPlace", C_OutOfPlace), ("TooGreat", C_TooGreat), ("Nothing", C_Nothing), ("Pattern", C_Pattern), ("Band", C_Band), ("Desk", C_Desk)])⟩ (fun _ => none)) 3 (semOf 3 g_need_all)) := ⟨f_need_all, _, _, ok_need_all F_need_all tx d_colouring_of d_need_few d_picture_of, mg_of X G a_need_all, k_need_all, b_need_all⟩
  have d_can_be_made : Dfn false l.prog w K mg base 5 "can_be_made" (spD ⟨K, (clOf [("BadStrings", C_BadStrings), ("BadPattern", C_BadPattern), ("BadColouring", C_BadColouring), ("BadPicture", C_BadPicture), ("OutOfPlace", C_OutOfPlace), ("TooGreat", C_TooGreat), ("Nothing", C_Nothing), ("Pattern", C_Pattern), ("Band", C_Band), ("Desk", C_Desk)])⟩ (SRB ⟨K, (clOf [("BadStrings", C_BadStrings), ("BadPattern", C_BadPattern), ("BadColouring", C_BadColouring), ("BadPicture", C_BadPicture), ("OutOfPlace", C_OutOfPlace), ("TooGreat", C_TooGreat), ("Nothing", C_Nothing), ("Pattern", C_Pattern), ("Band", C_Band), ("Desk", C_Desk)])⟩ (fun _ => none)) 3 (semOf 3 g_can_be_made)) := ⟨f_can_be_made, _, _, ok_can_be_made F_can_be_made tx d_need_all, mg_of X G a_can_be_made, k_can_be_made, b_can_be_made⟩
  have d_check_motif : Dfn false l.prog w K mg base 1 "check_motif" (spD ⟨K, (clOf [("BadStrings", C_BadStrings), ("BadPattern", C_BadPattern), ("BadColouring", C_BadColouring), ("BadPicture", C_BadPicture), ("OutOfPlace", C_OutOfPlace), ("TooGreat", C_TooGreat), ("Nothing", C_Nothing), ("Pattern", C_Pattern), ("Band", C_Band), ("Desk", C_Desk)])⟩ (SRB ⟨K, (clOf [("BadStrings", C_BadStrings), ("BadPattern", C_BadPattern), ("BadColouring", C_BadColouring), ("BadPicture", C_BadPicture), ("OutOfPlace", C_OutOfPlace), ("TooGreat", C_TooGreat), ("Nothing", C_Nothing), ("Pattern", C_Pattern), ("Band", C_Band), ("Desk", C_Desk)])⟩ (fun _ => none)) 1 (semOf 1 g_check_motif)) := ⟨f_check_motif, _, _, ok_check_motif F_check_motif tx , mg_of X G a_check_motif, k_check_motif, b_check_motif⟩
  have d_need_motif : Dfn false l.prog w K mg base 5 "need_motif" (spD ⟨K, (clOf [("BadStrings", C_BadStrings), ("BadPattern", C_BadPattern), ("BadColouring", C_BadColouring), ("BadPicture", C_BadPicture), ("OutOfPlace", C_OutOfPlace), ("TooGreat", C_TooGreat), ("Nothing", C_Nothing), ("Pattern", C_Pattern), ("Band", C_Band), ("Desk", C_Desk)])⟩ (SRB ⟨K, (clOf [("BadStrings", C_BadStrings), ("BadPattern", C_BadPattern), ("BadColouring", C_BadColouring), ("BadPicture", C_BadPicture), ("OutOfPlace", C_OutOfPlace), ("TooGreat", C_TooGreat), ("Nothing", C_Nothing), ("Pattern", C_Pattern), ("Band", C_Band), ("Desk", C_Desk)])⟩ (fun _ => none)) 3 (semOf 3 g_need_motif)) := ⟨f_need_motif, _, _, ok_need_motif F_need_motif tx d_check_motif d_need_all, mg_of X G a_need_motif, k_need_motif, b_need_motif⟩
  have d_most_rows : Dfn false l.prog w K mg base 6 "most_rows" (spD ⟨K, (clOf [("BadStrings", C_BadStrings), ("BadPattern", C_BadPattern), ("BadColouring", C_BadColouring), ("BadPicture", C_BadPicture), ("OutOfPlace", C_OutOfPlace), ("TooGreat", C_TooGreat), ("Nothing", C_Nothing), ("Pattern", C_Pattern), ("Band", C_Band), ("Desk", C_Desk)])⟩ (SRB ⟨K, (clOf [("BadStrings", C_BadStrings), ("BadPattern", C_BadPattern), ("BadColouring", C_BadColouring), ("BadPicture", C_BadPicture), ("OutOfPlace", C_OutOfPlace), ("TooGreat", C_TooGreat), ("Nothing", C_Nothing), ("Pattern", C_Pattern), ("Band", C_Band), ("Desk", C_Desk)])⟩ (fun _ => none)) 3 (semOf 3 g_most_rows)) := ⟨f_most_rows, _, _, ok_most_rows F_most_rows tx d_need_motif, mg_of X G a_most_rows, k_most_rows, b_most_rows⟩
  have d_check_loop : Dfn false l.prog w K mg base 3 "check_loop" (spD ⟨K, (clOf [("BadStrings", C_BadStrings), ("BadPattern", C_BadPattern), ("BadColouring", C_BadColouring), ("BadPicture", C_BadPicture), ("OutOfPlace", C_OutOfPlace), ("TooGreat", C_TooGreat), ("Nothing", C_Nothing), ("Pattern", C_Pattern), ("Band", C_Band), ("Desk", C_Desk)])⟩ (SRB ⟨K, (clOf [("BadStrings", C_BadStrings), ("BadPattern", C_BadPattern), ("BadColouring", C_BadColouring), ("BadPicture", C_BadPicture), ("OutOfPlace", C_OutOfPlace), ("TooGreat", C_TooGreat), ("Nothing", C_Nothing), ("Pattern", C_Pattern), ("Band", C_Band), ("Desk", C_Desk)])⟩ (fun _ => none)) 1 (semOf 1 g_check_loop)) := ⟨f_check_loop, _, _, ok_check_loop F_check_loop tx d_Pattern_ddlendd d_Pattern_is_even, mg_of X G a_check_loop, k_check_loop, b_check_loop⟩
  have d_need_loop : Dfn false l.prog w K mg base 4 "need_loop" (spD ⟨K, (clOf [("BadStrings", C_BadStrings), ("BadPattern", C_BadPattern), ("BadColouring", C_BadColouring), ("BadPicture", C_BadPicture), ("OutOfPlace", C_OutOfPlace), ("TooGreat", C_TooGreat), ("Nothing", C_Nothing), ("Pattern", C_Pattern), ("Band", C_Band), ("Desk", C_Desk)])⟩ (SRB ⟨K, (clOf [("BadStrings", C_BadStrings), ("BadPattern", C_BadPattern), ("BadColouring", C_BadColouring), ("BadPicture", C_BadPicture), ("OutOfPlace", C_OutOfPlace), ("TooGreat", C_TooGreat), ("Nothing", C_Nothing), ("Pattern", C_Pattern), ("Band", C_Band), ("Desk", C_Desk)])⟩ (fun _ => none)) 1 (semOf 1 g_need_loop)) := ⟨f_need_loop, _, _, ok_need_loop F_need_loop tx d_check_loop d_need_pattern, mg_of X G a_need_loop, k_need_loop, b_need_loop⟩
  have d_begun_as : Dfn false l.prog w K mg base 1 "begun_as" (spD ⟨K, (clOf [("BadStrings", C_BadStrings), ("BadPattern", C_BadPattern), ("BadColouring", C_BadColouring), ("BadPicture", C_BadPicture), ("OutOfPlace", C_OutOfPlace), ("TooGreat", C_TooGreat), ("Nothing", C_Nothing), ("Pattern", C_Pattern), ("Band", C_Band), ("Desk", C_Desk)])⟩ (SRB ⟨K, (clOf [("BadStrings", C_BadStrings), ("BadPattern", C_BadPattern), ("BadColouring", C_BadColouring), ("BadPicture", C_BadPicture), ("OutOfPlace", C_OutOfPlace), ("TooGreat", C_TooGreat), ("Nothing", C_Nothing), ("Pattern", C_Pattern), ("Band", C_Band), ("Desk", C_Desk)])⟩ (fun _ => none)) 2 (semOf 3 g_begun_as)) := ⟨f_begun_as, _, _, ok_begun_as F_begun_as tx , mg_of X G a_begun_as, k_begun_as, b_begun_as⟩
  have d_round_in : Dfn false l.prog w K mg base 5 "round_in" (spD ⟨K, (clOf [("BadStrings", C_BadStrings), ("BadPattern", C_BadPattern), ("BadColouring", C_BadColouring), ("BadPicture", C_BadPicture), ("OutOfPlace", C_OutOfPlace), ("TooGreat", C_TooGreat), ("Nothing", C_Nothing), ("Pattern", C_Pattern), ("Band", C_Band), ("Desk", C_Desk)])⟩ (SRB ⟨K, (clOf [("BadStrings", C_BadStrings), ("BadPattern", C_BadPattern), ("BadColouring", C_BadColouring), ("BadPicture", C_BadPicture), ("OutOfPlace", C_OutOfPlace), ("TooGreat", C_TooGreat), ("Nothing", C_Nothing), ("Pattern", C_Pattern), ("Band", C_Band), ("Desk", C_Desk)])⟩ (fun _ => none)) 1 (semOf 5 g_round_in)) := ⟨f_round_in, _, _, ok_round_in F_round_in tx d_Pattern_order d_Pattern_strings d_begun_as, mg_of X G a_round_in, k_round_in, b_round_in⟩
  have d_round_of : Dfn false l.prog w K mg base 6 "round_of" (spD ⟨K, (clOf [("BadStrings", C_BadStrings), ("BadPattern", C_BadPattern), ("BadColouring", C_BadColouring), ("BadPicture", C_BadPicture), ("OutOfPlace", C_OutOfPlace), ("TooGreat", C_TooGreat), ("Nothing", C_Nothing), ("Pattern", C_Pattern), ("Band", C_Band), ("Desk", C_Desk)])⟩ (SRB ⟨K, (clOf [("BadStrings", C_BadStrings), ("BadPattern", C_BadPattern), ("BadColouring", C_BadColouring), ("BadPicture", C_BadPicture), ("OutOfPlace", C_OutOfPlace), ("TooGreat", C_TooGreat), ("Nothing", C_Nothing), ("Pattern", C_Pattern), ("Band", C_Band), ("Desk", C_Desk)])⟩ (fun _ => none)) 1 (semOf 1 g_round_of)) := ⟨f_round_of, _, _, ok_round_of F_round_of tx d_need_loop d_round_in, mg_of X G a_round_of, k_round_of, b_round_of⟩
  have d_seen_round : Dfn false l.prog w K mg base 6 "seen_round" (spD ⟨K, (clOf [("BadStrings", C_BadStrings), ("BadPattern", C_BadPattern), ("BadColouring", C_BadColouring), ("BadPicture", C_BadPicture), ("OutOfPlace", C_OutOfPlace), ("TooGreat", C_TooGreat), ("Nothing", C_Nothing), ("Pattern", C_Pattern), ("Band", C_Band), ("Desk", C_Desk)])⟩ (SRB ⟨K, (clOf [("BadStrings", C_BadStrings), ("BadPattern", C_BadPattern), ("BadColouring", C_BadColouring), ("BadPicture", C_BadPicture), ("OutOfPlace", C_OutOfPlace), ("TooGreat", C_TooGreat), ("Nothing", C_Nothing), ("Pattern", C_Pattern), ("Band", C_Band), ("Desk", C_Desk)])⟩ (fun _ => none)) 1 (semOf 8 g_seen_round)) := ⟨f_seen_round, _, _, ok_seen_round F_seen_round tx d_Pattern_order d_Pattern_seen d_Pattern_strings d_begun_as d_round_in, mg_of X G a_seen_round, k_seen_round, b_seen_round⟩
  have d_least_shift : Dfn false l.prog w K mg base 1 "least_shift" (spD ⟨K, (clOf [("BadStrings", C_BadStrings), ("BadPattern", C_BadPattern), ("BadColouring", C_BadColouring), ("BadPicture", C_BadPicture), ("OutOfPlace", C_OutOfPlace), ("TooGreat", C_TooGreat), ("Nothing", C_Nothing), ("Pattern", C_Pattern), ("Band", C_Band), ("Desk", C_Desk)])⟩ (SRB ⟨K, (clOf [("BadStrings", C_BadStrings), ("BadPattern", C_BadPattern), ("BadColouring", C_BadColouring), ("BadPicture", C_BadPicture), ("OutOfPlace", C_OutOfPlace), ("TooGreat", C_TooGreat), ("Nothing", C_Nothing), ("Pattern", C_Pattern), ("Band", C_Band), ("Desk", C_Desk)])⟩ (fun _ => none)) 1 (semOf 2 g_least_shift)) := ⟨f_least_shift, _, _, ok_least_shift F_least_shift tx , mg_of X G a_least_shift, k_least_shift, b_least_shift⟩
  have d_period_in : Dfn false l.prog w K mg base 7 "period_in" (spD ⟨K, (clOf [("BadStrings", C_BadStrings), ("BadPattern", C_BadPattern), ("BadColouring", C_BadColouring), ("BadPicture", C_BadPicture), ("OutOfPlace", C_OutOfPlace), ("TooGreat", C_TooGreat), ("Nothing", C_Nothing), ("Pattern", C_Pattern), ("Band", C_Band), ("Desk", C_Desk)])⟩ (SRB ⟨K, (clOf [("BadStrings", C_BadStrings), ("BadPattern", C_BadPattern), ("BadColouring", C_BadColouring), ("BadPicture", C_BadPicture), ("OutOfPlace", C_OutOfPlace), ("TooGreat", C_TooGreat), ("Nothing", C_Nothing), ("Pattern", C_Pattern), ("Band", C_Band), ("Desk", C_Desk)])⟩ (fun _ => none)) 2 (semOf 4 g_period_in)) := ⟨f_period_in, _, _, ok_period_in F_period_in tx d_least_shift d_seen_round, mg_of X G a_period_in, k_period_in, b_period_in⟩
  have d_period_by : Dfn false l.prog w K mg base 8 "period_by" (spD ⟨K, (clOf [("BadStrings", C_BadStrings), ("BadPattern", C_BadPattern), ("BadColouring", C_BadColouring), ("BadPicture", C_BadPicture), ("OutOfPlace", C_OutOfPlace), ("TooGreat", C_TooGreat), ("Nothing", C_Nothing), ("Pattern", C_Pattern), ("Band", C_Band), ("Desk", C_Desk)])⟩ (SRB ⟨K, (clOf [("BadStrings", C_BadStrings), ("BadPattern", C_BadPattern), ("BadColouring", C_BadColouring), ("BadPicture", C_BadPicture), ("OutOfPlace", C_OutOfPlace), ("TooGreat", C_TooGreat), ("Nothing", C_Nothing), ("Pattern", C_Pattern), ("Band", C_Band), ("Desk", C_Desk)])⟩ (fun _ => none)) 2 (semOf 2 g_period_by)) := ⟨f_period_by, _, _, ok_period_by F_period_by tx d_Pattern_strings d_check_loop d_colouring_of d_need_pattern d_period_in, mg_of X G a_period_by, k_period_by, b_period_by⟩
  have d_Band_add_row : Mdf false l.prog w K mg base 3 ((clOf [("BadStrings", C_BadStrings), ("BadPattern", C_BadPattern), ("BadColouring", C_BadColouring), ("BadPicture", C_BadPicture), ("OutOfPlace", C_OutOfPlace), ("TooGreat", C_TooGreat), ("Nothing", C_Nothing), ("Pattern", C_Pattern), ("Band", C_Band), ("Desk", C_Desk)]) "Band") "add_row" (spD ⟨K, (clOf [("BadStrings", C_BadStrings), ("BadPattern", C_BadPattern), ("BadColouring", C_BadColouring), ("BadPicture", C_BadPicture), ("OutOfPlace", C_OutOfPlace), ("TooGreat", C_TooGreat), ("Nothing", C_Nothing), ("Pattern", C_Pattern), ("Band", C_Band), ("Desk", C_Desk)])⟩ (SRB ⟨K, (clOf [("BadStrings", C_BadStrings), ("BadPattern", C_BadPattern), ("BadColouring", C_BadColouring), ("BadPicture", C_BadPicture), ("OutOfPlace", C_OutOfPlace), ("TooGreat", C_TooGreat), ("Nothing", C_Nothing), ("Pattern", C_Pattern), ("Band", C_Band), ("Desk", C_Desk)])⟩ (fun _ => none)) 2 (semOf 3 g_Band_add_row)) := ⟨f_Band_add_row, _, _, ok_Band_add_row F_Band_add_row tx d_knotted d_seen_in, ⟨a_Band_add_row, i_Band_add_row, k_Band_add_row⟩, b_Band_add_row⟩
  have d_Band_put_in : Mdf false l.prog w K mg base 5 ((clOf [("BadStrings", C_BadStrings), ("BadPattern", C_BadPattern), ("BadColouring", C_BadColouring), ("BadPicture", C_BadPicture), ("OutOfPlace", C_OutOfPlace), ("TooGreat", C_TooGreat), ("Nothing", C_Nothing), ("Pattern", C_Pattern), ("Band", C_Band), ("Desk", C_Desk)]) "Band") "put_in" (spD ⟨K, (clOf [("BadStrings", C_BadStrings), ("BadPattern", C_BadPattern), ("BadColouring", C_BadColouring), ("BadPicture", C_BadPicture), ("OutOfPlace", C_OutOfPlace), ("TooGreat", C_TooGreat), ("Nothing", C_Nothing), ("Pattern", C_Pattern), ("Band", C_Band), ("Desk", C_Desk)])⟩ (SRB ⟨K, (clOf [("BadStrings", C_BadStrings), ("BadPattern", C_BadPattern), ("BadColouring", C_BadColouring), ("BadPicture", C_BadPicture), ("OutOfPlace", C_OutOfPlace), ("TooGreat", C_TooGreat), ("Nothing", C_Nothing), ("Pattern", C_Pattern), ("Band", C_Band), ("Desk", C_Desk)])⟩ (fun _ => none)) 2 (semOf 3 g_Band_put_in)) := ⟨f_Band_put_in, _, _, ok_Band_put_in F_Band_put_in tx d_Band_add_row, ⟨a_Band_put_in, i_Band_put_in, k_Band_put_in⟩, b_Band_put_in⟩
  have d_Band_ddinitdd : Idf l.prog w K mg base 7 "Band" ((clOf [("BadStrings", C_BadStrings), ("BadPattern", C_BadPattern), ("BadColouring", C_BadColouring), ("BadPicture", C_BadPicture), ("OutOfPlace", C_OutOfPlace), ("TooGreat", C_TooGreat), ("Nothing", C_Nothing), ("Pattern", C_Pattern), ("Band", C_Band), ("Desk", C_Desk)]) "Band") (spD ⟨K, (clOf [("BadStrings", C_BadStrings), ("BadPattern", C_BadPattern), ("BadColouring", C_BadColouring), ("BadPicture", C_BadPicture), ("OutOfPlace", C_OutOfPlace), ("TooGreat", C_TooGreat), ("Nothing", C_Nothing), ("Pattern", C_Pattern), ("Band", C_Band), ("Desk", C_Desk)])⟩ (SRB ⟨K, (clOf [("BadStrings", C_BadStrings), ("BadPattern", C_BadPattern), ("BadColouring", C_BadColouring), ("BadPicture", C_BadPicture), ("OutOfPlace", C_OutOfPlace), ("TooGreat", C_TooGreat), ("Nothing", C_Nothing), ("Pattern", C_Pattern), ("Band", C_Band), ("Desk", C_Desk)])⟩ (fun _ => none)) 2 (semOf 2 g_Band_ddinitdd)) := ⟨f_Band_ddinitdd, _, _, ok_Band_ddinitdd F_Band_ddinitdd tx d_Band_put_in d_is_colouring, ⟨qm_Band, a_Band_ddinitdd, i_Band_ddinitdd, qk_Band⟩, mg_of X G qn_Band, b_Band_ddinitdd⟩
  have d_Band_colouring : Pdf l.prog w K mg base 1 ((clOf [("BadStrings", C_BadStrings), ("BadPattern", C_BadPattern), ("BadColouring", C_BadColouring), ("BadPicture", C_BadPicture), ("OutOfPlace", C_OutOfPlace), ("TooGreat", C_TooGreat), ("Nothing", C_Nothing), ("Pattern", C_Pattern), ("Band", C_Band), ("Desk", C_Desk)]) "Band") "colouring" (spD ⟨K, (clOf [("BadStrings", C_BadStrings), ("BadPattern", C_BadPattern), ("BadColouring", C_BadColouring), ("BadPicture", C_BadPicture), ("OutOfPlace", C_OutOfPlace), ("TooGreat", C_TooGreat), ("Nothing", C_Nothing), ("Pattern", C_Pattern), ("Band", C_Band), ("Desk", C_Desk)])⟩ (SRB ⟨K, (clOf [("BadStrings", C_BadStrings), ("BadPattern", C_BadPattern), ("BadColouring", C_BadColouring), ("BadPicture", C_BadPicture), ("OutOfPlace", C_OutOfPlace), ("TooGreat", C_TooGreat), ("Nothing", C_Nothing), ("Pattern", C_Pattern), ("Band", C_Band), ("Desk", C_Desk)])⟩ (fun _ => none)) 1 (semOf 1 g_Band_colouring)) := ⟨p_Band_colouring, f_Band_colouring, _, _, ok_Band_colouring F_Band_colouring tx , ⟨a_Band_colouring, b_Band_colouring, t_Band_colouring, rest_Band_colouring, r_Band_colouring⟩, bd_Band_colouring⟩
  have d_Band_rows : Pdf l.prog w K mg base 1 ((clOf [("BadStrings", C_BadStrings), ("BadPattern", C_BadPattern), ("BadColouring", C_BadColouring), ("BadPicture", C_BadPicture), ("OutOfPlace", C_OutOfPlace), ("TooGreat", C_TooGreat), ("Nothing", C_Nothing), ("Pattern", C_Pattern), ("Band", C_Band), ("Desk", C_Desk)]) "Band") "rows" (spD ⟨K, (clOf [("BadStrings", C_BadStrings), ("BadPattern", C_BadPattern), ("BadColouring", C_BadColouring), ("BadPicture", C_BadPicture), ("OutOfPlace", C_OutOfPlace), ("TooGreat", C_TooGreat), ("Nothing", C_Nothing), ("Pattern", C_Pattern), ("Band", C_Band), ("Desk", C_Desk)])⟩ (SRB ⟨K, (clOf [("BadStrings", C_BadStrings), ("BadPattern", C_BadPattern), ("BadColouring", C_BadColouring), ("BadPicture", C_BadPicture), ("OutOfPlace", C_OutOfPlace), ("TooGreat", C_TooGreat), ("Nothing", C_Nothing), ("Pattern", C_Pattern), ("Band", C_Band), ("Desk", C_Desk)])⟩ (fun _ => none)) 1 (semOf 1 g_Band_rows)) := ⟨p_Band_rows, f_Band_rows, _, _, ok_Band_rows F_Band_rows tx , ⟨a_Band_rows, b_Band_rows, t_Band_rows, rest_Band_rows, r_Band_rows⟩, bd_Band_rows⟩
  have d_Band_picture : Pdf l.prog w K mg base 1 ((clOf [("BadStrings", C_BadStrings), ("BadPattern", C_BadPattern), ("BadColouring", C_BadColouring), ("BadPicture", C_BadPicture), ("OutOfPlace", C_OutOfPlace), ("TooGreat", C_TooGreat), ("Nothing", C_Nothing), ("Pattern", C_Pattern), ("Band", C_Band), ("Desk", C_Desk)]) "Band") "picture" (spD ⟨K, (clOf [("BadStrings", C_BadStrings), ("BadPattern", C_BadPattern), ("BadColouring", C_BadColouring), ("BadPicture", C_BadPicture), ("OutOfPlace", C_OutOfPlace), ("TooGreat", C_TooGreat), ("Nothing", C_Nothing), ("Pattern", C_Pattern), ("Band", C_Band), ("Desk", C_Desk)])⟩ (SRB ⟨K, (clOf [("BadStrings", C_BadStrings), ("BadPattern", C_BadPattern), ("BadColouring", C_BadColouring), ("BadPicture", C_BadPicture), ("OutOfPlace", C_OutOfPlace), ("TooGreat", C_TooGreat), ("Nothing", C_Nothing), ("Pattern", C_Pattern), ("Band", C_Band), ("Desk", C_Desk)])⟩ (fun _ => none)) 1 (semOf 3 g_Band_picture)) := ⟨p_Band_picture, f_Band_picture, _, _, ok_Band_picture F_Band_picture tx , ⟨a_Band_picture, b_Band_picture, t_Band_picture, rest_Band_picture, r_Band_picture⟩, bd_Band_picture⟩
  have d_Band_stand : Pdf l.prog w K mg base 1 ((clOf [("BadStrings", C_BadStrings), ("BadPattern", C_BadPattern), ("BadColouring", C_BadColouring), ("BadPicture", C_BadPicture), ("OutOfPlace", C_OutOfPlace), ("TooGreat", C_TooGreat), ("Nothing", C_Nothing), ("Pattern", C_Pattern), ("Band", C_Band), ("Desk", C_Desk)]) "Band") "stand" (spD ⟨K, (clOf [("BadStrings", C_BadStrings), ("BadPattern", C_BadPattern), ("BadColouring", C_BadColouring), ("BadPicture", C_BadPicture), ("OutOfPlace", C_OutOfPlace), ("TooGreat", C_TooGreat), ("Nothing", C_Nothing), ("Pattern", C_Pattern), ("Band", C_Band), ("Desk", C_Desk)])⟩ (SRB ⟨K, (clOf [("BadStrings", C_BadStrings), ("BadPattern", C_BadPattern), ("BadColouring", C_BadColouring), ("BadPicture", C_BadPicture), ("OutOfPlace", C_OutOfPlace), ("TooGreat", C_TooGreat), ("Nothing", C_Nothing), ("Pattern", C_Pattern), ("Band", C_Band), ("Desk", C_Desk)])⟩ (fun _ => none)) 1 (semOf 2 g_Band_stand)) := ⟨p_Band_stand, f_Band_stand, _, _, ok_Band_stand F_Band_stand tx , ⟨a_Band_stand, b_Band_stand, t_Band_stand, rest_Band_stand, r_Band_stand⟩, bd_Band_stand⟩
  have d_Band_uses : Pdf l.prog w K mg base 1 ((clOf [("BadStrings", C_BadStrings), ("BadPattern", C_BadPattern), ("BadColouring", C_BadColouring), ("BadPicture", C_BadPicture), ("OutOfPlace", C_OutOfPlace), ("TooGreat", C_TooGreat), ("Nothing", C_Nothing), ("Pattern", C_Pattern), ("Band", C_Band), ("Desk", C_Desk)]) "Band") "uses" (spD ⟨K, (clOf [("BadStrings", C_BadStrings), ("BadPattern", C_BadPattern), ("BadColouring", C_BadColouring), ("BadPicture", C_BadPicture), ("OutOfPlace", C_OutOfPlace), ("TooGreat", C_TooGreat), ("Nothing", C_Nothing), ("Pattern", C_Pattern), ("Band", C_Band), ("Desk", C_Desk)])⟩ (SRB ⟨K, (clOf [("BadStrings", C_BadStrings), ("BadPattern", C_BadPattern), ("BadColouring", C_BadColouring), ("BadPicture", C_BadPicture), ("OutOfPlace", C_OutOfPlace), ("TooGreat", C_TooGreat), ("Nothing", C_Nothing), ("Pattern", C_Pattern), ("Band", C_Band), ("Desk", C_Desk)])⟩ (fun _ => none)) 1 (semOf 5 g_Band_uses)) := ⟨p_Band_uses, f_Band_uses, _, _, ok_Band_uses F_Band_uses tx , ⟨a_Band_uses, b_Band_uses, t_Band_uses, rest_Band_uses, r_Band_uses⟩, bd_Band_uses⟩
  have d_Band_ddcalldd : Cdf l.prog w K mg base 5 ((clOf [("BadStrings", C_BadStrings), ("BadPattern", C_BadPattern), ("BadColouring", C_BadColouring), ("BadPicture", C_BadPicture), ("OutOfPlace", C_OutOfPlace), ("TooGreat", C_TooGreat), ("Nothing", C_Nothing), ("Pattern", C_Pattern), ("Band", C_Band), ("Desk", C_Desk)]) "Band") (spD ⟨K, (clOf [("BadStrings", C_BadStrings), ("BadPattern", C_BadPattern), ("BadColouring", C_BadColouring), ("BadPicture", C_BadPicture), ("OutOfPlace", C_OutOfPlace), ("TooGreat", C_TooGreat), ("Nothing", C_Nothing), ("Pattern", C_Pattern), ("Band", C_Band), ("Desk", C_Desk)])⟩ (SRB ⟨K, (clOf [("BadStrings", C_BadStrings), ("BadPattern", C_BadPattern), ("BadColouring", C_BadColouring), ("BadPicture", C_BadPicture), ("OutOfPlace", C_OutOfPlace), ("TooGreat", C_TooGreat), ("Nothing", C_Nothing), ("Pattern", C_Pattern), ("Band", C_Band), ("Desk", C_Desk)])⟩ (fun _ => none)) 2 (semOf 3 g_Band_ddcalldd)) := ⟨f_Band_ddcalldd, _, _, ok_Band_ddcalldd F_Band_ddcalldd tx d_Band_add_row d_Band_picture d_row_fault, ⟨a_Band_ddcalldd, i_Band_ddcalldd, fi_Band_ddcalldd⟩, b_Band_ddcalldd⟩
  subst kr_Band_back
  have d_Band_back : Mkw l.prog w K mg base 7 ((clOf [("BadStrings", C_BadStrings), ("BadPattern", C_BadPattern), ("BadColouring", C_BadColouring), ("BadPicture", C_BadPicture), ("OutOfPlace", C_OutOfPlace), ("TooGreat", C_TooGreat), ("Nothing", C_Nothing), ("Pattern", C_Pattern), ("Band", C_Band), ("Desk", C_Desk)]) "Band") "back" "many" (.int 1) (spD ⟨K, (clOf [("BadStrings", C_BadStrings), ("BadPattern", C_BadPattern), ("BadColouring", C_BadColouring), ("BadPicture", C_BadPicture), ("OutOfPlace", C_OutOfPlace), ("TooGreat", C_TooGreat), ("Nothing", C_Nothing), ("Pattern", C_Pattern), ("Band", C_Band), ("Desk", C_Desk)])⟩ (SRB ⟨K, (clOf [("BadStrings", C_BadStrings), ("BadPattern", C_BadPattern), ("BadColouring", C_BadColouring), ("BadPicture", C_BadPicture), ("OutOfPlace", C_OutOfPlace), ("TooGreat", C_TooGreat), ("Nothing", C_Nothing), ("Pattern", C_Pattern), ("Band", C_Band), ("Desk", C_Desk)])⟩ (fun _ => none)) 2 (semOf 2 g_Band_back)) := ⟨f_Band_back, _, _, .int 1 kt_Band_back, ok_Band_back F_Band_back tx d_Band_put_in d_is_whole, ⟨a_Band_back, i_Band_back, k_Band_back⟩, ⟨kt_Band_back, rfl⟩, fun s u X => L2.BindsTo.of_looks fun M => L2.KwChain.looks X (l := [("many", .int 1 kt_Band_back)]) (fun q hq => by
    simp only [List.mem_cons, List.not_mem_nil, or_false] at hq
    subst hq
    exact kn_Band_back) ⟨_, _, _, _, _, _, rfl, rfl, rfl⟩, fun s u v X => .of_eq rfl⟩
  have d_need_plain : Dfn false l.prog w K mg base 4 "need_plain" (spD ⟨K, (clOf [("BadStrings", C_BadStrings), ("BadPattern", C_BadPattern), ("BadColouring", C_BadColouring), ("BadPicture", C_BadPicture), ("OutOfPlace", C_OutOfPlace), ("TooGreat", C_TooGreat), ("Nothing", C_Nothing), ("Pattern", C_Pattern), ("Band", C_Band), ("Desk", C_Desk)])⟩ (SRB ⟨K, (clOf [("BadStrings", C_BadStrings), ("BadPattern", C_BadPattern), ("BadColouring", C_BadColouring), ("BadPicture", C_BadPicture), ("OutOfPlace", C_OutOfPlace), ("TooGreat", C_TooGreat), ("Nothing", C_Nothing), ("Pattern", C_Pattern), ("Band", C_Band), ("Desk", C_Desk)])⟩ (fun _ => none)) 2 (semOf 3 g_need_plain)) := ⟨f_need_plain, _, _, ok_need_plain F_need_plain tx d_is_text d_need_strings d_picture_of, mg_of X G a_need_plain, k_need_plain, b_need_plain⟩
  have d_spread : Dfn false l.prog w K mg base 5 "spread" (spD ⟨K, (clOf [("BadStrings", C_BadStrings), ("BadPattern", C_BadPattern), ("BadColouring", C_BadColouring), ("BadPicture", C_BadPicture), ("OutOfPlace", C_OutOfPlace), ("TooGreat", C_TooGreat), ("Nothing", C_Nothing), ("Pattern", C_Pattern), ("Band", C_Band), ("Desk", C_Desk)])⟩ (SRB ⟨K, (clOf [("BadStrings", C_BadStrings), ("BadPattern", C_BadPattern), ("BadColouring", C_BadColouring), ("BadPicture", C_BadPicture), ("OutOfPlace", C_OutOfPlace), ("TooGreat", C_TooGreat), ("Nothing", C_Nothing), ("Pattern", C_Pattern), ("Band", C_Band), ("Desk", C_Desk)])⟩ (fun _ => none)) 2 (semOf 4 g_spread)) := ⟨f_spread, _, _, ok_spread F_spread tx d_need_plain, mg_of X G a_spread, k_spread, b_spread⟩
  have d_number_of : Dfn false l.prog w K mg base 1 "number_of" (spD ⟨K, (clOf [("BadStrings", C_BadStrings), ("BadPattern", C_BadPattern), ("BadColouring", C_BadColouring), ("BadPicture", C_BadPicture), ("OutOfPlace", C_OutOfPlace), ("TooGreat", C_TooGreat), ("Nothing", C_Nothing), ("Pattern", C_Pattern), ("Band", C_Band), ("Desk", C_Desk)])⟩ (SRB ⟨K, (clOf [("BadStrings", C_BadStrings), ("BadPattern", C_BadPattern), ("BadColouring", C_BadColouring), ("BadPicture", C_BadPicture), ("OutOfPlace", C_OutOfPlace), ("TooGreat", C_TooGreat), ("Nothing", C_Nothing), ("Pattern", C_Pattern), ("Band", C_Band), ("Desk", C_Desk)])⟩ (fun _ => none)) 1 (semOf 2 g_number_of)) := ⟨f_number_of, _, _, ok_number_of F_number_of tx , mg_of X G a_number_of, k_number_of, b_number_of⟩
  have d_joined : Dfn false l.prog w K mg base 1 "joined" (spD ⟨K, (clOf [("BadStrings", C_BadStrings), ("BadPattern", C_BadPattern), ("BadColouring", C_BadColouring), ("BadPicture", C_BadPicture), ("OutOfPlace", C_OutOfPlace), ("TooGreat", C_TooGreat), ("Nothing", C_Nothing), ("Pattern", C_Pattern), ("Band", C_Band), ("Desk", C_Desk)])⟩ (SRB ⟨K, (clOf [("BadStrings", C_BadStrings), ("BadPattern", C_BadPattern), ("BadColouring", C_BadColouring), ("BadPicture", C_BadPicture), ("OutOfPlace", C_OutOfPlace), ("TooGreat", C_TooGreat), ("Nothing", C_Nothing), ("Pattern", C_Pattern), ("Band", C_Band), ("Desk", C_Desk)])⟩ (fun _ => none)) 1 (semOf 2 g_joined)) := ⟨f_joined, _, _, ok_joined F_joined tx , mg_of X G a_joined, k_joined, b_joined⟩
  have d_Desk_ddinitdd : Idf l.prog w K mg base 1 "Desk" ((clOf [("BadStrings", C_BadStrings), ("BadPattern", C_BadPattern), ("BadColouring", C_BadColouring), ("BadPicture", C_BadPicture), ("OutOfPlace", C_OutOfPlace), ("TooGreat", C_TooGreat), ("Nothing", C_Nothing), ("Pattern", C_Pattern), ("Band", C_Band), ("Desk", C_Desk)]) "Desk") (spD ⟨K, (clOf [("BadStrings", C_BadStrings), ("BadPattern", C_BadPattern), ("BadColouring", C_BadColouring), ("BadPicture", C_BadPicture), ("OutOfPlace", C_OutOfPlace), ("TooGreat", C_TooGreat), ("Nothing", C_Nothing), ("Pattern", C_Pattern), ("Band", C_Band), ("Desk", C_Desk)])⟩ (SRB ⟨K, (clOf [("BadStrings", C_BadStrings), ("BadPattern", C_BadPattern), ("BadColouring", C_BadColouring), ("BadPicture", C_BadPicture), ("OutOfPlace", C_OutOfPlace), ("TooGreat", C_TooGreat), ("Nothing", C_Nothing), ("Pattern", C_Pattern), ("Band", C_Band), ("Desk", C_Desk)])⟩ (fun _ => none)) 1 (semOf 1 g_Desk_ddinitdd)) := ⟨f_Desk_ddinitdd, _, _, ok_Desk_ddinitdd F_Desk_ddinitdd tx , ⟨qm_Desk, a_Desk_ddinitdd, i_Desk_ddinitdd, qk_Desk⟩, mg_of X G qn_Desk, b_Desk_ddinitdd⟩
  have d_Desk_band : Pdf l.prog w K mg base 1 ((clOf [("BadStrings", C_BadStrings), ("BadPattern", C_BadPattern), ("BadColouring", C_BadColouring), ("BadPicture", C_BadPicture), ("OutOfPlace", C_OutOfPlace), ("TooGreat", C_TooGreat), ("Nothing", C_Nothing), ("Pattern", C_Pattern), ("Band", C_Band), ("Desk", C_Desk)]) "Desk") "band" (spD ⟨K, (clOf [("BadStrings", C_BadStrings), ("BadPattern", C_BadPattern), ("BadColouring", C_BadColouring), ("BadPicture", C_BadPicture), ("OutOfPlace", C_OutOfPlace), ("TooGreat", C_TooGreat), ("Nothing", C_Nothing), ("Pattern", C_Pattern), ("Band", C_Band), ("Desk", C_Desk)])⟩ (SRB ⟨K, (clOf [("BadStrings", C_BadStrings), ("BadPattern", C_BadPattern), ("BadColouring", C_BadColouring), ("BadPicture", C_BadPicture), ("OutOfPlace", C_OutOfPlace), ("TooGreat", C_TooGreat), ("Nothing", C_Nothing), ("Pattern", C_Pattern), ("Band", C_Band), ("Desk", C_Desk)])⟩ (fun _ => none)) 1 (semOf 1 g_Desk_band)) := ⟨p_Desk_band, f_Desk_band, _, _, ok_Desk_band F_Desk_band tx , ⟨a_Desk_band, b_Desk_band, t_Desk_band, rest_Desk_band, r_Desk_band⟩, bd_Desk_band⟩
  have d_Desk_pattern : Mdf false l.prog w K mg base 6 ((clOf [("BadStrings", C_BadStrings), ("BadPattern", C_BadPattern), ("BadColouring", C_BadColouring), ("BadPicture", C_BadPicture), ("OutOfPlace", C_OutOfPlace), ("TooGreat", C_TooGreat), ("Nothing", C_Nothing), ("Pattern", C_Pattern), ("Band", C_Band), ("Desk", C_Desk)]) "Desk") "pattern" (spD ⟨K, (clOf [("BadStrings", C_BadStrings), ("BadPattern", C_BadPattern), ("BadColouring", C_BadColouring), ("BadPicture", C_BadPicture), ("OutOfPlace", C_OutOfPlace), ("TooGreat", C_TooGreat), ("Nothing", C_Nothing), ("Pattern", C_Pattern), ("Band", C_Band), ("Desk", C_Desk)])⟩ (SRB ⟨K, (clOf [("BadStrings", C_BadStrings), ("BadPattern", C_BadPattern), ("BadColouring", C_BadColouring), ("BadPicture", C_BadPicture), ("OutOfPlace", C_OutOfPlace), ("TooGreat", C_TooGreat), ("Nothing", C_Nothing), ("Pattern", C_Pattern), ("Band", C_Band), ("Desk", C_Desk)])⟩ (fun _ => none)) 1 (semOf 1 g_Desk_pattern)) := ⟨f_Desk_pattern, _, _, ok_Desk_pattern F_Desk_pattern tx d_Band_colouring d_Band_rows d_Pattern_ddinitdd, ⟨a_Desk_pattern, i_Desk_pattern, k_Desk_pattern⟩, b_Desk_pattern⟩
  have d_Desk_knotted : Mdf false l.prog w K mg base 7 ((clOf [("BadStrings", C_BadStrings), ("BadPattern", C_BadPattern), ("BadColouring", C_BadColouring), ("BadPicture", C_BadPicture), ("OutOfPlace", C_OutOfPlace), ("TooGreat", C_TooGreat), ("Nothing", C_Nothing), ("Pattern", C_Pattern), ("Band", C_Band), ("Desk", C_Desk)]) "Desk") "knotted" (spD ⟨K, (clOf [("BadStrings", C_BadStrings), ("BadPattern", C_BadPattern), ("BadColouring", C_BadColouring), ("BadPicture", C_BadPicture), ("OutOfPlace", C_OutOfPlace), ("TooGreat", C_TooGreat), ("Nothing", C_Nothing), ("Pattern", C_Pattern), ("Band", C_Band), ("Desk", C_Desk)])⟩ (SRB ⟨K, (clOf [("BadStrings", C_BadStrings), ("BadPattern", C_BadPattern), ("BadColouring", C_BadColouring), ("BadPicture", C_BadPicture), ("OutOfPlace", C_OutOfPlace), ("TooGreat", C_TooGreat), ("Nothing", C_Nothing), ("Pattern", C_Pattern), ("Band", C_Band), ("Desk", C_Desk)])⟩ (fun _ => none)) 2 (semOf 4 g_Desk_knotted)) := ⟨f_Desk_knotted, _, _, ok_Desk_knotted F_Desk_knotted tx d_Band_ddcalldd, ⟨a_Desk_knotted, i_Desk_knotted, k_Desk_knotted⟩, b_Desk_knotted⟩
  have d_Desk_taken_back : Mdf false l.prog w K mg base 9 ((clOf [("BadStrings", C_BadStrings), ("BadPattern", C_BadPattern), ("BadColouring", C_BadColouring), ("BadPicture", C_BadPicture), ("OutOfPlace", C_OutOfPlace), ("TooGreat", C_TooGreat), ("Nothing", C_Nothing), ("Pattern", C_Pattern), ("Band", C_Band), ("Desk", C_Desk)]) "Desk") "taken_back" (spD ⟨K, (clOf [("BadStrings", C_BadStrings), ("BadPattern", C_BadPattern), ("BadColouring", C_BadColouring), ("BadPicture", C_BadPicture), ("OutOfPlace", C_OutOfPlace), ("TooGreat", C_TooGreat), ("Nothing", C_Nothing), ("Pattern", C_Pattern), ("Band", C_Band), ("Desk", C_Desk)])⟩ (SRB ⟨K, (clOf [("BadStrings", C_BadStrings), ("BadPattern", C_BadPattern), ("BadColouring", C_BadColouring), ("BadPicture", C_BadPicture), ("OutOfPlace", C_OutOfPlace), ("TooGreat", C_TooGreat), ("Nothing", C_Nothing), ("Pattern", C_Pattern), ("Band", C_Band), ("Desk", C_Desk)])⟩ (fun _ => none)) 2 (semOf 2 g_Desk_taken_back)) := ⟨f_Desk_taken_back, _, _, ok_Desk_taken_back F_Desk_taken_back tx d_Band_back d_number_of, ⟨a_Desk_taken_back, i_Desk_taken_back, k_Desk_taken_back⟩, b_Desk_taken_back⟩
  have d_Desk_spread_told : Mdf false l.prog w K mg base 6 ((clOf [("BadStrings", C_BadStrings), ("BadPattern", C_BadPattern), ("BadColouring", C_BadColouring), ("BadPicture", C_BadPicture), ("OutOfPlace", C_OutOfPlace), ("TooGreat", C_TooGreat), ("Nothing", C_Nothing), ("Pattern", C_Pattern), ("Band", C_Band), ("Desk", C_Desk)]) "Desk") "spread_told" (spD ⟨K, (clOf [("BadStrings", C_BadStrings), ("BadPattern", C_BadPattern), ("BadColouring", C_BadColouring), ("BadPicture", C_BadPicture), ("OutOfPlace", C_OutOfPlace), ("TooGreat", C_TooGreat), ("Nothing", C_Nothing), ("Pattern", C_Pattern), ("Band", C_Band), ("Desk", C_Desk)])⟩ (SRB ⟨K, (clOf [("BadStrings", C_BadStrings), ("BadPattern", C_BadPattern), ("BadColouring", C_BadColouring), ("BadPicture", C_BadPicture), ("OutOfPlace", C_OutOfPlace), ("TooGreat", C_TooGreat), ("Nothing", C_Nothing), ("Pattern", C_Pattern), ("Band", C_Band), ("Desk", C_Desk)])⟩ (fun _ => none)) 1 (semOf 2 g_Desk_spread_told)) := ⟨f_Desk_spread_told, _, _, ok_Desk_spread_told F_Desk_spread_told tx d_Band_colouring d_Band_picture d_spread, ⟨a_Desk_spread_told, i_Desk_spread_told, k_Desk_spread_told⟩, b_Desk_spread_told⟩
  have d_Desk_ever_told : Mdf false l.prog w K mg base 7 ((clOf [("BadStrings", C_BadStrings), ("BadPattern", C_BadPattern), ("BadColouring", C_BadColouring), ("BadPicture", C_BadPicture), ("OutOfPlace", C_OutOfPlace), ("TooGreat", C_TooGreat), ("Nothing", C_Nothing), ("Pattern", C_Pattern), ("Band", C_Band), ("Desk", C_Desk)]) "Desk") "ever_told" (spD ⟨K, (clOf [("BadStrings", C_BadStrings), ("BadPattern", C_BadPattern), ("BadColouring", C_BadColouring), ("BadPicture", C_BadPicture), ("OutOfPlace", C_OutOfPlace), ("TooGreat", C_TooGreat), ("Nothing", C_Nothing), ("Pattern", C_Pattern), ("Band", C_Band), ("Desk", C_Desk)])⟩ (SRB ⟨K, (clOf [("BadStrings", C_BadStrings), ("BadPattern", C_BadPattern), ("BadColouring", C_BadColouring), ("BadPicture", C_BadPicture), ("OutOfPlace", C_OutOfPlace), ("TooGreat", C_TooGreat), ("Nothing", C_Nothing), ("Pattern", C_Pattern), ("Band", C_Band), ("Desk", C_Desk)])⟩ (fun _ => none)) 1 (semOf 2 g_Desk_ever_told)) := ⟨f_Desk_ever_told, _, _, ok_Desk_ever_told F_Desk_ever_told tx d_Band_colouring d_Band_picture d_most_rows, ⟨a_Desk_ever_told, i_Desk_ever_told, k_Desk_ever_told⟩, b_Desk_ever_told⟩
  have d_Desk_made_told : Mdf false l.prog w K mg base 6 ((clOf [("BadStrings", C_BadStrings), ("BadPattern", C_BadPattern), ("BadColouring", C_BadColouring), ("BadPicture", C_BadPicture), ("OutOfPlace", C_OutOfPlace), ("TooGreat", C_TooGreat), ("Nothing", C_Nothing), ("Pattern", C_Pattern), ("Band", C_Band), ("Desk", C_Desk)]) "Desk") "made_told" (spD ⟨K, (clOf [("BadStrings", C_BadStrings), ("BadPattern", C_BadPattern), ("BadColouring", C_BadColouring), ("BadPicture", C_BadPicture), ("OutOfPlace", C_OutOfPlace), ("TooGreat", C_TooGreat), ("Nothing", C_Nothing), ("Pattern", C_Pattern), ("Band", C_Band), ("Desk", C_Desk)])⟩ (SRB ⟨K, (clOf [("BadStrings", C_BadStrings), ("BadPattern", C_BadPattern), ("BadColouring", C_BadColouring), ("BadPicture", C_BadPicture), ("OutOfPlace", C_OutOfPlace), ("TooGreat", C_TooGreat), ("Nothing", C_Nothing), ("Pattern", C_Pattern), ("Band", C_Band), ("Desk", C_Desk)])⟩ (fun _ => none)) 2 (semOf 2 g_Desk_made_told)) := ⟨f_Desk_made_told, _, _, ok_Desk_made_told F_Desk_made_told tx d_Band_colouring d_Band_picture d_can_be_made, ⟨a_Desk_made_told, i_Desk_made_told, k_Desk_made_told⟩, b_Desk_made_told⟩
  have d_Desk_alone : Mdf false l.prog w K mg base 9 ((clOf [("BadStrings", C_BadStrings), ("BadPattern", C_BadPattern), ("BadColouring", C_BadColouring), ("BadPicture", C_BadPicture), ("OutOfPlace", C_OutOfPlace), ("TooGreat", C_TooGreat), ("Nothing", C_Nothing), ("Pattern", C_Pattern), ("Band", C_Band), ("Desk", C_Desk)]) "Desk") "alone" (spD ⟨K, (clOf [("BadStrings", C_BadStrings), ("BadPattern", C_BadPattern), ("BadColouring", C_BadColouring), ("BadPicture", C_BadPicture), ("OutOfPlace", C_OutOfPlace), ("TooGreat", C_TooGreat), ("Nothing", C_Nothing), ("Pattern", C_Pattern), ("Band", C_Band), ("Desk", C_Desk)])⟩ (SRB ⟨K, (clOf [("BadStrings", C_BadStrings), ("BadPattern", C_BadPattern), ("BadColouring", C_BadColouring), ("BadPicture", C_BadPicture), ("OutOfPlace", C_OutOfPlace), ("TooGreat", C_TooGreat), ("Nothing", C_Nothing), ("Pattern", C_Pattern), ("Band", C_Band), ("Desk", C_Desk)])⟩ (fun _ => none)) 2 (semOf 3 g_Desk_alone)) := ⟨f_Desk_alone, _, _, ok_Desk_alone F_Desk_alone tx d_Band_colouring d_Band_picture d_Band_rows d_Band_stand d_Band_uses d_Desk_ever_told d_Desk_pattern d_Desk_spread_told d_joined d_period_by d_round_of, ⟨a_Desk_alone, i_Desk_alone, k_Desk_alone⟩, b_Desk_alone⟩
  have d_Desk_answered : Mdf false l.prog w K mg base 11 ((clOf [("BadStrings", C_BadStrings), ("BadPattern", C_BadPattern), ("BadColouring", C_BadColouring), ("BadPicture", C_BadPicture), ("OutOfPlace", C_OutOfPlace), ("TooGreat", C_TooGreat), ("Nothing", C_Nothing), ("Pattern", C_Pattern), ("Band", C_Band), ("Desk", C_Desk)]) "Desk") "answered" (spD ⟨K, (clOf [("BadStrings", C_BadStrings), ("BadPattern", C_BadPattern), ("BadColouring", C_BadColouring), ("BadPicture", C_BadPicture), ("OutOfPlace", C_OutOfPlace), ("TooGreat", C_TooGreat), ("Nothing", C_Nothing), ("Pattern", C_Pattern), ("Band", C_Band), ("Desk", C_Desk)])⟩ (SRB ⟨K, (clOf [("BadStrings", C_BadStrings), ("BadPattern", C_BadPattern), ("BadColouring", C_BadColouring), ("BadPicture", C_BadPicture), ("OutOfPlace", C_OutOfPlace), ("TooGreat", C_TooGreat), ("Nothing", C_Nothing), ("Pattern", C_Pattern), ("Band", C_Band), ("Desk", C_Desk)])⟩ (fun _ => none)) 2 (semOf 4 g_Desk_answered)) := ⟨f_Desk_answered, _, _, ok_Desk_answered F_Desk_answered tx d_Band_ddinitdd d_Desk_alone d_Desk_knotted d_Desk_made_told d_Desk_taken_back, ⟨a_Desk_answered, i_Desk_answered, k_Desk_answered⟩, b_Desk_answered⟩
  have d_Desk_say : Mdf false l.prog w K mg base 13 ((clOf [("BadStrings", C_BadStrings), ("BadPattern", C_BadPattern), ("BadColouring", C_BadColouring), ("BadPicture", C_BadPicture), ("OutOfPlace", C_OutOfPlace), ("TooGreat", C_TooGreat), ("Nothing", C_Nothing), ("Pattern", C_Pattern), ("Band", C_Band), ("Desk", C_Desk)]) "Desk") "say" (spD ⟨K, (clOf [("BadStrings", C_BadStrings), ("BadPattern", C_BadPattern), ("BadColouring", C_BadColouring), ("BadPicture", C_BadPicture), ("OutOfPlace", C_OutOfPlace), ("TooGreat", C_TooGreat), ("Nothing", C_Nothing), ("Pattern", C_Pattern), ("Band", C_Band), ("Desk", C_Desk)])⟩ (SRB ⟨K, (clOf [("BadStrings", C_BadStrings), ("BadPattern", C_BadPattern), ("BadColouring", C_BadColouring), ("BadPicture", C_BadPicture), ("OutOfPlace", C_OutOfPlace), ("TooGreat", C_TooGreat), ("Nothing", C_Nothing), ("Pattern", C_Pattern), ("Band", C_Band), ("Desk", C_Desk)])⟩ (fun _ => none)) 2 (semOf 2 g_Desk_say)) := ⟨f_Desk_say, _, _, ok_Desk_say F_Desk_say tx d_Desk_answered, ⟨a_Desk_say, i_Desk_say, k_Desk_say⟩, b_Desk_say⟩
  have d_law_begun : Dfn false l.prog w K mg base 1 "_law_begun" (spD ⟨K, (clOf [("BadStrings", C_BadStrings), ("BadPattern", C_BadPattern), ("BadColouring", C_BadColouring), ("BadPicture", C_BadPicture), ("OutOfPlace", C_OutOfPlace), ("TooGreat", C_TooGreat), ("Nothing", C_Nothing), ("Pattern", C_Pattern), ("Band", C_Band), ("Desk", C_Desk)])⟩ (SRB ⟨K, (clOf [("BadStrings", C_BadStrings), ("BadPattern", C_BadPattern), ("BadColouring", C_BadColouring), ("BadPicture", C_BadPicture), ("OutOfPlace", C_OutOfPlace), ("TooGreat", C_TooGreat), ("Nothing", C_Nothing), ("Pattern", C_Pattern), ("Band", C_Band), ("Desk", C_Desk)])⟩ (fun _ => none)) 1 (semOf 2 g_law_begun)) := ⟨f_law_begun, _, _, ok_law_begun F_law_begun tx , mg_of X G a_law_begun, k_law_begun, b_law_begun⟩
  have d_law_next : Dfn false l.prog w K mg base 1 "_law_next" (spD ⟨K, (clOf [("BadStrings", C_BadStrings), ("BadPattern", C_BadPattern), ("BadColouring", C_BadColouring), ("BadPicture", C_BadPicture), ("OutOfPlace", C_OutOfPlace), ("TooGreat", C_TooGreat), ("Nothing", C_Nothing), ("Pattern", C_Pattern), ("Band", C_Band), ("Desk", C_Desk)])⟩ (SRB ⟨K, (clOf [("BadStrings", C_BadStrings), ("BadPattern", C_BadPattern), ("BadColouring", C_BadColouring), ("BadPicture", C_BadPicture), ("OutOfPlace", C_OutOfPlace), ("TooGreat", C_TooGreat), ("Nothing", C_Nothing), ("Pattern", C_Pattern), ("Band", C_Band), ("Desk", C_Desk)])⟩ (fun _ => none)) 2 (semOf 6 g_law_next)) := ⟨f_law_next, _, _, ok_law_next F_law_next tx , mg_of X G a_law_next, k_law_next, b_law_next⟩
  have d_law_is_refused : Dfn false l.prog w K mg base 15 "_law_is_refused" (spD ⟨K, (clOf [("BadStrings", C_BadStrings), ("BadPattern", C_BadPattern), ("BadColouring", C_BadColouring), ("BadPicture", C_BadPicture), ("OutOfPlace", C_OutOfPlace), ("TooGreat", C_TooGreat), ("Nothing", C_Nothing), ("Pattern", C_Pattern), ("Band", C_Band), ("Desk", C_Desk)])⟩ (SRB ⟨K, (clOf [("BadStrings", C_BadStrings), ("BadPattern", C_BadPattern), ("BadColouring", C_BadColouring), ("BadPicture", C_BadPicture), ("OutOfPlace", C_OutOfPlace), ("TooGreat", C_TooGreat), ("Nothing", C_Nothing), ("Pattern", C_Pattern), ("Band", C_Band), ("Desk", C_Desk)])⟩ (fun _ => none)) 2 (semOf 3 g_law_is_refused)) := ⟨f_law_is_refused, _, _, ok_law_is_refused F_law_is_refused tx d_Desk_say, mg_of X G a_law_is_refused, k_law_is_refused, b_law_is_refused⟩
  have d_law_no_right : Dfn false l.prog w K mg base 15 "_law_no_right" (spD ⟨K, (clOf [("BadStrings", C_BadStrings), ("BadPattern", C_BadPattern), ("BadColouring", C_BadColouring), ("BadPicture", C_BadPicture), ("OutOfPlace", C_OutOfPlace), ("TooGreat", C_TooGreat), ("Nothing", C_Nothing), ("Pattern", C_Pattern), ("Band", C_Band), ("Desk", C_Desk)])⟩ (SRB ⟨K, (clOf [("BadStrings", C_BadStrings), ("BadPattern", C_BadPattern), ("BadColouring", C_BadColouring), ("BadPicture", C_BadPicture), ("OutOfPlace", C_OutOfPlace), ("TooGreat", C_TooGreat), ("Nothing", C_Nothing), ("Pattern", C_Pattern), ("Band", C_Band), ("Desk", C_Desk)])⟩ (fun _ => none)) 2 (semOf 4 g_law_no_right)) := ⟨f_law_no_right, _, _, ok_law_no_right F_law_no_right tx d_Desk_say, mg_of X G a_law_no_right, k_law_no_right, b_law_no_right⟩
  have d_law_drawn_text : Dfn false l.prog w K mg base 2 "_law_drawn_text" (spD ⟨K, (clOf [("BadStrings", C_BadStrings), ("BadPattern", C_BadPattern), ("BadColouring", C_BadColouring), ("BadPicture", C_BadPicture), ("OutOfPlace", C_OutOfPlace), ("TooGreat", C_TooGreat), ("Nothing", C_Nothing), ("Pattern", C_Pattern), ("Band", C_Band), ("Desk", C_Desk)])⟩ (SRB ⟨K, (clOf [("BadStrings", C_BadStrings), ("BadPattern", C_BadPattern), ("BadColouring", C_BadColouring), ("BadPicture", C_BadPicture), ("OutOfPlace", C_OutOfPlace), ("TooGreat", C_TooGreat), ("Nothing", C_Nothing), ("Pattern", C_Pattern), ("Band", C_Band), ("Desk", C_Desk)])⟩ (fun _ => none)) 1 (semOf 3 g_law_drawn_text)) := ⟨f_law_drawn_text, _, _, ok_law_drawn_text F_law_drawn_text tx d_law_next, mg_of X G a_law_drawn_text, k_law_drawn_text, b_law_drawn_text⟩
  exact FnG.of (ok_law F_law tx d_Band_ddcalldd d_Band_back d_Band_rows d_Desk_ddinitdd d_Desk_band d_Desk_say d_law_begun d_law_drawn_text d_law_is_refused d_law_no_right).ok
end KB
namespace KB
open PySem PySem.W PySem.Calls PyProof.Rows
def nm0 : List PySem.Str := ["_wall", "BadStrings", "BadPattern", "BadColouring", "BadPicture", "OutOfPlace", "TooGreat", "Nothing", "MOST_STRINGS", "MOST_ROWS", "KNOTS", "LETTERS", "is_whole", "need_whole", "need_strings", "places_in"]
def nm1 : List PySem.Str := ["many_in", "is_text", "is_colouring", "colouring_of", "row_fault", "knotted", "seen_in", "seen_through", "Pattern", "longer", "need_pattern", "MOST_FEW", "picture_of", "need_few", "need_all", "choices_at"]
def nm2 : List PySem.Str := ["ways_on", "led_from", "sets_of", "can_be_made", "check_motif", "need_motif", "next_to", "web_from", "depths_of", "most_rows", "check_loop", "need_loop", "begun_as", "round_in", "round_of", "seen_round"]
def nm3 : List PySem.Str := ["least_shift", "period_in", "period_by", "MORE", "MOST_BAND", "Band", "FIRST", "need_plain", "all_stands", "ways_through", "is_with", "spread", "BARE", "NO", "DONE", "NONE"]
def nm4 : List PySem.Str := ["number_of", "joined", "Desk", "_law_begun", "_law_next", "_law_is_refused", "_law_no_right", "_law_drawn_text"]
def hNames : List PySem.Str := nm0 ++ nm1 ++ nm2 ++ nm3 ++ nm4
abbrev hRow : OpenRow := OpenLaw.row PySem.Challenge.rw_knotbands_k58_any_line
abbrev hView : Program := view hRow.prog [81]
def hLaw : DefRec := { HandSHeadRun.topDef hRow.prog 81 with name := "law" }
end KB
open PySem PySem.W PyProof.Rows in
local macro_rules | `(tactic| o_head $H) => `(tactic| refine KB.head_k (H := $H) rfl KB.hView 20000 KB.hNames KB.hLaw (by kernel_rfl) (fun s => by kernel_rfl) (fun w os => by kernel_rfl) (by kernel_rfl) (by kernel_rfl) (by kernel_rfl) (by rfl) (by first | assumption | decide +kernel) (by decide +kernel) ⟨rfl, rfl, rfl, rfl, rfl, by decide +kernel⟩ ?hw ?hc)
open PySem PySem.W PyProof.Rows in
set_option maxRecDepth 100000 in
set_option maxHeartbeats 0 in
theorem PySem.Challenge.cw_knotbands_k58_any_line_holds : PySem.Challenge.rw_knotbands_k58_any_line.Holds := by
  w_on; o_law; k_head; (case hw => w_witness2)
  k_fill
  refine KB.walkLB (l := PySem.Challenge.rw_knotbands_k58_any_line) (n := 63) (k := 16) (x := "_law_script") (KB.semOf 12 KB.g_law) rfl (by decide) (by kernel_rfl) ⟨rfl, by decide, by decide⟩ (fun w h Y => PySem.W.kIn_of Y) ?F KB.law_true
  case F =>
    intro w mg fa h KX G hmg
    replace hmg : mg ("law" : PySem.Str) = some (.ref fa) := hmg
    refine' KB.all_mk KX G hmg ?xn_BadStrings ?xq_BadStrings ?xo_BadStrings ?xs_BadStrings ?xg_BadStrings ?xh_BadStrings ?xf_BadStrings ?xk_BadStrings ?xe_BadStrings ?xt_BadStrings ?xd_BadStrings ?xb_BadStrings ?xu_BadStrings ?xa_BadStrings ?xz_BadStrings ?xm_BadStrings ?x1_BadStrings ?x2_BadStrings ?x3_BadStrings ?x4_BadStrings ?x5_BadStrings ?x6_BadStrings ?x7_BadStrings ?x8_BadStrings ?x9_BadStrings ?xn_BadPattern ?xq_BadPattern ?xo_BadPattern ?xs_BadPattern ?xg_BadPattern ?xh_BadPattern ?xf_BadPattern ?xk_BadPattern ?xe_BadPattern ?xt_BadPattern ?xd_BadPattern ?xb_BadPattern ?xu_BadPattern ?xa_BadPattern ?xz_BadPattern ?xm_BadPattern ?x1_BadPattern ?x2_BadPattern ?x3_BadPattern ?x4_BadPattern ?x5_BadPattern ?x6_BadPattern ?x7_BadPattern ?x8_BadPattern ?x9_BadPattern ?xn_BadColouring ?xq_BadColouring ?xo_BadColouring ?xs_BadColouring ?xg_BadColouring ?xh_BadColouring ?xf_BadColouring ?xk_BadColouring ?xe_BadColouring ?xt_BadColouring ?xd_BadColouring ?xb_BadColouring ?xu_BadColouring ?xa_BadColouring ?xz_BadColouring ?xm_BadColouring ?x1_BadColouring ?x2_BadColouring ?x3_BadColouring ?x4_BadColouring ?x5_BadColouring ?x6_BadColouring ?x7_BadColouring ?x8_BadColouring ?x9_BadColouring ?xn_BadPicture ?xq_BadPicture ?xo_BadPicture ?xs_BadPicture ?xg_BadPicture ?xh_BadPicture ?xf_BadPicture ?xk_BadPicture ?xe_BadPicture ?xt_BadPicture ?xd_BadPicture ?xb_BadPicture ?xu_BadPicture ?xa_BadPicture ?xz_BadPicture ?xm_BadPicture ?x1_BadPicture ?x2_BadPicture ?x3_BadPicture ?x4_BadPicture ?x5_BadPicture ?x6_BadPicture ?x7_BadPicture ?x8_BadPicture ?x9_BadPicture ?xn_OutOfPlace ?xq_OutOfPlace ?xo_OutOfPlace ?xs_OutOfPlace ?xg_OutOfPlace ?xh_OutOfPlace ?xf_OutOfPlace ?xk_OutOfPlace ?xe_OutOfPlace ?xt_OutOfPlace ?xd_OutOfPlace ?xb_OutOfPlace ?xu_OutOfPlace ?xa_OutOfPlace ?xz_OutOfPlace ?xm_OutOfPlace ?x1_OutOfPlace ?x2_OutOfPlace ?x3_OutOfPlace ?x4_OutOfPlace ?x5_OutOfPlace ?x6_OutOfPlace ?x7_OutOfPlace ?x8_OutOfPlace ?x9_OutOfPlace ?xn_TooGreat ?xq_TooGreat ?xo_TooGreat ?xs_TooGreat ?xg_TooGreat ?xh_TooGreat ?xf_TooGreat ?xk_TooGreat ?xe_TooGreat ?xt_TooGreat ?xd_TooGreat ?xb_TooGreat ?xu_TooGreat ?xa_TooGreat ?xz_TooGreat ?xm_TooGreat ?x1_TooGreat ?x2_TooGreat ?x3_TooGreat ?x4_TooGreat ?x5_TooGreat ?x6_TooGreat ?x7_TooGreat ?x8_TooGreat ?x9_TooGreat ?xn_Nothing ?xq_Nothing ?xo_Nothing ?xs_Nothing ?xg_Nothing ?xh_Nothing ?xf_Nothing ?xk_Nothing ?xe_Nothing ?xt_Nothing ?xd_Nothing ?xb_Nothing ?xu_Nothing ?xa_Nothing ?xz_Nothing ?xm_Nothing ?x1_Nothing ?x2_Nothing ?x3_Nothing ?x4_Nothing ?x5_Nothing ?x6_Nothing ?x7_Nothing ?x8_Nothing ?x9_Nothing ?ex_OutOfPlace_OutOfPlace ?qn_Pattern ?qg_Pattern ?qh_Pattern ?qp_Pattern ?qs_Pattern ?qm_Pattern ?qk_Pattern ?qc_Pattern ?qd_Pattern ?qt_Pattern ?qo_Pattern ?qf_Pattern ?qx_Pattern ?qr_Pattern ?qi0_Pattern ?qi1_Pattern ?qi2_Pattern ?qi3_Pattern ?qi4_Pattern ?qi5_Pattern ?qi6_Pattern ?qf_own_strings_Pattern ?qf_own_rows_Pattern ?qn_Band ?qg_Band ?qh_Band ?qp_Band ?qs_Band ?qm_Band ?qk_Band ?qc_Band ?qd_Band ?qt_Band ?qo_Band ?qx_Band ?qi0_Band ?qi1_Band ?qi2_Band ?qi3_Band ?qi4_Band ?qi5_Band ?qi6_Band ?qf_own_colouring_Band ?qf_own_rows_Band ?qf_own_order_Band ?qf_own_seen_Band ?qn_Desk ?qg_Desk ?qh_Desk ?qp_Desk ?qs_Desk ?qm_Desk ?qk_Desk ?qc_Desk ?qd_Desk ?qt_Desk ?qo_Desk ?qx_Desk ?qi0_Desk ?qi1_Desk ?qi2_Desk ?qi3_Desk ?qi4_Desk ?qi5_Desk ?qi6_Desk ?qf_own_Desk ?ex_BadColouring_BadColouring ?ex_BadColouring_BadPattern ?ex_BadColouring_BadPicture ?ex_BadColouring_BadStrings ?ex_BadColouring_Nothing ?ex_BadColouring_OutOfPlace ?ex_BadColouring_TooGreat ?ex_BadPattern_BadColouring ?ex_BadPattern_BadPattern ?ex_BadPattern_BadPicture ?ex_BadPattern_BadStrings ?ex_BadPattern_Nothing ?ex_BadPattern_OutOfPlace ?ex_BadPattern_TooGreat ?ex_BadPicture_BadColouring ?ex_BadPicture_BadPattern ?ex_BadPicture_BadPicture ?ex_BadPicture_BadStrings ?ex_BadPicture_Nothing ?ex_BadPicture_OutOfPlace ?ex_BadPicture_TooGreat ?ex_BadStrings_BadColouring ?ex_BadStrings_BadPattern ?ex_BadStrings_BadPicture ?ex_BadStrings_BadStrings ?ex_BadStrings_Nothing ?ex_BadStrings_OutOfPlace ?ex_BadStrings_TooGreat ?ex_Nothing_BadColouring ?ex_Nothing_BadPattern ?ex_Nothing_BadPicture ?ex_Nothing_BadStrings ?ex_Nothing_Nothing ?ex_Nothing_OutOfPlace ?ex_Nothing_TooGreat ?ex_OutOfPlace_BadColouring ?ex_OutOfPlace_BadPattern ?ex_OutOfPlace_BadPicture ?ex_OutOfPlace_BadStrings ?ex_OutOfPlace_Nothing ?ex_OutOfPlace_TooGreat ?ex_TooGreat_BadColouring ?ex_TooGreat_BadPattern ?ex_TooGreat_BadPicture ?ex_TooGreat_BadStrings ?ex_TooGreat_Nothing ?ex_TooGreat_OutOfPlace ?ex_TooGreat_TooGreat ?htop ?k_MOST_STRINGS ?k_MOST_ROWS ?k_KNOTS ?k_LETTERS ?k_MOST_FEW ?k_MORE ?k_MOST_BAND ?k_FIRST ?k_BARE ?k_NO ?k_DONE ?k_NONE ?z_all ?z_bool ?z_enumerate ?z_int ?z_isinstance ?z_len ?z_list ?z_min ?z_range ?z_str ?z_sum ?z_tuple ?z_zip ?a_is_whole ?l_is_whole ?c_is_whole ?k_is_whole ?a_need_strings ?l_need_strings ?c_need_strings ?k_need_strings ?a_places_in ?l_places_in ?c_places_in ?k_places_in ?a_many_in ?l_many_in ?c_many_in ?k_many_in ?a_is_text ?l_is_text ?c_is_text ?k_is_text ?a_is_colouring ?l_is_colouring ?c_is_colouring ?k_is_colouring ?a_colouring_of ?l_colouring_of ?c_colouring_of ?k_colouring_of ?a_row_fault ?l_row_fault ?c_row_fault ?k_row_fault ?a_knotted ?l_knotted ?c_knotted ?k_knotted ?a_seen_in ?l_seen_in ?c_seen_in ?k_seen_in ?a_seen_through ?l_seen_through ?c_seen_through ?k_seen_through ?a_Pattern_ddinitdd ?i_Pattern_ddinitdd ?l_Pattern_ddinitdd ?c_Pattern_ddinitdd ?k_Pattern_ddinitdd ?a_Pattern_strings ?b_Pattern_strings ?t_Pattern_strings ?r_Pattern_strings ?l_Pattern_strings ?c_Pattern_strings ?k_Pattern_strings ?a_Pattern_order ?b_Pattern_order ?t_Pattern_order ?r_Pattern_order ?l_Pattern_order ?c_Pattern_order ?k_Pattern_order ?a_Pattern_seen ?b_Pattern_seen ?t_Pattern_seen ?r_Pattern_seen ?l_Pattern_seen ?c_Pattern_seen ?k_Pattern_seen ?a_Pattern_is_even ?b_Pattern_is_even ?t_Pattern_is_even ?r_Pattern_is_even ?l_Pattern_is_even ?c_Pattern_is_even ?k_Pattern_is_even ?a_Pattern_ddlendd ?i_Pattern_ddlendd ?l_Pattern_ddlendd ?c_Pattern_ddlendd ?k_Pattern_ddlendd ?a_need_pattern ?l_need_pattern ?c_need_pattern ?k_need_pattern ?a_picture_of ?l_picture_of ?c_picture_of ?k_picture_of ?a_need_few ?l_need_few ?c_need_few ?k_need_few ?a_need_all ?l_need_all ?c_need_all ?k_need_all ?a_can_be_made ?l_can_be_made ?c_can_be_made ?k_can_be_made ?a_check_motif ?l_check_motif ?c_check_motif ?k_check_motif ?a_need_motif ?l_need_motif ?c_need_motif ?k_need_motif ?a_most_rows ?l_most_rows ?c_most_rows ?k_most_rows ?a_check_loop ?l_check_loop ?c_check_loop ?k_check_loop ?a_need_loop ?l_need_loop ?c_need_loop ?k_need_loop ?a_begun_as ?l_begun_as ?c_begun_as ?k_begun_as ?a_round_in ?l_round_in ?c_round_in ?k_round_in ?a_round_of ?l_round_of ?c_round_of ?k_round_of ?a_seen_round ?l_seen_round ?c_seen_round ?k_seen_round ?a_least_shift ?l_least_shift ?c_least_shift ?k_least_shift ?a_period_in ?l_period_in ?c_period_in ?k_period_in ?a_period_by ?l_period_by ?c_period_by ?k_period_by ?a_Band_add_row ?i_Band_add_row ?l_Band_add_row ?c_Band_add_row ?k_Band_add_row ?a_Band_put_in ?i_Band_put_in ?l_Band_put_in ?c_Band_put_in ?k_Band_put_in ?a_Band_ddinitdd ?i_Band_ddinitdd ?l_Band_ddinitdd ?c_Band_ddinitdd ?k_Band_ddinitdd ?a_Band_colouring ?b_Band_colouring ?t_Band_colouring ?r_Band_colouring ?l_Band_colouring ?c_Band_colouring ?k_Band_colouring ?a_Band_rows ?b_Band_rows ?t_Band_rows ?r_Band_rows ?l_Band_rows ?c_Band_rows ?k_Band_rows ?a_Band_picture ?b_Band_picture ?t_Band_picture ?r_Band_picture ?l_Band_picture ?c_Band_picture ?k_Band_picture ?a_Band_stand ?b_Band_stand ?t_Band_stand ?r_Band_stand ?l_Band_stand ?c_Band_stand ?k_Band_stand ?a_Band_uses ?b_Band_uses ?t_Band_uses ?r_Band_uses ?l_Band_uses ?c_Band_uses ?k_Band_uses ?a_Band_ddcalldd ?i_Band_ddcalldd ?fi_Band_ddcalldd ?l_Band_ddcalldd ?c_Band_ddcalldd ?k_Band_ddcalldd ?a_Band_back ?i_Band_back ?l_Band_back ?c_Band_back ?k_Band_back ?kr_Band_back ?kn_Band_back ?a_need_plain ?l_need_plain ?c_need_plain ?k_need_plain ?a_spread ?l_spread ?c_spread ?k_spread ?a_number_of ?l_number_of ?c_number_of ?k_number_of ?a_joined ?l_joined ?c_joined ?k_joined ?a_Desk_ddinitdd ?i_Desk_ddinitdd ?l_Desk_ddinitdd ?c_Desk_ddinitdd ?k_Desk_ddinitdd ?a_Desk_band ?b_Desk_band ?t_Desk_band ?r_Desk_band ?l_Desk_band ?c_Desk_band ?k_Desk_band ?a_Desk_pattern ?i_Desk_pattern ?l_Desk_pattern ?c_Desk_pattern ?k_Desk_pattern ?a_Desk_knotted ?i_Desk_knotted ?l_Desk_knotted ?c_Desk_knotted ?k_Desk_knotted ?a_Desk_taken_back ?i_Desk_taken_back ?l_Desk_taken_back ?c_Desk_taken_back ?k_Desk_taken_back ?a_Desk_spread_told ?i_Desk_spread_told ?l_Desk_spread_told ?c_Desk_spread_told ?k_Desk_spread_told ?a_Desk_ever_told ?i_Desk_ever_told ?l_Desk_ever_told ?c_Desk_ever_told ?k_Desk_ever_told ?a_Desk_made_told ?i_Desk_made_told ?l_Desk_made_told ?c_Desk_made_told ?k_Desk_made_told ?a_Desk_alone ?i_Desk_alone ?l_Desk_alone ?c_Desk_alone ?k_Desk_alone ?a_Desk_answered ?i_Desk_answered ?l_Desk_answered ?c_Desk_answered ?k_Desk_answered ?a_Desk_say ?i_Desk_say ?l_Desk_say ?c_Desk_say ?k_Desk_say ?a_law_begun ?l_law_begun ?c_law_begun ?k_law_begun ?a_law_next ?l_law_next ?c_law_next ?k_law_next ?a_law_is_refused ?l_law_is_refused ?c_law_is_refused ?k_law_is_refused ?a_law_no_right ?l_law_no_right ?c_law_no_right ?k_law_no_right ?a_law_drawn_text ?l_law_drawn_text ?c_law_drawn_text ?k_law_drawn_text ?a_law ?l_law ?c_law ?k_law
    (case xn_BadStrings => k_is)
    (case xq_BadStrings => first | kx_is | rfl)
    (case xo_BadStrings => first | kx_is | rfl)
    (case xs_BadStrings => k_is)
    (case xg_BadStrings => k_is)
    (case xh_BadStrings => k_is)
    (case xf_BadStrings => k_is)
    (case xk_BadStrings => k_is)
    (case xe_BadStrings => k_is)
    (case xt_BadStrings => k_is)
    (case xd_BadStrings => k_is)
    (case xb_BadStrings => k_is)
    (case xu_BadStrings => first | k_is | ks_is)
    (case xa_BadStrings => k_is)
    (case xz_BadStrings => k_is)
    (case xm_BadStrings => first | rfl | k_is)
    (case x1_BadStrings => k_is)
    (case x2_BadStrings => k_is)
    (case x3_BadStrings => k_is)
    (case x4_BadStrings => k_is)
    (case x5_BadStrings => k_is)
    (case x6_BadStrings => first | rfl | k_is)
    (case x7_BadStrings => first | rfl | decide +kernel)
    (case x8_BadStrings => k_is)
    (case x9_BadStrings => intro env; exact ⟨_, rfl⟩)
    (case xn_BadPattern => k_is)
    (case xq_BadPattern => first | kx_is | rfl)
    (case xo_BadPattern => first | kx_is | rfl)
    (case xs_BadPattern => k_is)
    (case xg_BadPattern => k_is)
    (case xh_BadPattern => k_is)
    (case xf_BadPattern => k_is)
    (case xk_BadPattern => k_is)
    (case xe_BadPattern => k_is)
    (case xt_BadPattern => k_is)
    (case xd_BadPattern => k_is)
    (case xb_BadPattern => k_is)
    (case xu_BadPattern => first | k_is | ks_is)
    (case xa_BadPattern => k_is)
    (case xz_BadPattern => k_is)
    (case xm_BadPattern => first | rfl | k_is)
    (case x1_BadPattern => k_is)
    (case x2_BadPattern => k_is)
    (case x3_BadPattern => k_is)
    (case x4_BadPattern => k_is)
    (case x5_BadPattern => k_is)
    (case x6_BadPattern => first | rfl | k_is)
    (case x7_BadPattern => first | rfl | decide +kernel)
    (case x8_BadPattern => k_is)
    (case x9_BadPattern => intro env; exact ⟨_, rfl⟩)
    (case xn_BadColouring => k_is)
    (case xq_BadColouring => first | kx_is | rfl)
    (case xo_BadColouring => first | kx_is | rfl)
    (case xs_BadColouring => k_is)
    (case xg_BadColouring => k_is)
    (case xh_BadColouring => k_is)
    (case xf_BadColouring => k_is)
    (case xk_BadColouring => k_is)
    (case xe_BadColouring => k_is)
    (case xt_BadColouring => k_is)
    (case xd_BadColouring => k_is)
    (case xb_BadColouring => k_is)
    (case xu_BadColouring => first | k_is | ks_is)
    (case xa_BadColouring => k_is)
    (case xz_BadColouring => k_is)
    (case xm_BadColouring => first | rfl | k_is)
    (case x1_BadColouring => k_is)
    (case x2_BadColouring => k_is)
    (case x3_BadColouring => k_is)
    (case x4_BadColouring => k_is)
    (case x5_BadColouring => k_is)
    (case x6_BadColouring => first | rfl | k_is)
    (case x7_BadColouring => first | rfl | decide +kernel)
    (case x8_BadColouring => k_is)
    (case x9_BadColouring => intro env; exact ⟨_, rfl⟩)
    (case xn_BadPicture => k_is)
    (case xq_BadPicture => first | kx_is | rfl)
    (case xo_BadPicture => first | kx_is | rfl)
    (case xs_BadPicture => k_is)
    (case xg_BadPicture => k_is)
    (case xh_BadPicture => k_is)
    (case xf_BadPicture => k_is)
    (case xk_BadPicture => k_is)
    (case xe_BadPicture => k_is)
    (case xt_BadPicture => k_is)
    (case xd_BadPicture => k_is)
    (case xb_BadPicture => k_is)
    (case xu_BadPicture => first | k_is | ks_is)
    (case xa_BadPicture => k_is)
    (case xz_BadPicture => k_is)
    (case xm_BadPicture => first | rfl | k_is)
    (case x1_BadPicture => k_is)
    (case x2_BadPicture => k_is)
    (case x3_BadPicture => k_is)
    (case x4_BadPicture => k_is)
    (case x5_BadPicture => k_is)
    (case x6_BadPicture => first | rfl | k_is)
    (case x7_BadPicture => first | rfl | decide +kernel)
    (case x8_BadPicture => k_is)
    (case x9_BadPicture => intro env; exact ⟨_, rfl⟩)
    (case xn_OutOfPlace => k_is)
    (case xq_OutOfPlace => first | kx_is | rfl)
    (case xo_OutOfPlace => first | kx_is | rfl)
    (case xs_OutOfPlace => k_is)
    (case xg_OutOfPlace => k_is)
    (case xh_OutOfPlace => k_is)
    (case xf_OutOfPlace => k_is)
    (case xk_OutOfPlace => k_is)
    (case xe_OutOfPlace => k_is)
    (case xt_OutOfPlace => k_is)
    (case xd_OutOfPlace => k_is)
    (case xb_OutOfPlace => k_is)
    (case xu_OutOfPlace => first | k_is | ks_is)
    (case xa_OutOfPlace => k_is)
    (case xz_OutOfPlace => k_is)
    (case xm_OutOfPlace => first | rfl | k_is)
    (case x1_OutOfPlace => k_is)
    (case x2_OutOfPlace => k_is)
    (case x3_OutOfPlace => k_is)
    (case x4_OutOfPlace => k_is)
    (case x5_OutOfPlace => k_is)
    (case x6_OutOfPlace => first | rfl | k_is)
    (case x7_OutOfPlace => first | rfl | decide +kernel)
    (case x8_OutOfPlace => k_is)
    (case x9_OutOfPlace => intro env; exact ⟨_, rfl⟩)
    (case xn_TooGreat => k_is)
    (case xq_TooGreat => first | kx_is | rfl)
    (case xo_TooGreat => first | kx_is | rfl)
    (case xs_TooGreat => k_is)
    (case xg_TooGreat => k_is)
    (case xh_TooGreat => k_is)
    (case xf_TooGreat => k_is)
    (case xk_TooGreat => k_is)
    (case xe_TooGreat => k_is)
    (case xt_TooGreat => k_is)
    (case xd_TooGreat => k_is)
    (case xb_TooGreat => k_is)
    (case xu_TooGreat => first | k_is | ks_is)
    (case xa_TooGreat => k_is)
    (case xz_TooGreat => k_is)
    (case xm_TooGreat => first | rfl | k_is)
    (case x1_TooGreat => k_is)
    (case x2_TooGreat => k_is)
    (case x3_TooGreat => k_is)
    (case x4_TooGreat => k_is)
    (case x5_TooGreat => k_is)
    (case x6_TooGreat => first | rfl | k_is)
    (case x7_TooGreat => first | rfl | decide +kernel)
    (case x8_TooGreat => k_is)
    (case x9_TooGreat => intro env; exact ⟨_, rfl⟩)
    (case xn_Nothing => k_is)
    (case xq_Nothing => first | kx_is | rfl)
    (case xo_Nothing => first | kx_is | rfl)
    (case xs_Nothing => k_is)
    (case xg_Nothing => k_is)
    (case xh_Nothing => k_is)
    (case xf_Nothing => k_is)
    (case xk_Nothing => k_is)
    (case xe_Nothing => k_is)
    (case xt_Nothing => k_is)
    (case xd_Nothing => k_is)
    (case xb_Nothing => k_is)
    (case xu_Nothing => first | k_is | ks_is)
    (case xa_Nothing => k_is)
    (case xz_Nothing => k_is)
    (case xm_Nothing => first | rfl | k_is)
    (case x1_Nothing => k_is)
    (case x2_Nothing => k_is)
    (case x3_Nothing => k_is)
    (case x4_Nothing => k_is)
    (case x5_Nothing => k_is)
    (case x6_Nothing => first | rfl | k_is)
    (case x7_Nothing => first | rfl | decide +kernel)
    (case x8_Nothing => k_is)
    (case x9_Nothing => intro env; exact ⟨_, rfl⟩)
    (case ex_OutOfPlace_OutOfPlace => first | rfl | k_is)
    (case qn_Pattern => k_is)
    (case qg_Pattern => k_is)
    (case qh_Pattern => k_is)
    (case qp_Pattern => k_is)
    (case qs_Pattern => k_is)
    (case qm_Pattern => k_is)
    (case qk_Pattern => k_is)
    (case qc_Pattern => k_is)
    (case qd_Pattern => k_is)
    (case qt_Pattern => k_is)
    (case qo_Pattern => k_is)
    (case qf_Pattern => k_is)
    (case qx_Pattern => k_is)
    (case qr_Pattern => k_is)
    (case qi0_Pattern => first | k_is | rfl)
    (case qi1_Pattern => first | k_is | rfl)
    (case qi2_Pattern => first | k_is | rfl)
    (case qi3_Pattern => first | k_is | rfl)
    (case qi4_Pattern => first | k_is | rfl)
    (case qi5_Pattern => first | k_is | rfl)
    (case qi6_Pattern => first | k_is | rfl)
    (case qf_own_strings_Pattern => k_is)
    (case qf_own_rows_Pattern => k_is)
    (case qn_Band => k_is)
    (case qg_Band => k_is)
    (case qh_Band => k_is)
    (case qp_Band => k_is)
    (case qs_Band => k_is)
    (case qm_Band => k_is)
    (case qk_Band => k_is)
    (case qc_Band => k_is)
    (case qd_Band => k_is)
    (case qt_Band => k_is)
    (case qo_Band => k_is)
    (case qx_Band => k_is)
    (case qi0_Band => first | k_is | rfl)
    (case qi1_Band => first | k_is | rfl)
    (case qi2_Band => first | k_is | rfl)
    (case qi3_Band => first | k_is | rfl)
    (case qi4_Band => first | k_is | rfl)
    (case qi5_Band => first | k_is | rfl)
    (case qi6_Band => first | k_is | rfl)
    (case qf_own_colouring_Band => k_is)
    (case qf_own_rows_Band => k_is)
    (case qf_own_order_Band => k_is)
    (case qf_own_seen_Band => k_is)
    (case qn_Desk => k_is)
    (case qg_Desk => k_is)
    (case qh_Desk => k_is)
    (case qp_Desk => k_is)
    (case qs_Desk => k_is)
    (case qm_Desk => k_is)
    (case qk_Desk => k_is)
    (case qc_Desk => k_is)
    (case qd_Desk => k_is)
    (case qt_Desk => k_is)
    (case qo_Desk => k_is)
    (case qx_Desk => k_is)
    (case qi0_Desk => first | k_is | rfl)
    (case qi1_Desk => first | k_is | rfl)
    (case qi2_Desk => first | k_is | rfl)
    (case qi3_Desk => first | k_is | rfl)
    (case qi4_Desk => first | k_is | rfl)
    (case qi5_Desk => first | k_is | rfl)
    (case qi6_Desk => first | k_is | rfl)
    (case qf_own_Desk => k_is)
    (case ex_BadColouring_BadColouring => first | rfl | k_is)
    (case ex_BadColouring_BadPattern => first | rfl | k_is)
    (case ex_BadColouring_BadPicture => first | rfl | k_is)
    (case ex_BadColouring_BadStrings => first | rfl | k_is)
    (case ex_BadColouring_Nothing => first | rfl | k_is)
    (case ex_BadColouring_OutOfPlace => first | rfl | k_is)
    (case ex_BadColouring_TooGreat => first | rfl | k_is)
    (case ex_BadPattern_BadColouring => first | rfl | k_is)
    (case ex_BadPattern_BadPattern => first | rfl | k_is)
    (case ex_BadPattern_BadPicture => first | rfl | k_is)
    (case ex_BadPattern_BadStrings => first | rfl | k_is)
    (case ex_BadPattern_Nothing => first | rfl | k_is)
    (case ex_BadPattern_OutOfPlace => first | rfl | k_is)
    (case ex_BadPattern_TooGreat => first | rfl | k_is)
    (case ex_BadPicture_BadColouring => first | rfl | k_is)
    (case ex_BadPicture_BadPattern => first | rfl | k_is)
    (case ex_BadPicture_BadPicture => first | rfl | k_is)
    (case ex_BadPicture_BadStrings => first | rfl | k_is)
    (case ex_BadPicture_Nothing => first | rfl | k_is)
    (case ex_BadPicture_OutOfPlace => first | rfl | k_is)
    (case ex_BadPicture_TooGreat => first | rfl | k_is)
    (case ex_BadStrings_BadColouring => first | rfl | k_is)
    (case ex_BadStrings_BadPattern => first | rfl | k_is)
    (case ex_BadStrings_BadPicture => first | rfl | k_is)
    (case ex_BadStrings_BadStrings => first | rfl | k_is)
    (case ex_BadStrings_Nothing => first | rfl | k_is)
    (case ex_BadStrings_OutOfPlace => first | rfl | k_is)
    (case ex_BadStrings_TooGreat => first | rfl | k_is)
    (case ex_Nothing_BadColouring => first | rfl | k_is)
    (case ex_Nothing_BadPattern => first | rfl | k_is)
    (case ex_Nothing_BadPicture => first | rfl | k_is)
    (case ex_Nothing_BadStrings => first | rfl | k_is)
    (case ex_Nothing_Nothing => first | rfl | k_is)
    (case ex_Nothing_OutOfPlace => first | rfl | k_is)
    (case ex_Nothing_TooGreat => first | rfl | k_is)
    (case ex_OutOfPlace_BadColouring => first | rfl | k_is)
    (case ex_OutOfPlace_BadPattern => first | rfl | k_is)
    (case ex_OutOfPlace_BadPicture => first | rfl | k_is)
    (case ex_OutOfPlace_BadStrings => first | rfl | k_is)
    (case ex_OutOfPlace_Nothing => first | rfl | k_is)
    (case ex_OutOfPlace_TooGreat => first | rfl | k_is)
    (case ex_TooGreat_BadColouring => first | rfl | k_is)
    (case ex_TooGreat_BadPattern => first | rfl | k_is)
    (case ex_TooGreat_BadPicture => first | rfl | k_is)
    (case ex_TooGreat_BadStrings => first | rfl | k_is)
    (case ex_TooGreat_Nothing => first | rfl | k_is)
    (case ex_TooGreat_OutOfPlace => first | rfl | k_is)
    (case ex_TooGreat_TooGreat => first | rfl | k_is)
    (case htop => first | rfl | decide +kernel)
    (case k_MOST_STRINGS => k_is)
    (case k_MOST_ROWS => k_is)
    (case k_KNOTS => k_is)
    (case k_LETTERS => k_is)
    (case k_MOST_FEW => k_is)
    (case k_MORE => k_is)
    (case k_MOST_BAND => k_is)
    (case k_FIRST => k_is)
    (case k_BARE => k_is)
    (case k_NO => k_is)
    (case k_DONE => k_is)
    (case k_NONE => k_is)
    (case z_all => k_is)
    (case z_bool => k_is)
    (case z_enumerate => k_is)
    (case z_int => k_is)
    (case z_isinstance => k_is)
    (case z_len => k_is)
    (case z_list => k_is)
    (case z_min => k_is)
    (case z_range => k_is)
    (case z_str => k_is)
    (case z_sum => k_is)
    (case z_tuple => k_is)
    (case z_zip => k_is)
    (case a_is_whole => k_is)
    (case l_is_whole => k_is)
    (case c_is_whole => k_is)
    (case k_is_whole => k_is)
    (case a_need_strings => k_is)
    (case l_need_strings => k_is)
    (case c_need_strings => k_is)
    (case k_need_strings => k_is)
    (case a_places_in => k_is)
    (case l_places_in => k_is)
    (case c_places_in => k_is)
    (case k_places_in => k_is)
    (case a_many_in => k_is)
    (case l_many_in => k_is)
    (case c_many_in => k_is)
    (case k_many_in => k_is)
    (case a_is_text => k_is)
    (case l_is_text => k_is)
    (case c_is_text => k_is)
    (case k_is_text => k_is)
    (case a_is_colouring => k_is)
    (case l_is_colouring => k_is)
    (case c_is_colouring => k_is)
    (case k_is_colouring => k_is)
    (case a_colouring_of => k_is)
    (case l_colouring_of => k_is)
    (case c_colouring_of => k_is)
    (case k_colouring_of => k_is)
    (case a_row_fault => k_is)
    (case l_row_fault => k_is)
    (case c_row_fault => k_is)
    (case k_row_fault => k_is)
    (case a_knotted => k_is)
    (case l_knotted => k_is)
    (case c_knotted => k_is)
    (case k_knotted => k_is)
    (case a_seen_in => k_is)
    (case l_seen_in => k_is)
    (case c_seen_in => k_is)
    (case k_seen_in => k_is)
    (case a_seen_through => k_is)
    (case l_seen_through => k_is)
    (case c_seen_through => k_is)
    (case k_seen_through => k_is)
    (case a_Pattern_ddinitdd => k_is)
    (case i_Pattern_ddinitdd => k_is)
    (case l_Pattern_ddinitdd => k_is)
    (case c_Pattern_ddinitdd => k_is)
    (case k_Pattern_ddinitdd => k_is)
    (case a_Pattern_strings => k_is)
    (case b_Pattern_strings => k_is)
    (case t_Pattern_strings => k_is)
    (case r_Pattern_strings => k_is)
    (case l_Pattern_strings => k_is)
    (case c_Pattern_strings => k_is)
    (case k_Pattern_strings => k_is)
    (case a_Pattern_order => k_is)
    (case b_Pattern_order => k_is)
    (case t_Pattern_order => k_is)
    (case r_Pattern_order => k_is)
    (case l_Pattern_order => k_is)
    (case c_Pattern_order => k_is)
    (case k_Pattern_order => k_is)
    (case a_Pattern_seen => k_is)
    (case b_Pattern_seen => k_is)
    (case t_Pattern_seen => k_is)
    (case r_Pattern_seen => k_is)
    (case l_Pattern_seen => k_is)
    (case c_Pattern_seen => k_is)
    (case k_Pattern_seen => k_is)
    (case a_Pattern_is_even => k_is)
    (case b_Pattern_is_even => k_is)
    (case t_Pattern_is_even => k_is)
    (case r_Pattern_is_even => k_is)
    (case l_Pattern_is_even => k_is)
    (case c_Pattern_is_even => k_is)
    (case k_Pattern_is_even => k_is)
    (case a_Pattern_ddlendd => k_is)
    (case i_Pattern_ddlendd => k_is)
    (case l_Pattern_ddlendd => k_is)
    (case c_Pattern_ddlendd => k_is)
    (case k_Pattern_ddlendd => k_is)
    (case a_need_pattern => k_is)
    (case l_need_pattern => k_is)
    (case c_need_pattern => k_is)
    (case k_need_pattern => k_is)
    (case a_picture_of => k_is)
    (case l_picture_of => k_is)
    (case c_picture_of => k_is)
    (case k_picture_of => k_is)
    (case a_need_few => k_is)
    (case l_need_few => k_is)
    (case c_need_few => k_is)
    (case k_need_few => k_is)
    (case a_need_all => k_is)
    (case l_need_all => k_is)
    (case c_need_all => k_is)
    (case k_need_all => k_is)
    (case a_can_be_made => k_is)
    (case l_can_be_made => k_is)
    (case c_can_be_made => k_is)
    (case k_can_be_made => k_is)
    (case a_check_motif => k_is)
    (case l_check_motif => k_is)
    (case c_check_motif => k_is)
    (case k_check_motif => k_is)
    (case a_need_motif => k_is)
    (case l_need_motif => k_is)
    (case c_need_motif => k_is)
    (case k_need_motif => k_is)
    (case a_most_rows => k_is)
    (case l_most_rows => k_is)
    (case c_most_rows => k_is)
    (case k_most_rows => k_is)
    (case a_check_loop => k_is)
    (case l_check_loop => k_is)
    (case c_check_loop => k_is)
    (case k_check_loop => k_is)
    (case a_need_loop => k_is)
    (case l_need_loop => k_is)
    (case c_need_loop => k_is)
    (case k_need_loop => k_is)
    (case a_begun_as => k_is)
    (case l_begun_as => k_is)
    (case c_begun_as => k_is)
    (case k_begun_as => k_is)
    (case a_round_in => k_is)
    (case l_round_in => k_is)
    (case c_round_in => k_is)
    (case k_round_in => k_is)
    (case a_round_of => k_is)
    (case l_round_of => k_is)
    (case c_round_of => k_is)
    (case k_round_of => k_is)
    (case a_seen_round => k_is)
    (case l_seen_round => k_is)
    (case c_seen_round => k_is)
    (case k_seen_round => k_is)
    (case a_least_shift => k_is)
    (case l_least_shift => k_is)
    (case c_least_shift => k_is)
    (case k_least_shift => k_is)
    (case a_period_in => k_is)
    (case l_period_in => k_is)
    (case c_period_in => k_is)
    (case k_period_in => k_is)
    (case a_period_by => k_is)
    (case l_period_by => k_is)
    (case c_period_by => k_is)
    (case k_period_by => k_is)
    (case a_Band_add_row => k_is)
    (case i_Band_add_row => k_is)
    (case l_Band_add_row => k_is)
    (case c_Band_add_row => k_is)
    (case k_Band_add_row => k_is)
    (case a_Band_put_in => k_is)
    (case i_Band_put_in => k_is)
    (case l_Band_put_in => k_is)
    (case c_Band_put_in => k_is)
    (case k_Band_put_in => k_is)
    (case a_Band_ddinitdd => k_is)
    (case i_Band_ddinitdd => k_is)
    (case l_Band_ddinitdd => k_is)
    (case c_Band_ddinitdd => k_is)
    (case k_Band_ddinitdd => k_is)
    (case a_Band_colouring => k_is)
    (case b_Band_colouring => k_is)
    (case t_Band_colouring => k_is)
    (case r_Band_colouring => k_is)
    (case l_Band_colouring => k_is)
    (case c_Band_colouring => k_is)
    (case k_Band_colouring => k_is)
    (case a_Band_rows => k_is)
    (case b_Band_rows => k_is)
    (case t_Band_rows => k_is)
    (case r_Band_rows => k_is)
    (case l_Band_rows => k_is)
    (case c_Band_rows => k_is)
    (case k_Band_rows => k_is)
    (case a_Band_picture => k_is)
    (case b_Band_picture => k_is)
    (case t_Band_picture => k_is)
    (case r_Band_picture => k_is)
    (case l_Band_picture => k_is)
    (case c_Band_picture => k_is)
    (case k_Band_picture => k_is)
    (case a_Band_stand => k_is)
    (case b_Band_stand => k_is)
    (case t_Band_stand => k_is)
    (case r_Band_stand => k_is)
    (case l_Band_stand => k_is)
    (case c_Band_stand => k_is)
    (case k_Band_stand => k_is)
    (case a_Band_uses => k_is)
    (case b_Band_uses => k_is)
    (case t_Band_uses => k_is)
    (case r_Band_uses => k_is)
    (case l_Band_uses => k_is)
    (case c_Band_uses => k_is)
    (case k_Band_uses => k_is)
    (case a_Band_ddcalldd => k_is)
    (case i_Band_ddcalldd => k_is)
    (case fi_Band_ddcalldd => k_is)
    (case l_Band_ddcalldd => k_is)
    (case c_Band_ddcalldd => k_is)
    (case k_Band_ddcalldd => k_is)
    (case a_Band_back => k_is)
    (case i_Band_back => k_is)
    (case l_Band_back => k_is)
    (case c_Band_back => k_is)
    (case k_Band_back => k_is)
    (case kr_Band_back => rfl)
    (case kn_Band_back => k_is)
    (case a_need_plain => k_is)
    (case l_need_plain => k_is)
    (case c_need_plain => k_is)
    (case k_need_plain => k_is)
    (case a_spread => k_is)
    (case l_spread => k_is)
    (case c_spread => k_is)
    (case k_spread => k_is)
    (case a_number_of => k_is)
    (case l_number_of => k_is)
    (case c_number_of => k_is)
    (case k_number_of => k_is)
    (case a_joined => k_is)
    (case l_joined => k_is)
    (case c_joined => k_is)
    (case k_joined => k_is)
    (case a_Desk_ddinitdd => k_is)
    (case i_Desk_ddinitdd => k_is)
    (case l_Desk_ddinitdd => k_is)
    (case c_Desk_ddinitdd => k_is)
    (case k_Desk_ddinitdd => k_is)
    (case a_Desk_band => k_is)
    (case b_Desk_band => k_is)
    (case t_Desk_band => k_is)
    (case r_Desk_band => k_is)
    (case l_Desk_band => k_is)
    (case c_Desk_band => k_is)
    (case k_Desk_band => k_is)
    (case a_Desk_pattern => k_is)
    (case i_Desk_pattern => k_is)
    (case l_Desk_pattern => k_is)
    (case c_Desk_pattern => k_is)
    (case k_Desk_pattern => k_is)
    (case a_Desk_knotted => k_is)
    (case i_Desk_knotted => k_is)
    (case l_Desk_knotted => k_is)
    (case c_Desk_knotted => k_is)
    (case k_Desk_knotted => k_is)
    (case a_Desk_taken_back => k_is)
    (case i_Desk_taken_back => k_is)
    (case l_Desk_taken_back => k_is)
    (case c_Desk_taken_back => k_is)
    (case k_Desk_taken_back => k_is)
    (case a_Desk_spread_told => k_is)
    (case i_Desk_spread_told => k_is)
    (case l_Desk_spread_told => k_is)
    (case c_Desk_spread_told => k_is)
    (case k_Desk_spread_told => k_is)
    (case a_Desk_ever_told => k_is)
    (case i_Desk_ever_told => k_is)
    (case l_Desk_ever_told => k_is)
    (case c_Desk_ever_told => k_is)
    (case k_Desk_ever_told => k_is)
    (case a_Desk_made_told => k_is)
    (case i_Desk_made_told => k_is)
    (case l_Desk_made_told => k_is)
    (case c_Desk_made_told => k_is)
    (case k_Desk_made_told => k_is)
    (case a_Desk_alone => k_is)
    (case i_Desk_alone => k_is)
    (case l_Desk_alone => k_is)
    (case c_Desk_alone => k_is)
    (case k_Desk_alone => k_is)
    (case a_Desk_answered => k_is)
    (case i_Desk_answered => k_is)
    (case l_Desk_answered => k_is)
    (case c_Desk_answered => k_is)
    (case k_Desk_answered => k_is)
    (case a_Desk_say => k_is)
    (case i_Desk_say => k_is)
    (case l_Desk_say => k_is)
    (case c_Desk_say => k_is)
    (case k_Desk_say => k_is)
    (case a_law_begun => k_is)
    (case l_law_begun => k_is)
    (case c_law_begun => k_is)
    (case k_law_begun => k_is)
    (case a_law_next => k_is)
    (case l_law_next => k_is)
    (case c_law_next => k_is)
    (case k_law_next => k_is)
    (case a_law_is_refused => k_is)
    (case l_law_is_refused => k_is)
    (case c_law_is_refused => k_is)
    (case k_law_is_refused => k_is)
    (case a_law_no_right => k_is)
    (case l_law_no_right => k_is)
    (case c_law_no_right => k_is)
    (case k_law_no_right => k_is)
    (case a_law_drawn_text => k_is)
    (case l_law_drawn_text => k_is)
    (case c_law_drawn_text => k_is)
    (case k_law_drawn_text => k_is)
    (case a_law => k_is)
    (case l_law => k_is)
    (case c_law => k_is)
    (case k_law => k_is)
