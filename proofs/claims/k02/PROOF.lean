import PyProof.Rows.All
import Wide.All
import OpenK.AllK
import Wide.FinOn
import KE.KStateDown
import HandS.ForMost
import HandS.Style
import HandS.Flow
import HandS.Star
import HandS.IsInst
import HandS.Conv
import HandS.ListItems
import HandS.DictComp
import HandS.DictTup
import HandS.TupLen
import HandS.TupAny
import HandS.TupMul
import HandS.Zip
import HandS.Codes
import HandS.Wide
import HandS.WordsExc
import HandS.ExcOwn
import HandS.NoneIn
import HandS.Defaults
import HandS.Small
import KE.KDictWalk
import HandS.RaiseMore
import HandS.SetFor
import HandS.Strs
import HandS.Property
import HandS.SlotsOwn
import HandS.DeepEq
import HandS.FStr
import HandS.Finally
import KE.KCallOwn
import HandS.GenYield
import HandS.GenList
import HandS.TupSets
import HandS.Ends
import HandS.More
import HandS.Head0
import HandS.Head1
import HandS.Head2
import HandS.HeadEnd
import HandS.HeadHook1
import HandS.HeadHook2
import PySem.Challenge.RW_whatparts_k02_whole_parts_by_their_words
import Lean
set_option Elab.async false
set_option linter.all false
set_option maxRecDepth 100000
set_option maxHeartbeats 2000000
/-! MpA: data by value, an abstract heap that is a plain list, and how both stand to the hand layer's. -/
namespace MP
open PySem PySem.Spec PyProof.Rows L2

inductive D where
  | non | bl (b : Bool) | int (i : Int) | str (x : Str) | tup (xs : List D) | ref (n : Nat)

inductive Cell where
  | lst (xs : List D)
  | scr (xs : List D)
  | dct (t lk : Bool) (kvs : List (D × D))
  | ins (c : Str) (fs : List (Str × D))
  /-- the empty tuple that the making of a class has as its default -/
  | dfl (c : Str)

abbrev Hd := List Cell
abbrev Sd := List (Option D)

/-- a tuple that is told of; the empty one may be locked -/
def TupE (H : Hp) (a : Addr) (vs : List V) : Prop := H a = some (.tup vs) ∨ ((∃ o, H a = some (.frz o (.tup vs))) ∧ vs = [])
theorem TupE.rd {H : Hp} {a : Addr} {vs : List V} (h : TupE H a vs) : Rd H a (.tup vs) := by
  rcases h with h | ⟨⟨o, h⟩, _⟩
  · exact .inl h
  · exact .inr ⟨o, h⟩
theorem TupE.sq {H : Hp} {a : Addr} {vs : List V} {K : PySem.W.Frag} (h : TupE H a vs) : SqT K H a vs := .inl h.rd
theorem TupE.ne {H : Hp} {a : Addr} {vs : List V} (h : TupE H a vs) (n : vs ≠ []) : H a = some (.tup vs) := by
  rcases h with h | ⟨_, e⟩
  · exact h
  · exact absurd e n
mutual
inductive RD (io : List Addr) (H : Hp) : D → V → Prop
  | non : RD io H .non .non
  | bl (b : Bool) : RD io H (.bl b) (.bl b)
  | int (i : Int) : RD io H (.int i) (.int i)
  | str (x : Str) : RD io H (.str x) (.str x)
  | tup {a : Addr} {vs : List V} {ds : List D} : TupE H a vs → RDs io H ds vs → RD io H (.tup ds) (.ref a)
  | ref {n : Nat} {a : Addr} : io[n]? = some a → RD io H (.ref n) (.ref a)
inductive RDs (io : List Addr) (H : Hp) : List D → List V → Prop
  | nil : RDs io H [] []
  | cons {d : D} {v : V} {ds : List D} {vs : List V} : RD io H d v → RDs io H ds vs → RDs io H (d :: ds) (v :: vs)
end

def keyD : Key → D
  | .inl i => .int i
  | .inr x => .str x

structure Ey (io io' : List Addr) (H H' : Hp) : Prop where
  pre : io <+: io'
  tup : ∀ a xs, H a = some (.tup xs) → H' a = some (.tup xs)
  lock : ∀ {a : Addr} {o : Obj} {u : HO}, H a = some (.frz o u) → H' a = some (.frz o u)
theorem Ey.rd {io io' : List Addr} {H H' : Hp} (x : Ey io io' H H') {a : Addr} {xs : List V} (h : TupE H a xs) : TupE H' a xs := by
  rcases h with h | ⟨⟨o, h⟩, e⟩
  · exact .inl (x.tup _ _ h)
  · exact .inr ⟨⟨o, x.lock h⟩, e⟩
structure Ez (io io' : List Addr) (H H' : Hp) : Prop where
  pre : io <+: io'
  tup : ∀ a xs, H a = some (.tup xs) → H' a = some (.tup xs)
  lock : ∀ {a : Addr} {o : Obj} {u : HO}, H a = some (.frz o u) → H' a = some (.frz o u)
theorem Ez.y {io io' : List Addr} {H H' : Hp} (x : Ez io io' H H') : Ey io io' H H' := ⟨x.pre, x.tup, x.lock⟩
theorem Ez.trans {i1 i2 i3 : List Addr} {H1 H2 H3 : Hp} (a : Ez i1 i2 H1 H2) (b : Ez i2 i3 H2 H3) : Ez i1 i3 H1 H3 := ⟨a.pre.trans b.pre, fun c xs h => b.tup c xs (a.tup c xs h), fun h => b.lock (a.lock h)⟩
/-- what grows: the places; tuples, locked things and what stands at no place stay -/
structure Ex (io io' : List Addr) (H H' : Hp) : Prop where
  pre : io <+: io'
  tup : ∀ a xs, H a = some (.tup xs) → H' a = some (.tup xs)
  frz : ∀ a o u, H a = some (.frz o u) → ∃ u', H' a = some (.frz o u') ∧ u' = u
  oth : ∀ a o, H a = some o → a ∉ io → H' a = some o
  fsh : ∀ a, a ∈ io' → a ∈ io ∨ H a = none

theorem Ex.refl {io : List Addr} {H : Hp} : Ex io io H H := ⟨List.prefix_refl _, fun _ _ h => h, fun _ _ _ h => ⟨_, h, rfl⟩, fun _ _ h _ => h, fun _ h => .inl h⟩
theorem Ex.lock {io io' : List Addr} {H H' : Hp} (x : Ex io io' H H') {a : Addr} {o : Obj} {u : HO} (e : H a = some (.frz o u)) : H' a = some (.frz o u) := by
  obtain ⟨u', h, rfl⟩ := x.frz a o u e
  exact h
theorem Ex.z {io io' : List Addr} {H H' : Hp} (x : Ex io io' H H') : Ez io io' H H' := ⟨x.pre, x.tup, x.lock⟩
theorem Ex.trans {i1 i2 i3 : List Addr} {H1 H2 H3 : Hp} (a : Ex i1 i2 H1 H2) (b : Ex i2 i3 H2 H3) : Ex i1 i3 H1 H3 := by
  refine ⟨a.pre.trans b.pre, fun c xs h => b.tup c xs (a.tup c xs h), fun c o u h => ⟨u, b.lock (a.lock h), rfl⟩, fun c o h n => ?_, fun c h => ?_⟩
  · refine b.oth c o (a.oth c o h n) fun m => ?_
    rcases a.fsh c m with q | q
    · exact n q
    · rw [q] at h; cases h
  · rcases b.fsh c h with q | q
    · exact a.fsh c q
    · by_cases n : c ∈ i1
      · exact .inl n
      · refine .inr ?_
        cases e : H1 c with
        | none => rfl
        | some o => rw [a.oth c o e n] at q; cases q
/-- a fresh place is none of those that are told of -/
theorem Ex.nin {io io' : List Addr} {H H' : Hp} (x : Ex io io' H H') {p : Addr} {o : HO} (h : H p = some o) (n : p ∉ io) : p ∉ io' := fun m => by
  rcases x.fsh p m with q | q
  · exact n q
  · rw [q] at h; cases h

theorem Ex.y {io io' : List Addr} {H H' : Hp} (x : Ex io io' H H') : Ey io io' H H' := ⟨x.pre, x.tup, x.lock⟩
theorem pre_get {α : Type} {l l' : List α} (h : l <+: l') {n : Nat} {a : α} (e : l[n]? = some a) : l'[n]? = some a := by
  obtain ⟨t, rfl⟩ := h
  rw [List.getElem?_append_left (List.getElem?_eq_some_iff.mp e).1]
  exact e

mutual
theorem RD.monoY {io io' : List Addr} {H H' : Hp} (x : Ey io io' H H') : ∀ {d : D} {v : V}, RD io H d v → RD io' H' d v
  | _, _, .non => .non
  | _, _, .bl b => .bl b
  | _, _, .int i => .int i
  | _, _, .str y => .str y
  | _, _, .tup h r => .tup (x.rd h) (RDs.monoY x r)
  | _, _, .ref h => .ref (pre_get x.pre h)
theorem RDs.monoY {io io' : List Addr} {H H' : Hp} (x : Ey io io' H H') : ∀ {ds : List D} {vs : List V}, RDs io H ds vs → RDs io' H' ds vs
  | _, _, .nil => .nil
  | _, _, .cons h r => .cons (RD.monoY x h) (RDs.monoY x r)
end

theorem RD.mono {io io' : List Addr} {H H' : Hp} (x : Ex io io' H H') {d : D} {v : V} (r : RD io H d v) : RD io' H' d v := r.monoY x.y
theorem RDs.mono {io io' : List Addr} {H H' : Hp} (x : Ex io io' H H') {d : List D} {v : List V} (r : RDs io H d v) : RDs io' H' d v := r.monoY x.y

mutual
theorem RD.mono1 {io io' : List Addr} {H : Hp} (x : io <+: io') : ∀ {d : D} {v : V}, RD io H d v → RD io' H d v
  | _, _, .non => .non
  | _, _, .bl b => .bl b
  | _, _, .int i => .int i
  | _, _, .str y => .str y
  | _, _, .tup h r => .tup h (RDs.mono1 x r)
  | _, _, .ref h => .ref (pre_get x h)
theorem RDs.mono1 {io io' : List Addr} {H : Hp} (x : io <+: io') : ∀ {ds : List D} {vs : List V}, RDs io H ds vs → RDs io' H ds vs
  | _, _, .nil => .nil
  | _, _, .cons h r => .cons (RD.mono1 x h) (RDs.mono1 x r)
end

theorem RDs.length {io : List Addr} {H : Hp} : ∀ {ds : List D} {vs : List V}, RDs io H ds vs → ds.length = vs.length
  | _, _, .nil => rfl
  | _, _, .cons _ r => by simp [RDs.length r]
theorem RDs.append {io : List Addr} {H : Hp} : ∀ {ds es : List D} {vs ws : List V}, RDs io H ds vs → RDs io H es ws → RDs io H (ds ++ es) (vs ++ ws)
  | _, _, _, _, .nil, s => s
  | _, _, _, _, .cons h r, s => .cons h (RDs.append r s)
theorem RDs.get {io : List Addr} {H : Hp} : ∀ {ds : List D} {vs : List V} {i : Nat} {d : D}, RDs io H ds vs → ds[i]? = some d → ∃ v, vs[i]? = some v ∧ RD io H d v
  | _, _, _, _, .nil, e => by simp at e
  | _, _, 0, _, .cons h _, e => by simp at e; subst e; exact ⟨_, rfl, h⟩
  | _, _, i + 1, _, .cons _ r, e => by
    obtain ⟨v, h1, h2⟩ := RDs.get (i := i) r (by simpa using e)
    exact ⟨v, by simpa using h1, h2⟩
theorem RDs.getV {io : List Addr} {H : Hp} : ∀ {ds : List D} {vs : List V} {i : Nat} {v : V}, RDs io H ds vs → vs[i]? = some v → ∃ d, ds[i]? = some d ∧ RD io H d v
  | _, _, _, _, .nil, e => by simp at e
  | _, _, 0, _, .cons h _, e => by simp at e; subst e; exact ⟨_, rfl, h⟩
  | _, _, i + 1, _, .cons _ r, e => by
    obtain ⟨v, h1, h2⟩ := RDs.getV (i := i) r (by simpa using e)
    exact ⟨v, by simpa using h1, h2⟩
theorem RDs.set {io : List Addr} {H : Hp} {d : D} {v : V} (h : RD io H d v) : ∀ {ds : List D} {vs : List V} (i : Nat), RDs io H ds vs → RDs io H (ds.set i d) (vs.set i v)
  | _, _, _, .nil => .nil
  | _, _, 0, .cons _ r => .cons h r
  | _, _, i + 1, .cons g r => .cons g (RDs.set h i r)
theorem RDs.take {io : List Addr} {H : Hp} : ∀ {ds : List D} {vs : List V} (n : Nat), RDs io H ds vs → RDs io H (ds.take n) (vs.take n)
  | _, _, 0, _ => by simpa using RDs.nil
  | _, _, _ + 1, .nil => .nil
  | _, _, n + 1, .cons h r => .cons h (RDs.take n r)
theorem RDs.drop {io : List Addr} {H : Hp} : ∀ {ds : List D} {vs : List V} (n : Nat), RDs io H ds vs → RDs io H (ds.drop n) (vs.drop n)
  | _, _, 0, r => r
  | _, _, _ + 1, .nil => .nil
  | _, _, n + 1, .cons h r => RDs.drop n r

/-- pairs of a dict by plain keys -/
inductive KVk (io : List Addr) (H : Hp) : List (D × D) → List (Key × V) → Prop
  | nil : KVk io H [] []
  | cons {k : Key} {d : D} {v : V} {l : List (D × D)} {m : List (Key × V)} : RD io H d v → KVk io H l m → KVk io H ((keyD k, d) :: l) ((k, v) :: m)
/-- .. by tuple keys -/
inductive KVt (io : List Addr) (H : Hp) : List (D × D) → List (List Key × V) → Prop
  | nil : KVt io H [] []
  | cons {k : List Key} {d : D} {v : V} {l : List (D × D)} {m : List (List Key × V)} : RD io H d v → KVt io H l m → KVt io H ((.tup (k.map keyD), d) :: l) ((k, v) :: m)
theorem KVk.monoY {io io' : List Addr} {H H' : Hp} (x : Ey io io' H H') : ∀ {l : List (D × D)} {m : List (Key × V)}, KVk io H l m → KVk io' H' l m
  | _, _, .nil => .nil
  | _, _, .cons h r => .cons (h.monoY x) (KVk.monoY x r)
theorem KVk.mono {io io' : List Addr} {H H' : Hp} (x : Ex io io' H H') {l : List (D × D)} {m : List (Key × V)} (r : KVk io H l m) : KVk io' H' l m := r.monoY x.y

theorem KVt.monoY {io io' : List Addr} {H H' : Hp} (x : Ey io io' H H') : ∀ {l : List (D × D)} {m : List (List Key × V)}, KVt io H l m → KVt io' H' l m
  | _, _, .nil => .nil
  | _, _, .cons h r => .cons (h.monoY x) (KVt.monoY x r)
theorem KVt.mono {io io' : List Addr} {H H' : Hp} (x : Ex io io' H H') {l : List (D × D)} {m : List (List Key × V)} (r : KVt io H l m) : KVt io' H' l m := r.monoY x.y

theorem KVk.mono1 {io io' : List Addr} {H : Hp} (x : io <+: io') : ∀ {l : List (D × D)} {m : List (Key × V)}, KVk io H l m → KVk io' H l m
  | _, _, .nil => .nil
  | _, _, .cons h r => .cons (h.mono1 x) (KVk.mono1 x r)
theorem KVt.mono1 {io io' : List Addr} {H : Hp} (x : io <+: io') : ∀ {l : List (D × D)} {m : List (List Key × V)}, KVt io H l m → KVt io' H l m
  | _, _, .nil => .nil
  | _, _, .cons h r => .cons (h.mono1 x) (KVt.mono1 x r)

/-- fields by names -/
inductive FSs (io : List Addr) (H : Hp) : List (Str × D) → List (Str × V) → Prop
  | nil : FSs io H [] []
  | cons {f : Str} {d : D} {v : V} {l : List (Str × D)} {m : List (Str × V)} : RD io H d v → FSs io H l m → FSs io H ((f, d) :: l) ((f, v) :: m)
theorem FSs.monoY {io io' : List Addr} {H H' : Hp} (x : Ey io io' H H') : ∀ {l : List (Str × D)} {m : List (Str × V)}, FSs io H l m → FSs io' H' l m
  | _, _, .nil => .nil
  | _, _, .cons h r => .cons (h.monoY x) (FSs.monoY x r)
theorem FSs.mono {io io' : List Addr} {H H' : Hp} (x : Ex io io' H H') {l : List (Str × D)} {m : List (Str × V)} (r : FSs io H l m) : FSs io' H' l m := r.monoY x.y

theorem FSs.mono1 {io io' : List Addr} {H : Hp} (x : io <+: io') : ∀ {l : List (Str × D)} {m : List (Str × V)}, FSs io H l m → FSs io' H l m
  | _, _, .nil => .nil
  | _, _, .cons h r => .cons (h.mono1 x) (FSs.mono1 x r)

/-- what a dict's object is: locked or not -/
def DOb (H : Hp) (a : Addr) (lk : Bool) (u : HO) : Prop := if lk = true then ∃ o, H a = some (.frz o u) else H a = some u

/-- where that tuple stands -/
def dflA (K : PySem.W.Frag) (mg : Str → Option Value) (c : Str) : Option Addr := match mg c with
  | some (.ref C) => match PySem.W.findIn K (.ref C) "__init__" with
    | some (some (.ref f)) => match K.lookup f with
      | some ⟨_, _, .func fd, _⟩ => match fd.defaults with
        | .ref T0 => match K.lookup T0 with
          | some ⟨_, _, .seq its _, _⟩ => match its.toList with
            | [.ref a] => some a
            | _ => none
          | _ => none
        | _ => none
      | _ => none
    | _ => none
  | _ => none
def RC (K : PySem.W.Frag) (mg : Str → Option Value) (io : List Addr) (H : Hp) : Cell → Addr → Prop
  | .lst ds, a => ∃ vs, H a = some (.lst vs) ∧ RDs io H ds vs
  | .scr ds, a => ∃ o vs, H a = some (.frz o (.lst vs)) ∧ RDs io H ds vs
  | .dct t lk kvs, a => if t = true then ∃ ks, DOb H a lk (.dT ks) ∧ KVt io H kvs ks else ∃ ks, DOb H a lk (.dK ks) ∧ KVk io H kvs ks
  | .ins c fs, a => ∃ C dx gs, mg c = some (.ref C) ∧ H a = some (.ins C dx gs) ∧ H dx = some (.own a) ∧ FSs io H fs gs
  | .dfl c, a => (∃ o, H a = some (.frz o (.tup []))) ∧ dflA K mg c = some a

structure RH (K : PySem.W.Frag) (mg : Str → Option Value) (io : List Addr) (H : Hp) (h : Hd) : Prop where
  len : io.length = h.length
  inj : ∀ (n m : Nat) (a : Addr), io[n]? = some a → io[m]? = some a → n = m
  cell : ∀ (n : Nat) (c : Cell) (a : Addr), h[n]? = some c → io[n]? = some a → RC K mg io H c a

section
variable {K : PySem.W.Frag} {mg : Str → Option Value} {io : List Addr} {H : Hp} {h : Hd}
theorem RH.at (r : RH K mg io H h) {n : Nat} {c : Cell} (e : h[n]? = some c) : ∃ a, io[n]? = some a ∧ RC K mg io H c a := by
  have hn : n < io.length := by rw [r.len]; exact (List.getElem?_eq_some_iff.mp e).1
  exact ⟨io[n], List.getElem?_eq_getElem hn, r.cell n c _ e (List.getElem?_eq_getElem hn)⟩
theorem DOb.trk {a : Addr} {lk : Bool} {u : HO} (e : DOb H a lk u) : ∃ o, H a = some o := by
  cases lk with
  | false => exact ⟨_, by simpa [DOb] using e⟩
  | true => obtain ⟨o, e⟩ := (by simpa [DOb] using e : ∃ o, H a = some (.frz o u)); exact ⟨_, e⟩
/-- a cell's thing is tracked -/
theorem RC.trk {c : Cell} {a : Addr} (r : RC K mg io H c a) : ∃ o, H a = some o := by
  cases c with
  | lst ds => obtain ⟨vs, e, _⟩ := r; exact ⟨_, e⟩
  | scr ds => obtain ⟨o, vs, e, _⟩ := r; exact ⟨_, e⟩
  | dct t lk kvs =>
    cases t with
    | true => obtain ⟨ks, e, _⟩ := (by simpa [RC] using r : ∃ ks, DOb H a lk (.dT ks) ∧ KVt io H kvs ks); exact e.trk
    | false => obtain ⟨ks, e, _⟩ := (by simpa [RC] using r : ∃ ks, DOb H a lk (.dK ks) ∧ KVk io H kvs ks); exact e.trk
  | ins c fs => obtain ⟨C, dx, gs, _, e, _⟩ := r; exact ⟨_, e⟩
  | dfl c => obtain ⟨⟨o, e⟩, _⟩ := r; exact ⟨_, e⟩
theorem RC.dT {lk : Bool} {kvs : List (D × D)} {a : Addr} (r : RC K mg io H (.dct true lk kvs) a) : ∃ ks, DOb H a lk (.dT ks) ∧ KVt io H kvs ks := by simpa [RC] using r
theorem RC.dK {lk : Bool} {kvs : List (D × D)} {a : Addr} (r : RC K mg io H (.dct false lk kvs) a) : ∃ ks, DOb H a lk (.dK ks) ∧ KVk io H kvs ks := by simpa [RC] using r
theorem RC.ofT {lk : Bool} {kvs : List (D × D)} {a : Addr} (r : ∃ ks, DOb H a lk (.dT ks) ∧ KVt io H kvs ks) : RC K mg io H (.dct true lk kvs) a := by simpa [RC] using r
theorem RC.ofK {lk : Bool} {kvs : List (D × D)} {a : Addr} (r : ∃ ks, DOb H a lk (.dK ks) ∧ KVk io H kvs ks) : RC K mg io H (.dct false lk kvs) a := by simpa [RC] using r
theorem RC.mono1 {io' : List Addr} {c : Cell} {a : Addr} (x : io <+: io') (r : RC K mg io H c a) : RC K mg io' H c a := by
  cases c with
  | lst ds => obtain ⟨vs, e, q⟩ := r; exact ⟨vs, e, q.mono1 x⟩
  | scr ds => obtain ⟨o, vs, e, q⟩ := r; exact ⟨o, vs, e, q.mono1 x⟩
  | dct t lk kvs =>
    cases t with
    | true => obtain ⟨ks, e, q⟩ := r.dT; exact .ofT ⟨ks, e, q.mono1 x⟩
    | false => obtain ⟨ks, e, q⟩ := r.dK; exact .ofK ⟨ks, e, q.mono1 x⟩
  | ins c fs => obtain ⟨C, dx, gs, e1, e2, e3, q⟩ := r; exact ⟨C, dx, gs, e1, e2, e3, q.mono1 x⟩
  | dfl c => exact r
end
end MP

set_option Elab.async false
set_option linter.all false
set_option maxRecDepth 100000
set_option maxHeartbeats 2000000
/-! MpB: how the heap relation is kept; the judgements; expressions. -/
namespace MP
open PySem PySem.Spec L2

section
variable {K : PySem.W.Frag} {mg : Str → Option Value} {io io' : List Addr} {H H' : Hp} {h : Hd}
theorem RC.stayY {c : Cell} {a : Addr} (r : RC K mg io H c a) (x : Ey io io' H H') (k : ∀ o, H a = some o → H' a = some o) (k2 : ∀ b, H b = some (.own a) → H' b = some (.own a)) : RC K mg io' H' c a := by
  cases c with
  | lst ds => obtain ⟨vs, e, q⟩ := r; exact ⟨vs, k _ e, q.monoY x⟩
  | scr ds => obtain ⟨o, vs, e, q⟩ := r; exact ⟨o, vs, k _ e, q.monoY x⟩
  | dct t lk kvs =>
    have kd : ∀ u, DOb H a lk u → DOb H' a lk u := fun u e => by
      cases lk with
      | false => exact (by simpa [DOb] using k _ (by simpa [DOb] using e))
      | true =>
        obtain ⟨o, e⟩ := (by simpa [DOb] using e : ∃ o, H a = some (.frz o u))
        exact (by simpa [DOb] using ⟨o, k _ e⟩)
    cases t with
    | true => obtain ⟨ks, e, q⟩ := r.dT; exact .ofT ⟨ks, kd _ e, q.monoY x⟩
    | false => obtain ⟨ks, e, q⟩ := r.dK; exact .ofK ⟨ks, kd _ e, q.monoY x⟩
  | ins c fs => obtain ⟨C, dx, gs, e1, e2, e3, q⟩ := r; exact ⟨C, dx, gs, e1, k _ e2, k2 _ e3, q.monoY x⟩
  | dfl c => obtain ⟨⟨o, e⟩, q⟩ := r; exact ⟨⟨o, k _ e⟩, q⟩
theorem RC.stay {c : Cell} {a : Addr} (r : RC K mg io H c a) (x : Ex io io' H H') (k : ∀ o, H a = some o → H' a = some o) (k2 : ∀ b, H b = some (.own a) → H' b = some (.own a)) : RC K mg io' H' c a := r.stayY x.y k k2

theorem ex_upd {p : Addr} {o : HO} (hp : H p = none) : Ex io io H (upd H p o) :=
  ⟨List.prefix_refl _, fun a xs e => by rw [upd_ne (ne_of_none e hp)]; exact e, fun a o u e => ⟨u, by rw [upd_ne (ne_of_none e hp)]; exact e, rfl⟩, fun a o e _ => by rw [upd_ne (ne_of_none e hp)]; exact e, fun _ h => .inl h⟩
theorem ex_alloc {p : Addr} {o : HO} (hp : H p = none) : Ex io (io ++ [p]) H (upd H p o) :=
  ⟨List.prefix_append _ _, (ex_upd (io := io) hp).tup, (ex_upd (io := io) hp).frz, (ex_upd (io := io) hp).oth, fun a h => by
    rcases List.mem_append.mp h with q | q
    · exact .inl q
    · rw [List.mem_singleton.mp q]; exact .inr hp⟩
/-- a thing of ours that stood at no place gets one -/
theorem ex_adopt {i0 : List Addr} {H0 : Hp} {p : Addr} (x : Ex i0 io H0 H) (hp : H0 p = none) : Ex i0 (io ++ [p]) H0 H :=
  ⟨x.pre.trans (List.prefix_append _ _), x.tup, x.frz, x.oth, fun a h => by
    rcases List.mem_append.mp h with q | q
    · exact x.fsh a q
    · rw [List.mem_singleton.mp q]; exact .inr hp⟩
theorem upd_keep {p a : Addr} {o u : HO} (hp : H p = none) (e : H a = some u) : upd H p o a = some u := by
  rw [upd_ne (ne_of_none e hp)]; exact e

/-- a new thing that no cell tells of -/
theorem RH.new {p : Addr} {o : HO} (r : RH K mg io H h) (hp : H p = none) : RH K mg io (upd H p o) h :=
  ⟨r.len, r.inj, fun n c a e1 e2 => (r.cell n c a e1 e2).stay (ex_upd hp) (fun u e => upd_keep hp e) (fun b e => upd_keep hp e)⟩
/-- what is told of is tracked -/
theorem RH.nin {p : Addr} (r : RH K mg io H h) (hp : H p = none) : p ∉ io := fun m => by
  obtain ⟨n, hn, e⟩ := List.getElem_of_mem m
  have hl : n < h.length := by rw [← r.len]; exact hn
  obtain ⟨o, ho⟩ := (r.cell n _ p (List.getElem?_eq_getElem hl) (by rw [List.getElem?_eq_getElem hn, e])).trk
  rw [hp] at ho; cases ho
/-- a cell more, of a thing that stands already -/
theorem RH.adopt {p : Addr} {c : Cell} (r : RH K mg io H h) (hp : p ∉ io) (hc : RC K mg (io ++ [p]) H c p) : RH K mg (io ++ [p]) H (h ++ [c]) := by
  have new : ∀ (n : Nat) (a : Addr), ¬ n < io.length → (io ++ [p])[n]? = some a → n = h.length ∧ a = p := fun n a hn i => by
    have hl : n < (io ++ [p]).length := (List.getElem?_eq_some_iff.mp i).1
    rw [List.length_append, List.length_singleton] at hl
    have hn' : n = h.length := by rw [← r.len]; omega
    refine ⟨hn', ?_⟩
    rw [hn', ← r.len, List.getElem?_append_right (Nat.le_refl _)] at i
    simpa using i.symm
  refine ⟨by simp [r.len], ?_, ?_⟩
  · intro n m a i1 i2
    by_cases hn : n < io.length <;> by_cases hm : m < io.length
    · rw [List.getElem?_append_left hn] at i1
      rw [List.getElem?_append_left hm] at i2
      exact r.inj n m a i1 i2
    · rw [List.getElem?_append_left hn] at i1
      rw [(new m a hm i2).2] at i1
      exact absurd (List.mem_of_getElem? i1) hp
    · rw [List.getElem?_append_left hm] at i2
      rw [(new n a hn i1).2] at i2
      exact absurd (List.mem_of_getElem? i2) hp
    · rw [(new n a hn i1).1, (new m a hm i2).1]
  · have x : ∀ b o, H b = some o → H b = some o := fun _ _ e => e
    have px : ∀ {c' : Cell} {b : Addr}, RC K mg io H c' b → RC K mg (io ++ [p]) H c' b := fun {c' b} q => by
      exact q.mono1 (List.prefix_append _ _)
    intro n c' a e i
    by_cases hn : n < io.length
    · rw [List.getElem?_append_left (by rw [← r.len]; exact hn)] at e
      rw [List.getElem?_append_left hn] at i
      exact px (r.cell n c' a e i)
    · obtain ⟨hn', rfl⟩ := new n a hn i
      subst hn'
      rw [List.getElem?_append_right (Nat.le_refl _)] at e
      simp at e
      subst e
      exact hc
/-- a new cell -/
theorem RH.alloc {p : Addr} {o : HO} {c : Cell} (r : RH K mg io H h) (hp : H p = none) (hc : RC K mg (io ++ [p]) (upd H p o) c p) : RH K mg (io ++ [p]) (upd H p o) (h ++ [c]) :=
  (r.new hp).adopt (r.nin hp) hc
/-- the new cell's place -/
theorem push_at (r : RH K mg io H h) (p : Addr) : (io ++ [p])[h.length]? = some p := by
  rw [← r.len, List.getElem?_append_right (Nat.le_refl _)]; simp
/-- a thing of ours at no place is written -/
theorem ex_priv {i0 : List Addr} {H0 : Hp} {p : Addr} {o : HO} (x : Ex i0 io H0 H) (hp : H0 p = none) : Ex i0 io H0 (upd H p o) :=
  ⟨x.pre, fun a xs e => by rw [upd_ne (ne_of_none e hp)]; exact x.tup a xs e, fun a ob u e => ⟨u, by rw [upd_ne (ne_of_none e hp)]; exact x.lock e, rfl⟩, fun a ob e n => by rw [upd_ne (ne_of_none e hp)]; exact x.oth a ob e n, x.fsh⟩
theorem ey_priv {p : Addr} {o u : HO} (hu : H p = some u) (ht : ∀ xs, u ≠ .tup xs) (hf : ∀ ob v, u ≠ .frz ob v := by (intro _ _ z; cases z)) : Ey io io H (upd H p o) :=
  ⟨List.prefix_refl _, fun b xs q => by rw [upd_ne (fun z => by rw [z, hu] at q; cases q; exact ht _ rfl)]; exact q, fun {b ob v} q => by rw [upd_ne (fun z => by rw [z, hu] at q; cases q; exact hf _ _ rfl)]; exact q⟩
theorem ez_priv {p : Addr} {o u : HO} (hu : H p = some u) (ht : ∀ xs, u ≠ .tup xs) (hf : ∀ ob v, u ≠ .frz ob v) : Ez io io H (upd H p o) :=
  ⟨List.prefix_refl _, (ey_priv (io := io) hu ht hf).tup, fun {b ob v} q => by rw [upd_ne (fun z => by rw [z, hu] at q; cases q; exact hf _ _ rfl)]; exact q⟩
theorem RH.priv {p : Addr} {o u : HO} (r : RH K mg io H h) (hp : p ∉ io) (hu : H p = some u) (ht : ∀ xs, u ≠ .tup xs) (ho : ∀ b, u ≠ .own b) (hf : ∀ ob v, u ≠ .frz ob v := by (intro _ _ z; cases z)) : RH K mg io (upd H p o) h :=
  ⟨r.len, r.inj, fun n c a e i => (r.cell n c a e i).stayY (ey_priv hu ht hf) (fun v q => by rw [upd_ne (fun z => hp (by rw [← z]; exact List.mem_of_getElem? i))]; exact q) fun b q => by rw [upd_ne (fun z => by rw [z, hu] at q; cases q; exact ho _ rfl)]; exact q⟩
/-- a cell is written -/
theorem RH.write {n : Nat} {a : Addr} {o u : HO} {c' : Cell} (r : RH K mg io H h) (i : io[n]? = some a) (hu : H a = some u) (ht : ∀ xs, u ≠ .tup xs) (hf : ∀ ob v, u ≠ .frz ob v) (ho : ∀ b, u ≠ .own b)
    (hc : Ex io io H (upd H a o) → RC K mg io (upd H a o) c' a) : Ex io io H (upd H a o) ∧ RH K mg io (upd H a o) (h.set n c') := by
  have ne : ∀ b v, H b = some v → v ≠ u → b ≠ a := fun b v q n z => by rw [z, hu] at q; cases q; exact n rfl
  have x : Ex io io H (upd H a o) := ⟨List.prefix_refl _, fun b xs q => by rw [upd_ne (ne b _ q (Ne.symm (ht xs)))]; exact q, fun b ob v q => ⟨v, by rw [upd_ne (ne b _ q (Ne.symm (hf ob v)))]; exact q, rfl⟩,
    fun b v q hn => by rw [upd_ne (fun z => hn (by rw [z]; exact List.mem_of_getElem? i))]; exact q, fun _ h => .inl h⟩
  refine ⟨x, ⟨by simp [r.len], r.inj, ?_⟩⟩
  intro m c1 b e1 i1
  by_cases z : m = n
  · subst z
    rw [i] at i1; cases i1
    have hl : m < h.length := by rw [← r.len]; exact (List.getElem?_eq_some_iff.mp i).1
    rw [List.getElem?_set_self hl] at e1
    cases e1
    exact hc x
  · rw [List.getElem?_set_ne (Ne.symm z)] at e1
    have hb : b ≠ a := fun q => by rw [q] at i1; exact z (r.inj m n a i1 i)
    exact (r.cell m c1 b e1 i1).stay x (fun w q => by rw [upd_ne hb]; exact q) (fun d q => by rw [upd_ne (ne d _ q (Ne.symm (ho b)))]; exact q)
end

/-! ### the judgements -/
structure Rel (K : PySem.W.Frag) (mg : Str → Option Value) (sl : Sd) (σ : L2.St) (io : List Addr) (H : Hp) (h : Hd) : Prop where
  rh : RH K mg io H h
  len : sl.length = σ.length
  slot : ∀ (i : Nat) (d : D), sl[i]? = some (some d) → ∃ v, σ[i]? = some (some v) ∧ RD io H d v

abbrev WE := Sd → Hd → (D → Hd → Prop) → Prop
abbrev WT := Sd → Hd → (Bool → Hd → Prop) → Prop
abbrev WA := Sd → Hd → (List D → Hd → Prop) → Prop
structure EndsD where
  nx : Sd → Hd → Prop
  rt : D → Hd → Prop
  bk : Sd → Hd → Prop := fun _ _ => False
  ct : Sd → Hd → Prop := fun _ _ => False
abbrev WS := EndsD → Sd → Hd → Prop

/-- from a D-level end to one of the layer's -/
def Kn (K : PySem.W.Frag) (mg : Str → Option Value) (io : List Addr) (H : Hp) (q : D → Hd → Prop) (Q : VK) : Prop :=
  ∀ d h', q d h' → ∀ v io' H', Ex io io' H H' → RH K mg io' H' h' → RD io' H' d v → Q v H'
def KnB (K : PySem.W.Frag) (mg : Str → Option Value) (io : List Addr) (H : Hp) (q : Bool → Hd → Prop) (Q : Bool → Hp → Prop) : Prop :=
  ∀ b h', q b h' → ∀ io' H', Ex io io' H H' → RH K mg io' H' h' → Q b H'
def KnA (K : PySem.W.Frag) (mg : Str → Option Value) (io : List Addr) (H : Hp) (q : List D → Hd → Prop) (Q : List V → Hp → Prop) : Prop :=
  ∀ ds h', q ds h' → ∀ vs io' H', Ex io io' H H' → RH K mg io' H' h' → RDs io' H' ds vs → Q vs H'
def KnS (K : PySem.W.Frag) (mg : Str → Option Value) (io : List Addr) (H : Hp) (q : Sd → Hd → Prop) (Q : L2.St → Hp → Prop) : Prop :=
  ∀ sl' h', q sl' h' → ∀ σ' io' H', Ex io io' H H' → Rel K mg sl' σ' io' H' h' → Q σ' H'

def tE (K : PySem.W.Frag) (mg : Str → Option Value) (w : WE) : TE := fun σ H Q => ∃ sl h io q, Rel K mg sl σ io H h ∧ w sl h q ∧ Kn K mg io H q Q
def tT (K : PySem.W.Frag) (mg : Str → Option Value) (w : WT) : TT := fun σ H Q => ∃ sl h io q, Rel K mg sl σ io H h ∧ w sl h q ∧ KnB K mg io H q Q
def tA (K : PySem.W.Frag) (mg : Str → Option Value) (w : WA) : TA := fun σ H Q => ∃ sl h io q, Rel K mg sl σ io H h ∧ w sl h q ∧ KnA K mg io H q Q
structure KnE (K : PySem.W.Frag) (mg : Str → Option Value) (io : List Addr) (H : Hp) (q : EndsD) (Q : Ends) : Prop where
  nx : KnS K mg io H q.nx Q.nx
  rt : Kn K mg io H q.rt Q.rt
  bk : KnS K mg io H q.bk Q.bk
  ct : KnS K mg io H q.ct Q.ct
def tS (K : PySem.W.Frag) (mg : Str → Option Value) (w : WS) : TS := fun E σ H => ∃ sl h io q, Rel K mg sl σ io H h ∧ w q sl h ∧ KnE K mg io H q E

abbrev LE (X : Cx) (e : Expr) (w : WE) : Prop := PE X e (tE X.K X.mg w)
abbrev LT (X : Cx) (e : Expr) (w : WT) : Prop := PT X e (tT X.K X.mg w)
abbrev LW (X : Cx) (e : Expr) (w : WT) : Prop := PW X e (tT X.K X.mg w)
abbrev LA (X : Cx) (es : List Expr) (w : WA) : Prop := PA X es (tA X.K X.mg w)
abbrev LS (X : Cx) (st : Stmt) (w : WS) : Prop := PS X st (tS X.K X.mg w)
abbrev LSs (X : Cx) (st : List Stmt) (w : WS) : Prop := PSs X st (tS X.K X.mg w)

section
variable {X : Cx}
theorem _root_.L2.PE.imp {e : Expr} {t t' : TE} (h : PE X e t) (i : ∀ σ H Q, t' σ H Q → t σ H Q) : PE X e t' := ⟨fun pins s σ H Q I z => h.run pins s σ H Q I (i σ H Q z)⟩
theorem _root_.L2.PT.imp {e : Expr} {t t' : TT} (h : PT X e t) (i : ∀ σ H Q, t' σ H Q → t σ H Q) : PT X e t' := ⟨fun pins s σ H Q I z => h.run pins s σ H Q I (i σ H Q z)⟩
theorem _root_.L2.PW.imp {e : Expr} {t t' : TT} (h : PW X e t) (i : ∀ σ H Q, t' σ H Q → t σ H Q) : PW X e t' := ⟨fun w pins s σ H Q I z => h.run w pins s σ H Q I (i σ H Q z)⟩
theorem _root_.L2.PA.imp {e : List Expr} {t t' : TA} (h : PA X e t) (i : ∀ σ H Q, t' σ H Q → t σ H Q) : PA X e t' := ⟨fun p pins s σ H Q I z => h.run p pins s σ H Q I (i σ H Q z)⟩
theorem _root_.L2.PS.imp {e : Stmt} {t t' : TS} (h : PS X e t) (i : ∀ D σ H, t' D σ H → t D σ H) : PS X e t' := ⟨fun pins s σ H D I z => h.run pins s σ H D I (i D σ H z)⟩
theorem _root_.L2.PSs.imp {e : List Stmt} {t t' : TS} (h : PSs X e t) (i : ∀ D σ H, t' D σ H → t D σ H) : PSs X e t' := ⟨fun pins s σ H D I z => h.run pins s σ H D I (i D σ H z)⟩
end

section
variable {K : PySem.W.Frag} {mg : Str → Option Value} {io io' : List Addr} {H H' : Hp} {h h' : Hd} {sl : Sd} {σ : L2.St}
theorem Rel.on (r : Rel K mg sl σ io H h) (x : Ex io io' H H') (r' : RH K mg io' H' h') : Rel K mg sl σ io' H' h' :=
  ⟨r', r.len, fun i d e => let ⟨v, e1, e2⟩ := r.slot i d e; ⟨v, e1, e2.mono x⟩⟩
theorem Kn.on {q : D → Hd → Prop} {Q : VK} (k : Kn K mg io H q Q) (x : Ex io io' H H') : Kn K mg io' H' q Q := fun d h' z v i2 H2 y => k d h' z v i2 H2 (x.trans y)
theorem KnB.on {q : Bool → Hd → Prop} {Q : Bool → Hp → Prop} (k : KnB K mg io H q Q) (x : Ex io io' H H') : KnB K mg io' H' q Q := fun d h' z i2 H2 y => k d h' z i2 H2 (x.trans y)
theorem KnA.on {q : List D → Hd → Prop} {Q : List V → Hp → Prop} (k : KnA K mg io H q Q) (x : Ex io io' H H') : KnA K mg io' H' q Q := fun d h' z v i2 H2 y => k d h' z v i2 H2 (x.trans y)
theorem KnS.on {q : Sd → Hd → Prop} {Q : L2.St → Hp → Prop} (k : KnS K mg io H q Q) (x : Ex io io' H H') : KnS K mg io' H' q Q := fun d h' z v i2 H2 y => k d h' z v i2 H2 (x.trans y)
theorem KnE.on {q : EndsD} {Q : Ends} (k : KnE K mg io H q Q) (x : Ex io io' H H') : KnE K mg io' H' q Q := ⟨k.nx.on x, k.rt.on x, k.bk.on x, k.ct.on x⟩
/-- from one reading on to the next -/
theorem tE.go {w : WE} {Q : VK} (r : Rel K mg sl σ io H h) {q : D → Hd → Prop} (z : w sl h q) (k : ∀ d h', q d h' → ∀ v io' H', Ex io io' H H' → Rel K mg sl σ io' H' h' → RD io' H' d v → Q v H') : tE K mg w σ H Q :=
  ⟨sl, h, io, q, r, z, fun d h' y v i2 H2 x rh rd => k d h' y v i2 H2 x (r.on x rh) rd⟩
theorem tT.go {w : WT} {Q : Bool → Hp → Prop} (r : Rel K mg sl σ io H h) {q : Bool → Hd → Prop} (z : w sl h q) (k : ∀ b h', q b h' → ∀ io' H', Ex io io' H H' → Rel K mg sl σ io' H' h' → Q b H') : tT K mg w σ H Q :=
  ⟨sl, h, io, q, r, z, fun d h' y i2 H2 x rh => k d h' y i2 H2 x (r.on x rh)⟩
theorem tA.go {w : WA} {Q : List V → Hp → Prop} (r : Rel K mg sl σ io H h) {q : List D → Hd → Prop} (z : w sl h q) (k : ∀ ds h', q ds h' → ∀ vs io' H', Ex io io' H H' → Rel K mg sl σ io' H' h' → RDs io' H' ds vs → Q vs H') : tA K mg w σ H Q :=
  ⟨sl, h, io, q, r, z, fun d h' y v i2 H2 x rh rd => k d h' y v i2 H2 x (r.on x rh) rd⟩
end

/-! ### plain expressions -/
section
variable {X : Cx} {pos : Pos} {a b c e : Expr}
def wSlot (i : Nat) : WE := fun sl h Q => ∃ d, sl[i]? = some (some d) ∧ Q d h
def wC (d : D) : WE := fun _ h Q => Q d h
theorem le_slot {i : Nat} {x : Str} (hN : X.N[i]? = some x) (hv : Vis X.env.scope x) (hd : (x == ("__debug__" : Str)) = false := by decide) (hcd : (x == ("__classdict__" : Str)) = false := by decide) : LE X (.Name x pos) (wSlot i) :=
  (pe_var hN hv hd hcd).imp fun σ H Q z => by
    obtain ⟨sl, h, io, q, r, ⟨d, e1, e2⟩, k⟩ := z
    obtain ⟨v, f1, f2⟩ := r.slot i d e1
    exact ⟨v, f1, k d h e2 v io H .refl r.rh f2⟩
/-- a value that hangs on no heap -/
def D.flat : D → Bool
  | .non => true
  | .bl _ => true
  | .int _ => true
  | .str _ => true
  | _ => false
def D.toV : D → V
  | .non => .non
  | .bl b => .bl b
  | .int i => .int i
  | .str x => .str x
  | _ => .non
theorem RD.flat {io : List Addr} {H : Hp} {d : D} (f : d.flat = true) : RD io H d d.toV := by
  cases d with
  | non => exact .non
  | bl b => exact .bl b
  | int i => exact .int i
  | str x => exact .str x
  | tup _ => cases f
  | ref _ => cases f
theorem le_c {d : D} (f : d.flat = true) (h : PE X e (tC d.toV)) : LE X e (wC d) := h.imp fun σ H Q z => by
  obtain ⟨sl, h, io, q, r, e2, k⟩ := z
  exact k d h e2 _ io H .refl r.rh (.flat f)
theorem le_int {i : Int} {j : Nat} : LE X (.Constant (.int i) j pos) (wC (.int i)) := le_c rfl pe_int
theorem le_bl {b : Bool} {j : Nat} : LE X (.Constant (.bool b) j pos) (wC (.bl b)) := le_c rfl pe_bl
theorem le_non {j : Nat} : LE X (.Constant .none j pos) (wC .non) := le_c rfl pe_non
theorem le_str {x : Str} {j : Nat} : LE X (.Constant (.str x) j pos) (wC (.str x)) := le_c rfl pe_str
theorem le_glob {x : Str} {d : D} {u : Value} (f : d.flat = true) (hg : Gl X x) (hm : X.mg x = some u) (r : RelV d.toV u) (hd : (x == ("__debug__" : Str)) = false := by decide) : LE X (.Name x pos) (wC d) := le_c f (pe_glob hg hm r hd)

/-! ### operators -/
/-- the weakest reading of an operator -/
def OpS (X : Cx) (f : Value → Value → Sem Value) : R2 := fun x y H Q => ∃ r, OpR X f r ∧ r x y H Q
theorem opS {f : Value → Value → Sem Value} : OpR X f (OpS X f) := by
  intro pins s σ H x y v u Q I rx ry h
  obtain ⟨r, hr, z⟩ := h
  exact hr pins s σ H x y v u Q I rx ry z
abbrev O2 := D → D → Hd → (D → Hd → Prop) → Prop
def OpL (X : Cx) (f : Value → Value → Sem Value) (g : O2) : Prop := ∀ {io : List Addr} {H : Hp} {h : Hd} {x y : D} {u v : V} {q : D → Hd → Prop} {Q : VK}, RH X.K X.mg io H h → RD io H x u → RD io H y v → g x y h q → Kn X.K X.mg io H q Q → OpS X f u v H Q
def wBin (g : O2) (wa wb : WE) : WE := fun sl h Q => wa sl h fun x h1 => wb sl h1 fun y h2 => g x y h2 Q
theorem le_bin {op : Operator} {g : O2} {wa wb : WE} (ho : OpL X (binaryOp op) g) (ha : LE X a wa) (hb : LE X b wb) : LE X (.BinOp a op b pos) (wBin g wa wb) :=
  (pe_op opS ha hb).imp fun σ H Q z => by
    obtain ⟨sl, h, io, q, r, z, k⟩ := z
    refine tE.go r z fun x h1 z1 u i1 H1 x1 r1 d1 => ?_
    refine tE.go r1 z1 fun y h2 z2 v i2 H2 x2 r2 d2 => ?_
    exact ho r2.rh (d1.mono x2) d2 z2 (k.on (x1.trans x2))
theorem le_cmp {op : CmpOp} {g : O2} {wa wb : WE} (ho : OpL X (compareOp op) g) (ha : LE X a wa) (hb : LE X b wb) (hm : behindInMarks op b = false) : LE X (.Compare a [op] [b] pos) (wBin g wa wb) :=
  (pe_cmpR opS ha hb hm).imp fun σ H Q z => by
    obtain ⟨sl, h, io, q, r, z, k⟩ := z
    refine tE.go r z fun x h1 z1 u i1 H1 x1 r1 d1 => ?_
    refine tE.go r1 z1 fun y h2 z2 v i2 H2 x2 r2 d2 => ?_
    exact ho r2.rh (d1.mono x2) d2 z2 (k.on (x1.trans x2))
end
end MP

set_option Elab.async false
set_option linter.all false
set_option maxRecDepth 100000
set_option maxHeartbeats 2000000
/-! MpC: defs that are called where no guard is under way; their calls, methods, makings; argument lists. -/
namespace MP
open PySem PySem.Spec
open PyProof.Rows hiding St
open L2

/-- as the layer's FnOk, called where no guard (a repr) is under way -/
structure FnG (P : Program) (w : World) (K : PySem.W.Frag) (mg : Str → Option Value) (base : Heap) (CX : CXT) (k : Nat) (f : Addr) (fd : FuncData) (ps : List Str) (sp : Sp) : Prop where
  len : ∀ vs H Q E, sp vs H Q E → vs.length = ps.length
  run : ∀ (A : Around) (outer : List Env) (s : Shared) (H : Hp) (args : Args) (us : List Value) (vs : List V) (Q : VK) (E : XK), Room k A → A.guards = some [] → Env0 P w K mg base A outer s H → BindsTo s fd args (ps.zip us) → Vals vs us → sp vs H Q E →
    codeAny (model P w) A (.call (.ref f) args) (CR CX outer P w H s Q E) s

section
variable {CX : CXT} {P : Program} {w : World} {K : PySem.W.Frag} {mg : Str → Option Value} {base : Heap} {k : Nat} {f : Addr} {fd : FuncData} {ps : List Str} {sp sp' : Sp}
theorem FnG.of (F : FnOk P w K mg base CX k f fd ps sp) : FnG P w K mg base CX k f fd ps sp := ⟨F.len, fun A outer s H args us vs Q E hr _ => F.run A outer s H args us vs Q E hr⟩
theorem FnG.mono {j : Nat} (F : FnG P w K mg base CX j f fd ps sp) (h : j ≤ k) : FnG P w K mg base CX k f fd ps sp := ⟨F.len, fun A outer s H args us vs Q E hr => F.run A outer s H args us vs Q E (hr.mono h)⟩
theorem FnG.imp (F : FnG P w K mg base CX k f fd ps sp) (h : ∀ vs H Q E, sp' vs H Q E → sp vs H Q E) : FnG P w K mg base CX k f fd ps sp' :=
  ⟨fun vs H Q E q => F.len vs H Q E (h _ _ _ _ q), fun A outer s H args us vs Q E hr hg he hb hv hs => F.run A outer s H args us vs Q E hr hg he hb hv (h _ _ _ _ hs)⟩
/-- the rule for a def -/
theorem fn_g {name qual : Str} {params : Arguments} {body : List Stmt} {scope : Scope} {dV kV doc pm cdv ct oc : Value} {an od : Option Addr} {osl : Array (Option Value)} {N : List Str} (lk : K.lookup f = some ⟨oc, od, .func (PySem.W.fnOf name qual params body scope dV kV doc pm an cdv ct), osl⟩) (hcd : PySem.W.codeIn K cdv qual = true) (S : FnScope N ps scope)
    (len : ∀ vs H Q E, sp vs H Q E → vs.length = ps.length)
    (hbody : ∀ (A : Around) (outer : List Env) (s : Shared) (H : Hp) (vs : List V) (Q : VK) (E : XK), Room k (A.deeper (envOfC qual scope s.heap.objs.size f cdv)) → A.guards = some [] → sp vs H Q E →
      ∃ t, PSs (cxOf CX P w K mg base N qual scope f cdv A outer s H E) body t ∧ t { nx := fun _ H' => Q .non H', rt := Q } (start N vs) H) :
    FnG P w K mg base CX (k + 1) f (PySem.W.fnOf name qual params body scope dV kV doc pm an cdv ct) ps sp := by
  refine ⟨len, fun A outer s H args us vs Q E hr hgd e0 hb r hsp => ?_⟩
  have hl := len _ _ _ _ hsp
  have KX : K.In s.heap := e0.mod.kin.keeps fun b o e => (e0.bs b o e).1
  have lim : s.heap.NoLimit := e0.mod.nolimit.keeps fun b o e => (e0.bs b o e).1
  have hkind : ∀ y ∈ ps.zip us, scope.names.lookup y.1 = some .local ∨ (scope.names.lookup y.1 = some .cell ∧ ((cellsFrom (s.heap.objs.size + 1) scope.names []).lookup y.1).isSome = true) := fun ⟨n, v⟩ hy => by
    rcases S.par n (List.of_mem_zip hy).1 with q | q
    · exact .inl q
    · exact .inr ⟨q, PySem.W.cellsFrom_some _ _ _ (.inl q)⟩
  refine codeAny_call_function hr.depth (KX _ _ lk) rfl S.co S.gen rfl (PySem.W.codeRec_of KX hcd) (hb _ _ _ _ ?_)
  refine wpAny_newFunctionEnv_cells S.kind hkind fun env he s1 x => ?_
  subst he
  refine ⟨lim.keeps x.toInCall.keep, codeAny_func ?_⟩
  obtain ⟨t, ht, hq⟩ := hbody A outer s H vs Q E (hr.deeper _) hgd hsp
  have I : Inv (cxOf CX P w K mg base N qual scope f cdv A outer s H E) [] (start N vs) H s1 := inv_start S hr.hd e0 hl r x
  refine wpAny_mono (ht.run [] s1 (start N vs) H _ I hq) (fun fl s' hs => ?_) fun e s' hs => hs
  have fin : ∀ {σ' : L2.St} {H' : Hp} {v : V} {u : Value}, Inv (cxOf CX P w K mg base N qual scope f cdv A outer s H E) [] σ' H' s' → RelV v u → Q v H' → CE outer P w H s Q u s' :=
    fun {σ' H' v u} J rv q => ⟨v, H', J.os, J.bare, J.base, J.hok, rv, q⟩
  cases fl with
  | ret u =>
    obtain ⟨v, σ', H', J, rv, q⟩ := hs
    exact fin J rv q
  | next =>
    obtain ⟨σ', H', J, q⟩ := hs
    exact fin (v := V.non) (u := Value.none) J rfl q
  | brk =>
    obtain ⟨_, _, _, q⟩ := hs
    exact False.elim q
  | cont =>
    obtain ⟨_, _, _, q⟩ := hs
    exact False.elim q
end

/-! ### promises at D-level; no exception leaves -/
abbrev SpD := List D → Hd → (D → Hd → Prop) → Prop
def spD (K : PySem.W.Frag) (mg : Str → Option Value) (n : Nat) (w : SpD) : Sp := fun vs H Q _ => vs.length = n ∧ ∃ ds h io q, RH K mg io H h ∧ RDs io H ds vs ∧ w ds h q ∧ Kn K mg io H q Q

/-- a def of the module, by its name -/
structure FnD (P : Program) (w : World) (K : PySem.W.Frag) (mg : Str → Option Value) (base : Heap) (k : Nat) (x : Str) (n : Nat) (sp : SpD) : Prop where
  ex : ∃ (f : Addr) (fd : FuncData) (ps : List Str), FnG P w K mg base CX0 k f fd ps (spD K mg n sp) ∧ mg x = some (.ref f) ∧ PySem.W.keepIn K (.ref f) = true ∧ Binds K fd ps [] ∧ ps.length = n
  ar : ∀ ds h q, sp ds h q → ds.length = n
/-- a method -/
structure MtD (P : Program) (w : World) (K : PySem.W.Frag) (mg : Str → Option Value) (base : Heap) (k : Nat) (c m : Str) (n : Nat) (sp : SpD) : Prop where
  ex : ∃ (C f : Addr) (fd : FuncData) (ps : List Str), mg c = some (.ref C) ∧ Cls K C ∧ Meth K C m f ∧ FnG P w K mg base CX0 k f fd ps (spD K mg n sp) ∧ Binds K fd ps [] ∧ ps.length = n
  ar : ∀ ds h q, sp ds h q → ds.length = n
/-- the making of an instance -/
structure MkD (P : Program) (w : World) (K : PySem.W.Frag) (mg : Str → Option Value) (base : Heap) (k : Nat) (c : Str) (n : Nat) (sp : SpD) : Prop where
  ex : ∃ (C f : Addr) (fd : FuncData) (ps : List Str), mg c = some (.ref C) ∧ Mk K C f ∧ FnG P w K mg base CX0 k f fd ps (spD K mg n sp) ∧ Binds K fd ps [] ∧ ps.length = n
  ar : ∀ ds h q, sp ds h q → ds.length = n

section
variable {X : Cx} {k : Nat} {f C : Addr} {fd : FuncData} {ps : List Str} {sp : Sp} {E : XK} {CX : CXT} {dvs : List V} {ds : List Value}
theorem run_g {pins : List (Addr × Obj)} {σ : L2.St} {H : Hp} {s : Shared} {Q : VK} {us : List Value} {vs : List V} (F : FnG X.prog X.w X.K X.mg X.base CX k f fd ps sp) (hr : Room k X.A) (hgd : X.A.guards = some []) (hb : Binds X.K fd ps ds) (hd : Vals dvs ds) (hx : Passes CX X E)
    (I : Inv X pins σ H s) (r : Vals vs us) (h : sp (vs ++ dvs) H Q E) : wpAny (model X.prog X.w) X.A (call (.ref f) us) (EP X pins σ Q) X.xe s := by
  have r2 : Vals (vs ++ dvs) (us ++ ds) := r.append hd
  have hl : (us ++ ds).length = ps.length := by rw [← r2.length]; exact F.len _ _ _ _ h
  refine wpAny_call (codeAny_mono (F.run X.A X.stack s H ⟨us, []⟩ (us ++ ds) (vs ++ dvs) Q E hr hgd I.env0 (hb s us I.kIn hl) r2 h) fun r s' hq => ?_)
  cases r with
  | error e => exact hx pins σ H s e s' I hq
  | ok fl =>
    cases fl with
    | ret u => exact I.after hq
    | next => exact False.elim hq
    | brk => exact False.elim hq
    | cont => exact False.elim hq
end

/-! ### argument lists -/
section
variable {X : Cx} {e : Expr} {es : List Expr} {pos : Pos}
def wNil : WA := fun _ h Q => Q [] h
def wCons (w : WE) (wr : WA) : WA := fun sl h Q => w sl h fun d h1 => wr sl h1 fun ds h2 => Q (d :: ds) h2
theorem la_nil : LA X [] wNil := pa_nil.imp fun σ H Q z => by
  obtain ⟨sl, h, io, q, r, z, k⟩ := z
  exact k [] h z [] io H .refl r.rh .nil
theorem la_cons {w : WE} {wr : WA} (he : LE X e w) (hr : LA X es wr) (hs : starEach (e :: es) X.env = (false, eval e X.env) :: starEach es X.env := by rfl) : LA X (e :: es) (wCons w wr) := (pa_cons he hr hs).imp fun σ H Q z => by
  obtain ⟨sl, h, io, q, r, z, k⟩ := z
  refine tE.go r z fun x h1 z1 u i1 H1 x1 r1 d1 => ?_
  refine tA.go r1 z1 fun ds h2 z2 vs i2 H2 x2 r2 d2 => ?_
  exact k _ _ z2 _ i2 H2 (x1.trans x2) r2.rh (.cons (d1.mono x2) d2)

/-! ### displays -/
def wTup (wa : WA) : WE := fun sl h Q => wa sl h fun ds h1 => ds.length ≤ sizeLine ∧ Q (.tup ds) h1
def wLst (wa : WA) : WE := fun sl h Q => wa sl h fun ds h1 => ds.length ≤ sizeLine ∧ Q (.ref h1.length) (h1 ++ [.lst ds])
theorem le_tup {x1} {wa : WA} (ha : LA X es wa) : LE X (.Tuple es x1 pos) (wTup wa) := (pe_tup ha).imp fun σ H Q z => by
  obtain ⟨sl, h, io, q, r, z, k⟩ := z
  refine tA.go r z fun ds h1 z1 vs i1 H1 x1 r1 d1 => ?_
  obtain ⟨hl, z2⟩ := z1
  refine ⟨by rw [← d1.length]; exact hl, fun p hp => ?_⟩
  exact k _ _ z2 _ i1 _ (x1.trans (ex_upd hp)) (r1.rh.new hp) (.tup (.inl upd_same) (d1.mono (ex_upd hp)))
/-- a new list cell -/
theorem new_lst {K : PySem.W.Frag} {mg : Str → Option Value} {io : List Addr} {H : Hp} {h : Hd} {ds : List D} {vs : List V} {p : Addr} (r : RH K mg io H h) (d : RDs io H ds vs) (hp : H p = none) :
    Ex io (io ++ [p]) H (upd H p (.lst vs)) ∧ RH K mg (io ++ [p]) (upd H p (.lst vs)) (h ++ [.lst ds]) ∧ RD (io ++ [p]) (upd H p (.lst vs)) (.ref h.length) (.ref p) := by
  have x : Ex io (io ++ [p]) H (upd H p (.lst vs)) := ex_alloc hp
  exact ⟨x, r.alloc hp ⟨vs, upd_same, d.mono x⟩, .ref (push_at r p)⟩
theorem le_lst {wa : WA} (ha : LA X es wa) : LE X (.List es pos) (wLst wa) := (pe_lst ha).imp fun σ H Q z => by
  obtain ⟨sl, h, io, q, r, z, k⟩ := z
  refine tA.go r z fun ds h1 z1 vs i1 H1 x1 r1 d1 => ?_
  obtain ⟨hl, z2⟩ := z1
  refine ⟨by rw [← d1.length]; exact hl, fun p hp => ?_⟩
  obtain ⟨x2, r2, d2⟩ := new_lst r1.rh d1 hp
  exact k _ _ z2 _ _ _ (x1.trans x2) r2 d2
end

/-! ### calls -/
section
variable {X : Cx} {k j n : Nat} {x c m : Str} {p pos apos : Pos} {e o : Expr} {es : List Expr} {sp : SpD} {wa : WA} {wo : WE}
def wCall (sp : SpD) (wa : WA) : WE := fun sl h Q => wa sl h fun ds h1 => sp ds h1 Q
theorem le_call (F : FnD X.prog X.w X.K X.mg X.base k x n sp) (hr : Room j X.A) (hk : k ≤ j) (hgd : X.A.guards = some []) (hg : Gl X x) (ha : LA X (e :: es) wa) (hdb : (x == ("__debug__" : Str)) = false := by decide)
    (he : starEach (e :: es) X.env = (false, eval e X.env) :: starEach es X.env := by rfl) (hpl : (backTo pos (starEach es X.env)).any (·.1) = false := by rfl) : LE X (.Call (.Name x p) (e :: es) [] pos) (wCall sp wa) := by
  obtain ⟨⟨f, fd, ps, G, hm, hkp, hb, hn⟩, ar⟩ := F
  refine ⟨fun pins s σ H Q I z => ?_⟩
  obtain ⟨sl, h, io, q, r, z, kn⟩ := z
  refine wpAny_Call_Name_kw (ld_glob I hg hm ?_ hdb)
  refine PySem.W.callWith_K (h₀ := X.base) I.ok.mod.kin hkp (thn (ha.run pos pins s σ H (fun vs H1 => spD X.K X.mg n sp (vs ++ []) H1 Q E0) I (tA.go r z fun ds h1 z1 vs i1 H1 x1 r1 d1 => ?_)) fun us s1 ⟨vs, H1, I1, rv, q1⟩ => ⟨I1.kIn, ?_⟩) he hpl
  · rw [List.append_nil]
    exact ⟨by rw [← d1.length]; exact ar _ _ _ z1, ds, h1, i1, q, r1.rh, d1, z1, kn.on x1⟩
  · exact run_g G (hr.mono hk) hgd hb .nil pass0 I1 rv q1
end
end MP

set_option Elab.async false
set_option linter.all false
set_option maxRecDepth 100000
set_option maxHeartbeats 2000000
/-! MpD: equality of data, dicts by D-level, the operators. -/
namespace MP
open PySem PySem.Spec
open PyProof.Rows hiding St
open L2

mutual
def D.beq : D → D → Bool
  | .non, .non => true
  | .bl a, .bl b => a == b
  | .int a, .int b => decide (a = b)
  | .str a, .str b => decide (a = b)
  | .tup xs, .tup ys => D.beqs xs ys
  | .ref a, .ref b => Nat.beq a b
  | _, _ => false
def D.beqs : List D → List D → Bool
  | [], [] => true
  | x :: xs, y :: ys => D.beq x y && D.beqs xs ys
  | _, _ => false
end
mutual
theorem D.beq_eq : ∀ {a b : D}, D.beq a b = true → a = b
  | .non, b, h => by cases b <;> first | rfl | (simp [D.beq] at h)
  | .bl x, b, h => by cases b <;> simp [D.beq] at h; rw [h]
  | .int x, b, h => by cases b <;> simp [D.beq] at h; rw [h]
  | .str x, b, h => by cases b <;> simp [D.beq] at h; rw [h]
  | .tup xs, b, h => by
    cases b with
    | tup ys => exact congrArg D.tup (D.beqs_eq (by simpa [D.beq] using h))
    | _ => simp [D.beq] at h
  | .ref n, b, h => by
    cases b with
    | ref m => exact congrArg D.ref (Nat.eq_of_beq_eq_true (by simpa only [D.beq] using h))
    | _ => simp [D.beq] at h
theorem D.beqs_eq : ∀ {a b : List D}, D.beqs a b = true → a = b
  | [], [], _ => rfl
  | [], _ :: _, h => by simp [D.beqs] at h
  | _ :: _, [], h => by simp [D.beqs] at h
  | x :: xs, y :: ys, h => by
    rw [D.beqs, Bool.and_eq_true] at h
    rw [D.beq_eq h.1, D.beqs_eq h.2]
end
mutual
theorem D.beq_refl : ∀ (a : D), D.beq a a = true
  | .non => rfl
  | .bl x => by simp [D.beq]
  | .int x => by simp [D.beq]
  | .str x => by simp [D.beq]
  | .tup xs => by rw [D.beq]; exact D.beqs_refl xs
  | .ref n => by rw [D.beq]; exact Nat.beq_refl n
theorem D.beqs_refl : ∀ (a : List D), D.beqs a a = true
  | [] => rfl
  | x :: xs => by rw [D.beqs, D.beq_refl x, D.beqs_refl xs]; rfl
end
instance : DecidableEq D := fun a b => if h : D.beq a b = true then .isTrue (D.beq_eq h) else .isFalse fun e => h (e ▸ D.beq_refl a)

/-! ### dicts -/
def getD (kvs : List (D × D)) (k : D) : Option D := (kvs.find? fun p => decide (p.1 = k)).map (·.2)
def putD (kvs : List (D × D)) (k v : D) : List (D × D) := if (kvs.any fun p => decide (p.1 = k)) = true then kvs.map (fun p => if p.1 = k then (p.1, v) else p) else kvs ++ [(k, v)]
def atomK : D → Bool
  | .int _ => true
  | .str _ => true
  | _ => false
def keyOk : Bool → D → Bool
  | false, d => atomK d
  | true, .tup xs => !xs.isEmpty && xs.all atomK
  | _, _ => false
theorem keyD_inj : ∀ {a b : Key}, keyD a = keyD b → a = b
  | .inl _, .inl _, h => by injection h with h; rw [h]
  | .inl _, .inr _, h => by cases h
  | .inr _, .inl _, h => by cases h
  | .inr _, .inr _, h => by injection h with h; rw [h]
theorem keysD_inj : ∀ {a b : List Key}, a.map keyD = b.map keyD → a = b
  | [], [], _ => rfl
  | [], _ :: _, h => by simp at h
  | _ :: _, [], h => by simp at h
  | x :: a, y :: b, h => by
    simp only [List.map_cons, List.cons.injEq] at h
    rw [keyD_inj h.1, keysD_inj h.2]
theorem key_of_ok {d : D} (h : keyOk false d = true) : ∃ k, d = keyD k := by
  cases d with
  | int i => exact ⟨.inl i, rfl⟩
  | str x => exact ⟨.inr x, rfl⟩
  | _ => cases h
theorem keys_of_all : ∀ {xs : List D}, xs.all atomK = true → ∃ ks : List Key, xs = ks.map keyD
  | [], _ => ⟨[], rfl⟩
  | d :: xs, h => by
    rw [List.all_cons, Bool.and_eq_true] at h
    obtain ⟨ks, e⟩ := keys_of_all h.2
    cases d with
    | int i => exact ⟨.inl i :: ks, by rw [e]; rfl⟩
    | str x => exact ⟨.inr x :: ks, by rw [e]; rfl⟩
    | _ => cases h.1
theorem keys_of_ok {xs : List D} (h : keyOk true (.tup xs) = true) : ∃ ks : List Key, xs = ks.map keyD := by
  have h' : (!xs.isEmpty && xs.all atomK) = true := h
  rw [Bool.and_eq_true] at h'
  exact keys_of_all h'.2
theorem keys_ne {k : List Key} (h : keyOk true (.tup (k.map keyD)) = true) : k ≠ [] := fun e => by
  subst e; cases h
section
variable {K : PySem.W.Frag} {mg : Str → Option Value} {io io' : List Addr} {H H' : Hp} {h : Hd}
theorem rd_key {k : Key} {v : V} (r : RD io H (keyD k) v) : v = kV k := by
  cases k <;> cases r <;> rfl
theorem rd_keyD (k : Key) : RD io H (keyD k) (kV k) := by
  cases k with
  | inl i => exact .int i
  | inr x => exact .str x
theorem rd_keys : ∀ {ks : List Key} {vs : List V}, RDs io H (ks.map keyD) vs → vs = ks.map kV
  | [], _, .nil => rfl
  | k :: ks, _, .cons h r => by rw [rd_key h, rd_keys r]; rfl
def RO (io : List Addr) (H : Hp) : Option D → Option V → Prop
  | some d, some v => RD io H d v
  | none, none => True
  | _, _ => False
theorem tup_key {a : Addr} {vs : List V} {k : List Key} (hk : keyOk true (.tup (k.map keyD)) = true) (ha : TupE H a vs) (rs : RDs io H (k.map keyD) vs) : H a = some (.tup (k.map kV)) := by
  have e := rd_keys rs
  subst e
  refine ha.ne fun z => keys_ne hk ?_
  exact List.map_eq_nil_iff.mp z
theorem KVk.get {k : Key} : ∀ {l : List (D × D)} {m : List (Key × V)}, KVk io H l m → RO io H (getD l (keyD k)) (valV m k)
  | _, _, .nil => trivial
  | _, _, @KVk.cons _ _ k' d v l m hd r => by
    by_cases e : k' = k
    · subst e
      simp only [getD, valV, List.find?_cons, decide_true, Option.map_some]
      exact hd
    · have e' : ¬ keyD k' = keyD k := fun q => e (keyD_inj q)
      have := KVk.get (k := k) r
      simpa only [getD, valV, List.find?_cons, e, e', decide_false] using this
theorem KVt.get {k : List Key} : ∀ {l : List (D × D)} {m : List (List Key × V)}, KVt io H l m → RO io H (getD l (.tup (k.map keyD))) (valV m k)
  | _, _, .nil => trivial
  | _, _, @KVt.cons _ _ k' d v l m hd r => by
    by_cases e : k' = k
    · subst e
      simp only [getD, valV, List.find?_cons, decide_true, Option.map_some]
      exact hd
    · have e' : ¬ D.tup (k'.map keyD) = D.tup (k.map keyD) := fun q => e (keysD_inj (by injection q))
      have := KVt.get (k := k) r
      simpa only [getD, valV, List.find?_cons, e, e', decide_false] using this
theorem DOb.rd {a : Addr} {lk : Bool} {u : HO} (e : DOb H a lk u) : Rd H a u := by
  cases lk with
  | false => exact .inl (by simpa [DOb] using e)
  | true => exact .inr (by simpa [DOb] using e)
theorem dget_rel {t lk : Bool} {kvs : List (D × D)} {a : Addr} {x : D} {u : V} (r : RC K mg io H (.dct t lk kvs) a) (hk : keyOk t x = true) (d : RD io H x u) : ∃ o, DGet H a u o ∧ RO io H (getD kvs x) o := by
  cases t with
  | false =>
    obtain ⟨k, rfl⟩ := key_of_ok hk
    obtain ⟨ks, e, q⟩ := r.dK
    exact ⟨valV ks k, .inl ⟨ks, k, e.rd, rd_key d, rfl⟩, q.get⟩
  | true =>
    cases x with
    | tup xs =>
      obtain ⟨k, rfl⟩ := keys_of_ok hk
      obtain ⟨ks, e, q⟩ := r.dT
      cases d with
      | tup ha rs => exact ⟨valV ks k, .inr ⟨ks, k, _, e.rd, rfl, tup_key hk ha rs, rfl⟩, q.get⟩
    | _ => cases hk
theorem KVk.length : ∀ {l : List (D × D)} {m : List (Key × V)}, KVk io H l m → l.length = m.length
  | _, _, .nil => rfl
  | _, _, .cons _ r => by simp [KVk.length r]
theorem KVt.length : ∀ {l : List (D × D)} {m : List (List Key × V)}, KVt io H l m → l.length = m.length
  | _, _, .nil => rfl
  | _, _, .cons _ r => by simp [KVt.length r]
theorem KVk.append {l l' : List (D × D)} : ∀ {m m' : List (Key × V)}, KVk io H l m → KVk io H l' m' → KVk io H (l ++ l') (m ++ m')
  | _, _, .nil, s => s
  | _, _, .cons h r, s => .cons h (KVk.append r s)
theorem KVt.append {l l' : List (D × D)} : ∀ {m m' : List (List Key × V)}, KVt io H l m → KVt io H l' m' → KVt io H (l ++ l') (m ++ m')
  | _, _, .nil, s => s
  | _, _, .cons h r, s => .cons h (KVt.append r s)
theorem KVk.mapPut {k : Key} {d : D} {v : V} (hd : RD io H d v) : ∀ {l : List (D × D)} {m : List (Key × V)}, KVk io H l m → KVk io H (l.map fun p => if p.1 = keyD k then (p.1, d) else p) (m.map fun p => if p.1 = k then (p.1, v) else p)
  | _, _, .nil => .nil
  | _, _, @KVk.cons _ _ k' d' v' l m h r => by
    by_cases e : k' = k
    · subst e
      simp only [List.map_cons, if_true]
      exact .cons hd (KVk.mapPut hd r)
    · have e' : ¬ keyD k' = keyD k := fun q => e (keyD_inj q)
      simp only [List.map_cons, if_neg e, if_neg e']
      exact .cons h (KVk.mapPut hd r)
theorem KVt.mapPut {k : List Key} {d : D} {v : V} (hd : RD io H d v) : ∀ {l : List (D × D)} {m : List (List Key × V)}, KVt io H l m → KVt io H (l.map fun p => if p.1 = .tup (k.map keyD) then (p.1, d) else p) (m.map fun p => if p.1 = k then (p.1, v) else p)
  | _, _, .nil => .nil
  | _, _, @KVt.cons _ _ k' d' v' l m h r => by
    by_cases e : k' = k
    · subst e
      simp only [List.map_cons, if_true]
      exact .cons hd (KVt.mapPut hd r)
    · have e' : ¬ D.tup (k'.map keyD) = D.tup (k.map keyD) := fun q => e (keysD_inj (by injection q))
      simp only [List.map_cons, if_neg e, if_neg e']
      exact .cons h (KVt.mapPut hd r)
theorem KVk.any {k : Key} : ∀ {l : List (D × D)} {m : List (Key × V)}, KVk io H l m → (l.any fun p => decide (p.1 = keyD k)) = (m.any fun p => decide (p.1 = k))
  | _, _, .nil => rfl
  | _, _, @KVk.cons _ _ k' d' v' l m h r => by
    have : decide (keyD k' = keyD k) = decide (k' = k) := by
      by_cases e : k' = k
      · subst e; simp
      · rw [decide_eq_false e, decide_eq_false fun q => e (keyD_inj q)]
    simp only [List.any_cons, this, KVk.any r]
theorem KVt.any {k : List Key} : ∀ {l : List (D × D)} {m : List (List Key × V)}, KVt io H l m → (l.any fun p => decide (p.1 = .tup (k.map keyD))) = (m.any fun p => decide (p.1 = k))
  | _, _, .nil => rfl
  | _, _, @KVt.cons _ _ k' d' v' l m h r => by
    have : decide (D.tup (k'.map keyD) = D.tup (k.map keyD)) = decide (k' = k) := by
      by_cases e : k' = k
      · subst e; simp
      · rw [decide_eq_false e, decide_eq_false fun q => e (keysD_inj (by injection q))]
    simp only [List.any_cons, this, KVt.any r]
theorem KVk.put {k : Key} {d : D} {v : V} (hd : RD io H d v) {l : List (D × D)} {m : List (Key × V)} (q : KVk io H l m) : KVk io H (putD l (keyD k) d) (putK m k v) := by
  unfold putD putK
  rw [q.any]
  split
  · exact q.mapPut hd
  · exact q.append (.cons hd .nil)
theorem KVt.put {k : List Key} {d : D} {v : V} (hd : RD io H d v) {l : List (D × D)} {m : List (List Key × V)} (q : KVt io H l m) : KVt io H (putD l (.tup (k.map keyD)) d) (putK m k v) := by
  unfold putD putK
  rw [q.any]
  split
  · exact q.mapPut hd
  · exact q.append (.cons hd .nil)
/-- a store into a dict -/
theorem dput_rel {t : Bool} {kvs : List (D × D)} {n : Nat} {a : Addr} {x y : D} {u v : V} (rh : RH K mg io H h) (e : h[n]? = some (.dct t false kvs)) (i : io[n]? = some a) (hk : keyOk t x = true) (dx : RD io H x u) (dy : RD io H y v) (hl : kvs.length < sizeLine) :
    ∃ H', DPut H a u v H' ∧ Ex io io H H' ∧ RH K mg io H' (h.set n (.dct t false (putD kvs x y))) := by
  have r := rh.cell n _ a e i
  cases t with
  | false =>
    obtain ⟨k, rfl⟩ := key_of_ok hk
    obtain ⟨ks, f, q⟩ := r.dK
    have f' : H a = some (.dK ks) := by simpa [DOb] using f
    have w := rh.write (o := .dK (putK ks k v)) (c' := .dct false false (putD kvs (keyD k) y)) i f' (fun xs z => nomatch z) (fun _ _ z => nomatch z) (fun b z => nomatch z) fun ex => .ofK ⟨_, by simp [DOb, upd_same], (q.put dy).mono ex⟩
    exact ⟨_, .inl ⟨ks, k, f', rd_key dx, by rw [← q.length]; exact hl, rfl⟩, w.1, w.2⟩
  | true =>
    cases x with
    | tup xs =>
      obtain ⟨k, rfl⟩ := keys_of_ok hk
      obtain ⟨ks, f, q⟩ := r.dT
      have f' : H a = some (.dT ks) := by simpa [DOb] using f
      cases dx with
      | tup ha rs =>
        have w := rh.write (o := .dT (putK ks k v)) (c' := .dct true false (putD kvs (.tup (k.map keyD)) y)) i f' (fun xs z => nomatch z) (fun _ _ z => nomatch z) (fun b z => nomatch z) fun ex => .ofT ⟨_, by simp [DOb, upd_same], (q.put dy).mono ex⟩
        exact ⟨_, .inr ⟨ks, k, _, f', rfl, tup_key hk ha rs, by rw [← q.length]; exact hl, rfl⟩, w.1, w.2⟩
    | _ => cases hk
/-- the items of a list cell, by the layer's reading of it -/
theorem lst_sq {ds : List D} {a : Addr} {c : Cell} (r : RC K mg io H c a) (hc : c = .lst ds ∨ c = .scr ds) : ∃ vs, SqL K H a vs ∧ RDs io H ds vs := by
  rcases hc with rfl | rfl
  · obtain ⟨vs, e, q⟩ := r; exact ⟨vs, SqL.of e, q⟩
  · obtain ⟨o, vs, e, q⟩ := r; exact ⟨vs, .inl (.inr ⟨o, e⟩), q⟩
end

/-- the items of a list that may be read -/
def items (h : Hd) (n : Nat) : Option (List D) := match h[n]? with
  | some (.lst xs) => some xs
  | some (.scr xs) => some xs
  | _ => none
theorem items_at {h : Hd} {n : Nat} {xs : List D} (e : items h n = some xs) : ∃ c, h[n]? = some c ∧ (c = .lst xs ∨ c = .scr xs) := by
  unfold items at e
  split at e
  · rename_i q; cases e; exact ⟨_, q, .inl rfl⟩
  · rename_i q; cases e; exact ⟨_, q, .inr rfl⟩
  · cases e
theorem RH.list {K : PySem.W.Frag} {mg : Str → Option Value} {io : List Addr} {H : Hp} {h : Hd} {n : Nat} {a : Addr} {xs : List D} (r : RH K mg io H h) (e : items h n = some xs) (i : io[n]? = some a) : ∃ vs, SqL K H a vs ∧ RDs io H xs vs := by
  obtain ⟨c, q, hc⟩ := items_at e
  exact lst_sq (r.cell n c a q i) hc
theorem RH.lst {K : PySem.W.Frag} {mg : Str → Option Value} {io : List Addr} {H : Hp} {h : Hd} {n : Nat} {a : Addr} {xs : List D} (r : RH K mg io H h) (e : h[n]? = some (.lst xs)) (i : io[n]? = some a) : ∃ vs, H a = some (.lst vs) ∧ RDs io H xs vs := r.cell n _ a e i

/-! ### operators -/
section
variable {X : Cx} {j : Nat}
def oAdd : O2 := fun x y h Q => match x, y with
  | .int a, .int b => Q (.int (a + b)) h
  | .str a, .str b => a.length + b.length ≤ sizeLine ∧ Q (.str (a ++ b)) h
  | .tup xs, .tup ys => xs.length + ys.length ≤ sizeLine ∧ Q (.tup (xs ++ ys)) h
  | .ref m, .ref n => ∃ xs ys, h[m]? = some (.lst xs) ∧ h[n]? = some (.lst ys) ∧ xs.length + ys.length ≤ sizeLine ∧ Q (.ref h.length) (h ++ [.lst (xs ++ ys)])
  | _, _ => False
theorem ol_add : OpL X (binaryOp .Add) oAdd := by
  intro io H h x y u v q Q rh dx dy z k
  cases dx with
  | int a => cases dy with
    | int b => exact ⟨_, op_add, a, b, rfl, rfl, k _ _ z _ io H .refl rh (.int _)⟩
    | _ => exact z.elim
  | str a => cases dy with
    | str b => exact ⟨_, op_add_str, a, b, rfl, rfl, z.1, k _ _ z.2 _ io H .refl rh (.str _)⟩
    | _ => exact z.elim
  | @tup a vs xs ha ra => cases dy with
    | @tup b ws ys hb rb =>
      obtain ⟨hl, z⟩ := z
      refine ⟨_, op_catA, a, b, vs, ws, rfl, rfl, ha.sq, hb.sq, by rw [← ra.length, ← rb.length]; exact hl, fun e => ?_, fun e1 e2 => ?_, fun e1 e2 p hp => ?_⟩
      · have : xs = [] := List.eq_nil_of_length_eq_zero (by rw [ra.length, e]; rfl)
        subst this
        exact k _ _ z _ io H .refl rh (.tup hb rb)
      · have : ys = [] := List.eq_nil_of_length_eq_zero (by rw [rb.length, e2]; rfl)
        subst this
        rw [List.append_nil] at z
        exact k _ _ z _ io H .refl rh (.tup ha ra)
      · exact k _ _ z _ io _ (ex_upd hp) (rh.new hp) (.tup (.inl upd_same) ((ra.append rb).mono (ex_upd hp)))
    | _ => exact z.elim
  | @ref m a i => cases dy with
    | @ref n b i2 =>
      obtain ⟨xs, ys, e1, e2, hl, z⟩ := z
      obtain ⟨vs, f1, r1⟩ := rh.lst e1 i
      obtain ⟨ws, f2, r2⟩ := rh.lst e2 i2
      refine ⟨_, op_cat, a, b, vs, ws, rfl, rfl, f1, f2, by rw [← r1.length, ← r2.length]; exact hl, fun p hp => ?_⟩
      obtain ⟨x2, rh2, d2⟩ := new_lst rh (r1.append r2) hp
      exact k _ _ z _ _ _ x2 rh2 d2
    | _ => exact z.elim
  | _ => exact z.elim
def oInt2 (C : Int → Int → Prop) (f : Int → Int → D) : O2 := fun x y h Q => match x, y with
  | .int a, .int b => C a b ∧ Q (f a b) h
  | _, _ => False
theorem ol_int2 {f : Value → Value → Sem Value} {C : Int → Int → Prop} {g : Int → Int → V} {gd : Int → Int → D} (ho : OpR X f (rI C g)) (hg : ∀ io H a b, RD io H (gd a b) (g a b)) : OpL X f (oInt2 C gd) := by
  intro io H h x y u v q Q rh dx dy z k
  cases dx with
  | int a => cases dy with
    | int b => exact ⟨_, ho, a, b, rfl, rfl, z.1, k _ _ z.2 _ io H .refl rh (hg _ _ _ _)⟩
    | _ => exact z.elim
  | _ => exact z.elim
def oInt0 (f : Int → Int → D) : O2 := fun x y h Q => match x, y with
  | .int a, .int b => Q (f a b) h
  | _, _ => False
theorem ol_int0 {f : Value → Value → Sem Value} {g : Int → Int → V} {gd : Int → Int → D} (ho : OpR X f (rI0 g)) (hg : ∀ io H a b, RD io H (gd a b) (g a b)) : OpL X f (oInt0 gd) := by
  intro io H h x y u v q Q rh dx dy z k
  cases dx with
  | int a => cases dy with
    | int b => exact ⟨_, ho, a, b, rfl, rfl, k _ _ z _ io H .refl rh (hg _ _ _ _)⟩
    | _ => exact z.elim
  | _ => exact z.elim
abbrev oSub : O2 := oInt0 fun a b => .int (a - b)
theorem ol_sub : OpL X (binaryOp .Sub) oSub := ol_int0 op_sub fun _ _ _ _ => .int _
abbrev oMod : O2 := oInt2 (fun _ b => 0 < b) fun a b => .int (a % b)
theorem ol_mod : OpL X (binaryOp .Mod) oMod := ol_int2 op_mod fun _ _ _ _ => .int _
abbrev oFdiv : O2 := oInt2 CDivW fun a b => .int (a / b)
theorem ol_fdiv : OpL X (binaryOp .FloorDiv) oFdiv := ol_int2 op_fdivW fun _ _ _ _ => .int _
/-- the order of ints and texts -/
def oOrd (f : Int → Int → Bool) (g : Str → Str → Bool) : O2 := fun x y h Q => match x, y with
  | .int a, .int b => Q (.bl (f a b)) h
  | .str a, .str b => Q (.bl (g a b)) h
  | _, _ => False
theorem ol_ord {op : CmpOp} {f : Int → Int → Bool} {g : Str → Str → Bool} (h1 : OpR X (compareOp op) (rI0 fun a b => .bl (f a b))) (h2 : OpR X (compareOp op) (fun x y H Q => ∃ i j, x = .str i ∧ y = .str j ∧ Q (.bl (g i j)) H)) : OpL X (compareOp op) (oOrd f g) := by
  intro io H h x y u v q Q rh dx dy z k
  cases dx with
  | int a => cases dy with
    | int b => exact ⟨_, h1, a, b, rfl, rfl, k _ _ z _ io H .refl rh (.bl _)⟩
    | _ => exact z.elim
  | str a => cases dy with
    | str b => exact ⟨_, h2, a, b, rfl, rfl, k _ _ z _ io H .refl rh (.bl _)⟩
    | _ => exact z.elim
  | _ => exact z.elim
def ltS (a b : Str) : Bool := decide (a.cps.toList < b.cps.toList)
abbrev oLt : O2 := oOrd (fun a b => decide (a < b)) ltS
abbrev oLe : O2 := oOrd (fun a b => decide (a ≤ b)) fun a b => !ltS b a
abbrev oGt : O2 := oOrd (fun a b => decide (b < a)) fun a b => ltS b a
abbrev oGe : O2 := oOrd (fun a b => decide (b ≤ a)) fun a b => !ltS a b
theorem ol_lt : OpL X (compareOp .Lt) oLt := ol_ord op_lt op_lt_str
theorem ol_le : OpL X (compareOp .LtE) oLe := ol_ord op_le op_le_str
theorem ol_gt : OpL X (compareOp .Gt) oGt := ol_ord op_gt op_gt_str
theorem ol_ge : OpL X (compareOp .GtE) oGe := ol_ord op_ge op_ge_str
end
end MP

set_option Elab.async false
set_option linter.all false
set_option maxRecDepth 100000
set_option maxHeartbeats 2000000
/-! MpE: in, is, ==, subscripts, slices, fields, tests, conditionals. -/
namespace MP
open PySem PySem.Spec
open PyProof.Rows hiding St
open L2

def eqF : D → D → Bool
  | .non, .non => true
  | .bl a, .bl b => a == b
  | .bl a, .int b => (if a then 1 else 0) == b
  | .int a, .bl b => a == (if b then 1 else 0)
  | .int a, .int b => a == b
  | .str a, .str b => a == b
  | _, _ => false
theorem eqF_V {x y : D} (hx : x.flat = true) (hy : y.flat = true) : eqV x.toV y.toV = eqF x y := by
  cases x <;> cases y <;> first | rfl | (simp [D.flat] at hx; done) | (simp [D.flat] at hy; done)
theorem RD.toV_of {io : List Addr} {H : Hp} {d : D} {v : V} (f : d.flat = true) (r : RD io H d v) : v = d.toV := by
  cases r <;> first | rfl | cases f
theorem flatV_of {d : D} (f : d.flat = true) : flatV d.toV = true := by
  cases d <;> first | rfl | cases f
theorem RDs.flats {io : List Addr} {H : Hp} : ∀ {ds : List D} {vs : List V}, RDs io H ds vs → ds.all D.flat = true → vs = ds.map D.toV ∧ vs.all flatV = true
  | _, _, .nil, _ => ⟨rfl, rfl⟩
  | d :: ds, _, .cons h r, f => by
    rw [List.all_cons, Bool.and_eq_true] at f
    obtain ⟨e1, e2⟩ := RDs.flats r f.2
    have e := h.toV_of f.1
    subst e
    exact ⟨by rw [e1]; rfl, by rw [List.all_cons, flatV_of f.1, e2]; rfl⟩
theorem inV_of {x : D} (fx : x.flat = true) : ∀ {ds : List D}, ds.all D.flat = true → inV x.toV (ds.map D.toV) = ds.any fun z => eqF z x
  | [], _ => rfl
  | d :: ds, f => by
    rw [List.all_cons, Bool.and_eq_true] at f
    have := inV_of fx f.2
    unfold inV at this ⊢
    rw [List.map_cons, List.any_cons, List.any_cons, this, eqF_V f.1 fx]
def inList (x : D) (xs : List D) : Option Bool := if (x.flat && xs.all D.flat) = true then some (xs.any fun z => eqF z x) else none
def inDat (h : Hd) (x y : D) : Option Bool := match y with
  | .tup xs => inList x xs
  | .ref n => match h[n]? with
    | some (.lst xs) => inList x xs
    | some (.scr xs) => inList x xs
    | some (.dct t _ kvs) => if keyOk t x = true then some (getD kvs x).isSome else none
    | _ => none
  | _ => none

/-! ### nested data, for == and repr -/
mutual
inductive PyR (h : Hd) : D → PyData → Prop
  | non : PyR h .non .none
  | bl (b : Bool) : PyR h (.bl b) (.bool b)
  | int (i : Int) : PyR h (.int i) (.int i)
  | str (x : Str) : PyR h (.str x) (.str x)
  | lst {n : Nat} {xs : List D} {ds : List PyData} : items h n = some xs → PyRs h xs ds → PyR h (.ref n) (.list ds)
  | tup {xs : List D} {ds : List PyData} : PyRs h xs ds → PyR h (.tup xs) (.tuple ds)
inductive PyRs (h : Hd) : List D → List PyData → Prop
  | nil : PyRs h [] []
  | cons {x : D} {xs : List D} {d : PyData} {ds : List PyData} : PyR h x d → PyRs h xs ds → PyRs h (x :: xs) (d :: ds)
end
section
variable {K : PySem.W.Frag} {mg : Str → Option Value} {io : List Addr} {H : Hp} {h : Hd}
mutual
theorem PyR.dp (rh : RH K mg io H h) : ∀ {x : D} {d : PyData} {v : V}, PyR h x d → RD io H x v → Dp K H v d
  | _, _, _, .non, .non => .non
  | _, _, _, .bl b, .bl _ => .bl b
  | _, _, _, .int b, .int _ => .int b
  | _, _, _, .str b, .str _ => .str b
  | _, _, _, .lst e q, .ref i => by
    obtain ⟨vs, hs, r⟩ := rh.list e i
    exact .lst hs (PyRs.dp rh q r)
  | _, _, _, .tup q, .tup e r => .tup (e.sq) (PyRs.dp rh q r)
theorem PyRs.dp (rh : RH K mg io H h) : ∀ {xs : List D} {ds : List PyData} {vs : List V}, PyRs h xs ds → RDs io H xs vs → DpAll K H vs ds
  | _, _, _, .nil, .nil => .nil
  | _, _, _, .cons a q, .cons b r => .cons (PyR.dp rh a b) (PyRs.dp rh q r)
end
end

section
variable {X : Cx} {j : Nat}
def oIn (neg : Bool) : O2 := fun x y h Q => ∃ b, inDat h x y = some b ∧ Q (.bl (if neg then !b else b)) h
theorem inList_some {x : D} {xs : List D} {b : Bool} (e : inList x xs = some b) : x.flat = true ∧ xs.all D.flat = true ∧ (xs.any fun z => eqF z x) = b := by
  unfold inList at e
  split at e
  · rename_i q; rw [Bool.and_eq_true] at q; cases e; exact ⟨q.1, q.2, rfl⟩
  · cases e
theorem opr_dIn (hr : Room j X.A) : OpR X (compareOp .In) (fun x y H Q => ∃ a o, y = .ref a ∧ DGet H a x o ∧ Q (.bl o.isSome) H) := by
  intro pins s σ H x y v u Q I rx ry h
  obtain ⟨a, o, rfl, g, q⟩ := h
  obtain rfl : u = Value.ref a := ry
  exact d_in (hu_of hr) I g rx fun s3 I3 => ⟨.bl o.isSome, H, I3, rfl, q⟩
theorem opr_dNotIn (hr : Room j X.A) : OpR X (compareOp .NotIn) (fun x y H Q => ∃ a o, y = .ref a ∧ DGet H a x o ∧ Q (.bl (!o.isSome)) H) := by
  intro pins s σ H x y v u Q I rx ry h
  obtain ⟨a, o, rfl, g, q⟩ := h
  obtain rfl : u = Value.ref a := ry
  exact d_notIn (hu_of hr) I g rx fun s3 I3 => ⟨.bl (!o.isSome), H, I3, rfl, q⟩
theorem RO.isSome {io : List Addr} {H : Hp} {d : Option D} {o : Option V} (r : RO io H d o) : o.isSome = d.isSome := by
  cases d <;> cases o <;> first | rfl | exact r.elim
theorem ol_in (hr : Room j X.A) (neg : Bool) : OpL X (compareOp (if neg then .NotIn else .In)) (oIn neg) := by
  intro io H h x y u v q Q rh dx dy z k
  obtain ⟨b, e, z⟩ := z
  have go : ∀ {p : Addr} {xs : List D} {vs : List V}, v = .ref p → (SqL X.K H p vs ∨ SqT X.K H p vs) → RDs io H xs vs → inList x xs = some b → OpS X (compareOp (if neg then .NotIn else .In)) u v H Q := by
    intro p xs vs ev hs r e
    obtain ⟨f1, f2, f3⟩ := inList_some e
    obtain ⟨g1, g2⟩ := r.flats f2
    have g3 := dx.toV_of f1
    have g4 := inV_of f1 f2
    cases neg with
    | false => exact ⟨_, op_in_seq, p, vs, ev, hs, by rw [g3]; exact flatV_of f1, g2, by
        rw [g1, g3, g4, f3]; exact k _ _ z _ io H .refl rh (.bl _)⟩
    | true => exact ⟨_, op_notIn_seq, p, vs, ev, hs, by rw [g3]; exact flatV_of f1, g2, by
        rw [g1, g3, g4, f3]; exact k _ _ z _ io H .refl rh (.bl _)⟩
  cases dy with
  | tup ha ra => exact go rfl (.inr ha.sq) ra e
  | @ref n a i =>
    simp only [inDat] at e
    split at e
    · rename_i xs q
      obtain ⟨vs, h1, r⟩ := lst_sq (rh.cell n _ a q i) (.inl rfl)
      exact go rfl (.inl h1) r e
    · rename_i xs q
      obtain ⟨vs, h1, r⟩ := lst_sq (rh.cell n _ a q i) (.inr rfl)
      exact go rfl (.inl h1) r e
    · rename_i t lk kvs q
      split at e
      · rename_i hk
        cases e
        obtain ⟨o, g, ro⟩ := dget_rel (rh.cell n _ a q i) hk dx
        cases neg with
        | false => exact ⟨_, opr_dIn hr, a, o, rfl, g, by rw [ro.isSome]; exact k _ _ z _ io H .refl rh (.bl _)⟩
        | true => exact ⟨_, opr_dNotIn hr, a, o, rfl, g, by rw [ro.isSome]; exact k _ _ z _ io H .refl rh (.bl _)⟩
      · cases e
    · cases e
  | _ => cases e
/-- is, is not -/
def oIs (neg : Bool) : O2 := fun x y h Q => match y with
  | .non => Q (.bl (if neg then !decide (x = .non) else decide (x = .non))) h
  | .bl b => match x with
    | .bl a => Q (.bl (if neg then !decide (a = b) else decide (a = b))) h
    | _ => False
  | _ => False
theorem rd_non {io : List Addr} {H : Hp} {x : D} {u : V} (r : RD io H x u) : decide (u = .non) = decide (x = .non) := by
  cases r <;> simp
theorem ol_is (neg : Bool) : OpL X (compareOp (if neg then .IsNot else .Is)) (oIs neg) := by
  intro io H h x y u v q Q rh dx dy z k
  cases dy with
  | non =>
    cases neg with
    | false => exact ⟨_, op_isN, rfl, by rw [rd_non dx]; exact k _ _ z _ io H .refl rh (.bl _)⟩
    | true => exact ⟨_, op_notN, rfl, by rw [rd_non dx]; exact k _ _ z _ io H .refl rh (.bl _)⟩
  | bl b =>
    cases dx with
    | bl a =>
      cases neg with
      | false => exact ⟨_, op_isBl, a, b, rfl, rfl, k _ _ z _ io H .refl rh (.bl _)⟩
      | true => exact ⟨_, op_notBl, a, b, rfl, rfl, k _ _ z _ io H .refl rh (.bl _)⟩
    | _ => exact z.elim
  | _ => exact z.elim
/-- == and != -/
def oEq (neg : Bool) : O2 := fun x y h Q => match x, y with
  | .int a, .int b => Q (.bl (if neg then !decide (a = b) else decide (a = b))) h
  | .str a, .str b => Q (.bl (if neg then !decide (a = b) else decide (a = b))) h
  | .bl a, .bl b => Q (.bl (if neg then !decide (a = b) else decide (a = b))) h
  | .non, .non => Q (.bl (!neg)) h
  | .non, .int _ => Q (.bl neg) h
  | .int _, .non => Q (.bl neg) h
  | x, y => ∃ d e, PyR h x d ∧ PyR h y e ∧ SeqAt.shaped d = true ∧ SeqAt.shaped e = true ∧ Q (.bl (if neg then !PyData.eqv d e else PyData.eqv d e)) h
theorem ol_eq (hr : Room j X.A) (neg : Bool) : OpL X (compareOp (if neg then .NotEq else .Eq)) (oEq neg) := by
  intro io H h x y u v q Q rh dx dy z k
  have hu : X.A.units + 64 < cLine := hr.units
  have deep : (∃ d e, PyR h x d ∧ PyR h y e ∧ SeqAt.shaped d = true ∧ SeqAt.shaped e = true ∧ q (.bl (if neg then !PyData.eqv d e else PyData.eqv d e)) h) → OpS X (compareOp (if neg then .NotEq else .Eq)) u v H Q := by
    rintro ⟨d, e, p1, p2, s1, s2, z⟩
    cases neg with
    | false => exact ⟨_, op_eqD hu, d, e, p1.dp rh dx, p2.dp rh dy, s1, s2, k _ _ z _ io H .refl rh (.bl _)⟩
    | true => exact ⟨_, op_neD hu, d, e, p1.dp rh dx, p2.dp rh dy, s1, s2, k _ _ z _ io H .refl rh (.bl _)⟩
  have flat : ∀ (b : Bool), scal u v = true → decide (u = v) = b → q (.bl (if neg then !b else b)) h → OpS X (compareOp (if neg then .NotEq else .Eq)) u v H Q := by
    intro b h1 h2 z
    cases neg with
    | false => exact ⟨_, op_eq, h1, by rw [h2]; exact k _ _ z _ io H .refl rh (.bl _)⟩
    | true => exact ⟨_, op_ne, h1, by rw [h2]; exact k _ _ z _ io H .refl rh (.bl _)⟩
  cases dx <;> cases dy <;> first
    | exact deep z
    | (refine flat _ rfl ?_ z; simp)
    | (refine flat true rfl (by simp) ?_; cases neg <;> exact z)
    | (refine flat false rfl (by simp) ?_; cases neg <;> exact z)
end

/-! ### subscripts -/
section
variable {X : Cx} {j : Nat} {a b e o : Expr} {pos apos : Pos}
def IxS (X : Cx) : R2 := fun x y H Q => ∃ r, IxR X r ∧ r x y H Q
theorem ixS : IxR X (IxS X) := by
  intro value slice pins s σ H x y v u Q I rx ry h hs
  obtain ⟨r, hr, z⟩ := h
  exact hr value slice pins s σ H x y v u Q I rx ry z hs
def oIx : O2 := fun x y h Q => match x with
  | .ref n => match h[n]? with
    | some (.lst xs) => ∃ i d, y = .int i ∧ atI xs i = some d ∧ Q d h
    | some (.scr xs) => ∃ i d, y = .int i ∧ atI xs i = some d ∧ Q d h
    | some (.dct t _ kvs) => keyOk t y = true ∧ ∃ d, getD kvs y = some d ∧ Q d h
    | _ => False
  | .tup xs => ∃ i d, y = .int i ∧ atI xs i = some d ∧ Q d h
  | _ => False
theorem RDs.atI {io : List Addr} {H : Hp} {ds : List D} {vs : List V} {i : Int} {d : D} (r : RDs io H ds vs) (e : atI ds i = some d) : ∃ v, L2.atI vs i = some v ∧ RD io H d v := by
  unfold L2.atI at e ⊢
  rw [← r.length]
  cases q : ixN ds.length i with
  | none => rw [q] at e; cases e
  | some j =>
    rw [q] at e
    exact r.get e
theorem ix_dict (hr : Room j X.A) : IxR X (fun x y H Q => ∃ a v, x = .ref a ∧ DGet H a y (some v) ∧ Q v H) := by
  intro value slice pins s σ H x y v u Q I rx ry h hs
  obtain ⟨a, w, rfl, g, q⟩ := h
  obtain rfl : v = Value.ref a := rx
  exact tail_any (dict_typeIs I g) PySem.F.slot_dict_getitem.lookup (d_getItem (hu_of hr) I g ry fun w' s3 I3 rw' => ⟨w, H, I3, rw', q⟩) hs
theorem ixL (hr : Room j X.A) {io : List Addr} {H : Hp} {h : Hd} {x y : D} {u v : V} {q : D → Hd → Prop} {Q : VK} (rh : RH X.K X.mg io H h) (dx : RD io H x u) (dy : RD io H y v) (z : oIx x y h q) (k : Kn X.K X.mg io H q Q) : IxS X u v H Q := by
  have go : ∀ {p : Addr} {xs : List D} {vs : List V}, u = .ref p → (SqL X.K H p vs ∨ SqT X.K H p vs) → RDs io H xs vs → (∃ i d, y = .int i ∧ atI xs i = some d ∧ q d h) → IxS X u v H Q := by
    rintro p xs vs rfl hs r ⟨i, d, rfl, e, z⟩
    obtain ⟨w, f1, f2⟩ := r.atI e
    cases dy
    rcases hs with hs | hs
    · exact ⟨_, ix_list, p, vs, i, w, rfl, rfl, hs, f1, k _ _ z _ io H .refl rh f2⟩
    · exact ⟨_, ix_tup, p, vs, i, w, rfl, rfl, hs, f1, k _ _ z _ io H .refl rh f2⟩
  cases dx with
  | tup ha ra => exact go rfl (.inr ha.sq) ra z
  | @ref n a i =>
    simp only [oIx] at z
    split at z
    · rename_i xs e
      obtain ⟨vs, h1, r⟩ := lst_sq (rh.cell n _ a e i) (.inl rfl)
      exact go rfl (.inl h1) r z
    · rename_i xs e
      obtain ⟨vs, h1, r⟩ := lst_sq (rh.cell n _ a e i) (.inr rfl)
      exact go rfl (.inl h1) r z
    · rename_i t lk kvs e
      obtain ⟨hk, d, f, z⟩ := z
      obtain ⟨o, g, ro⟩ := dget_rel (rh.cell n _ a e i) hk dy
      rw [f] at ro
      cases o with
      | none => exact ro.elim
      | some w => exact ⟨_, ix_dict hr, a, w, rfl, g, k _ _ z _ io H .refl rh ro⟩
    · exact z.elim
  | _ => exact z.elim
theorem le_ix {wa wb : WE} (hr : Room j X.A) (ha : LE X a wa) (hb : LE X b wb) (hs : PlainIx b) : LE X (.Subscript a b pos) (wBin oIx wa wb) := (pe_ix ixS ha hb hs).imp fun σ H Q z => by
  obtain ⟨sl, h, io, q, r, z, k⟩ := z
  refine tE.go r z fun x h1 z1 u i1 H1 x1 r1 d1 => ?_
  refine tE.go r1 z1 fun y h2 z2 v i2 H2 x2 r2 d2 => ?_
  exact ixL hr r2.rh (d1.mono x2) d2 z2 (k.on (x1.trans x2))

/-! ### slices -/
def SlS (X : Cx) : V → Option Int → Option Int → Hp → VK → Prop := fun x lo hi H Q => ∃ r, L2.SlR X r ∧ r x lo hi H Q
theorem slS : L2.SlR X (SlS X) := by
  intro pins s σ H x v vl vu lo hi sl Q I rx hs pl pu h
  obtain ⟨r, hr, z⟩ := h
  exact hr pins s σ H x v vl vu lo hi sl Q I rx hs pl pu z
def cutD (xs : List D) (lo hi : Option Int) : List D := (xs.drop (HT.sIx xs.length 0 lo)).take (HT.sIx xs.length xs.length hi - HT.sIx xs.length 0 lo)
theorem RDs.cut {io : List Addr} {H : Hp} {ds : List D} {vs : List V} (r : RDs io H ds vs) (lo hi : Option Int) : RDs io H (cutD ds lo hi) (cutV vs lo hi) := by
  unfold cutD cutV
  rw [← r.length]
  exact (r.drop _).take _
def oSl (x : D) (lo hi : Option Int) (h : Hd) (Q : D → Hd → Prop) : Prop := match x with
  | .ref n => ∃ xs, items h n = some xs ∧ Q (.ref h.length) (h ++ [.lst (cutD xs lo hi)])
  | .tup xs => Q (.tup (cutD xs lo hi)) h
  | .str z => z.length ≤ sizeLine ∧ Q (.str (cutS z lo hi)) h
  | _ => False
theorem cutD_whole {xs : List D} {lo hi : Option Int} (e : HT.sIx xs.length 0 lo = 0 ∧ HT.sIx xs.length xs.length hi = xs.length) : cutD xs lo hi = xs := by
  unfold cutD
  rw [e.1, e.2]; simp
theorem slL {io : List Addr} {H : Hp} {h : Hd} {x : D} {u : V} {lo hi : Option Int} {q : D → Hd → Prop} {Q : VK} (rh : RH X.K X.mg io H h) (dx : RD io H x u) (z : oSl x lo hi h q) (k : Kn X.K X.mg io H q Q) : SlS X u lo hi H Q := by
  cases dx with
  | @ref n a i =>
    obtain ⟨xs, e, z⟩ := z
    obtain ⟨vs, h1, r⟩ := rh.list e i
    refine ⟨_, sl_list, a, vs, rfl, h1, fun p hp => ?_⟩
    obtain ⟨x2, rh2, d2⟩ := new_lst rh (r.cut lo hi) hp
    exact k _ _ z _ _ _ x2 rh2 d2
  | @tup a vs xs ha ra =>
    refine ⟨_, sl_tupA, a, vs, rfl, ha.sq, fun e => ?_, fun e p hp => ?_⟩
    · rw [← ra.length] at e
      have z : q (.tup (cutD xs lo hi)) h := z
      rw [cutD_whole e] at z
      exact k _ _ z _ io H .refl rh (.tup ha ra)
    · exact k _ _ z _ io _ (ex_upd hp) (rh.new hp) (.tup (.inl upd_same) ((ra.cut lo hi).mono (ex_upd hp)))
  | str y => exact ⟨_, sl_str, y, rfl, z.1, k _ _ z.2 _ io H .refl rh (.str _)⟩
  | _ => exact z.elim
abbrev WO := Sd → Hd → (Option Int → Hd → Prop) → Prop
def tO (K : PySem.W.Frag) (mg : Str → Option Value) (w : WO) : TO := fun σ H Q => ∃ sl h io q, Rel K mg sl σ io H h ∧ w sl h q ∧ ∀ o h', q o h' → ∀ io' H', Ex io io' H H' → RH K mg io' H' h' → Q o H'
abbrev LO (X : Cx) (e : Option Expr) (w : WO) : Prop := PO X e (tO X.K X.mg w)
theorem _root_.L2.PO.imp {e : Option Expr} {t t' : TO} (h : PO X e t) (i : ∀ σ H Q, t' σ H Q → t σ H Q) : PO X e t' := ⟨fun pins s σ H Q I z => h.run pins s σ H Q I (i σ H Q z)⟩
def wNoPart : WO := fun _ h Q => Q none h
def wPart (w : WE) : WO := fun sl h Q => w sl h fun d h1 => ∃ i, d = .int i ∧ Q (some i) h1
theorem lo_none : LO X none wNoPart := po_none.imp fun σ H Q z => by
  obtain ⟨sl, h, io, q, r, z, k⟩ := z
  exact k none h z io H .refl r.rh
theorem lo_some {w : WE} (he : LE X e w) : LO X (some e) (wPart w) := (po_some he).imp fun σ H Q z => by
  obtain ⟨sl, h, io, q, r, z, k⟩ := z
  refine tE.go r z fun x h1 z1 u i1 H1 x1 r1 d1 => ?_
  obtain ⟨i, rfl, z2⟩ := z1
  cases d1
  exact ⟨i, rfl, k _ _ z2 i1 H1 x1 r1.rh⟩
def wSlice (w : WE) (wl wh : WO) : WE := fun sl h Q => w sl h fun x h1 => wl sl h1 fun lo h2 => wh sl h2 fun hi h3 => oSl x lo hi h3 Q
theorem le_slice {lo hi : Option Expr} {p2 : Pos} {w : WE} {wl wh : WO} (he : LE X e w) (hl : LO X lo wl) (hh : LO X hi wh) : LE X (.Subscript e (.Slice lo hi none p2) pos) (wSlice w wl wh) := (pe_slice slS he hl hh).imp fun σ H Q z => by
  obtain ⟨sl, h, io, q, r, z, k⟩ := z
  refine tE.go r z fun x h1 z1 u i1 H1 x1 r1 d1 => ?_
  refine ⟨sl, h1, i1, _, r1, z1, fun lo h2 z2 i2 H2 x2 rh2 => ?_⟩
  have r2 := r1.on x2 rh2
  refine ⟨sl, h2, i2, _, r2, z2, fun hi h3 z3 i3 H3 x3 rh3 => ?_⟩
  exact slL rh3 ((d1.mono x2).mono x3) z3 (k.on ((x1.trans x2).trans x3))

/-! ### fields -/
/-- the class c is plain, and f is none of its own names -/
def Fl (K : PySem.W.Frag) (mg : Str → Option Value) (c f : Str) : Prop := ∀ C, mg c = some (.ref C) → Cls K C ∧ NoAttr K C f
def hasF (cs : List Str) (c : Str) : Bool := cs.any fun x => decide (x = c)
def wFld (cs : List Str) (f : Str) (w : WE) : WE := fun sl h Q => w sl h fun x h1 => ∃ n c fs d, x = .ref n ∧ h1[n]? = some (.ins c fs) ∧ hasF cs c = true ∧ fs.lookup f = some d ∧ Q d h1
theorem FSs.lookup {io : List Addr} {H : Hp} {f : Str} : ∀ {l : List (Str × D)} {m : List (Str × V)}, FSs io H l m → RO io H (l.lookup f) (m.lookup f)
  | _, _, .nil => trivial
  | _, _, @FSs.cons _ _ g d v l m h r => by
    cases e : f == g with
    | true => simp only [List.lookup_cons, e]; exact h
    | false => simp only [List.lookup_cons, e]; exact FSs.lookup r
theorem fl_of {cs : List Str} {c f : Str} (T : ∀ x ∈ cs, Fl X.K X.mg x f) (h : hasF cs c = true) : Fl X.K X.mg c f := by
  obtain ⟨x, hx, e⟩ := List.any_eq_true.mp h
  have := of_decide_eq_true e
  subst this
  exact T x hx
theorem le_fld {cs : List Str} {f : Str} {w : WE} (T : ∀ x ∈ cs, Fl X.K X.mg x f) (he : LE X e w) (hb : attributeBase e f X.env (eval e X.env) = eval e X.env) : LE X (.Attribute e f pos) (wFld cs f w) := (pe_fld he hb).imp fun σ H Q z => by
  obtain ⟨sl, h, io, q, r, z, k⟩ := z
  refine tE.go r z fun x h1 z1 u i1 H1 x1 r1 d1 => ?_
  obtain ⟨n, c, fs, d, rfl, e1, hc, e2, z2⟩ := z1
  cases d1 with
  | @ref _ a i =>
    obtain ⟨C, dx, gs, m1, m2, m3, fr⟩ := r1.rh.cell n _ a e1 i
    obtain ⟨t1, t2⟩ := fl_of T hc C m1
    have ro := fr.lookup (f := f)
    rw [e2] at ro
    cases q2 : gs.lookup f with
    | none => rw [q2] at ro; exact ro.elim
    | some v => rw [q2] at ro; exact ⟨a, C, dx, gs, v, rfl, m2, t1, t2, q2, k _ _ z2 _ i1 H1 x1 r1.rh ro⟩

/-! ### tests -/
def truD (h : Hd) : D → Option Bool
  | .non => some false
  | .bl b => some b
  | .int i => some (i != 0)
  | .str x => if x.length ≤ sizeLine then some ((x.length : Int) != 0) else none
  | .tup xs => some (!xs.isEmpty)
  | .ref n => match h[n]? with
    | some (.lst xs) => some (!xs.isEmpty)
    | some (.scr xs) => some (!xs.isEmpty)
    | some (.dct false false kvs) => some (!kvs.isEmpty)
    | _ => none
theorem RDs.isEmpty {io : List Addr} {H : Hp} : ∀ {ds : List D} {vs : List V}, RDs io H ds vs → vs.isEmpty = ds.isEmpty
  | _, _, .nil => rfl
  | _, _, .cons _ _ => rfl
theorem KVk.isEmpty {io : List Addr} {H : Hp} : ∀ {ds : List (D × D)} {vs : List (Key × V)}, KVk io H ds vs → vs.isEmpty = ds.isEmpty
  | _, _, .nil => rfl
  | _, _, .cons _ _ => rfl
theorem tru_of {io : List Addr} {H : Hp} {h : Hd} {x : D} {u : V} {b : Bool} (rh : RH X.K X.mg io H h) (dx : RD io H x u) (e : truD h x = some b) : TruV X.K u H b := by
  cases dx with
  | non => cases e; rfl
  | bl _ => cases e; rfl
  | int _ => cases e; rfl
  | str y =>
    simp only [truD] at e
    split at e
    · cases e; rename_i q; exact ⟨q, rfl⟩
    · cases e
  | tup ha ra => cases e; exact .inr (.inl ⟨_, ha.sq, by rw [ra.isEmpty]⟩)
  | @ref n a i =>
    simp only [truD] at e
    split at e
    · rename_i xs q
      obtain ⟨vs, h1, r⟩ := lst_sq (rh.cell n _ a q i) (.inl rfl)
      cases e; exact .inl ⟨vs, h1, by rw [r.isEmpty]⟩
    · rename_i xs q
      obtain ⟨vs, h1, r⟩ := lst_sq (rh.cell n _ a q i) (.inr rfl)
      cases e; exact .inl ⟨vs, h1, by rw [r.isEmpty]⟩
    · rename_i kvs q
      obtain ⟨ks, h1, r⟩ := (rh.cell n _ a q i).dK
      cases e; exact .inr (.inr ⟨ks, by simpa [DOb] using h1, by rw [r.isEmpty]⟩)
    · cases e
def wTru (w : WE) : WT := fun sl h Q => w sl h fun d h1 => ∃ b, truD h1 d = some b ∧ Q b h1
theorem lt_val {w : WE} (ha : LE X a w) (he : ∀ whole, isTrue a X.env whole = (do let v ← whole; standAt a.pos; holding [v] (truthy v))) : LT X a (wTru w) := (pt_truth ha he).imp fun σ H Q z => by
  obtain ⟨sl, h, io, q, r, z, k⟩ := z
  refine tE.go r z fun x h1 z1 u i1 H1 x1 r1 d1 => ?_
  obtain ⟨b, e, z2⟩ := z1
  exact ⟨b, tru_of r1.rh d1 e, k _ _ z2 i1 H1 x1 r1.rh⟩
def wBl (w : WE) : WT := fun sl h Q => w sl h fun d h1 => ∃ b, d = .bl b ∧ Q b h1
theorem tTest_of {w : WE} {σ : L2.St} {H : Hp} {Q : Bool → Hp → Prop} {t : TE} (i : ∀ σ H Q, tE X.K X.mg w σ H Q → t σ H Q) (z : tT X.K X.mg (wBl w) σ H Q) : tTest t σ H Q := by
  obtain ⟨sl, h, io, q, r, z, k⟩ := z
  refine i _ _ _ (tE.go r z fun x h1 z1 u i1 H1 x1 r1 d1 => ?_)
  obtain ⟨b, rfl, z2⟩ := z1
  cases d1
  exact ⟨b, rfl, k _ _ z2 i1 H1 x1 r1.rh⟩
theorem bin_imp {f : Value → Value → Sem Value} {g : O2} {wa wb : WE} (ho : OpL X f g) : ∀ σ H Q, tE X.K X.mg (wBin g wa wb) σ H Q → tOp (OpS X f) (tE X.K X.mg wa) (tE X.K X.mg wb) σ H Q := fun σ H Q z => by
  obtain ⟨sl, h, io, q, r, z, k⟩ := z
  refine tE.go r z fun x h1 z1 u i1 H1 x1 r1 d1 => ?_
  refine tE.go r1 z1 fun y h2 z2 v i2 H2 x2 r2 d2 => ?_
  exact ho r2.rh (d1.mono x2) d2 z2 (k.on (x1.trans x2))
theorem lt_cmp {op : CmpOp} {g : O2} {wa wb : WE} (ho : OpL X (compareOp op) g) (ha : LE X a wa) (hb : LE X b wb) (hm : behindInMarks op b = false) : LT X (.Compare a [op] [b] pos) (wBl (wBin g wa wb)) :=
  (pt_cmpR opS ha hb hm).imp fun σ H Q z => tTest_of (bin_imp ho) z
/-- a < b < c -/
def wChain (g g' : O2) (wa wb wc : WE) : WE := fun sl h Q => wa sl h fun x h1 => wb sl h1 fun y h2 => g x y h2 fun z h3 => ∃ b, z = .bl b ∧ (if b = true then wc sl h3 fun w h4 => g' y w h4 Q else Q (.bl false) h3)
theorem chain_imp {f f' : Value → Value → Sem Value} {g g' : O2} {wa wb wc : WE} (ho : OpL X f g) (ho' : OpL X f' g') : ∀ σ H Q, tE X.K X.mg (wChain g g' wa wb wc) σ H Q → tChain (OpS X f) (OpS X f') (tE X.K X.mg wa) (tE X.K X.mg wb) (tE X.K X.mg wc) σ H Q := fun σ H Q z => by
  obtain ⟨sl, h, io, q, r, z, k⟩ := z
  refine tE.go r z fun x h1 z1 u i1 H1 x1 r1 d1 => ?_
  refine tE.go r1 z1 fun y h2 z2 v i2 H2 x2 r2 d2 => ?_
  refine ho r2.rh (d1.mono x2) d2 z2 fun d h3 z3 w i3 H3 x3 rh3 d3 => ?_
  obtain ⟨b, rfl, z4⟩ := z3
  cases d3
  refine ⟨b, rfl, ?_⟩
  have r3 := r2.on x3 rh3
  cases b with
  | true =>
    rw [if_pos rfl] at z4 ⊢
    refine tE.go r3 z4 fun y2 h4 z5 w2 i4 H4 x4 r4 d4 => ?_
    exact ho' r4.rh ((d2.mono x3).mono x4) d4 z5 (k.on (((x1.trans x2).trans x3).trans x4))
  | false =>
    rw [if_neg Bool.false_ne_true] at z4 ⊢
    exact k _ _ z4 _ i3 H3 ((x1.trans x2).trans x3) rh3 (.bl _)
variable {c : Expr}
theorem le_chain {op op' : CmpOp} {g g' : O2} {wa wb wc : WE} (ho : OpL X (compareOp op) g) (ho' : OpL X (compareOp op') g') (ha : LE X a wa) (hb : LE X b wb) (hc : LE X c wc) (hm : lastMarks [op, op'] [b, c] = false := by with_unfolding_all rfl) :
    LE X (.Compare a [op, op'] [b, c] pos) (wChain g g' wa wb wc) := (pe_chain opS opS ha hb hc hm).imp (chain_imp ho ho')
theorem lt_chain {op op' : CmpOp} {g g' : O2} {wa wb wc : WE} (ho : OpL X (compareOp op) g) (ho' : OpL X (compareOp op') g') (ha : LE X a wa) (hb : LE X b wb) (hc : LE X c wc) (hm : lastMarks [op, op'] [b, c] = false := by with_unfolding_all rfl) :
    LT X (.Compare a [op, op'] [b, c] pos) (wBl (wChain g g' wa wb wc)) := (pt_chain opS opS ha hb hc hm).imp fun σ H Q z => tTest_of (chain_imp ho ho') z
end
end MP

set_option Elab.async false
set_option linter.all false
set_option maxRecDepth 100000
set_option maxHeartbeats 2000000
/-! MpF: and, or, not, conditionals; methods, makings; statements. -/
namespace MP
open PySem PySem.Spec
open PyProof.Rows hiding St
open L2

section
variable {X : Cx} {j : Nat} {a b c e o : Expr} {rest : List Expr} {pos apos p : Pos} {es : List Expr}
def wAnd (wa wb : WT) : WT := fun sl h Q => wa sl h fun c h1 => if c = true then wb sl h1 Q else Q false h1
def wOr (wa wb : WT) : WT := fun sl h Q => wa sl h fun c h1 => if c = true then Q true h1 else wb sl h1 Q
def wNot (wa : WT) : WT := fun sl h Q => wa sl h fun c h1 => Q (!c) h1
theorem lw_and1 {w : WT} (ha : LT X a w) : LW X (.BoolOp .And [a] pos) w := pw_and1 ha
theorem lw_or1 {w : WT} (ha : LT X a w) : LW X (.BoolOp .Or [a] pos) w := pw_or1 ha
theorem lw_and {wa wb : WT} (ha : LT X a wa) (hb : LW X (.BoolOp .And (b :: rest) pos) wb) : LW X (.BoolOp .And (a :: b :: rest) pos) (wAnd wa wb) := (pw_and ha hb).imp fun σ H Q z => by
  obtain ⟨sl, h, io, q, r, z, k⟩ := z
  refine tT.go r z fun c h1 z1 i1 H1 x1 r1 => ?_
  cases c with
  | true => exact tT.go r1 z1 fun d h2 z2 i2 H2 x2 r2 => k _ _ z2 i2 H2 (x1.trans x2) r2.rh
  | false => exact k _ _ z1 i1 H1 x1 r1.rh
theorem lw_or {wa wb : WT} (ha : LT X a wa) (hb : LW X (.BoolOp .Or (b :: rest) pos) wb) : LW X (.BoolOp .Or (a :: b :: rest) pos) (wOr wa wb) := (pw_or ha hb).imp fun σ H Q z => by
  obtain ⟨sl, h, io, q, r, z, k⟩ := z
  refine tT.go r z fun c h1 z1 i1 H1 x1 r1 => ?_
  cases c with
  | false => exact tT.go r1 z1 fun d h2 z2 i2 H2 x2 r2 => k _ _ z2 i2 H2 (x1.trans x2) r2.rh
  | true => exact k _ _ z1 i1 H1 x1 r1.rh
theorem lt_w {w : WT} (h : LW X a w) : LT X a w := h.pt
theorem lt_not {wa : WT} (ha : LT X a wa) : LT X (.UnaryOp .Not a pos) (wNot wa) := (pt_not ha).imp fun σ H Q z => by
  obtain ⟨sl, h, io, q, r, z, k⟩ := z
  exact tT.go r z fun c h1 z1 i1 H1 x1 r1 => k _ _ z1 i1 H1 x1 r1.rh
/-! values -/
def wAndV (wa wb : WE) : WE := fun sl h Q => wa sl h fun x h1 => ∃ b, truD h1 x = some b ∧ if b = true then wb sl h1 Q else Q x h1
def wOrV (wa wb : WE) : WE := fun sl h Q => wa sl h fun x h1 => ∃ b, truD h1 x = some b ∧ if b = true then Q x h1 else wb sl h1 Q
def wNotV (wa : WE) : WE := fun sl h Q => wa sl h fun x h1 => ∃ b, truD h1 x = some b ∧ Q (.bl (!b)) h1
theorem le_one {op : BoolOp} {w : WE} (ha : LE X a w) : LE X (.BoolOp op [a] pos) w := pe_one ha
theorem le_and {wa wb : WE} (ha : LE X a wa) (hb : LE X (.BoolOp .And (b :: rest) pos) wb) : LE X (.BoolOp .And (a :: b :: rest) pos) (wAndV wa wb) := (pe_andT ha hb).imp fun σ H Q z => by
  obtain ⟨sl, h, io, q, r, z, k⟩ := z
  refine tE.go r z fun x h1 z1 u i1 H1 x1 r1 d1 => ?_
  obtain ⟨b, e, z2⟩ := z1
  refine ⟨b, tru_of r1.rh d1 e, ?_⟩
  cases b with
  | true => exact tE.go r1 z2 fun d h2 z3 v i2 H2 x2 r2 d2 => k _ _ z3 v i2 H2 (x1.trans x2) r2.rh d2
  | false => exact k _ _ z2 _ i1 H1 x1 r1.rh d1
theorem le_or {wa wb : WE} (ha : LE X a wa) (hb : LE X (.BoolOp .Or (b :: rest) pos) wb) : LE X (.BoolOp .Or (a :: b :: rest) pos) (wOrV wa wb) := (pe_orT ha hb).imp fun σ H Q z => by
  obtain ⟨sl, h, io, q, r, z, k⟩ := z
  refine tE.go r z fun x h1 z1 u i1 H1 x1 r1 d1 => ?_
  obtain ⟨b, e, z2⟩ := z1
  refine ⟨b, tru_of r1.rh d1 e, ?_⟩
  cases b with
  | false => exact tE.go r1 z2 fun d h2 z3 v i2 H2 x2 r2 d2 => k _ _ z3 v i2 H2 (x1.trans x2) r2.rh d2
  | true => exact k _ _ z2 _ i1 H1 x1 r1.rh d1
theorem le_not {wa : WE} (ha : LE X a wa) : LE X (.UnaryOp .Not a pos) (wNotV wa) := (pe_notT ha).imp fun σ H Q z => by
  obtain ⟨sl, h, io, q, r, z, k⟩ := z
  refine tE.go r z fun x h1 z1 u i1 H1 x1 r1 d1 => ?_
  obtain ⟨b, e, z2⟩ := z1
  exact ⟨b, tru_of r1.rh d1 e, k _ _ z2 _ i1 H1 x1 r1.rh (.bl _)⟩
def wNegV (wa : WE) : WE := fun sl h Q => wa sl h fun x h1 => ∃ i, x = .int i ∧ Q (.int (-i)) h1
theorem le_neg {wa : WE} (ha : LE X a wa) : LE X (.UnaryOp .USub a pos) (wNegV wa) := (pe_un un_neg ha).imp fun σ H Q z => by
  obtain ⟨sl, h, io, q, r, z, k⟩ := z
  refine tE.go r z fun x h1 z1 u i1 H1 x1 r1 d1 => ?_
  obtain ⟨i, rfl, z2⟩ := z1
  cases d1
  exact ⟨i, rfl, k _ _ z2 _ i1 H1 x1 r1.rh (.int _)⟩
def wIf (wc : WT) (wa wb : WE) : WE := fun sl h Q => wc sl h fun c h1 => if c = true then wa sl h1 Q else wb sl h1 Q
theorem le_if {wc : WT} {wa wb : WE} (hc : LT X c wc) (ha : LE X a wa) (hb : LE X b wb) : LE X (.IfExp c a b pos) (wIf wc wa wb) := (pe_ifExp hc ha hb).imp fun σ H Q z => by
  obtain ⟨sl, h, io, q, r, z, k⟩ := z
  refine tT.go r z fun c h1 z1 i1 H1 x1 r1 => ?_
  cases c with
  | true => exact tE.go r1 z1 fun d h2 z2 v i2 H2 x2 r2 d2 => k _ _ z2 v i2 H2 (x1.trans x2) r2.rh d2
  | false => exact tE.go r1 z1 fun d h2 z2 v i2 H2 x2 r2 d2 => k _ _ z2 v i2 H2 (x1.trans x2) r2.rh d2

/-! ### methods -/
variable {k n : Nat} {cn m x : Str} {sp : SpD}
def wMeth (cn m : Str) (sp : SpD) (wo : WE) (wa : WA) : WE := fun sl h Q => wo sl h fun x h1 => (∃ n fs, x = .ref n ∧ h1[n]? = some (.ins cn fs) ∧ fs.lookup m = none) ∧ wa sl h1 fun ds h2 => sp (x :: ds) h2 Q
theorem le_meth {pl : Sem Bool} {wo : WE} {wa : WA} (M : MtD X.prog X.w X.K X.mg X.base k cn m n sp) (hr : Room j X.A) (hk : k ≤ j) (hgd : X.A.guards = some []) (ho : LE X o wo) (ha : LA X (e :: es) wa)
    (hst : starEach (e :: es) X.env = (false, eval e X.env) :: starEach es X.env := by rfl) (hpl : (backTo pos (starEach es X.env)).any (·.1) = false := by rfl)
    (ht : eval (.Call (.Attribute o m apos) (e :: es) [] pos) X.env = (do
      let ov ← eval o X.env
      standAt apos.atName
      let (f, first) ← holding [ov] (getMethod ov m pl)
      callWith pos f first (backTo pos (starEach (e :: es) X.env)) (backToKw pos (keywordEach [] X.env))) := by rfl) :
    LE X (.Call (.Attribute o m apos) (e :: es) [] pos) (wMeth cn m sp wo wa) := by
  obtain ⟨⟨C, f, fd, ps, hC, cl, me, G, hb, hn⟩, ar⟩ := M
  refine ⟨fun pins s σ H Q I z => ?_⟩
  obtain ⟨sl, h, io, q, r, z, kn⟩ := z
  refine PySem.W.methodCall_KW (pl := pl) (thn (ho.run pins s σ H (fun x H1 => ∃ a dx fs, x = .ref a ∧ H1 a = some (.ins C dx fs) ∧ fs.lookup m = none ∧ tA X.K X.mg wa σ H1 fun vs H2 => spD X.K X.mg n sp ((x :: vs) ++ []) H2 Q E0) I
    (tE.go r z fun x h1 z1 u i1 H1 x1 r1 d1 => ?_)) fun u s1 ⟨x, H1, I1, rx, a, dx, fs, ex, ea, l, q⟩ => ?_) ht
  · obtain ⟨⟨p, fs, rfl, e1, e2⟩, z2⟩ := z1
    cases d1 with
    | @ref _ a i =>
      obtain ⟨C', dx, gs, m1, m2, m3, fr⟩ := r1.rh.cell p _ a e1 i
      rw [hC] at m1; cases m1
      have ro := fr.lookup (f := m)
      rw [e2] at ro
      refine ⟨a, dx, gs, rfl, m2, ?_, tA.go r1 z2 fun ds h2 z3 vs i2 H2 x2 r2 d2 => ?_⟩
      · cases q2 : gs.lookup m with
        | none => rfl
        | some v => rw [q2] at ro; exact ro.elim
      · rw [List.append_nil]
        have d3 : RDs i2 H2 (.ref p :: ds) (V.ref a :: vs) := .cons ((RD.ref i).mono x2) d2
        exact ⟨by rw [← d3.length]; exact ar _ _ _ z3, _, h2, i2, _, r2.rh, d3, z3, kn.on (x1.trans x2)⟩
  · subst ex
    obtain rfl : u = Value.ref a := rx
    refine getmeth_ok I1 ea cl me l ?_
    refine PySem.W.callWith_K (first := [.ref a]) (h₀ := X.base) I.ok.mod.kin me.kp (thn (ha.run pos pins s1 σ H1 _ I1 q) fun us s2 ⟨vs, H2, I2, r, q2⟩ => ⟨I2.kIn, ?_⟩) hst hpl
    exact run_g (us := .ref a :: us) (vs := .ref a :: vs) G (hr.mono hk) hgd hb .nil pass0 I2 (.cons rfl r) q2
/-- C(..) -/
def wMake (cn : Str) (sp : SpD) (wa : WA) : WE := fun sl h Q => wa sl h fun ds h1 => sp (.ref h1.length :: ds) (h1 ++ [.ins cn []]) fun v h2 => v = .non ∧ Q (.ref h1.length) h2
theorem run_mk {C f : Addr} {fd : FuncData} {ps : List Str} {sp : Sp} {pins : List (Addr × Obj)} {σ : L2.St} {H : Hp} {s : Shared} {Q : VK} {us : List Value} {vs : List V} (M : Mk X.K C f) (F : FnG X.prog X.w X.K X.mg X.base CX0 k f fd ps sp) (hr : Room (k + 1) X.A) (hgd : X.A.guards = some []) (hb : Binds X.K fd ps [])
    (I : Inv X pins σ H s) (r : Vals vs us)
    (h : ∀ x dx, H x = none → H dx = none → dx ≠ x → sp (.ref x :: vs) (upd (upd H dx (.own x)) x (.ins C dx [])) (fun v H2 => v = .non ∧ Q (.ref x) H2) E0) :
    wpAny (model X.prog X.w) X.A (call (.ref C) us) (EP X pins σ Q) X.xe s := by
  have hq := h (s.heap.objs.size + 1) s.heap.objs.size (I.hok.fresh (Nat.le_succ _)) (I.hok.fresh (Nat.le_refl _)) (Nat.ne_of_lt (Nat.lt_succ_self _))
  have I2 := Inv.made (C := C) I
  have r2 : Vals (V.ref (s.heap.objs.size + 1) :: vs) (Value.ref (s.heap.objs.size + 1) :: us) := .cons rfl r
  have hl : (Value.ref (s.heap.objs.size + 1) :: us ++ []).length = ps.length := by
    have e := r2.length
    rw [F.len _ _ _ _ hq] at e
    rw [List.append_nil]
    exact e.symm
  have hg2 : (X.A.under (.builtin "type.__call__" ⟨.ref C :: us, []⟩)).guards = some [] := by
    simp [Around.under, Code.guards, Code.isGuard, guardIds, hgd]; rfl
  have hb2 := hb _ (Value.ref (s.heap.objs.size + 1) :: us) I2.kIn hl
  rw [List.append_nil] at hb2
  refine wpAny_call (make_map (f := f) I.kIn M.makes M.init (beq_iff_eq.mp M.fn) (codeAny_mono (F.run _ X.stack _ _ ⟨Value.ref (s.heap.objs.size + 1) :: us, []⟩ (Value.ref (s.heap.objs.size + 1) :: us) _ _ E0 (hr.make C us []) hg2
    (I2.env0.make C us []) hb2 r2 hq) fun r s' hq' => ?_))
  cases r with
  | error e => exact hq'.elim
  | ok fl =>
    cases fl with
    | ret u =>
      obtain ⟨v, H', I3, rv, ev, q3⟩ := I2.after hq'
      subst ev
      exact ⟨rv, ⟨V.ref (s.heap.objs.size + 1), H', I3, rfl, q3⟩⟩
    | next => exact False.elim hq'
    | brk => exact False.elim hq'
    | cont => exact False.elim hq'
theorem le_make {wa : WA} (M : MkD X.prog X.w X.K X.mg X.base k cn n sp) (hr : Room j X.A) (hk : k + 1 ≤ j) (hgd : X.A.guards = some []) (hg : Gl X cn) (ha : LA X (e :: es) wa) (hdb : (cn == ("__debug__" : Str)) = false := by decide)
    (he : starEach (e :: es) X.env = (false, eval e X.env) :: starEach es X.env := by rfl) (hpl : (backTo pos (starEach es X.env)).any (·.1) = false := by rfl) : LE X (.Call (.Name cn p) (e :: es) [] pos) (wMake cn sp wa) := by
  obtain ⟨⟨C, f, fd, ps, hC, mk, G, hb, hn⟩, ar⟩ := M
  refine ⟨fun pins s σ H Q I z => ?_⟩
  obtain ⟨sl, h, io, q, r, z, kn⟩ := z
  refine wpAny_Call_Name_kw (ld_glob I hg hC ?_ hdb)
  refine PySem.W.callWith_K (h₀ := X.base) I.ok.mod.kin mk.kp (thn (ha.run pos pins s σ H (fun vs H1 => ∀ x dx, H1 x = none → H1 dx = none → dx ≠ x → spD X.K X.mg n sp (.ref x :: vs) (upd (upd H1 dx (.own x)) x (.ins C dx [])) (fun v H2 => v = .non ∧ Q (.ref x) H2) E0) I
    (tA.go r z fun ds h1 z1 vs i1 H1 x1 r1 d1 => ?_)) fun us s1 ⟨vs, H1, I1, rv, q1⟩ => ⟨I1.kIn, ?_⟩) he hpl
  · intro y dx hy hdx hne
    have xa : Ex i1 i1 H1 (upd H1 dx (.own y)) := ex_upd hdx
    have ra : RH X.K X.mg i1 (upd H1 dx (.own y)) h1 := r1.rh.new hdx
    have hy2 : upd H1 dx (.own y) y = none := by rw [upd_ne (Ne.symm hne)]; exact hy
    have xb : Ex i1 (i1 ++ [y]) (upd H1 dx (.own y)) (upd (upd H1 dx (.own y)) y (.ins C dx [])) := ex_alloc hy2
    have rb := ra.alloc (o := .ins C dx []) (c := .ins cn []) hy2 ⟨C, dx, [], hC, upd_same, by rw [upd_ne hne, upd_same], .nil⟩
    have x2 := xa.trans xb
    have d3 : RDs (i1 ++ [y]) (upd (upd H1 dx (.own y)) y (.ins C dx [])) (.ref h1.length :: ds) (V.ref y :: vs) := .cons (.ref (push_at r1.rh y)) (d1.mono x2)
    refine ⟨by rw [← d3.length]; exact ar _ _ _ z1, _, _, _, _, rb, d3, z1, fun d h' z3 v i3 H3 x3 r3 d4 => ?_⟩
    obtain ⟨rfl, z4⟩ := z3
    cases d4
    exact ⟨rfl, kn _ _ z4 _ i3 H3 ((x1.trans x2).trans x3) r3 ((RD.ref (push_at r1.rh y)).mono x3)⟩
  · exact run_mk mk G (hr.mono hk) hgd hb I1 rv q1
end

/-! ### statements -/
section
variable {X : Cx} {j : Nat} {a b c e o : Expr} {pos pos' : Pos} {st : Stmt} {rest : List Stmt} {as bs : List Stmt}
def wNext : WS := fun E sl h => E.nx sl h
def wSeq (u v : WS) : WS := fun E sl h => u { E with nx := v E } sl h
theorem lss_nil : LSs X [] wNext := pss_nil.imp fun D σ H z => by
  obtain ⟨sl, h, io, q, r, z, k⟩ := z
  exact k.nx _ _ z σ io H .refl r
theorem lss_cons {u v : WS} (h1 : LS X st u) (h2 : LSs X rest v) : LSs X (st :: rest) (wSeq u v) := (pss_cons h1 h2).imp fun D σ H z => by
  obtain ⟨sl, h, io, q, r, z, k⟩ := z
  exact ⟨sl, h, io, { q with nx := v q }, r, z, ⟨fun sl' h' z' σ' io' H' x r' => ⟨sl', h', io', q, r', z', k.on x⟩, k.rt, k.bk, k.ct⟩⟩
theorem lss_one {u : WS} (h1 : LS X st u) : LSs X [st] u := pss_one h1
def wExpr (w : WE) : WS := fun E sl h => w sl h fun _ h1 => E.nx sl h1
theorem ls_expr {w : WE} (he : LE X e w) (hs : swapsWith e none pos.line X.env = pure false := by rfl) : LS X (.Expr e pos) (wExpr w) := (ps_expr he hs).imp fun D σ H z => by
  obtain ⟨sl, h, io, q, r, z, k⟩ := z
  exact tE.go r z fun x h1 z1 u i1 H1 x1 r1 d1 => k.nx _ _ z1 σ i1 H1 x1 r1
def wRet (w : WE) : WS := fun E sl h => w sl h E.rt
theorem ls_ret {w : WE} (he : LE X e w) : LS X (.Return (some e) pos) (wRet w) := (ps_ret he).imp fun D σ H z => by
  obtain ⟨sl, h, io, q, r, z, k⟩ := z
  exact tE.go r z fun x h1 z1 u i1 H1 x1 r1 d1 => k.rt _ _ z1 u i1 H1 x1 r1.rh d1
def wIfS (wc : WT) (u v : WS) : WS := fun E sl h => wc sl h fun c h1 => if c = true then u E sl h1 else v E sl h1
theorem ls_if {wc : WT} {u v : WS} (hc : LT X c wc) (ha : LSs X as u) (hb : LSs X bs v) : LS X (.If c as bs pos) (wIfS wc u v) := (ps_if hc ha hb).imp fun D σ H z => by
  obtain ⟨sl, h, io, q, r, z, k⟩ := z
  refine tT.go r z fun c h1 z1 i1 H1 x1 r1 => ?_
  cases c with
  | true => exact ⟨sl, h1, i1, q, r1, z1, k.on x1⟩
  | false => exact ⟨sl, h1, i1, q, r1, z1, k.on x1⟩
def wNever : WS := fun _ _ _ => False
theorem ls_never : LS X st wNever := ps_never.imp fun D σ H z => by
  obtain ⟨sl, h, io, q, r, z, k⟩ := z
  exact z.elim
theorem lss_never {sts : List Stmt} : LSs X sts wNever := pss_never.imp fun D σ H z => by
  obtain ⟨sl, h, io, q, r, z, k⟩ := z
  exact z.elim

/-! targets -/
abbrev WG := D → Sd → Hd → (Sd → Hd → Prop) → Prop
abbrev WGs := List D → Sd → Hd → (Sd → Hd → Prop) → Prop
def tG (K : PySem.W.Frag) (mg : Str → Option Value) (w : WG) : TG := fun v σ H Q => ∃ d sl h io q, Rel K mg sl σ io H h ∧ RD io H d v ∧ w d sl h q ∧ KnS K mg io H q Q
def tGs (K : PySem.W.Frag) (mg : Str → Option Value) (w : WGs) : TGs := fun v σ H Q => ∃ d sl h io q, Rel K mg sl σ io H h ∧ RDs io H d v ∧ w d sl h q ∧ KnS K mg io H q Q
abbrev LG (X : Cx) (e : Expr) (w : WG) : Prop := PG X e (tG X.K X.mg w)
abbrev LGs (X : Cx) (e : List Expr) (w : WGs) : Prop := PGs X e (tGs X.K X.mg w)
theorem _root_.L2.PG.imp {e : Expr} {t t' : TG} (h : PG X e t) (i : ∀ v σ H Q, t' v σ H Q → t v σ H Q) : PG X e t' := by
  obtain ⟨run⟩ := h
  exact ⟨fun pins s σ H v u Q I r z => run pins s σ H v u Q I r (i v σ H Q z)⟩
end
end MP

set_option Elab.async false
set_option linter.all false
set_option maxRecDepth 100000
set_option maxHeartbeats 2000000
/-! MpG: targets, assignments, stores, while. -/
namespace MP
open PySem PySem.Spec
open PyProof.Rows hiding St
open L2

section
variable {X : Cx} {j : Nat} {a b c e o ie : Expr} {pos pos' : Pos} {es : List Expr}
variable {K : PySem.W.Frag} {mg : Str → Option Value} {io io' : List Addr} {H H' : Hp} {h h' : Hd} {sl : Sd} {σ : L2.St}
theorem Rel.set {d : D} {v : V} (r : Rel K mg sl σ io H h) (i : Nat) (rd : RD io H d v) : Rel K mg (sl.set i (some d)) (σ.set i (some v)) io H h := by
  refine ⟨r.rh, by simp [r.len], fun k d' e => ?_⟩
  by_cases z : i = k
  · subst z
    have hl : i < sl.length := by
      have := (List.getElem?_eq_some_iff.mp e).1
      simpa using this
    rw [List.getElem?_set_self hl] at e
    cases e
    exact ⟨v, by rw [List.getElem?_set_self (by rw [← r.len]; exact hl)], rd⟩
  · rw [List.getElem?_set_ne z] at e
    obtain ⟨w, e1, e2⟩ := r.slot k d' e
    exact ⟨w, by rw [List.getElem?_set_ne z]; exact e1, e2⟩
theorem _root_.L2.PGs.imp {e : List Expr} {t t' : TGs} (h : PGs X e t) (i : ∀ v σ H Q, t' v σ H Q → t v σ H Q) : PGs X e t' := by
  obtain ⟨run⟩ := h
  exact ⟨fun pins s σ H v u Q I r z => run pins s σ H v u Q I r (i v σ H Q z)⟩
def wNm (i : Nat) : WG := fun d sl h Q => Q (sl.set i (some d)) h
theorem lg_name {i : Nat} {x : Str} (hN : X.N.Nodup) (hi : X.N[i]? = some x) (hx : Loc X.env.scope x) (hf : X.fn x = true ∨ X.env.scope.names.lookup x = some .local) : LG X (.Name x pos) (wNm i) := (pg_name hN hi hx hf).imp fun v σ H Q z => by
  obtain ⟨d, sl, h, io, q, r, rd, z, k⟩ := z
  exact k _ _ z _ _ _ .refl (r.set i rd)
def wG0 : WGs := fun ds sl h Q => ds = [] ∧ Q sl h
def wG1 (w : WG) (u : WGs) : WGs := fun ds sl h Q => ∃ d r, ds = d :: r ∧ w d sl h fun sl1 h1 => u r sl1 h1 Q
theorem lgs_nil : LGs X [] wG0 := pgs_nil.imp fun v σ H Q z => by
  obtain ⟨d, sl, h, io, q, r, rd, ⟨rfl, z⟩, k⟩ := z
  cases rd
  exact ⟨rfl, k _ _ z _ _ _ .refl r⟩
theorem lgs_cons {w : WG} {u : WGs} (h1 : LG X e w) (h2 : LGs X es u) (hs : (assignEach (e :: es) X.env).map (·.2) = assign e X.env :: (assignEach es X.env).map (·.2) := by rfl) : LGs X (e :: es) (wG1 w u) := (pgs_cons h1 h2 hs).imp fun v σ H Q z => by
  obtain ⟨ds, sl, h, io, q, r, rd, ⟨d, dr, rfl, z⟩, k⟩ := z
  cases rd with
  | cons rd rr => exact ⟨_, _, rfl, d, sl, h, io, _, r, rd, z, fun sl1 h1 z1 σ1 io1 H1 x1 r1 => ⟨dr, sl1, h1, io1, q, r1, rr.mono x1, z1, k.on x1⟩⟩
def wGT (n : Nat) (u : WGs) : WG := fun d sl h Q => ∃ ds, d = .tup ds ∧ ds.length = n ∧ u ds sl h Q
theorem lg_tup {k n : Nat} {u : WGs} (hc : X.calm = true) (h : LGs X es u) (hn : (assignEach es X.env).length = n := by rfl) (hst : (assignEach es X.env).findIdx? (·.1) = none := by rfl) : LG X (.Tuple es k pos) (wGT n u) := (pg_tup hc h hn hst).imp fun v σ H Q z => by
  obtain ⟨d, sl, h, io, q, r, rd, ⟨ds, rfl, hl, z⟩, k⟩ := z
  cases rd with
  | tup ha ra => exact ⟨_, _, rfl, ha.sq, by rw [← ra.length]; exact hl, ds, sl, h, io, q, r, ra, z, k⟩

/-! stores o[i] = v -/
def SetS (X : Cx) : TSet := fun o i v H Q => ∃ r, PSet X r ∧ r o i v H Q
theorem setS : PSet X (SetS X) := by
  intro pins s σ H o i v ov iv u Q I ro ri rv h
  obtain ⟨r, hr, z⟩ := h
  exact hr pins s σ H o i v ov iv u Q I ro ri rv z
def oSet (o i v : D) (h : Hd) (Q : Hd → Prop) : Prop := match o with
  | .ref n => match h[n]? with
    | some (.lst xs) => ∃ k j, i = .int k ∧ ixN xs.length k = some j ∧ Q (h.set n (.lst (xs.set j v)))
    | some (.dct t false kvs) => keyOk t i = true ∧ kvs.length < sizeLine ∧ Q (h.set n (.dct t false (putD kvs i v)))
    | _ => False
  | _ => False
theorem setL (hr : Room j X.A) {o i v : D} {ov iv u : V} {q : Hd → Prop} {Q : Hp → Prop} (rh : RH X.K X.mg io H h) (ro : RD io H o ov) (ri : RD io H i iv) (rv : RD io H v u) (z : oSet o i v h q)
    (k : ∀ h', q h' → ∀ io' H', Ex io io' H H' → RH X.K X.mg io' H' h' → Q H') : SetS X ov iv u H Q := by
  cases ro with
  | @ref n a p =>
    simp only [oSet] at z
    split at z
    · rename_i xs e
      obtain ⟨kk, jj, rfl, hj, z⟩ := z
      obtain ⟨vs, f, r⟩ := rh.lst e p
      cases ri
      obtain ⟨x, rh2⟩ := rh.write (o := .lst (vs.set jj u)) (c' := .lst (xs.set jj v)) p f (fun _ z => nomatch z) (fun _ _ z => nomatch z) (fun _ z => nomatch z) fun ex => ⟨_, upd_same, (r.mono ex).set (rv.mono ex) jj⟩
      exact ⟨_, set_list, a, vs, kk, jj, rfl, rfl, f, by rw [← r.length]; exact hj, k _ z _ _ x rh2⟩
    · rename_i t kvs e
      obtain ⟨hk, hl, z⟩ := z
      obtain ⟨H2, dp, x, rh2⟩ := dput_rel rh e p hk ri rv hl
      exact ⟨_, set_dict (hu_of hr), a, H2, rfl, dp, k _ z _ _ x rh2⟩
    · exact z.elim
  | _ => exact z.elim
def wSub (wo wi : WE) : WG := fun d sl h Q => wo sl h fun o h1 => wi sl h1 fun i h2 => oSet o i d h2 fun h3 => Q sl h3
theorem lg_sub {wo wi : WE} (hr : Room j X.A) (ho : LE X o wo) (hi : LE X ie wi)
    (ha : ∀ v, assign (.Subscript o ie pos) X.env v = (do
      let ov ← holding [v] (eval o X.env)
      let iv ← holding [v, ov] (eval ie X.env)
      standAt pos
      holding [v, ov, iv] (setItem ov iv v)
      release [v, ov, iv] []) := by intro _; rfl) : LG X (.Subscript o ie pos) (wSub wo wi) := (pg_sub ho hi setS ha).imp fun v σ H Q z => by
  obtain ⟨d, sl, h, io, q, r, rd, z, k⟩ := z
  refine tE.go r z fun x h1 z1 u i1 H1 x1 r1 d1 => ?_
  refine tE.go r1 z1 fun y h2 z2 u2 i2 H2 x2 r2 d2 => ?_
  exact setL hr r2.rh (d1.mono x2) d2 ((rd.mono x1).mono x2) z2 fun h3 z3 i3 H3 x3 rh3 => k _ _ z3 _ _ _ ((x1.trans x2).trans x3) (r2.on x3 rh3)

/-! assignments -/
def wAsg (w : WE) (g : WG) : WS := fun E sl h => w sl h fun d h1 => g d sl h1 E.nx
theorem ls_asg {w : WE} {g : WG} (he : LE X e w) (hg : LG X a g) (hs : swapsWithSole [a] e pos.line X.env = pure false := by rfl) (hw : swappedStores [a] e X.env = pure none := by rfl)
    (h1 : (assignEach [a] X.env).map (·.2) = [assign a X.env] := by rfl) : LS X (.Assign [a] e pos) (wAsg w g) := (ps_asg he hg hs hw h1).imp fun D σ H z => by
  obtain ⟨sl, h, io, q, r, z, k⟩ := z
  exact tE.go r z fun x h1 z1 u i1 H1 x1 r1 d1 => ⟨x, sl, h1, i1, _, r1, d1, z1, k.nx.on x1⟩
theorem ls_set {i : Nat} {x : Str} {w : WE} (hN : X.N.Nodup) (hi : X.N[i]? = some x) (hx : Loc X.env.scope x) (he : LE X e w) (hs : swapsWith e (some (.Name x pos')) pos.line X.env = pure false) (hf : X.fn x = true ∨ X.env.scope.names.lookup x = some .local) :
    LS X (.Assign [.Name x pos'] e pos) (wAsg w (wNm i)) := (ps_set hN hi hx he hs hf).imp fun D σ H z => by
  obtain ⟨sl, h, io, q, r, z, k⟩ := z
  exact tE.go r z fun x h1 z1 u i1 H1 x1 r1 d1 => k.nx _ _ z1 _ _ _ x1 (r1.set i d1)
/-- a, b = x, y -/
def wPar (i k : Nat) (wa : WA) : WS := fun E sl h => wa sl h fun ds h1 => ∃ d e, ds = [d, e] ∧ E.nx ((sl.set i (some d)).set k (some e)) h1
theorem ls_par {i k : Nat} {x y : Str} {a b : Expr} {wa : WA} {px py pt : Pos} {kt k2 pt2} (hc : X.calm = true) (hN : X.N.Nodup) (hi : X.N[i]? = some x) (hj : X.N[k]? = some y) (hij : i ≠ k)
    (hx : X.env.scope.names.lookup x = some .local) (hy : X.env.scope.names.lookup y = some .local) (ha : LA X [a, b] wa)
    (hw : swappedStores [.Tuple [.Name x px, .Name y py] kt pt] (.Tuple [a, b] k2 pt2) X.env = pure (some [x, y]))
    (hs : swapsWithSole [.Tuple [.Name x px, .Name y py] kt pt] (.Tuple [a, b] k2 pt2) pos.line X.env = pure false := by rfl) :
    LS X (.Assign [.Tuple [.Name x px, .Name y py] kt pt] (.Tuple [a, b] k2 pt2) pos) (wPar i k wa) := (ps_par hc hN hi hj hij hx hy ha hw hs).imp fun D σ H z => by
  obtain ⟨sl, h, io, q, r, z, kn⟩ := z
  refine tA.go r z fun ds h1 z1 vs i1 H1 x1 r1 d1 => ?_
  obtain ⟨d, e, rfl, z1⟩ := z1
  cases d1 with
  | cons p1 q1 => cases q1 with
    | cons p2 q2 =>
      cases q2
      exact ⟨_, _, rfl, kn.nx _ _ z1 _ _ _ x1 ((r1.set i p1).set k p2)⟩
def wPar3 (i k l : Nat) (wa : WA) : WS := fun E sl h => wa sl h fun ds h1 => ∃ d e f, ds = [d, e, f] ∧ E.nx (((sl.set i (some d)).set k (some e)).set l (some f)) h1
theorem ls_par3 {i k l : Nat} {x y z : Str} {a b c : Expr} {wa : WA} {px py pz pt pos : Pos} {kt k2 pt2} (hc : X.calm = true) (hN : X.N.Nodup) (hi : X.N[i]? = some x) (hj : X.N[k]? = some y) (hl : X.N[l]? = some z) (hij : i ≠ k) (hil : i ≠ l) (hjl : k ≠ l)
    (hx : X.env.scope.names.lookup x = some .local) (hy : X.env.scope.names.lookup y = some .local) (hz : X.env.scope.names.lookup z = some .local) (ha : LA X [a, b, c] wa)
    (hw : swappedStores [.Tuple [.Name x px, .Name y py, .Name z pz] kt pt] (.Tuple [a, b, c] k2 pt2) X.env = pure (some [x, y, z]))
    (hs : swapsWithSole [.Tuple [.Name x px, .Name y py, .Name z pz] kt pt] (.Tuple [a, b, c] k2 pt2) pos.line X.env = pure false := by rfl) :
    LS X (.Assign [.Tuple [.Name x px, .Name y py, .Name z pz] kt pt] (.Tuple [a, b, c] k2 pt2) pos) (wPar3 i k l wa) := (ps_par3 hc hN hi hj hl hij hil hjl hx hy hz ha hw hs).imp fun D σ H z => by
  obtain ⟨sl, h, io, q, r, z, kn⟩ := z
  refine tA.go r z fun ds h1 z1 vs i1 H1 x1 r1 d1 => ?_
  obtain ⟨d, e, f, rfl, z1⟩ := z1
  cases d1 with
  | cons p1 q1 => cases q1 with
    | cons p2 q2 => cases q2 with
      | cons p3 q3 =>
        cases q3
        exact ⟨_, _, _, rfl, kn.nx _ _ z1 _ _ _ x1 (((r1.set i p1).set k p2).set l p3)⟩
/-- name += e on integers -/
def wAug (i : Nat) (w : WE) : WS := fun E sl h => ∃ m, sl[i]? = some (some (.int m)) ∧ w sl h fun d h1 => ∃ n, d = .int n ∧ E.nx (sl.set i (some (.int (m + n)))) h1
theorem ls_aug {i : Nat} {x : Str} {w : WE} (hN : X.N.Nodup) (hi : X.N[i]? = some x) (hx : Loc X.env.scope x) (he : LE X e w) (hf : X.fn x = true ∨ X.env.scope.names.lookup x = some .local) :
    LS X (.AugAssign (.Name x pos') .Add e pos) (wAug i w) := (ps_aug hN hi hx he ip_add hf).imp fun D σ H z => by
  obtain ⟨sl, h, io, q, r, ⟨m, e1, z⟩, kn⟩ := z
  obtain ⟨v, f1, f2⟩ := r.slot i _ e1
  cases f2
  refine ⟨_, f1, tE.go r z fun d h1 z1 u i1 H1 x1 r1 d1 => ?_⟩
  obtain ⟨n, rfl, z1⟩ := z1
  cases d1
  exact ⟨m, n, rfl, rfl, kn.nx _ _ z1 _ _ _ x1 (r1.set i (.int _))⟩

/-! fields -/
def putFD (f : Str) (d : D) : List (Str × D) → List (Str × D)
  | [] => [(f, d)]
  | (g, x) :: r => if g = f then (g, d) :: r else (g, x) :: putFD f d r
theorem FSs.put {f : Str} {d : D} {v : V} (rd : RD io H d v) : ∀ {l : List (Str × D)} {m : List (Str × V)}, FSs io H l m → FSs io H (putFD f d l) (putF f v m)
  | _, _, .nil => .cons rd .nil
  | _, _, @FSs.cons _ _ g d' v' l m h r => by
    unfold putFD putF
    by_cases e : g = f
    · rw [if_pos e, if_pos e]; exact .cons rd r
    · rw [if_neg e, if_neg e]; exact .cons h (FSs.put rd r)
theorem FSs.length : ∀ {l : List (Str × D)} {m : List (Str × V)}, FSs io H l m → l.length = m.length
  | _, _, .nil => rfl
  | _, _, .cons _ r => by simp [FSs.length r]
def wFldS (cs : List Str) (f : Str) (wo wv : WE) : WS := fun E sl h => wv sl h fun d h1 => wo sl h1 fun o h2 => ∃ n c fs, o = .ref n ∧ h2[n]? = some (.ins c fs) ∧ hasF cs c = true ∧ fs.length < 1000 ∧ E.nx sl (h2.set n (.ins c (putFD f d fs)))
theorem ls_fld {cs : List Str} {f : Str} {wo wv : WE} (T : ∀ x ∈ cs, Fl X.K X.mg x f) (ho : LE X o wo) (hv : LE X e wv) (hs : swapsWith e (some (.Attribute o f pos')) pos.line X.env = pure false) : LS X (.Assign [.Attribute o f pos'] e pos) (wFldS cs f wo wv) := (ps_fld ho hv hs).imp fun D σ H z => by
  obtain ⟨sl, h, io, q, r, z, k⟩ := z
  refine tE.go r z fun d h1 z1 u i1 H1 x1 r1 d1 => ?_
  refine tE.go r1 z1 fun y h2 z2 u2 i2 H2 x2 r2 d2 => ?_
  obtain ⟨n, c, fs, rfl, e1, hc, hl, z2⟩ := z2
  cases d2 with
  | @ref _ a p =>
    obtain ⟨C, dx, gs, m1, m2, m3, fr⟩ := r2.rh.cell n _ a e1 p
    obtain ⟨t1, t2⟩ := fl_of T hc C m1
    obtain ⟨x3, rh3⟩ := r2.rh.write (o := .ins C dx (putF f u gs)) (c' := .ins c (putFD f d fs)) p m2 (fun _ z => nomatch z) (fun _ _ z => nomatch z) (fun _ z => nomatch z)
      fun ex => ⟨C, dx, _, m1, upd_same, by rw [upd_ne (fun z => by rw [z, m2] at m3; cases m3)]; exact m3, (fr.mono ex).put ((d1.mono x2).mono ex)⟩
    exact ⟨a, C, dx, gs, rfl, m2, t1, t2, by rw [← fr.length]; exact hl, k.nx _ _ z2 _ _ _ ((x1.trans x2).trans x3) (r2.on x3 rh3)⟩

/-! while -/
def wWhile (wc : WT) (wb : WS) : WS := fun E sl h => ∃ W : Nat → Sd → Hd → Prop, (∃ m, W m sl h) ∧ ∀ m sl h, W m sl h →
  wc sl h fun b h1 => if b = true then ∃ N : Sd → Hd → Prop, (∀ sl' h', N sl' h' → ∃ m', m' < m ∧ W m' sl' h') ∧ wb { E with nx := N, ct := N, bk := E.nx } sl h1 else E.nx sl h1
theorem ls_while {body : List Stmt} {wc : WT} {wb : WS} (hp : PassesOwn (model X.prog X.w) X.A X.env X.xe) (hc : LT X c wc) (hb : LSs X body wb) : LS X (.While c body [] pos) (wWhile wc wb) := (ps_while hp hc hb).imp fun D σ H z => by
  obtain ⟨sl, h, io, q, r, ⟨W, ⟨m0, w0⟩, turn⟩, k⟩ := z
  refine ⟨fun m σ' H' => ∃ sl' h' io', Ex io io' H H' ∧ Rel X.K X.mg sl' σ' io' H' h' ∧ W m sl' h', ⟨m0, sl, h, io, .refl, r, w0⟩, ?_⟩
  rintro m σ1 H1 ⟨sl1, h1, io1, x1, r1, w1⟩
  refine tT.go r1 (turn m sl1 h1 w1) fun b h2 z2 i2 H2 x2 r2 => ?_
  cases b with
  | false =>
    rw [if_neg Bool.false_ne_true] at z2 ⊢
    exact k.nx _ _ z2 _ _ _ (x1.trans x2) r2
  | true =>
    rw [if_pos rfl] at z2 ⊢
    obtain ⟨N, hN, z2⟩ := z2
    refine ⟨fun σ' H' => ∃ sl' h' io', Ex io io' H H' ∧ Rel X.K X.mg sl' σ' io' H' h' ∧ N sl' h', fun σ' H' ⟨sl', h', io', x', r', n'⟩ => ?_, sl1, h2, i2, _, r2, z2, ?_⟩
    · obtain ⟨m', hm, w'⟩ := hN sl' h' n'
      exact ⟨m', hm, sl', h', io', x', r', w'⟩
    · have x12 := x1.trans x2
      exact ⟨fun sl' h' n' σ' io' H' x' r' => ⟨sl', h', io', x12.trans x', r', n'⟩, (k.on x12).rt, (k.on x12).nx, fun sl' h' n' σ' io' H' x' r' => ⟨sl', h', io', x12.trans x', r', n'⟩⟩
end
end MP

set_option Elab.async false
set_option linter.all false
set_option maxRecDepth 100000
set_option maxHeartbeats 2000000
/-! MpH: what is walked; for. -/
namespace MP
open PySem PySem.Spec
open PyProof.Rows hiding St
open L2

/-! ### the items of a dict by tuple keys -/
section
variable {X : Cx} {pins : List (Addr × Obj)} {σ : L2.St} {H : Hp} {s : Shared} {d : Addr} {o : Obj}
theorem _root_.L2.Inv.frzT2 {kvs : List (List Key × V)} (I : L2.Inv X pins σ H s) (h : H d = some (.frz o (.dT kvs))) :
    (d == sysModules) = false ∧ s.heap.get? d = some o ∧ o.ExactDict ∧ ∃ (es : Array DictEntry) (ep : Nat), o.data = .dict es ep ∧ es.size = kvs.length ∧
      ∀ (i : Nat) (k : List Key) (v : V), kvs[i]? = some (k, v) → ∃ (en : DictEntry) (q : Addr), es[i]? = some en ∧ en.key = .ref q ∧ H q = some (.tup (k.map kV)) ∧ RelV v en.val := by
  obtain ⟨hd, z, hs, xs, pr, o', es, ep, ho, hx, hdt, he, _⟩ := I.hok d _ h
  rw [hd] at ho
  cases ho
  refine ⟨hs, hd, hx, es, ep, hdt, ?_, fun i k v e => ?_⟩
  · have l1 : es.size = xs.length := size_of_entries he
    have l2 : kvs.length = xs.length := Paired.length pr
    omega
  · obtain ⟨b, hb, e1, e2, e3⟩ := paired_get pr e
    have q := entry_at he i
    rw [hb] at q
    exact ⟨_, b.2.1, q, rfl, e2, e3⟩
end
/-- the pairs, each a new tuple of the key's own tuple and the value -/
def Itit (d : Addr) (o : Obj) (kvs : List (List Key × V)) : It :=
  ⟨fun i H => H d = some (.frz o (.dT kvs)) ∧ i < kvs.length, fun i H x H' => ∃ T k v q, kvs[i]? = some (k, v) ∧ H q = some (.tup (k.map kV)) ∧ x = .ref T ∧ H T = none ∧ H' = upd H T (.tup [.ref q, v]), fun i H => H d = some (.frz o (.dT kvs)) ∧ kvs.length ≤ i⟩
theorem turn_itemsT {P : Program} {w : World} {K : PySem.W.Frag} {d : Addr} {o : Obj} {es : Array DictEntry} {ep : Nat} {kvs : List (List Key × V)} {elts : List Expr} {kk : Nat} {tpos : Pos} (it : Addr) (hod : o.data = .dict es ep) (hes : es.size = kvs.length) :
    Turn P w K (.Tuple elts kk tpos) (Itit d o kvs) [it] it (fun i h => ∃ ok ov, IsItemIter h it d i kvs.length ep ok ov) where
  mem := by simp
  obj := fun i h st b hb => by
    have e : b = it := by simpa using hb
    subst e
    obtain ⟨ok, ov, e⟩ := st
    exact ⟨_, e, fun v z => nomatch z⟩
  keep := fun i h h' st k => let ⟨ok, ov, e⟩ := st; ⟨ok, ov, k it (by simp) _ e⟩
  item := by
    intro X hP hw hK hc i pins s σ H E I hf st hg
    subst hP hw hK
    obtain ⟨hd, hi⟩ := hg
    obtain ⟨hs, hgd, hx, es', ep', hdt, hsz, ent⟩ := I.frzT2 hd
    obtain ⟨rfl, rfl⟩ := dict_ep hod hdt
    obtain ⟨⟨k, v⟩, hkv⟩ : ∃ p, kvs[i]? = some p := ⟨kvs[i], List.getElem?_eq_getElem hi⟩
    obtain ⟨en, q, hen, hkey, hq, rv⟩ := ent i k v hkv
    have hi' : i < es'.size := by rw [hsz]; exact hi
    have hen' : es'[i] = en := by
      rw [Array.getElem?_eq_getElem hi'] at hen
      exact Option.some.inj hen
    obtain ⟨ok, ov, he⟩ := st
    rw [← hsz] at he
    have hlt : it < s.heap.objs.size := Heap.lt_size he
    refine wpAny_pyNext_items_item_raw he ⟨o, hgd, hx, hdt⟩ hi' fun h' ho hT hz hk => ?_
    refine ⟨_, rfl, wpAny_letOwnedTupleGo_items (s := { s with heap := h' }) ho fun h'' he' sb => ?_⟩
    have hT2 : h''.get? s.heap.objs.size = some { cls := .type "tuple", data := .seq #[es'[i].key, es'[i].val] } := (sb.2 _ (Nat.ne_of_gt hlt)).trans hT
    rw [hen', hkey] at hT2
    have new : ObjOk X.prog X.w (upd H s.heap.objs.size (.tup [.ref q, v])) h'' s.heap.objs.size (.tup [.ref q, v]) :=
      ⟨by show 2 ≤ sizeLine; decide, [.ref q, en.val], .cons rfl (.cons rv .nil), ⟨_, hT2, rfl, _, rfl⟩⟩
    have I1 : L2.Inv X pins σ (upd H s.heap.objs.size (.tup [.ref q, v])) { s with heap := h'' } :=
      I.turnedNew (t' := s.toks) (ch := [it]) (fun b ob hb e => (sb.2 b (by simpa using hb)).trans (hk b ob (by simpa using hb) e)) hf (Nat.le_refl _) new
    refine ⟨.ref s.heap.objs.size, _, I1, rfl, ⟨_, k, v, q, hkv, hq, rfl, I.hok.fresh (Nat.le_refl _), rfl⟩, ⟨es'[i].key, es'[i].val, ?_⟩, fun b hb => ?_⟩
    · rw [← hsz]; exact he'
    · have e : b = it := by simpa using hb
      rw [e, upd_ne (Nat.ne_of_lt hlt)]
      exact (hf it (by simp)).1
  done := by
    intro X hP hw hK hc i pins s σ H E I hf st hg
    subst hP hw hK
    obtain ⟨hd, hi⟩ := hg
    obtain ⟨f0, f1, f2, f3, f4, f5⟩ := hf it (by simp)
    obtain ⟨hs, hgd, hx, es', ep', hdt, hsz, ent⟩ := I.frzT2 hd
    obtain ⟨rfl, rfl⟩ := dict_ep hod hdt
    obtain ⟨ok, ov, he⟩ := st
    rw [← hsz] at he
    exact wpAny_pyNext_items_end_raw (I.ok.hd hc) he ⟨o, hgd, hx, hdt⟩ (by omega) fun h' eb => ⟨rfl, I.turned (t' := s.toks) (fun b ob hb e => eb b ob hb e) f0 f1 f3 f4 f5⟩
  self := fun A i s Q E st h => let ⟨_, _, e⟩ := st; PySem.W.kcp_self e h
def iItemsT (td : TE) : TI := fun σ H R => td σ H fun x H1 => ∃ d o kvs, x = .ref d ∧ H1 d = some (.frz o (.dT kvs)) ∧ R (Itit d o kvs) H1
theorem pi_itemsT {X : Cx} {e : Expr} {td : TE} {apos cpos : Pos} {elts : List Expr} {kk : Nat} {tpos : Pos} (he : PE X e td) (hbase : attributeBase e "items" X.env (eval e X.env) = eval e X.env := by rfl) (hline : (apos.endLine == cpos.line) = true := by rfl) :
    PI X (.Tuple elts kk tpos) (.Call (.Attribute e "items" apos) [] [] cpos) (iItemsT td) := by
  refine ⟨fun pins s σ H R I h => ?_⟩
  refine wpAny_Call_method (T := "dict") (id := "dict.items") hbase rfl hline F.plainAttrs_dict F.slot_dict_items F.type_dict_items (thn (he.run pins s σ H _ I h) fun u s1 ⟨x, H1, I1, rx, d, o, kvs, ex, hd, q⟩ => ?_)
  subst ex
  obtain rfl : u = Value.ref d := rx
  obtain ⟨hs, hgd, hx, es, ep, hdt, hsz, ent⟩ := I1.frzT2 hd
  have raw : s1.heap.DictRaw d es ep := ⟨o, hgd, hx, hdt⟩
  refine ⟨raw.typeIs, fun b q' => by cases q'; exact ⟨o, hgd, hx.2.1⟩, ?_⟩
  have I2 : L2.Inv X pins σ H1 { s1 with heap := s1.heap.push { cls := .type "dict_items", data := .fields #[.ref d] } } := I1.kept (t' := s1.toks) fun b ob q => Heap.get?_push_of_some _ q
  have fin : wpAny (model X.prog X.w) X.A (pyIter (.ref s1.heap.objs.size)) (PIE X pins σ (.Tuple elts kk tpos) R) X.xe { s1 with heap := s1.heap.push { cls := .type "dict_items", data := .fields #[.ref d] } } := by
    refine wpAny_pyIter_items_raw (d := d) ⟨_, Heap.get?_push_size _ rfl, rfl, rfl⟩ (raw.at fun o e => Heap.get?_push_of_some _ e) (pi_one (tk := s1.toks) I2 _ (turn_itemsT _ hdt hsz) ⟨.none, .none, ?_⟩ q)
    rw [← hsz]
    exact Heap.get?_push_size _ rfl
  show wpAny _ _ (callWith cpos (.builtin "dict.items") [.ref d] [] []) _ X.xe s1
  exact method_meetsIn F.slot_dict_items F.entry_dict_items rfl (PySem.evalArgs_none ⟨rfl, raw.typeIs, F.args_dict_items_1 _, _, meets_dict_items_raw d hs, ⟨es, ep, raw⟩, fin⟩)

/-! ### locking what an expression gives -/
def tLk (t : TE) : TE := fun σ H Q => t σ H fun x H1 => ∃ d u, x = .ref d ∧ Mut (some u) ∧ ((∃ o, H1 d = some (.frz o u) ∧ Q x H1) ∨ (H1 d = some u ∧ ∀ o, Q x (upd H1 d (.frz o u))))
theorem pe_lk {X : Cx} {e : Expr} {t : TE} (h : PE X e t) : PE X e (tLk t) := by
  refine ⟨fun pins s σ H Q I hw => thn (h.run pins s σ H _ I hw) fun v s1 ⟨x, H1, I1, r, d, u, ex, mu, q⟩ => ?_⟩
  rcases q with ⟨o, _, q⟩ | ⟨e1, q⟩
  · exact ⟨x, H1, I1, r, q⟩
  · obtain ⟨od, I2⟩ := I1.lock e1 mu
    exact ⟨x, _, I2, r, q od⟩

section
variable {X : Cx} {j : Nat} {a b c e o ie tg : Expr} {pos pos' p apos cpos tpos : Pos} {es elts : List Expr} {kk : Nat}
variable {K : PySem.W.Frag} {mg : Str → Option Value} {io io' : List Addr} {H H' : Hp} {h h' : Hd} {sl : Sd} {σ : L2.St}
theorem RH.lk {n : Nat} {d : Addr} {t lk : Bool} {kvs : List (D × D)} (r : RH K mg io H h) (e : h[n]? = some (.dct t lk kvs)) (i : io[n]? = some d) :
    ∃ u, Mut (some u) ∧ ((∃ o, H d = some (.frz o u) ∧ RH K mg io H (h.set n (.dct t true kvs))) ∨ (H d = some u ∧ ∀ o, Ex io io H (upd H d (.frz o u)) ∧ RH K mg io (upd H d (.frz o u)) (h.set n (.dct t true kvs)))) := by
  have c := r.cell n _ d e i
  cases lk with
  | true =>
    have same : h.set n (.dct t true kvs) = h := by
      have hl := (List.getElem?_eq_some_iff.mp e).1
      have := (List.getElem?_eq_some_iff.mp e).2
      rw [← this]; exact List.set_getElem_self hl
    rw [same]
    cases t with
    | true => obtain ⟨ks, f, q⟩ := c.dT; obtain ⟨o, f⟩ := (by simpa [DOb] using f : ∃ o, H d = some (.frz o (.dT ks))); exact ⟨.dT ks, trivial, .inl ⟨o, f, r⟩⟩
    | false => obtain ⟨ks, f, q⟩ := c.dK; obtain ⟨o, f⟩ := (by simpa [DOb] using f : ∃ o, H d = some (.frz o (.dK ks))); exact ⟨.dK ks, trivial, .inl ⟨o, f, r⟩⟩
  | false =>
    cases t with
    | true =>
      obtain ⟨ks, f, q⟩ := c.dT
      have f : H d = some (.dT ks) := by simpa [DOb] using f
      exact ⟨.dT ks, trivial, .inr ⟨f, fun o => r.write (o := .frz o (.dT ks)) (c' := .dct true true kvs) i f (fun _ z => nomatch z) (fun _ _ z => nomatch z) (fun _ z => nomatch z) fun ex => .ofT ⟨ks, by simp [DOb, upd_same], q.mono ex⟩⟩⟩
    | false =>
      obtain ⟨ks, f, q⟩ := c.dK
      have f : H d = some (.dK ks) := by simpa [DOb] using f
      exact ⟨.dK ks, trivial, .inr ⟨f, fun o => r.write (o := .frz o (.dK ks)) (c' := .dct false true kvs) i f (fun _ z => nomatch z) (fun _ _ z => nomatch z) (fun _ z => nomatch z) fun ex => .ofK ⟨ks, by simp [DOb, upd_same], q.mono ex⟩⟩⟩
def wLk (w : WE) : WE := fun sl h Q => w sl h fun x h1 => ∃ n t lk kvs, x = .ref n ∧ h1[n]? = some (.dct t lk kvs) ∧ Q x (h1.set n (.dct t true kvs))
theorem le_lk {w : WE} (he : LE X e w) : LE X e (wLk w) := (pe_lk he).imp fun σ H Q z => by
  obtain ⟨sl, h, io, q, r, z, k⟩ := z
  refine tE.go r z fun x h1 z1 u i1 H1 x1 r1 d1 => ?_
  obtain ⟨n, t, lk, kvs, rfl, e1, z1⟩ := z1
  cases d1 with
  | @ref _ a p =>
    obtain ⟨u, mu, q2⟩ := r1.rh.lk e1 p
    refine ⟨a, u, rfl, mu, ?_⟩
    rcases q2 with ⟨o, f, rh⟩ | ⟨f, g⟩
    · exact .inl ⟨o, f, k _ _ z1 _ _ _ x1 rh (.ref p)⟩
    · exact .inr ⟨f, fun o => k _ _ z1 _ _ _ (x1.trans (g o).1) (g o).2 (.ref p)⟩

/-! ### what is walked -/
/-- at turn i in the heap h: none, no promise; some none, it stops; some (some d), it yields d -/
abbrev ItD := Nat → Hd → Option (Option D)
def RIt (K : PySem.W.Frag) (mg : Str → Option Value) (io : List Addr) (H : Hp) (J : It) (t : ItD) : Prop := ∀ i io' H' h', Ez io io' H H' → RH K mg io' H' h' →
  (t i h' = some none → J.stop i H') ∧ ∀ d, t i h' = some (some d) → J.go i H' ∧ ∀ x H2, J.yld i H' x H2 → Ex io' io' H' H2 ∧ RH K mg io' H2 h' ∧ RD io' H2 d x
abbrev WI := Sd → Hd → (ItD → Hd → Prop) → Prop
def tI (K : PySem.W.Frag) (mg : Str → Option Value) (w : WI) : TI := fun σ H R => ∃ sl h io q, Rel K mg sl σ io H h ∧ w sl h q ∧ ∀ t h', q t h' → ∀ J io' H', Ex io io' H H' → RH K mg io' H' h' → RIt K mg io' H' J t → R J H'
abbrev LI (X : Cx) (tg e : Expr) (w : WI) : Prop := PI X tg e (tI X.K X.mg w)
theorem _root_.L2.PI.imp {t t' : TI} (h : PI X tg e t) (i : ∀ σ H R, t' σ H R → t σ H R) : PI X tg e t' := ⟨fun pins s σ H R I z => h.run pins s σ H R I (i σ H R z)⟩

/-- a fixed row of values -/
def itSeq (xs : List D) : ItD := fun i _ => some xs[i]?
/-- a list as it stands -/
def itLst (n : Nat) : ItD := fun i h => (items h n).map (·[i]?)
def itEnum (n : Nat) : ItD := fun i h => (items h n).map fun xs => (xs[i]?).map fun d => .tup [.int i, d]
def dctOf (h : Hd) (n : Nat) : Option (List (D × D)) := match h[n]? with
  | some (.dct _ true kvs) => some kvs
  | _ => none
def itKeys (n : Nat) : ItD := fun i h => (dctOf h n).map fun kvs => (kvs[i]?).map (·.1)
def itVals (n : Nat) : ItD := fun i h => (dctOf h n).map fun kvs => (kvs[i]?).map (·.2)
def itItems (n : Nat) : ItD := fun i h => (dctOf h n).map fun kvs => (kvs[i]?).map fun p => .tup [p.1, p.2]
def itZip (a b : Nat) : ItD := fun i h => (items h a).bind fun xs => (items h b).map fun ys => (xs[i]?).bind fun x => (ys[i]?).map fun y => .tup [x, y]

theorem rit_tup {a : Addr} {vs : List V} {ds : List D} (ha : TupE H a vs) (rd : RDs io H ds vs) : RIt K mg io H (Itt K a) (itSeq ds) := by
  intro i io' H' h' x r
  have ha' := x.y.rd ha
  have rd' := rd.monoY x.y
  refine ⟨fun e => ⟨vs, ha'.sq, ?_⟩, fun d e => ?_⟩
  · have e' : ds[i]? = none := by simpa [itSeq] using e
    rw [← rd'.length]; exact List.getElem?_eq_none_iff.mp e'
  · have e' : ds[i]? = some d := by simpa [itSeq] using e
    obtain ⟨v, f1, f2⟩ := rd'.get e'
    refine ⟨⟨vs, v, ha'.sq, f1⟩, fun y H2 yl => ?_⟩
    obtain ⟨rfl, yl⟩ := yl
    have := yl vs (ha'.sq)
    rw [f1] at this; cases this
    exact ⟨.refl, r, f2⟩
theorem rit_list {a : Addr} {n : Nat} (ha : io[n]? = some a) : RIt K mg io H (Itl K a) (itLst n) := by
  intro i io' H' h' x r
  have ha' := pre_get x.pre ha
  have go : ∀ {o : Option D}, itLst n i h' = some o → ∃ xs vs, SqL K H' a vs ∧ RDs io' H' xs vs ∧ xs[i]? = o := fun {o} e => by
    unfold itLst at e
    cases q : items h' n with
    | none => rw [q] at e; cases e
    | some xs =>
      rw [q] at e
      obtain ⟨vs, f1, f2⟩ := r.list q ha'
      exact ⟨xs, vs, f1, f2, by simpa using e⟩
  refine ⟨fun e => ?_, fun d e => ?_⟩
  · obtain ⟨xs, vs, f1, f2, f3⟩ := go e
    exact ⟨vs, f1, by rw [← f2.length]; exact List.getElem?_eq_none_iff.mp f3⟩
  · obtain ⟨xs, vs, f1, f2, f3⟩ := go e
    obtain ⟨v, g1, g2⟩ := f2.get f3
    refine ⟨⟨vs, v, f1, g1⟩, fun y H2 yl => ?_⟩
    obtain ⟨rfl, yl⟩ := yl
    have := yl vs f1
    rw [g1] at this; cases this
    exact ⟨.refl, r, g2⟩
theorem rit_enum {a : Addr} {n : Nat} (ha : io[n]? = some a) : RIt K mg io H (Ite K a) (itEnum n) := by
  intro i io' H' h' x r
  have ha' := pre_get x.pre ha
  have go : ∀ {o : Option D}, itEnum n i h' = some o → ∃ xs vs, SqL K H' a vs ∧ RDs io' H' xs vs ∧ (xs[i]?).map (fun d => D.tup [.int i, d]) = o := fun {o} e => by
    unfold itEnum at e
    cases q : items h' n with
    | none => rw [q] at e; cases e
    | some xs =>
      rw [q] at e
      obtain ⟨vs, f1, f2⟩ := r.list q ha'
      exact ⟨xs, vs, f1, f2, by simpa using e⟩
  refine ⟨fun e => ?_, fun d e => ?_⟩
  · obtain ⟨xs, vs, f1, f2, f3⟩ := go e
    exact ⟨vs, f1, by rw [← f2.length]; exact List.getElem?_eq_none_iff.mp (by simpa using f3)⟩
  · obtain ⟨xs, vs, f1, f2, f3⟩ := go e
    obtain ⟨d0, e0, rfl⟩ := Option.map_eq_some_iff.mp f3
    obtain ⟨v, g1, g2⟩ := f2.get e0
    refine ⟨⟨vs, v, f1, g1⟩, fun y H2 yl => ?_⟩
    obtain ⟨T, y', rfl, hT, rfl, yl⟩ := yl
    have := yl vs f1
    rw [g1] at this; cases this
    exact ⟨ex_upd hT, r.new hT, .tup (.inl upd_same) (.cons (.int _) (.cons (g2.mono (ex_upd hT)) .nil))⟩
theorem rit_zip {a b : Addr} {n m : Nat} (ha : io[n]? = some a) (hb : io[m]? = some b) : RIt K mg io H (Itz K a b) (itZip n m) := by
  intro i io' H' h' x r
  have ha' := pre_get x.pre ha
  have hb' := pre_get x.pre hb
  have go : ∀ {o : Option D}, itZip n m i h' = some o → ∃ xs vs ys us, SqL K H' a vs ∧ RDs io' H' xs vs ∧ SqL K H' b us ∧ RDs io' H' ys us ∧ ((xs[i]?).bind fun x => (ys[i]?).map fun y => D.tup [x, y]) = o := fun {o} e => by
    unfold itZip at e
    cases q : items h' n with
    | none => rw [q] at e; cases e
    | some xs =>
      cases q2 : items h' m with
      | none => rw [q, q2] at e; cases e
      | some ys =>
        rw [q, q2] at e
        obtain ⟨vs, f1, f2⟩ := r.list q ha'
        obtain ⟨us, g1, g2⟩ := r.list q2 hb'
        exact ⟨xs, vs, ys, us, f1, f2, g1, g2, by simpa using e⟩
  refine ⟨fun e => ?_, fun d e => ?_⟩
  · obtain ⟨xs, vs, ys, us, f1, f2, g1, g2, f3⟩ := go e
    refine ⟨vs, us, f1, g1, ?_⟩
    rw [← f2.length, ← g2.length]
    cases q : xs[i]? with
    | none => exact .inl (List.getElem?_eq_none_iff.mp q)
    | some x0 =>
      rw [q] at f3
      exact .inr (List.getElem?_eq_none_iff.mp (by simpa using f3))
  · obtain ⟨xs, vs, ys, us, f1, f2, g1, g2, f3⟩ := go e
    obtain ⟨x0, e0, f3⟩ := Option.bind_eq_some_iff.mp f3
    obtain ⟨y0, e1, rfl⟩ := Option.map_eq_some_iff.mp f3
    obtain ⟨v, p1, p2⟩ := f2.get e0
    obtain ⟨u, q1, q2⟩ := g2.get e1
    refine ⟨⟨vs, us, v, u, f1, g1, p1, q1⟩, fun y H2 yl => ?_⟩
    obtain ⟨T, y', z', rfl, hT, rfl, yl, zl⟩ := yl
    have := yl vs f1
    rw [p1] at this; cases this
    have := zl us g1
    rw [q1] at this; cases this
    exact ⟨ex_upd hT, r.new hT, .tup (.inl upd_same) (.cons (p2.mono (ex_upd hT)) (.cons (q2.mono (ex_upd hT)) .nil))⟩
theorem rit_zipT {a b : Addr} {vs us : List V} {ds es : List D} (ha : TupE H a vs) (rd : RDs io H ds vs) (hb : TupE H b us) (re : RDs io H es us) : RIt K mg io H (RZ.ItzT K a b) (itSeq ((ds.zip es).map fun p => .tup [p.1, p.2])) := by
  intro i io' H' h' x r
  have ha' := x.y.rd ha
  have hb' := x.y.rd hb
  have rd' := rd.monoY x.y
  have re' := re.monoY x.y
  have key : ((ds.zip es).map fun p => D.tup [p.1, p.2])[i]? = (ds[i]?).bind fun x => (es[i]?).map fun y => D.tup [x, y] := by
    rw [List.getElem?_map, List.zip_eq_zipWith, List.getElem?_zipWith]
    cases ds[i]? <;> cases es[i]? <;> rfl
  refine ⟨fun e => ?_, fun d e => ?_⟩
  · have f3 := (Option.some.inj e : ((ds.zip es).map fun p => D.tup [p.1, p.2])[i]? = none)
    rw [key] at f3
    refine ⟨vs, us, ha'.sq, hb'.sq, ?_⟩
    rw [← rd'.length, ← re'.length]
    cases q : ds[i]? with
    | none => exact .inl (List.getElem?_eq_none_iff.mp q)
    | some x0 =>
      rw [q] at f3
      exact .inr (List.getElem?_eq_none_iff.mp (by simpa using f3))
  · have f3 := (Option.some.inj e : ((ds.zip es).map fun p => D.tup [p.1, p.2])[i]? = some d)
    rw [key] at f3
    obtain ⟨x0, e0, f3⟩ := Option.bind_eq_some_iff.mp f3
    obtain ⟨y0, e1, rfl⟩ := Option.map_eq_some_iff.mp f3
    obtain ⟨v, p1, p2⟩ := rd'.get e0
    obtain ⟨u, q1, q2⟩ := re'.get e1
    refine ⟨⟨vs, us, v, u, ha'.sq, hb'.sq, p1, q1⟩, fun y H2 yl => ?_⟩
    obtain ⟨T, y', z', rfl, hT, rfl, yl, zl⟩ := yl
    have := yl vs (ha'.sq)
    rw [p1] at this; cases this
    have := zl us (hb'.sq)
    rw [q1] at this; cases this
    exact ⟨ex_upd hT, r.new hT, .tup (.inl upd_same) (.cons (p2.mono (ex_upd hT)) (.cons (q2.mono (ex_upd hT)) .nil))⟩
theorem rit_str {x : Str} : RIt K mg io H (Its x) (itSeq (x.cps.toList.map fun c => .str ⟨#[c]⟩)) := by
  intro i io' H' h' _ r
  refine ⟨fun e => ?_, fun d e => ?_⟩
  · have e' : (x.cps.toList.map fun c => D.str ⟨#[c]⟩)[i]? = none := by simpa only [itSeq, Option.some.injEq] using e
    have := List.getElem?_eq_none_iff.mp e'
    show x.cps.size ≤ i
    simpa using this
  · have e' : (x.cps.toList.map fun c => D.str ⟨#[c]⟩)[i]? = some d := by simpa only [itSeq, Option.some.injEq] using e
    rw [List.getElem?_map] at e'
    obtain ⟨c, e1, rfl⟩ := Option.map_eq_some_iff.mp e'
    have e2 : x.cps[i]? = some c := by simpa using e1
    refine ⟨show i < x.cps.size from (Array.getElem?_eq_some_iff.mp e2).1, fun y H2 yl => ?_⟩
    obtain ⟨rfl, c', e3, rfl⟩ := yl
    rw [e2] at e3; cases e3
    exact ⟨.refl, r, .str _⟩
def rngD (lo : Int) (n : Nat) : List D := (List.range n).map fun (k : Nat) => .int (lo + k)
theorem rit_range {lo : Int} {n : Nat} : RIt K mg io H (Itr lo n) (itSeq (rngD lo n)) := by
  intro i io' H' h' _ r
  have key : (rngD lo n)[i]? = if i < n then some (.int (lo + i)) else none := by
    unfold rngD
    rw [List.getElem?_map]
    by_cases hi : i < n
    · rw [List.getElem?_range hi, if_pos hi]; rfl
    · rw [List.getElem?_eq_none (by simpa using hi), if_neg hi]; rfl
  refine ⟨fun e => ?_, fun d e => ?_⟩
  · have e' : (rngD lo n)[i]? = none := by simpa only [itSeq, Option.some.injEq] using e
    rw [key] at e'
    show n ≤ i
    split at e'
    · cases e'
    · omega
  · have e' : (rngD lo n)[i]? = some d := by simpa only [itSeq, Option.some.injEq] using e
    rw [key] at e'
    split at e'
    · rename_i hi
      cases e'
      refine ⟨hi, fun y H2 yl => ?_⟩
      obtain ⟨rfl, rfl⟩ := yl
      exact ⟨.refl, r, .int _⟩
    · cases e'
end
end MP

set_option Elab.async false
set_option linter.all false
set_option maxRecDepth 100000
set_option maxHeartbeats 2000000
/-! MpI: dicts walked; for; what may be walked. -/
namespace MP
open PySem PySem.Spec
open PyProof.Rows hiding St
open L2

section
variable {X : Cx} {j : Nat} {a b c e o ie tg : Expr} {pos pos' p apos cpos tpos : Pos} {es elts : List Expr} {kk : Nat}
variable {K : PySem.W.Frag} {mg : Str → Option Value} {io io' : List Addr} {H H' : Hp} {h h' : Hd} {sl : Sd} {σ : L2.St}
theorem KVk.at : ∀ {l : List (D × D)} {m : List (Key × V)} {i : Nat} {p : D × D}, KVk io H l m → l[i]? = some p → ∃ k v, m[i]? = some (k, v) ∧ p.1 = keyD k ∧ RD io H p.2 v
  | _, _, _, _, .nil, e => by simp at e
  | _, _, 0, _, @KVk.cons _ _ k d v l m h r, e => by simp at e; subst e; exact ⟨k, v, rfl, rfl, h⟩
  | _, _, i + 1, _, .cons h r, e => by
    obtain ⟨k, v, e1, e2⟩ := KVk.at (i := i) r (by simpa using e)
    exact ⟨k, v, by simpa using e1, e2⟩
theorem KVt.at : ∀ {l : List (D × D)} {m : List (List Key × V)} {i : Nat} {p : D × D}, KVt io H l m → l[i]? = some p → ∃ k v, m[i]? = some (k, v) ∧ p.1 = .tup (k.map keyD) ∧ RD io H p.2 v
  | _, _, _, _, .nil, e => by simp at e
  | _, _, 0, _, @KVt.cons _ _ k d v l m h r, e => by simp at e; subst e; exact ⟨k, v, rfl, rfl, h⟩
  | _, _, i + 1, _, .cons h r, e => by
    obtain ⟨k, v, e1, e2⟩ := KVt.at (i := i) r (by simpa using e)
    exact ⟨k, v, by simpa using e1, e2⟩
theorem rds_keys : ∀ (ks : List Key), RDs io H (ks.map keyD) (ks.map kV)
  | [] => .nil
  | k :: ks => .cons (rd_keyD k) (rds_keys ks)
theorem lockK {o : Obj} {d : Addr} {n : Nat} {ks : List (Key × V)} {kvs : List (D × D)} (r : RH K mg io H h) (i : io[n]? = some d) (f : H d = some (.frz o (.dK ks))) (e : dctOf h n = some kvs) : KVk io H kvs ks := by
  unfold dctOf at e
  split at e
  · rename_i t kvs' q
    cases e
    have c := r.cell n _ d q i
    cases t with
    | true => obtain ⟨ks', g, _⟩ := c.dT; obtain ⟨o', g⟩ := (by simpa [DOb] using g : ∃ o, H d = some (.frz o (.dT ks'))); rw [f] at g; cases g
    | false => obtain ⟨ks', g, q⟩ := c.dK; obtain ⟨o', g⟩ := (by simpa [DOb] using g : ∃ o, H d = some (.frz o (.dK ks'))); rw [f] at g; cases g; exact q
  · cases e
theorem lockT {o : Obj} {d : Addr} {n : Nat} {ks : List (List Key × V)} {kvs : List (D × D)} (r : RH K mg io H h) (i : io[n]? = some d) (f : H d = some (.frz o (.dT ks))) (e : dctOf h n = some kvs) : KVt io H kvs ks := by
  unfold dctOf at e
  split at e
  · rename_i t kvs' q
    cases e
    have c := r.cell n _ d q i
    cases t with
    | false => obtain ⟨ks', g, _⟩ := c.dK; obtain ⟨o', g⟩ := (by simpa [DOb] using g : ∃ o, H d = some (.frz o (.dK ks'))); rw [f] at g; cases g
    | true => obtain ⟨ks', g, q⟩ := c.dT; obtain ⟨o', g⟩ := (by simpa [DOb] using g : ∃ o, H d = some (.frz o (.dT ks'))); rw [f] at g; cases g; exact q
  · cases e
theorem opt2 {α β : Type} {x : Option α} {f : α → Option β} {o : Option β} (e : x.map f = some o) : ∃ a, x = some a ∧ f a = o := Option.map_eq_some_iff.mp e
theorem rit_keys {o : Obj} {d : Addr} {n : Nat} {ks : List (Key × V)} (i0 : io[n]? = some d) (f : H d = some (.frz o (.dK ks))) : RIt K mg io H (Itk d o ks) (itKeys n) := by
  intro i io' H' h' x r
  have f' := x.lock f
  refine ⟨fun e => ?_, fun y e => ?_⟩
  · obtain ⟨kvs, e1, e2⟩ := opt2 e
    have q := lockK r (pre_get x.pre i0) f' e1
    exact ⟨f', by rw [← q.length]; exact List.getElem?_eq_none_iff.mp (by simpa using e2)⟩
  · obtain ⟨kvs, e1, e2⟩ := opt2 e
    have q := lockK r (pre_get x.pre i0) f' e1
    obtain ⟨p, e3, rfl⟩ := Option.map_eq_some_iff.mp e2
    obtain ⟨k, v, g1, g2, g3⟩ := q.at e3
    refine ⟨⟨f', (List.getElem?_eq_some_iff.mp g1).1⟩, fun y H2 yl => ?_⟩
    obtain ⟨rfl, k', v', g4, rfl⟩ := yl
    rw [g1] at g4; cases g4
    exact ⟨.refl, r, by rw [g2]; exact rd_keyD k⟩
theorem rit_keysT {o : Obj} {d : Addr} {n : Nat} {ks : List (List Key × V)} (i0 : io[n]? = some d) (f : H d = some (.frz o (.dT ks))) : RIt K mg io H (Itkt d o ks) (itKeys n) := by
  intro i io' H' h' x r
  have f' := x.lock f
  refine ⟨fun e => ?_, fun y e => ?_⟩
  · obtain ⟨kvs, e1, e2⟩ := opt2 e
    have q := lockT r (pre_get x.pre i0) f' e1
    exact ⟨f', by rw [← q.length]; exact List.getElem?_eq_none_iff.mp (by simpa using e2)⟩
  · obtain ⟨kvs, e1, e2⟩ := opt2 e
    have q := lockT r (pre_get x.pre i0) f' e1
    obtain ⟨p, e3, rfl⟩ := Option.map_eq_some_iff.mp e2
    obtain ⟨k, v, g1, g2, g3⟩ := q.at e3
    refine ⟨⟨f', (List.getElem?_eq_some_iff.mp g1).1⟩, fun y H2 yl => ?_⟩
    obtain ⟨rfl, k', v', q', g4, rfl, hq⟩ := yl
    rw [g1] at g4; cases g4
    exact ⟨.refl, r, by rw [g2]; exact .tup (.inl hq) (rds_keys k)⟩
theorem rit_vals {o : Obj} {d : Addr} {n : Nat} {ks : List (Key × V)} (i0 : io[n]? = some d) (f : H d = some (.frz o (.dK ks))) : RIt K mg io H (Itd d o ks) (itVals n) := by
  intro i io' H' h' x r
  have f' := x.lock f
  refine ⟨fun e => ?_, fun y e => ?_⟩
  · obtain ⟨kvs, e1, e2⟩ := opt2 e
    have q := lockK r (pre_get x.pre i0) f' e1
    exact ⟨f', by rw [← q.length]; exact List.getElem?_eq_none_iff.mp (by simpa using e2)⟩
  · obtain ⟨kvs, e1, e2⟩ := opt2 e
    have q := lockK r (pre_get x.pre i0) f' e1
    obtain ⟨p, e3, rfl⟩ := Option.map_eq_some_iff.mp e2
    obtain ⟨k, v, g1, g2, g3⟩ := q.at e3
    refine ⟨⟨f', (List.getElem?_eq_some_iff.mp g1).1⟩, fun y H2 yl => ?_⟩
    obtain ⟨rfl, k', g4⟩ := yl
    rw [g1] at g4; cases g4
    exact ⟨.refl, r, g3⟩
theorem rit_items {o : Obj} {d : Addr} {n : Nat} {ks : List (Key × V)} (i0 : io[n]? = some d) (f : H d = some (.frz o (.dK ks))) : RIt K mg io H (Iti d o ks) (itItems n) := by
  intro i io' H' h' x r
  have f' := x.lock f
  refine ⟨fun e => ?_, fun y e => ?_⟩
  · obtain ⟨kvs, e1, e2⟩ := opt2 e
    have q := lockK r (pre_get x.pre i0) f' e1
    exact ⟨f', by rw [← q.length]; exact List.getElem?_eq_none_iff.mp (by simpa using e2)⟩
  · obtain ⟨kvs, e1, e2⟩ := opt2 e
    have q := lockK r (pre_get x.pre i0) f' e1
    obtain ⟨p, e3, rfl⟩ := Option.map_eq_some_iff.mp e2
    obtain ⟨k, v, g1, g2, g3⟩ := q.at e3
    refine ⟨⟨f', (List.getElem?_eq_some_iff.mp g1).1⟩, fun y H2 yl => ?_⟩
    obtain ⟨T, k', v', g4, rfl, hT, rfl⟩ := yl
    rw [g1] at g4; cases g4
    exact ⟨ex_upd hT, r.new hT, .tup (.inl upd_same) (.cons (by rw [g2]; exact rd_keyD k) (.cons (g3.mono (ex_upd hT)) .nil))⟩
theorem rit_itemsT {o : Obj} {d : Addr} {n : Nat} {ks : List (List Key × V)} (i0 : io[n]? = some d) (f : H d = some (.frz o (.dT ks))) : RIt K mg io H (Itit d o ks) (itItems n) := by
  intro i io' H' h' x r
  have f' := x.lock f
  refine ⟨fun e => ?_, fun y e => ?_⟩
  · obtain ⟨kvs, e1, e2⟩ := opt2 e
    have q := lockT r (pre_get x.pre i0) f' e1
    exact ⟨f', by rw [← q.length]; exact List.getElem?_eq_none_iff.mp (by simpa using e2)⟩
  · obtain ⟨kvs, e1, e2⟩ := opt2 e
    have q := lockT r (pre_get x.pre i0) f' e1
    obtain ⟨p, e3, rfl⟩ := Option.map_eq_some_iff.mp e2
    obtain ⟨k, v, g1, g2, g3⟩ := q.at e3
    refine ⟨⟨f', (List.getElem?_eq_some_iff.mp g1).1⟩, fun y H2 yl => ?_⟩
    obtain ⟨T, k', v', q', g4, hq, rfl, hT, rfl⟩ := yl
    rw [g1] at g4; cases g4
    have xt := ex_upd (io := io') (o := .tup [.ref q', v]) hT
    exact ⟨xt, r.new hT, .tup (.inl upd_same) (.cons (by rw [g2]; exact .tup (.inl (xt.tup _ _ hq)) (rds_keys k)) (.cons (g3.mono xt) .nil))⟩

/-! ### the rules -/
def wOver (w : WE) (f : D → Hd → (ItD → Prop)  → Prop) : WI := fun sl h R => w sl h fun x h1 => f x h1 fun t => R t h1
def fTup : D → Hd → (ItD → Prop) → Prop := fun x _ R => ∃ xs, x = .tup xs ∧ R (itSeq xs)
def fLst : D → Hd → (ItD → Prop) → Prop := fun x h R => ∃ n xs, x = .ref n ∧ items h n = some xs ∧ R (itLst n)
def fStr : D → Hd → (ItD → Prop) → Prop := fun x _ R => ∃ s, x = .str s ∧ R (itSeq (s.cps.toList.map fun c => .str ⟨#[c]⟩))
theorem li_tup {w : WE} (he : LE X e w) : LI X tg e (wOver w fTup) := (pi_tup he).imp fun σ H R z => by
  obtain ⟨sl, h, io, q, r, z, k⟩ := z
  refine tE.go r z fun x h1 z1 u i1 H1 x1 r1 d1 => ?_
  obtain ⟨xs, rfl, z1⟩ := z1
  cases d1 with
  | @tup a vs _ ha ra => exact ⟨a, rfl, ⟨vs, ha.sq⟩, k _ _ z1 _ _ _ x1 r1.rh (rit_tup ha ra)⟩
theorem li_lst {w : WE} (he : LE X e w) : LI X tg e (wOver w fLst) := (pi_list he).imp fun σ H R z => by
  obtain ⟨sl, h, io, q, r, z, k⟩ := z
  refine tE.go r z fun x h1 z1 u i1 H1 x1 r1 d1 => ?_
  obtain ⟨n, xs, rfl, e, z1⟩ := z1
  cases d1 with
  | @ref _ a i =>
    obtain ⟨vs, f1, f2⟩ := r1.rh.list e i
    exact ⟨a, rfl, ⟨vs, f1⟩, k _ _ z1 _ _ _ x1 r1.rh (rit_list i)⟩
theorem li_str {w : WE} (he : LE X e w) : LI X tg e (wOver w fStr) := (pi_str he).imp fun σ H R z => by
  obtain ⟨sl, h, io, q, r, z, k⟩ := z
  refine tE.go r z fun x h1 z1 u i1 H1 x1 r1 d1 => ?_
  obtain ⟨s, rfl, z1⟩ := z1
  cases d1
  exact ⟨s, rfl, k _ _ z1 _ _ _ x1 r1.rh rit_str⟩
def wRange1 (wa : WA) : WI := fun sl h R => wa sl h fun ds h1 => ∃ j : Int, ds = [.int j] ∧ -(2 ^ 62) ≤ j ∧ j < 2 ^ 62 ∧ R (itSeq (rngD 0 j.toNat)) h1
theorem li_range1 {wa : WA} (hg : Gl X "range") (hm : X.mg "range" = none) (ha : LA X [a] wa) (hs : starEach [a] X.env = [(false, eval a X.env)] := by rfl) : LI X tg (.Call (.Name "range" p) [a] [] pos) (wRange1 wa) := (pi_range1 hg hm ha hs).imp fun σ H R z => by
  obtain ⟨sl, h, io, q, r, z, k⟩ := z
  refine tA.go r z fun ds h1 z1 vs i1 H1 x1 r1 d1 => ?_
  obtain ⟨j, rfl, e1, e2, z1⟩ := z1
  cases d1 with
  | cons d1 q1 =>
    cases q1; cases d1
    exact ⟨j, rfl, e1, e2, k _ _ z1 _ _ _ x1 r1.rh rit_range⟩
def wRange2 (wa : WA) : WI := fun sl h R => wa sl h fun ds h1 => ∃ i j : Int, ds = [.int i, .int j] ∧ (-(2 ^ 62) ≤ i ∧ i < 2 ^ 62 ∧ -(2 ^ 62) ≤ j ∧ j < 2 ^ 62) ∧ R (itSeq (rngD i (j - i).toNat)) h1
theorem li_range2 {wa : WA} (hg : Gl X "range") (hm : X.mg "range" = none) (ha : LA X [a, b] wa) (hs : starEach [a, b] X.env = [(false, eval a X.env), (false, eval b X.env)] := by rfl) (hs2 : starEach [b] X.env = [(false, eval b X.env)] := by rfl) : LI X tg (.Call (.Name "range" p) [a, b] [] pos) (wRange2 wa) := (pi_range2 hg hm ha hs hs2).imp fun σ H R z => by
  obtain ⟨sl, h, io, q, r, z, k⟩ := z
  refine tA.go r z fun ds h1 z1 vs i1 H1 x1 r1 d1 => ?_
  obtain ⟨i, j, rfl, e1, z1⟩ := z1
  cases d1 with
  | cons d1 q1 => cases q1 with
    | cons d2 q2 =>
      cases q2; cases d1; cases d2
      exact ⟨i, j, rfl, e1, k _ _ z1 _ _ _ x1 r1.rh rit_range⟩
def wEnum (wa : WA) : WI := fun sl h R => wa sl h fun ds h1 => ∃ n xs, ds = [.ref n] ∧ items h1 n = some xs ∧ R (itEnum n) h1
theorem li_enum {wa : WA} (hg : Gl X "enumerate") (hm : X.mg "enumerate" = none) (ha : LA X [e] wa) (hs : starEach [e] X.env = [(false, eval e X.env)] := by rfl) : LI X (.Tuple elts kk tpos) (.Call (.Name "enumerate" p) [e] [] pos) (wEnum wa) := (pi_enum hg hm ha hs).imp fun σ H R z => by
  obtain ⟨sl, h, io, q, r, z, k⟩ := z
  refine tA.go r z fun ds h1 z1 vs i1 H1 x1 r1 d1 => ?_
  obtain ⟨n, xs, rfl, e1, z1⟩ := z1
  cases d1 with
  | cons d1 q1 =>
    cases q1
    cases d1 with
    | @ref _ a i =>
      obtain ⟨vs, f1, f2⟩ := r1.rh.list e1 i
      exact ⟨a, vs, rfl, f1, k _ _ z1 _ _ _ x1 r1.rh (rit_enum i)⟩
def wZip (wa : WA) : WI := fun sl h R => wa sl h fun ds h1 => match ds with
  | [.ref a, .ref b] => ∃ xs ys, items h1 a = some xs ∧ items h1 b = some ys ∧ R (itZip a b) h1
  | [.tup xs, .tup ys] => R (itSeq ((xs.zip ys).map fun p => .tup [p.1, p.2])) h1
  | _ => False
theorem li_zip {wa : WA} (hg : Gl X "zip") (hm : X.mg "zip" = none) (ha : LA X [a, b] wa) (hs : starEach [a, b] X.env = (false, eval a X.env) :: starEach [b] X.env := by rfl) (hpl : (backTo pos (starEach [b] X.env)).any (·.1) = false := by rfl) : LI X (.Tuple elts kk tpos) (.Call (.Name "zip" p) [a, b] [] pos) (wZip wa) := (RZ.pi_zipA hg hm ha hs hpl).imp fun σ H R z => by
  obtain ⟨sl, h, io, q, r, z, k⟩ := z
  refine tA.go r z fun ds h1 z1 vs i1 H1 x1 r1 d1 => ?_
  split at z1
  · obtain ⟨xs, ys, e1, e2, z1⟩ := z1
    cases d1 with
    | cons d1 q1 => cases q1 with
      | cons d2 q2 =>
        cases q2
        cases d1 with
        | @ref _ a i => cases d2 with
          | @ref _ b i2 =>
            obtain ⟨vs, f1, f2⟩ := r1.rh.list e1 i
            obtain ⟨us, g1, g2⟩ := r1.rh.list e2 i2
            exact ⟨a, b, vs, us, rfl, .inl ⟨f1, g1, k _ _ z1 _ _ _ x1 r1.rh (rit_zip i i2)⟩⟩
  · cases d1 with
    | cons d1 q1 => cases q1 with
      | cons d2 q2 =>
        cases q2
        cases d1 with
        | @tup a vs _ ha ra => cases d2 with
          | @tup b us _ hb rb => exact ⟨a, b, vs, us, rfl, .inr ⟨ha.sq, hb.sq, k _ _ z1 _ _ _ x1 r1.rh (rit_zipT ha ra hb rb)⟩⟩
  · exact z1.elim
/-! dicts: locked as they are walked -/
def fDct (tk : Bool → Prop) (it : Nat → ItD) : D → Hd → (ItD → Hd → Prop) → Prop := fun x h R => ∃ n t lk kvs, x = .ref n ∧ h[n]? = some (.dct t lk kvs) ∧ tk t ∧ R (it n) (h.set n (.dct t true kvs))
def wOverD (w : WE) (f : D → Hd → (ItD → Hd → Prop) → Prop) : WI := fun sl h R => w sl h fun x h1 => f x h1 R
theorem set_get {n : Nat} {c c' : Cell} (e : h[n]? = some c) : (h.set n c')[n]? = some c' := List.getElem?_set_self (List.getElem?_eq_some_iff.mp e).1
theorem lockedK {d : Addr} {n : Nat} {kvs : List (D × D)} (r : RH K mg io H h) (e : h[n]? = some (.dct false true kvs)) (i : io[n]? = some d) : ∃ o ks, H d = some (.frz o (.dK ks)) := by
  obtain ⟨ks, f, q⟩ := (r.cell n _ d e i).dK
  obtain ⟨o, f⟩ := (by simpa [DOb] using f : ∃ o, H d = some (.frz o (.dK ks)))
  exact ⟨o, ks, f⟩
theorem lockedT {d : Addr} {n : Nat} {kvs : List (D × D)} (r : RH K mg io H h) (e : h[n]? = some (.dct true true kvs)) (i : io[n]? = some d) : ∃ o ks, H d = some (.frz o (.dT ks)) := by
  obtain ⟨ks, f, q⟩ := (r.cell n _ d e i).dT
  obtain ⟨o, f⟩ := (by simpa [DOb] using f : ∃ o, H d = some (.frz o (.dT ks)))
  exact ⟨o, ks, f⟩
theorem li_keys {w : WE} (he : LE X e w) : LI X tg e (wOverD w (fDct (fun _ => True) itKeys)) := (pi_keys (pe_lk he)).imp fun σ H R z => by
  obtain ⟨sl, h, io, q, r, z, k⟩ := z
  refine tE.go r z fun x h1 z1 u i1 H1 x1 r1 d1 => ?_
  obtain ⟨n, t, lk, kvs, rfl, e1, _, z1⟩ := z1
  cases d1 with
  | @ref _ a p =>
    have fin : ∀ H2, Ex i1 i1 H1 H2 → RH X.K X.mg i1 H2 (h1.set n (.dct t true kvs)) → ∃ d o, V.ref a = .ref d ∧ ((∃ kvs, H2 d = some (.frz o (.dK kvs)) ∧ R (Itk d o kvs) H2) ∨ ∃ kvs, H2 d = some (.frz o (.dT kvs)) ∧ R (Itkt d o kvs) H2) := fun H2 x2 rh2 => by
      cases t with
      | true =>
        obtain ⟨o, ks, f⟩ := lockedT rh2 (set_get e1) p
        exact ⟨a, o, rfl, .inr ⟨ks, f, k _ _ z1 _ _ _ (x1.trans x2) rh2 (rit_keysT p f)⟩⟩
      | false =>
        obtain ⟨o, ks, f⟩ := lockedK rh2 (set_get e1) p
        exact ⟨a, o, rfl, .inl ⟨ks, f, k _ _ z1 _ _ _ (x1.trans x2) rh2 (rit_keys p f)⟩⟩
    obtain ⟨v, mu, q2⟩ := r1.rh.lk e1 p
    refine ⟨a, v, rfl, mu, ?_⟩
    rcases q2 with ⟨o, f, rh⟩ | ⟨f, g⟩
    · exact .inl ⟨o, f, fin _ .refl rh⟩
    · exact .inr ⟨f, fun o => fin _ (g o).1 (g o).2⟩
theorem li_vals {w : WE} (he : LE X e w) (hbase : attributeBase e "values" X.env (eval e X.env) = eval e X.env := by rfl) (hline : (apos.endLine == cpos.line) = true := by rfl) : LI X tg (.Call (.Attribute e "values" apos) [] [] cpos) (wOverD w (fDct (· = false) itVals)) := (pi_values (pe_lk he) hbase hline).imp fun σ H R z => by
  obtain ⟨sl, h, io, q, r, z, k⟩ := z
  refine tE.go r z fun x h1 z1 u i1 H1 x1 r1 d1 => ?_
  obtain ⟨n, t, lk, kvs, rfl, e1, rfl, z1⟩ := z1
  cases d1 with
  | @ref _ a p =>
    have fin : ∀ H2, Ex i1 i1 H1 H2 → RH X.K X.mg i1 H2 (h1.set n (.dct false true kvs)) → ∃ d o kvs, V.ref a = .ref d ∧ H2 d = some (.frz o (.dK kvs)) ∧ R (Itd d o kvs) H2 := fun H2 x2 rh2 => by
      obtain ⟨o, ks, f⟩ := lockedK rh2 (set_get e1) p
      exact ⟨a, o, ks, rfl, f, k _ _ z1 _ _ _ (x1.trans x2) rh2 (rit_vals p f)⟩
    obtain ⟨v, mu, q2⟩ := r1.rh.lk e1 p
    refine ⟨a, v, rfl, mu, ?_⟩
    rcases q2 with ⟨o, f, rh⟩ | ⟨f, g⟩
    · exact .inl ⟨o, f, fin _ .refl rh⟩
    · exact .inr ⟨f, fun o => fin _ (g o).1 (g o).2⟩
theorem li_items {w : WE} (he : LE X e w) (hbase : attributeBase e "items" X.env (eval e X.env) = eval e X.env := by rfl) (hline : (apos.endLine == cpos.line) = true := by rfl) : LI X (.Tuple elts kk tpos) (.Call (.Attribute e "items" apos) [] [] cpos) (wOverD w (fDct (· = false) itItems)) := (pi_items (pe_lk he) hbase hline).imp fun σ H R z => by
  obtain ⟨sl, h, io, q, r, z, k⟩ := z
  refine tE.go r z fun x h1 z1 u i1 H1 x1 r1 d1 => ?_
  obtain ⟨n, t, lk, kvs, rfl, e1, rfl, z1⟩ := z1
  cases d1 with
  | @ref _ a p =>
    have fin : ∀ H2, Ex i1 i1 H1 H2 → RH X.K X.mg i1 H2 (h1.set n (.dct false true kvs)) → ∃ d o kvs, V.ref a = .ref d ∧ H2 d = some (.frz o (.dK kvs)) ∧ R (Iti d o kvs) H2 := fun H2 x2 rh2 => by
      obtain ⟨o, ks, f⟩ := lockedK rh2 (set_get e1) p
      exact ⟨a, o, ks, rfl, f, k _ _ z1 _ _ _ (x1.trans x2) rh2 (rit_items p f)⟩
    obtain ⟨v, mu, q2⟩ := r1.rh.lk e1 p
    refine ⟨a, v, rfl, mu, ?_⟩
    rcases q2 with ⟨o, f, rh⟩ | ⟨f, g⟩
    · exact .inl ⟨o, f, fin _ .refl rh⟩
    · exact .inr ⟨f, fun o => fin _ (g o).1 (g o).2⟩
theorem li_itemsT {w : WE} (he : LE X e w) (hbase : attributeBase e "items" X.env (eval e X.env) = eval e X.env := by rfl) (hline : (apos.endLine == cpos.line) = true := by rfl) : LI X (.Tuple elts kk tpos) (.Call (.Attribute e "items" apos) [] [] cpos) (wOverD w (fDct (· = true) itItems)) := (pi_itemsT (pe_lk he) hbase hline).imp fun σ H R z => by
  obtain ⟨sl, h, io, q, r, z, k⟩ := z
  refine tE.go r z fun x h1 z1 u i1 H1 x1 r1 d1 => ?_
  obtain ⟨n, t, lk, kvs, rfl, e1, rfl, z1⟩ := z1
  cases d1 with
  | @ref _ a p =>
    have fin : ∀ H2, Ex i1 i1 H1 H2 → RH X.K X.mg i1 H2 (h1.set n (.dct true true kvs)) → ∃ d o kvs, V.ref a = .ref d ∧ H2 d = some (.frz o (.dT kvs)) ∧ R (Itit d o kvs) H2 := fun H2 x2 rh2 => by
      obtain ⟨o, ks, f⟩ := lockedT rh2 (set_get e1) p
      exact ⟨a, o, ks, rfl, f, k _ _ z1 _ _ _ (x1.trans x2) rh2 (rit_itemsT p f)⟩
    obtain ⟨v, mu, q2⟩ := r1.rh.lk e1 p
    refine ⟨a, v, rfl, mu, ?_⟩
    rcases q2 with ⟨o, f, rh⟩ | ⟨f, g⟩
    · exact .inl ⟨o, f, fin _ .refl rh⟩
    · exact .inr ⟨f, fun o => fin _ (g o).1 (g o).2⟩

/-! ### for -/
def wFor (wi : WI) (g : WG) (wb : WS) : WS := fun E sl h => wi sl h fun t h1 => ∃ W : Nat → Nat → Sd → Hd → Prop, (∃ m, W 0 m sl h1) ∧ ∀ i m sl h, W i m sl h →
  (t i h = some none ∧ E.nx sl h) ∨ ∃ d, t i h = some (some d) ∧ ∃ N : Sd → Hd → Prop, (∀ sl' h', N sl' h' → ∃ m', m' < m ∧ W (i + 1) m' sl' h') ∧ g d sl h fun sl2 h2 => wb { E with nx := N, ct := N, bk := E.nx } sl2 h2
theorem ls_for {body : List Stmt} {wi : WI} {g : WG} {wb : WS} (hp : PassesOwn (model X.prog X.w) X.A X.env X.xe) (hc : X.calm = true) (hi : LI X tg ie wi) (hg : LG X tg g) (hb : LSs X body wb)
    (hs : ∀ x, foldedSetIterable ie X.env x = pure x := by intro _; rfl) : LS X (.For tg ie body [] pos) (wFor wi g wb) := (ps_for hp hc hi hg hb hs).imp fun D σ H z => by
  obtain ⟨sl, h, io, q, r, z, k⟩ := z
  refine ⟨sl, h, io, _, r, z, fun t h1 z1 J i1 H1 x1 rh1 rit => ?_⟩
  obtain ⟨W, ⟨m0, w0⟩, turn⟩ := z1
  refine ⟨fun i m σ' H' => ∃ sl' h' io', Ex i1 io' H1 H' ∧ Rel X.K X.mg sl' σ' io' H' h' ∧ W i m sl' h', ⟨m0, sl, h1, i1, .refl, r.on x1 rh1, w0⟩, ?_⟩
  rintro i m σ2 H2 ⟨sl2, h2, i2, x2, r2, w2⟩
  obtain ⟨st, gg⟩ := rit i i2 H2 h2 x2.z r2.rh
  rcases turn i m sl2 h2 w2 with ⟨e, z2⟩ | ⟨d, e, N, hN, z2⟩
  · exact .inl ⟨st e, k.nx _ _ z2 _ _ _ (x1.trans x2) r2⟩
  · obtain ⟨go, yl⟩ := gg d e
    refine .inr ⟨go, fun σ' H' => ∃ sl' h' io', Ex i1 io' H1 H' ∧ Rel X.K X.mg sl' σ' io' H' h' ∧ N sl' h', fun σ' H' ⟨sl', h', io', x', r', n'⟩ => ?_, fun x H3 y => ?_⟩
    · obtain ⟨m', hm, w'⟩ := hN sl' h' n'
      exact ⟨m', hm, sl', h', io', x', r', w'⟩
    · obtain ⟨x3, rh3, d3⟩ := yl x H3 y
      refine ⟨d, sl2, h2, i2, _, r2.on x3 rh3, d3, z2, fun sl4 h4 z4 σ4 i4 H4 x4 r4 => ?_⟩
      have x14 := (x2.trans x3).trans x4
      have k4 := k.on (x1.trans x14)
      exact ⟨sl4, h4, i4, _, r4, z4, ⟨fun sl' h' n' σ' io' H' x' r' => ⟨sl', h', io', x14.trans x', r', n'⟩, k4.rt, k4.nx, fun sl' h' n' σ' io' H' x' r' => ⟨sl', h', io', x14.trans x', r', n'⟩⟩⟩
end
/-- a loop over what stays a fixed row -/
theorem for_by {t : ItD} {g : WG} {wb : WS} {E : EndsD} {sl : Sd} {h : Hd} (xs : List D) (Pv : Nat → Sd → Hd → Prop) (h0 : Pv 0 sl h) (ht : ∀ i sl h, i ≤ xs.length → Pv i sl h → t i h = some xs[i]?)
    (hs : ∀ i x sl h, xs[i]? = some x → Pv i sl h → g x sl h fun sl2 h2 => wb { E with nx := Pv (i + 1), ct := Pv (i + 1), bk := E.nx } sl2 h2) (hd : ∀ sl h, Pv xs.length sl h → E.nx sl h) :
    ∃ W : Nat → Nat → Sd → Hd → Prop, (∃ m, W 0 m sl h) ∧ ∀ i m sl h, W i m sl h →
      (t i h = some none ∧ E.nx sl h) ∨ ∃ d, t i h = some (some d) ∧ ∃ N : Sd → Hd → Prop, (∀ sl' h', N sl' h' → ∃ m', m' < m ∧ W (i + 1) m' sl' h') ∧ g d sl h fun sl2 h2 => wb { E with nx := N, ct := N, bk := E.nx } sl2 h2 := by
  refine ⟨fun i m σ H => m = xs.length - i ∧ i ≤ xs.length ∧ Pv i σ H, ⟨xs.length, by simp, Nat.zero_le _, h0⟩, ?_⟩
  rintro i m σ H ⟨rfl, hi, p⟩
  have q := ht i σ H hi p
  by_cases hlt : i < xs.length
  · have e : xs[i]? = some xs[i] := List.getElem?_eq_getElem hlt
    refine .inr ⟨xs[i], by rw [q, e], Pv (i + 1), fun σ' H' p' => ⟨xs.length - (i + 1), by omega, rfl, hlt, p'⟩, hs i _ σ H e p⟩
  · have e : i = xs.length := by omega
    subst e
    exact .inl ⟨by rw [q, List.getElem?_eq_none (Nat.le_refl _)], hd σ H p⟩
end MP

set_option Elab.async false
set_option linter.all false
set_option maxRecDepth 100000
set_option maxHeartbeats 2000000
/-! MpJ: comprehensions. -/
namespace MP
open PySem PySem.Spec
open PyProof.Rows hiding St
open L2

section
variable {X : Cx} {j : Nat} {a b c e o ie tg tg1 iter iter1 elt kx vx : Expr} {pos pos' p apos cpos tpos : Pos} {es elts ifs ifs1 : List Expr} {kk : Nat} {scope : Scope} {own : List (Str × Nat)} {vs vs1 : List Nat}
variable {K : PySem.W.Frag} {mg : Str → Option Value} {io io' : List Addr} {H H' : Hp} {h h' : Hd} {sl : Sd} {σ : L2.St}
def wipeD (sl : Sd) : List Nat → Sd
  | [] => sl
  | v :: vs => (wipeD sl vs).set v none
theorem Rel.unset (r : Rel K mg sl σ io H h) (i : Nat) : Rel K mg (sl.set i none) (σ.set i none) io H h := by
  refine ⟨r.rh, by simp [r.len], fun k d' e => ?_⟩
  by_cases z : i = k
  · subst z
    have hl : i < sl.length := by
      have := (List.getElem?_eq_some_iff.mp e).1
      simpa using this
    rw [List.getElem?_set_self hl] at e
    cases e
  · rw [List.getElem?_set_ne z] at e
    obtain ⟨w, e1, e2⟩ := r.slot k d' e
    exact ⟨w, by rw [List.getElem?_set_ne z]; exact e1, e2⟩
theorem Rel.wipe (r : Rel K mg sl σ io H h) : ∀ vs : List Nat, Rel K mg (wipeD sl vs) (L2.wipe σ vs) io H h
  | [] => r
  | v :: vs => (Rel.wipe r vs).unset v
theorem wipe_ext : ∀ {vs : List Nat} {σ σ' : L2.St}, σ'.length = σ.length → (∀ i, i ∉ vs → σ'[i]? = σ[i]?) → L2.wipe σ' vs = L2.wipe σ vs := by
  intro vs σ σ' hl h
  refine List.ext_getElem? fun i => ?_
  by_cases hi : i ∈ vs
  · have g : ∀ {vs : List Nat} (τ : L2.St), i ∈ vs → (L2.wipe τ vs)[i]? = if i < τ.length then some none else none := by
      intro vs
      induction vs with
      | nil => intro τ m; cases m
      | cons v vs ih =>
        intro τ m
        unfold L2.wipe
        by_cases z : v = i
        · subst z
          by_cases hh : v < τ.length
          · rw [List.getElem?_set_self (by rw [wipe_length]; exact hh), if_pos hh]
          · rw [List.getElem?_eq_none (by rw [List.length_set, wipe_length]; omega), if_neg hh]
        · rw [List.getElem?_set_ne z]
          rcases List.mem_cons.mp m with m | m
          · exact absurd m.symm z
          · exact ih τ m
    rw [g σ' hi, g σ hi, hl]
  · rw [wipe_out hi, wipe_out hi]; exact h i hi

theorem Rel.onZ (r : Rel K mg sl σ io H h) (x : Ez io io' H H') (r' : RH K mg io' H' h') : Rel K mg sl σ io' H' h' :=
  ⟨r', r.len, fun i d e => let ⟨v, e1, e2⟩ := r.slot i d e; ⟨v, e1, e2.monoY x.y⟩⟩
/-! targets within a block: nothing but the slots vs changes -/
structure Only' (vs : List Nat) (σ σ' : L2.St) : Prop where
  len : σ'.length = σ.length
  out : ∀ i, i ∉ vs → σ'[i]? = σ[i]?
theorem Only'.refl : Only' vs σ σ := ⟨rfl, fun _ _ => rfl⟩
theorem Only'.trans {σ1 σ2 σ3 : L2.St} (a : Only' vs σ1 σ2) (b : Only' vs σ2 σ3) : Only' vs σ1 σ3 := ⟨b.len.trans a.len, fun i h => (b.out i h).trans (a.out i h)⟩
theorem Only'.wipe {σ' : L2.St} (a : Only' vs σ σ') : L2.wipe σ' vs = L2.wipe σ vs := wipe_ext a.len a.out
def KnO (K : PySem.W.Frag) (mg : Str → Option Value) (vs : List Nat) (σ : L2.St) (io : List Addr) (H : Hp) (q : Sd → Hd → Prop) (Q : L2.St → Hp → Prop) : Prop :=
  ∀ sl' h', q sl' h' → ∀ σ' io' H', Ex io io' H H' → Rel K mg sl' σ' io' H' h' → Only' vs σ σ' → Q σ' H'
def tGo (K : PySem.W.Frag) (mg : Str → Option Value) (vs : List Nat) (w : WG) : TG := fun v σ H Q => ∃ d sl h io q, Rel K mg sl σ io H h ∧ RD io H d v ∧ w d sl h q ∧ KnO K mg vs σ io H q Q
def tGos (K : PySem.W.Frag) (mg : Str → Option Value) (vs : List Nat) (w : WGs) : TGs := fun v σ H Q => ∃ d sl h io q, Rel K mg sl σ io H h ∧ RDs io H d v ∧ w d sl h q ∧ KnO K mg vs σ io H q Q
abbrev LGo (X : Cx) (vs : List Nat) (e : Expr) (w : WG) : Prop := PG X e (tGo X.K X.mg vs w)
abbrev LGos (X : Cx) (vs : List Nat) (e : List Expr) (w : WGs) : Prop := PGs X e (tGos X.K X.mg vs w)
theorem lo_name {i : Nat} {x : Str} (hv : i ∈ vs) (hN : X.N.Nodup) (hi : X.N[i]? = some x) (hx : Loc X.env.scope x) (hf : X.fn x = true ∨ X.env.scope.names.lookup x = some .local) : LGo X vs (.Name x pos) (wNm i) := (pg_name hN hi hx hf).imp fun v σ H Q z => by
  obtain ⟨d, sl, h, io, q, r, rd, z, k⟩ := z
  exact k _ _ z _ _ _ .refl (r.set i rd) ⟨by simp, fun k hk => by rw [List.getElem?_set_ne (fun e => hk (by rw [← e]; exact hv))]⟩
theorem los_nil : LGos X vs [] wG0 := pgs_nil.imp fun v σ H Q z => by
  obtain ⟨d, sl, h, io, q, r, rd, ⟨rfl, z⟩, k⟩ := z
  cases rd
  exact ⟨rfl, k _ _ z _ _ _ .refl r .refl⟩
theorem los_cons {w : WG} {u : WGs} (h1 : LGo X vs e w) (h2 : LGos X vs es u) (hs : (assignEach (e :: es) X.env).map (·.2) = assign e X.env :: (assignEach es X.env).map (·.2) := by rfl) : LGos X vs (e :: es) (wG1 w u) := (pgs_cons h1 h2 hs).imp fun v σ H Q z => by
  obtain ⟨ds, sl, h, io, q, r, rd, ⟨d, dr, rfl, z⟩, k⟩ := z
  cases rd with
  | cons rd rr => exact ⟨_, _, rfl, d, sl, h, io, _, r, rd, z, fun sl1 h1 z1 σ1 io1 H1 x1 r1 o1 => ⟨dr, sl1, h1, io1, q, r1, rr.mono x1, z1, fun sl2 h2 z2 σ2 io2 H2 x2 r2 o2 => k _ _ z2 _ _ _ (x1.trans x2) r2 (o1.trans o2)⟩⟩
theorem lo_tup {k n : Nat} {u : WGs} (hc : X.calm = true) (h : LGos X vs es u) (hn : (assignEach es X.env).length = n := by rfl) (hst : (assignEach es X.env).findIdx? (·.1) = none := by rfl) : LGo X vs (.Tuple es k pos) (wGT n u) := (pg_tup hc h hn hst).imp fun v σ H Q z => by
  obtain ⟨d, sl, h, io, q, r, rd, ⟨ds, rfl, hl, z⟩, k⟩ := z
  cases rd with
  | tup ha ra => exact ⟨_, _, rfl, ha.sq, by rw [← ra.length]; exact hl, ds, sl, h, io, q, r, ra, z, k⟩

/-! tests -/
abbrev LTs (X : Cx) (ifs : List Expr) (w : WT) : Prop := PTs X ifs (tT X.K X.mg w)
theorem _root_.L2.PTs.imp {e : List Expr} {t t' : TT} (h : PTs X e t) (i : ∀ σ H Q, t' σ H Q → t σ H Q) : PTs X e t' := ⟨fun pins s σ H Q I z => h.run pins s σ H Q I (i σ H Q z)⟩
def wYes : WT := fun _ h Q => Q true h
theorem lts_nil : LTs X [] wYes := pts_nil.imp fun σ H Q z => by
  obtain ⟨sl, h, io, q, r, z, k⟩ := z
  exact k _ _ z _ _ .refl r.rh
theorem lts_one {w : WT} (h : LT X c w) : LTs X [c] w := pts_one h

/-! list comprehensions -/
def wLc (wi : WI) (g : WG) (tt : WT) (te : WE) (vs : List Nat) : WE := fun sl h Q => wi sl h fun t h1 => ∃ W : Nat → Nat → List D → Hd → Prop, (∃ m, W 0 m [] h1) ∧ ∀ i m acc h, W i m acc h →
  (t i h = some none ∧ Q (.ref h.length) (h ++ [.lst acc])) ∨ ∃ d, t i h = some (some d) ∧ ∃ N : List D → Hd → Prop, (∀ acc' h', N acc' h' → ∃ m', m' < m ∧ W (i + 1) m' acc' h') ∧ g d (wipeD sl vs) h fun sl2 h2 => tt sl2 h2 fun b h3 =>
    if b = true then te sl2 h3 fun y h4 => acc.length < sizeLine ∧ N (acc ++ [y]) h4 else N acc h3
theorem lc_imp {wi : WI} {g : WG} {tt : WT} {te : WE} : ∀ σ H Q, tE K mg (wLc wi g tt te vs) σ H Q → tLc (tI K mg wi) (tGo K mg vs g) (tT K mg tt) (tE K mg te) vs σ H Q := by
  intro σ H Q z
  obtain ⟨sl, h, io, q, r, z, k⟩ := z
  refine ⟨sl, h, io, _, r, z, fun t h1 z1 J i1 H1 x1 rh1 rit D hD => ?_⟩
  obtain ⟨W, ⟨m0, w0⟩, turn⟩ := z1
  have nD : D ∉ i1 := rh1.nin hD
  refine ⟨fun i m H' => ∃ acc vs' h' io', Ex i1 io' H1 H' ∧ D ∉ io' ∧ RH K mg io' H' h' ∧ H' D = some (.lst vs') ∧ RDs io' H' acc vs' ∧ W i m acc h', ⟨m0, [], [], h1, i1, ex_upd hD, nD, rh1.new hD, upd_same, .nil, w0⟩, ?_⟩
  rintro i m H2 ⟨acc, vs2, h2, i2, x2, n2, rh2, e2, rd2, w2⟩
  have upg : ∀ {i3 : List Addr} {H3 : Hp}, Ex i2 i3 H2 H3 → Ex i1 i3 H1 H3 := fun x3 => x2.trans x3
  rcases turn i m acc h2 w2 with ⟨e, z2⟩ | ⟨d, e, N, hN, z2⟩
  · left
    refine ⟨(rit i i2 H2 h2 x2.z rh2).1 e, ?_⟩
    have xa := ex_adopt x2 hD
    exact k _ _ z2 _ _ _ (x1.trans xa) (rh2.adopt n2 ⟨vs2, e2, rd2.mono1 (List.prefix_append _ _)⟩) (.ref (push_at rh2 D))
  · right
    obtain ⟨go, yl⟩ := (rit i i2 H2 h2 x2.z rh2).2 d e
    refine ⟨go, fun H' => ∃ acc vs' h' io', Ex i1 io' H1 H' ∧ D ∉ io' ∧ RH K mg io' H' h' ∧ H' D = some (.lst vs') ∧ RDs io' H' acc vs' ∧ N acc h', fun H' ⟨acc', vs', h', io', p1, p2, p3, p4, p5, n'⟩ => ?_, fun x H3 y => ?_⟩
    · obtain ⟨m', hm, w'⟩ := hN acc' h' n'
      exact ⟨m', hm, acc', vs', h', io', p1, p2, p3, p4, p5, w'⟩
    · obtain ⟨x3, rh3, d3⟩ := yl x H3 y
      have r3 : Rel K mg (wipeD sl vs) (L2.wipe σ vs) i2 H3 h2 := (r.wipe vs).on ((x1.trans x2).trans x3) rh3
      refine ⟨d, wipeD sl vs, h2, i2, _, r3, d3, z2, fun sl4 h4 z4 σ4 i4 H4 x4 r4 o4 => ⟨?_, ?_⟩⟩
      · have := o4.wipe
        rw [this]
        exact wipe_ext (wipe_length _ _) fun i hi => wipe_out hi
      · refine tT.go r4 z4 fun b h5 z5 i5 H5 x5 r5 => ?_
        have x25 := (x3.trans x4).trans x5
        have e5 : H5 D = some (.lst vs2) := x25.oth D _ e2 n2
        cases b with
        | false =>
          rw [if_neg Bool.false_ne_true] at z5 ⊢
          exact ⟨acc, vs2, h5, i5, x2.trans x25, x25.nin e2 n2, r5.rh, e5, rd2.mono x25, z5⟩
        | true =>
          rw [if_pos rfl] at z5 ⊢
          refine tE.go r5 z5 fun y h6 z6 u i6 H6 x6 r6 d6 => ?_
          obtain ⟨hl, z6⟩ := z6
          have x26 := x25.trans x6
          have e6 : H6 D = some (.lst vs2) := x26.oth D _ e2 n2
          have n6 := x26.nin e2 n2
          have rd6 := rd2.mono x26
          have y6 := ey_priv (io := i6) (o := .lst (vs2 ++ [u])) e6 (fun _ z => nomatch z)
          refine ⟨vs2, e6, by rw [← rd2.length]; exact hl, acc ++ [y], vs2 ++ [u], h6, i6, ex_priv (x2.trans x26) hD, n6, r6.rh.priv n6 e6 (fun _ z => nomatch z) (fun _ z => nomatch z), upd_same, ?_, z6⟩
          exact (rd6.monoY y6).append (.cons (d6.monoY y6) .nil)
/-- what a block's rules are told of -/
abbrev inBlk (X : Cx) (scope : Scope) (P : Cx → Prop) : Prop := ∀ (s : Shared) (H : Hp) (C : Addr) (cl : List (Str × Addr)) (fp : List Addr), P (X.blk s H scope (compEnvC scope cl C X.env) fp)
theorem le_lc {wi : WI} {g : WG} {tt : WT} {te : WE} (hc : X.calm = true) (hN : X.N.Nodup) (hi : LI X tg iter wi) (ok : BlkOk X.N X.env.scope scope own)
    (hg : inBlk X scope fun Y => LGo Y (own.map (·.2)) tg g) (ht : inBlk X scope fun Y => LTs Y ifs tt) (he : inBlk X scope fun Y => LE Y elt te) (hs : ∀ x, foldedSetIterable iter X.env x = pure x := by intro _; rfl) :
    LE X (.ListComp elt [⟨tg, iter, ifs, 0⟩] scope pos) (wLc wi g tt te (own.map (·.2))) := (pe_lc hc hN hi ok hg ht he hs).imp lc_imp
theorem ls_setLc {i : Nat} {y : Str} {py spos : Pos} {wi : WI} {g : WG} {tt : WT} {te : WE} (hc : X.calm = true) (hN : X.N.Nodup) (hy : X.N[i]? = some y) (hyl : X.env.scope.names.lookup y = some .local)
    (hsw : swapsWith (.ListComp elt [⟨tg, iter, ifs, 0⟩] scope pos) (some (.Name y py)) spos.line X.env = pure true) (hi : LI X tg iter wi) (ok : BlkOk X.N X.env.scope scope own)
    (hg : inBlk X scope fun Y => LGo Y (own.map (·.2)) tg g) (ht : inBlk X scope fun Y => LTs Y ifs tt) (he : inBlk X scope fun Y => LE Y elt te) (hs : ∀ x, foldedSetIterable iter X.env x = pure x := by intro _; rfl) :
    LS X (.Assign [.Name y py] (.ListComp elt [⟨tg, iter, ifs, 0⟩] scope pos) spos) (wAsg (wLc wi g tt te (own.map (·.2))) (wNm i)) := (ps_setLc hc hN hy hyl hsw hi ok hg ht he hs).imp fun D σ H z => by
  obtain ⟨sl, h, io, q, r, z, k⟩ := z
  exact lc_imp σ H _ (tE.go r z fun x h1 z1 u i1 H1 x1 r1 d1 => k.nx _ _ z1 _ _ _ x1 (r1.set i d1))

/-! two clauses -/
def wLc2 (wi : WI) (g : WG) (tt : WT) (wi1 : WI) (g1 : WG) (tt1 : WT) (te : WE) (vs vs1 : List Nat) : WE := fun sl h Q => wi sl h fun t h1 => ∃ W : Nat → Nat → List D → Hd → Prop, (∃ m, W 0 m [] h1) ∧ ∀ i m acc h, W i m acc h →
  (t i h = some none ∧ Q (.ref h.length) (h ++ [.lst acc])) ∨ ∃ d, t i h = some (some d) ∧ ∃ N : List D → Hd → Prop, (∀ acc' h', N acc' h' → ∃ m', m' < m ∧ W (i + 1) m' acc' h') ∧ g d (wipeD sl vs) h fun sl2 h2 => tt sl2 h2 fun b h3 =>
    if b = true then wi1 sl2 h3 fun t1 h4 => ∃ W1 : Nat → Nat → List D → Hd → Prop, (∃ m, W1 0 m acc h4) ∧ ∀ j k acc h, W1 j k acc h →
      (t1 j h = some none ∧ N acc h) ∨ ∃ d, t1 j h = some (some d) ∧ ∃ N1 : List D → Hd → Prop, (∀ acc' h', N1 acc' h' → ∃ k', k' < k ∧ W1 (j + 1) k' acc' h') ∧ g1 d (wipeD sl2 vs1) h fun sl3 h5 => tt1 sl3 h5 fun b h6 =>
        if b = true then te sl3 h6 fun y h7 => acc.length < sizeLine ∧ N1 (acc ++ [y]) h7 else N1 acc h6
    else N acc h3
theorem lc2_imp {wi wi1 : WI} {g g1 : WG} {tt tt1 : WT} {te : WE} : ∀ σ H Q, tE K mg (wLc2 wi g tt wi1 g1 tt1 te vs vs1) σ H Q →
    tLc2 (tI K mg wi) (tGo K mg vs g) (tT K mg tt) (tI K mg wi1) (tGo K mg vs1 g1) (tT K mg tt1) (tE K mg te) vs vs1 σ H Q := by
  intro σ H Q z
  obtain ⟨sl, h, io, q, r, z, k⟩ := z
  refine ⟨sl, h, io, _, r, z, fun t h1 z1 J i1 H1 x1 rh1 rit D hD => ?_⟩
  obtain ⟨W, ⟨m0, w0⟩, turn⟩ := z1
  have nD : D ∉ i1 := rh1.nin hD
  refine ⟨fun i m H' => ∃ acc vs' h' io', Ex i1 io' H1 H' ∧ D ∉ io' ∧ RH K mg io' H' h' ∧ H' D = some (.lst vs') ∧ RDs io' H' acc vs' ∧ W i m acc h', ⟨m0, [], [], h1, i1, ex_upd hD, nD, rh1.new hD, upd_same, .nil, w0⟩, ?_⟩
  rintro i m H2 ⟨acc, vs2, h2, i2, x2, n2, rh2, e2, rd2, w2⟩
  rcases turn i m acc h2 w2 with ⟨e, z2⟩ | ⟨d, e, N, hN, z2⟩
  · left
    refine ⟨(rit i i2 H2 h2 x2.z rh2).1 e, ?_⟩
    have xa := ex_adopt x2 hD
    exact k _ _ z2 _ _ _ (x1.trans xa) (rh2.adopt n2 ⟨vs2, e2, rd2.mono1 (List.prefix_append _ _)⟩) (.ref (push_at rh2 D))
  · right
    obtain ⟨go, yl⟩ := (rit i i2 H2 h2 x2.z rh2).2 d e
    refine ⟨go, fun H' => ∃ acc vs' h' io', Ex i1 io' H1 H' ∧ D ∉ io' ∧ RH K mg io' H' h' ∧ H' D = some (.lst vs') ∧ RDs io' H' acc vs' ∧ N acc h', fun H' ⟨acc', vs', h', io', p1, p2, p3, p4, p5, n'⟩ => ?_, fun x H3 y => ?_⟩
    · obtain ⟨m', hm, w'⟩ := hN acc' h' n'
      exact ⟨m', hm, acc', vs', h', io', p1, p2, p3, p4, p5, w'⟩
    · obtain ⟨x3, rh3, d3⟩ := yl x H3 y
      have r3 : Rel K mg (wipeD sl vs) (L2.wipe σ vs) i2 H3 h2 := (r.wipe vs).on ((x1.trans x2).trans x3) rh3
      refine ⟨d, wipeD sl vs, h2, i2, _, r3, d3, z2, fun sl4 h4 z4 σ4 i4 H4 x4 r4 o4 => ⟨?_, ?_⟩⟩
      · have := o4.wipe
        rw [this]
        exact wipe_ext (wipe_length _ _) fun i hi => wipe_out hi
      · refine tT.go r4 z4 fun b h5 z5 i5 H5 x5 r5 => ?_
        have x25 := (x3.trans x4).trans x5
        have e5 : H5 D = some (.lst vs2) := x25.oth D _ e2 n2
        have n5 := x25.nin e2 n2
        cases b with
        | false =>
          rw [if_neg Bool.false_ne_true] at z5 ⊢
          exact ⟨acc, vs2, h5, i5, x2.trans x25, n5, r5.rh, e5, rd2.mono x25, z5⟩
        | true =>
          rw [if_pos rfl] at z5 ⊢
          refine ⟨sl4, h5, i5, _, r5, z5, fun t1 h6 z6 J1 i6 H6 x6 rh6 rit1 => ?_⟩
          obtain ⟨W1, ⟨k0, v0⟩, turn1⟩ := z6
          have x16 := (x2.trans x25).trans x6
          have e6 := x6.oth D _ e5 n5
          have n6 := x6.nin e5 n5
          -- what holds at the inner turns
          refine ⟨fun j k H' => ∃ acc vs' h' io', Ez i6 io' H6 H' ∧ Ex i1 io' H1 H' ∧ D ∉ io' ∧ RH K mg io' H' h' ∧ H' D = some (.lst vs') ∧ RDs io' H' acc vs' ∧ W1 j k acc h', ⟨k0, acc, vs2, h6, i6, Ex.refl.z, x16, n6, rh6, e6, (rd2.mono x25).mono x6, v0⟩, ?_⟩
          rintro j kk H7 ⟨acc7, vs7, h7, i7, y7, x7, n7, rh7, e7, rd7, v7⟩
          rcases turn1 j kk acc7 h7 v7 with ⟨e, z7⟩ | ⟨d', e, N1, hN1, z7⟩
          · exact .inl ⟨(rit1 j i7 H7 h7 y7 rh7).1 e, acc7, vs7, h7, i7, x7, n7, rh7, e7, rd7, z7⟩
          · right
            obtain ⟨go1, yl1⟩ := (rit1 j i7 H7 h7 y7 rh7).2 d' e
            refine ⟨go1, fun H' => ∃ acc vs' h' io', Ez i6 io' H6 H' ∧ Ex i1 io' H1 H' ∧ D ∉ io' ∧ RH K mg io' H' h' ∧ H' D = some (.lst vs') ∧ RDs io' H' acc vs' ∧ N1 acc h', fun H' ⟨acc', vs', h', io', p0, p1, p2, p3, p4, p5, n'⟩ => ?_, fun x H8 y => ?_⟩
            · obtain ⟨k', hk, w'⟩ := hN1 acc' h' n'
              exact ⟨k', hk, acc', vs', h', io', p0, p1, p2, p3, p4, p5, w'⟩
            · obtain ⟨x8, rh8, d8⟩ := yl1 x H8 y
              -- the slots of the block as they stood behind the first clause
              have r8 : Rel K mg (wipeD sl4 vs1) (L2.wipe σ4 vs1) i7 H8 h7 := by
                have r6 := r5.on x6 rh6
                exact (r6.onZ y7 rh7).on x8 rh8 |>.wipe vs1
              refine ⟨d', wipeD sl4 vs1, h7, i7, _, r8, d8, z7, fun sl9 h9 z9 σ9 i9 H9 x9 r9 o9 => ⟨?_, ?_⟩⟩
              · rw [o9.wipe]
                exact wipe_ext (wipe_length _ _) fun i hi => wipe_out hi
              · refine tT.go r9 z9 fun b h10 z10 i10 H10 x10 r10 => ?_
                have xx := (x8.trans x9).trans x10
                have e10 := xx.oth D _ e7 n7
                have n10 := xx.nin e7 n7
                cases b with
                | false =>
                  rw [if_neg Bool.false_ne_true] at z10 ⊢
                  exact ⟨acc7, vs7, h10, i10, y7.trans xx.z, x7.trans xx, n10, r10.rh, e10, rd7.mono xx, z10⟩
                | true =>
                  rw [if_pos rfl] at z10 ⊢
                  refine tE.go r10 z10 fun y h11 z11 u i11 H11 x11 r11 d11 => ?_
                  obtain ⟨hl, z11⟩ := z11
                  have xx2 := xx.trans x11
                  have e11 := xx2.oth D _ e7 n7
                  have n11 := xx2.nin e7 n7
                  have y11 := ey_priv (io := i11) (o := .lst (vs7 ++ [u])) e11 (fun _ z => nomatch z)
                  refine ⟨vs7, e11, by rw [← rd7.length]; exact hl, acc7 ++ [y], vs7 ++ [u], h11, i11, (y7.trans xx2.z).trans (ez_priv e11 (fun _ z => nomatch z) (fun _ _ z => nomatch z)), ex_priv (x7.trans xx2) hD, n11, r11.rh.priv n11 e11 (fun _ z => nomatch z) (fun _ z => nomatch z), upd_same, ?_, z11⟩
                  exact ((rd7.mono xx2).monoY y11).append (.cons (d11.monoY y11) .nil)
theorem le_lc2 {wi wi1 : WI} {g g1 : WG} {tt tt1 : WT} {te : WE} (hc : X.calm = true) (hN : X.N.Nodup) (hi : LI X tg iter wi) (ok : BlkOk X.N X.env.scope scope own) (hv : ∀ i ∈ vs1, i ∈ own.map (·.2))
    (hg : inBlk X scope fun Y => LGo Y (own.map (·.2)) tg g) (ht : inBlk X scope fun Y => LTs Y ifs tt) (hi1 : inBlk X scope fun Y => LI Y tg1 iter1 wi1) (hg1 : inBlk X scope fun Y => LGo Y vs1 tg1 g1) (ht1 : inBlk X scope fun Y => LTs Y ifs1 tt1)
    (he : inBlk X scope fun Y => LE Y elt te) (hs : ∀ x, foldedSetIterable iter X.env x = pure x := by intro _; rfl) (hs1 : ∀ env x, foldedSetIterable iter1 env x = pure x := by intro _ _; rfl) :
    LE X (.ListComp elt [⟨tg, iter, ifs, 0⟩, ⟨tg1, iter1, ifs1, 0⟩] scope pos) (wLc2 wi g tt wi1 g1 tt1 te (own.map (·.2)) vs1) := (pe_lc2 hc hN hi ok hv hg ht hi1 hg1 ht1 he hs hs1).imp lc2_imp
theorem ls_setLc2 {i : Nat} {y : Str} {py spos : Pos} {wi wi1 : WI} {g g1 : WG} {tt tt1 : WT} {te : WE} (hc : X.calm = true) (hN : X.N.Nodup) (hy : X.N[i]? = some y) (hyl : X.env.scope.names.lookup y = some .local)
    (hsw : swapsWith (.ListComp elt [⟨tg, iter, ifs, 0⟩, ⟨tg1, iter1, ifs1, 0⟩] scope pos) (some (.Name y py)) spos.line X.env = pure true) (hi : LI X tg iter wi) (ok : BlkOk X.N X.env.scope scope own) (hv : ∀ i ∈ vs1, i ∈ own.map (·.2))
    (hg : inBlk X scope fun Y => LGo Y (own.map (·.2)) tg g) (ht : inBlk X scope fun Y => LTs Y ifs tt) (hi1 : inBlk X scope fun Y => LI Y tg1 iter1 wi1) (hg1 : inBlk X scope fun Y => LGo Y vs1 tg1 g1) (ht1 : inBlk X scope fun Y => LTs Y ifs1 tt1)
    (he : inBlk X scope fun Y => LE Y elt te) (hs : ∀ x, foldedSetIterable iter X.env x = pure x := by intro _; rfl) (hs1 : ∀ env x, foldedSetIterable iter1 env x = pure x := by intro _ _; rfl) :
    LS X (.Assign [.Name y py] (.ListComp elt [⟨tg, iter, ifs, 0⟩, ⟨tg1, iter1, ifs1, 0⟩] scope pos) spos) (wAsg (wLc2 wi g tt wi1 g1 tt1 te (own.map (·.2)) vs1) (wNm i)) := (ps_setLc2 hc hN hy hyl hsw hi ok hv hg ht hi1 hg1 ht1 he hs hs1).imp fun D σ H z => by
  obtain ⟨sl, h, io, q, r, z, k⟩ := z
  exact lc2_imp σ H _ (tE.go r z fun x h1 z1 u i1 H1 x1 r1 d1 => k.nx _ _ z1 _ _ _ x1 (r1.set i d1))

/-! dict comprehensions -/
def wDc (wi : WI) (g : WG) (tt : WT) (tk tv : WE) (vs : List Nat) : WE := fun sl h Q => wi sl h fun t h1 => ∃ W : Nat → Nat → List (D × D) → Hd → Prop, (∃ m, W 0 m [] h1) ∧ ∀ i m acc h, W i m acc h →
  (t i h = some none ∧ Q (.ref h.length) (h ++ [.dct false false acc])) ∨ ∃ d, t i h = some (some d) ∧ ∃ N : List (D × D) → Hd → Prop, (∀ acc' h', N acc' h' → ∃ m', m' < m ∧ W (i + 1) m' acc' h') ∧ g d (wipeD sl vs) h fun sl2 h2 => tt sl2 h2 fun b h3 =>
    if b = true then tk sl2 h3 fun x h4 => tv sl2 h4 fun y h5 => keyOk false x = true ∧ acc.length < sizeLine ∧ N (putD acc x y) h5 else N acc h3
theorem KVk.monoE {l : List (D × D)} {m : List (Key × V)} (x : Ey io io' H H') (r : KVk io H l m) : KVk io' H' l m := r.monoY x
theorem dc_imp {wi : WI} {g : WG} {tt : WT} {tk tv : WE} : ∀ σ H Q, tE K mg (wDc wi g tt tk tv vs) σ H Q → tDc (tI K mg wi) (tGo K mg vs g) (tT K mg tt) (tE K mg tk) (tE K mg tv) vs σ H Q := by
  intro σ H Q z
  obtain ⟨sl, h, io, q, r, z, k⟩ := z
  refine ⟨sl, h, io, _, r, z, fun t h1 z1 J i1 H1 x1 rh1 rit D hD => ?_⟩
  obtain ⟨W, ⟨m0, w0⟩, turn⟩ := z1
  have nD : D ∉ i1 := rh1.nin hD
  refine ⟨fun i m H' => ∃ acc vs' h' io', Ex i1 io' H1 H' ∧ D ∉ io' ∧ RH K mg io' H' h' ∧ H' D = some (.dK vs') ∧ KVk io' H' acc vs' ∧ W i m acc h', ⟨m0, [], [], h1, i1, ex_upd hD, nD, rh1.new hD, upd_same, .nil, w0⟩, ?_⟩
  rintro i m H2 ⟨acc, vs2, h2, i2, x2, n2, rh2, e2, rd2, w2⟩
  rcases turn i m acc h2 w2 with ⟨e, z2⟩ | ⟨d, e, N, hN, z2⟩
  · left
    refine ⟨(rit i i2 H2 h2 x2.z rh2).1 e, ?_⟩
    have xa := ex_adopt x2 hD
    exact k _ _ z2 _ _ _ (x1.trans xa) (rh2.adopt n2 (.ofK ⟨vs2, by simp [DOb, e2], rd2.mono1 (List.prefix_append _ _)⟩)) (.ref (push_at rh2 D))
  · right
    obtain ⟨go, yl⟩ := (rit i i2 H2 h2 x2.z rh2).2 d e
    refine ⟨go, fun H' => ∃ acc vs' h' io', Ex i1 io' H1 H' ∧ D ∉ io' ∧ RH K mg io' H' h' ∧ H' D = some (.dK vs') ∧ KVk io' H' acc vs' ∧ N acc h', fun H' ⟨acc', vs', h', io', p1, p2, p3, p4, p5, n'⟩ => ?_, fun x H3 y => ?_⟩
    · obtain ⟨m', hm, w'⟩ := hN acc' h' n'
      exact ⟨m', hm, acc', vs', h', io', p1, p2, p3, p4, p5, w'⟩
    · obtain ⟨x3, rh3, d3⟩ := yl x H3 y
      have r3 : Rel K mg (wipeD sl vs) (L2.wipe σ vs) i2 H3 h2 := (r.wipe vs).on ((x1.trans x2).trans x3) rh3
      refine ⟨d, wipeD sl vs, h2, i2, _, r3, d3, z2, fun sl4 h4 z4 σ4 i4 H4 x4 r4 o4 => ⟨?_, ?_⟩⟩
      · rw [o4.wipe]
        exact wipe_ext (wipe_length _ _) fun i hi => wipe_out hi
      · refine tT.go r4 z4 fun b h5 z5 i5 H5 x5 r5 => ?_
        have x25 := (x3.trans x4).trans x5
        have e5 : H5 D = some (.dK vs2) := x25.oth D _ e2 n2
        cases b with
        | false =>
          rw [if_neg Bool.false_ne_true] at z5 ⊢
          exact ⟨acc, vs2, h5, i5, x2.trans x25, x25.nin e2 n2, r5.rh, e5, rd2.mono x25, z5⟩
        | true =>
          rw [if_pos rfl] at z5 ⊢
          refine tE.go r5 z5 fun kd h6 z6 ku i6 H6 x6 r6 d6 => ?_
          refine tE.go r6 z6 fun y h7 z7 u i7 H7 x7 r7 d7 => ?_
          obtain ⟨hk, hl, z7⟩ := z7
          obtain ⟨key, rfl⟩ := key_of_ok hk
          have x27 := (x25.trans x6).trans x7
          have e7 : H7 D = some (.dK vs2) := x27.oth D _ e2 n2
          have n7 := x27.nin e2 n2
          have y7 := ey_priv (io := i7) (o := .dK (putK vs2 key u)) e7 (fun _ z => nomatch z)
          exact ⟨vs2, key, rd_key d6, e7, by rw [← rd2.length]; exact hl, putD acc (keyD key) y, putK vs2 key u, h7, i7, ex_priv (x2.trans x27) hD, n7, r7.rh.priv n7 e7 (fun _ z => nomatch z) (fun _ z => nomatch z), upd_same, ((rd2.mono x27).put d7).monoY y7, z7⟩
theorem le_dc {wi : WI} {g : WG} {tt : WT} {tk tv : WE} (hc : X.calm = true) (hN : X.N.Nodup) (hi : LI X tg iter wi) (ok : BlkOk X.N X.env.scope scope own)
    (hg : inBlk X scope fun Y => LGo Y (own.map (·.2)) tg g) (ht : inBlk X scope fun Y => LTs Y ifs tt) (hk : inBlk X scope fun Y => LE Y kx tk) (he : inBlk X scope fun Y => LE Y vx tv) (hs : ∀ x, foldedSetIterable iter X.env x = pure x := by intro _; rfl) :
    LE X (.DictComp kx vx [⟨tg, iter, ifs, 0⟩] scope pos) (wDc wi g tt tk tv (own.map (·.2))) := (pe_dc hc hN hi ok hg ht hk he hs).imp dc_imp
end
end MP

set_option Elab.async false
set_option linter.all false
set_option maxRecDepth 100000
set_option maxHeartbeats 2000000
/-! MpK: built-in functions and types; methods of lists and dicts. -/
namespace MP
open PySem PySem.Spec
open PyProof.Rows hiding St
open L2

/-! ### sorting texts -/
def leS (a b : Str) : Bool := !ltS b a
theorem leS_iff {a b : Str} : leS a b = true ↔ a.cps.toList ≤ b.cps.toList := by
  unfold leS ltS
  simp only [Bool.not_eq_true', decide_eq_false_iff_not]
  exact List.not_lt
def sortS (xs : List Str) : List Str := xs.mergeSort leS
theorem leS_trans : ∀ (a b c : Str), leS a b = true → leS b c = true → leS a c = true := fun a b c h1 h2 => leS_iff.mpr (List.le_trans (leS_iff.mp h1) (leS_iff.mp h2))
theorem leS_total : ∀ (a b : Str), (leS a b || leS b a) = true := fun a b => by
  rw [Bool.or_eq_true, leS_iff, leS_iff]; exact List.le_total _ _
theorem leS_anti {a b : Str} (h1 : leS a b = true) (h2 : leS b a = true) : a = b := by
  have := List.le_antisymm (leS_iff.mp h1) (leS_iff.mp h2)
  cases a; cases b
  exact congrArg Str.mk (Array.toList_inj.mp this)
theorem risingS_pw : ∀ {p : Str} {l : List Str}, risingS p l = true → (p :: l).Pairwise fun a b => leS a b = true
  | p, [], _ => by simp
  | p, x :: r, h => by
    simp only [risingS, Bool.and_eq_true] at h
    have hx : leS p x = true := by
      unfold leS ltS
      have := h.1
      rw [ltCps_eq] at this
      exact this
    have q := risingS_pw h.2
    refine List.pairwise_cons.mpr ⟨fun y hy => ?_, q⟩
    rcases List.mem_cons.mp hy with rfl | hy
    · exact hx
    · exact leS_trans _ _ _ hx ((List.pairwise_cons.mp q).1 y hy)
theorem sortedS_pw {l : List Str} (h : sortedS l = true) : l.Pairwise fun a b => leS a b = true := by
  cases l with
  | nil => exact .nil
  | cons x r => exact risingS_pw h
theorem sortS_perm (xs : List Str) : (sortS xs).Perm xs := List.mergeSort_perm xs leS
theorem sortS_pw (xs : List Str) : (sortS xs).Pairwise fun a b => leS a b = true := List.pairwise_mergeSort leS_trans leS_total xs
theorem sortS_uniq {xs ys : List Str} (p : ys.Perm xs) (h : ys.Pairwise fun a b => leS a b = true) : ys = sortS xs :=
  (p.trans (sortS_perm xs).symm).eq_of_pairwise (fun a b _ _ h1 h2 => leS_anti h1 h2) h (sortS_pw xs)
theorem sortS_congr {xs ys : List Str} (p : ys.Perm xs) : sortS ys = sortS xs := sortS_uniq ((sortS_perm ys).trans p) (sortS_pw ys)
theorem sortS_self {xs : List Str} (h : xs.Pairwise fun a b => leS a b = true) : sortS xs = xs := (sortS_uniq (.refl _) h).symm
theorem sortS_length (xs : List Str) : (sortS xs).length = xs.length := (sortS_perm xs).length_eq
theorem mem_sortS {xs : List Str} {x : Str} : x ∈ sortS xs ↔ x ∈ xs := (sortS_perm xs).mem_iff

section
variable {X : Cx} {j : Nat} {a b c e f o : Expr} {pos pos' p p2 apos cpos : Pos} {es : List Expr} {x : Str} {id T : String}
variable {K : PySem.W.Frag} {mg : Str → Option Value} {io io' : List Addr} {H H' : Hp} {h h' : Hd} {sl : Sd} {σ : L2.St}
theorem rd_ints : ∀ {ns : List Int} {vs : List V}, RDs io H (ns.map D.int) vs → vs = ns.map V.int
  | [], _, .nil => rfl
  | n :: ns, _, .cons h r => by cases h; rw [rd_ints r]; rfl
theorem rd_strs : ∀ {ns : List Str} {vs : List V}, RDs io H (ns.map D.str) vs → vs = ns.map V.str
  | [], _, .nil => rfl
  | n :: ns, _, .cons h r => by cases h; rw [rd_strs r]; rfl
theorem rd_bls : ∀ {ns : List Bool} {vs : List V}, RDs io H (ns.map D.bl) vs → vs = ns.map V.bl
  | [], _, .nil => rfl
  | n :: ns, _, .cons h r => by cases h; rw [rd_bls r]; rfl
theorem to_strs : ∀ (ns : List Str), RDs io H (ns.map D.str) (ns.map V.str)
  | [] => .nil
  | n :: ns => .cons (.str n) (to_strs ns)
theorem to_ints : ∀ (ns : List Int), RDs io H (ns.map D.int) (ns.map V.int)
  | [] => .nil
  | n :: ns => .cons (.int n) (to_ints ns)

/-! ### calls of built-ins -/
def CallS (X : Cx) (f : Value) : List V → Hp → VK → Prop := fun xs H Q => ∃ r, CallR X f r ∧ r xs H Q
theorem callS {f : Value} : CallR X f (CallS X f) := by
  intro pins s σ H xs us Q I r h
  obtain ⟨g, hg, z⟩ := h
  exact hg pins s σ H xs us Q I r z
abbrev CD := List D → Hd → (D → Hd → Prop) → Prop
def CallL (X : Cx) (f : Value) (g : CD) : Prop := ∀ {io : List Addr} {H : Hp} {h : Hd} {ds : List D} {vs : List V} {q : D → Hd → Prop} {Q : VK}, RH X.K X.mg io H h → RDs io H ds vs → g ds h q → Kn X.K X.mg io H q Q → CallS X f vs H Q
def wCB (g : CD) (wa : WA) : WE := fun sl h Q => wa sl h fun ds h1 => g ds h1 Q
theorem le_callB {g : CD} {wa : WA} (hc : CallL X (.builtin id) g) (hg : Gl X x) (hm : X.mg x = none) (hv : bootBuiltins x = some (.builtin id)) (ha : LA X (e :: es) wa) (hn : x ≠ "__name__" := by decide) (hdb : (x == ("__debug__" : Str)) = false := by decide)
    (he : starEach (e :: es) X.env = (false, eval e X.env) :: starEach es X.env := by rfl) (hpl : (backTo pos (starEach es X.env)).any (·.1) = false := by rfl) : LE X (.Call (.Name x p) (e :: es) [] pos) (wCB g wa) := (pe_callB callS hg hm hv ha hn hdb he hpl).imp fun σ H Q z => by
  obtain ⟨sl, h, io, q, r, z, k⟩ := z
  exact tA.go r z fun ds h1 z1 vs i1 H1 x1 r1 d1 => hc r1.rh d1 z1 (k.on x1)
theorem le_callT {g : CD} {wa : WA} (hc : CallL X (.type T) g) (hg : Gl X x) (hm : X.mg x = none) (hv : bootBuiltins x = some (.type T)) (ha : LA X (e :: es) wa) (hn : x ≠ "__name__" := by decide) (hdb : (x == ("__debug__" : Str)) = false := by decide)
    (he : starEach (e :: es) X.env = (false, eval e X.env) :: starEach es X.env := by rfl) (hpl : (backTo pos (starEach es X.env)).any (·.1) = false := by rfl) : LE X (.Call (.Name x p) (e :: es) [] pos) (wCB g wa) := (pe_callTy callS hg hm hv ha hn hdb he hpl).imp fun σ H Q z => by
  obtain ⟨sl, h, io, q, r, z, k⟩ := z
  exact tA.go r z fun ds h1 z1 vs i1 H1 x1 r1 d1 => hc r1.rh d1 z1 (k.on x1)
def lenD (h : Hd) : D → Option Nat
  | .str x => if x.length ≤ sizeLine then some x.length else none
  | .tup xs => some xs.length
  | .ref n => match h[n]? with
    | some (.lst xs) => some xs.length
    | some (.scr xs) => some xs.length
    | some (.dct false false kvs) => some kvs.length
    | _ => none
  | _ => none
def cLen : CD := fun ds h Q => ∃ x n, ds = [x] ∧ lenD h x = some n ∧ Q (.int n) h
theorem one_rd {d : D} {vs : List V} (r : RDs io H [d] vs) : ∃ v, vs = [v] ∧ RD io H d v := by
  cases r with
  | cons h t => cases t; exact ⟨_, rfl, h⟩
theorem two_rd {d e : D} {vs : List V} (r : RDs io H [d, e] vs) : ∃ v w, vs = [v, w] ∧ RD io H d v ∧ RD io H e w := by
  cases r with
  | cons h t => cases t with
    | cons h2 t => cases t; exact ⟨_, _, rfl, h, h2⟩
theorem cl_len : CallL X (.builtin "len") cLen := by
  intro io H h ds vs q Q rh rd z k
  obtain ⟨d, n, rfl, e, z⟩ := z
  obtain ⟨v, rfl, d1⟩ := one_rd rd
  have fin := k _ _ z _ io H .refl rh (.int _)
  cases d1 with
  | str y =>
    simp only [lenD] at e
    split at e
    · rename_i hy
      cases e
      exact ⟨_, call_len, _, y.length, rfl, ⟨hy, rfl⟩, fin⟩
    · cases e
  | @tup a vs xs ha ra => cases e; exact ⟨_, call_len, _, xs.length, rfl, .inr ⟨vs, ha.sq, ra.length⟩, fin⟩
  | @ref m a i =>
    simp only [lenD] at e
    split at e
    · rename_i xs e1
      cases e
      obtain ⟨vs, f1, f2⟩ := lst_sq (rh.cell m _ a e1 i) (.inl rfl)
      exact ⟨_, call_len, _, xs.length, rfl, .inl ⟨vs, f1, f2.length⟩, fin⟩
    · rename_i xs e1
      cases e
      obtain ⟨vs, f1, f2⟩ := lst_sq (rh.cell m _ a e1 i) (.inr rfl)
      exact ⟨_, call_len, _, xs.length, rfl, .inl ⟨vs, f1, f2.length⟩, fin⟩
    · rename_i kvs e1
      cases e
      obtain ⟨ks, f1, f2⟩ := (rh.cell m _ a e1 i).dK
      have f1 : H a = some (.dK ks) := by simpa [DOb] using f1
      exact ⟨_, call_lenD, a, ks, rfl, f1, by rw [← f2.length]; exact fin⟩
    · cases e
  | _ => cases e
def cAll : CD := fun ds h Q => ∃ (n : Nat) (bs : List Bool), ds = [.ref n] ∧ items h n = some (bs.map D.bl) ∧ Q (.bl (bs.all (fun b => b))) h
def cAny : CD := fun ds h Q => ∃ (n : Nat) (bs : List Bool), ds = [.ref n] ∧ items h n = some (bs.map D.bl) ∧ Q (.bl (bs.any (fun b => b))) h
theorem ref_rd {n : Nat} {v : V} (r : RD io H (.ref n) v) : ∃ a, v = .ref a ∧ io[n]? = some a := by
  cases r with
  | ref i => exact ⟨_, rfl, i⟩
theorem cl_all (hc : X.calm = true) : CallL X (.builtin "all") cAll := by
  intro io H h ds vs q Q rh rd z k
  obtain ⟨n, bs, rfl, e, z⟩ := z
  obtain ⟨v, rfl, d1⟩ := one_rd rd
  obtain ⟨a, rfl, i⟩ := ref_rd d1
  obtain ⟨vs, f1, f2⟩ := rh.list e i
  obtain rfl := rd_bls f2
  exact ⟨_, cr_all hc, a, bs, rfl, f1, k _ _ z _ io H .refl rh (.bl _)⟩
theorem cl_any (hc : X.calm = true) : CallL X (.builtin "any") cAny := by
  intro io H h ds vs q Q rh rd z k
  obtain ⟨n, bs, rfl, e, z⟩ := z
  obtain ⟨v, rfl, d1⟩ := one_rd rd
  obtain ⟨a, rfl, i⟩ := ref_rd d1
  obtain ⟨vs, f1, f2⟩ := rh.list e i
  obtain rfl := rd_bls f2
  exact ⟨_, cr_any hc, a, bs, rfl, f1, k _ _ z _ io H .refl rh (.bl _)⟩
/-- the texts of a list, or the keys of a dict -/
def textsD (h : Hd) (n : Nat) (xs : List Str) : Prop := items h n = some (xs.map D.str) ∨ ∃ lk kvs, h[n]? = some (.dct false lk kvs) ∧ kvs.map (·.1) = xs.map D.str
def cSorted : CD := fun ds h Q => ∃ n xs, ds = [.ref n] ∧ textsD h n xs ∧ xs.length < 64 ∧ Q (.ref h.length) (h ++ [.lst ((sortS xs).map D.str)])
theorem KVk.keys_str : ∀ {l : List (D × D)} {m : List (Key × V)} {xs : List Str}, KVk io H l m → l.map (·.1) = xs.map D.str → m.map (·.1) = xs.map Sum.inr
  | _, _, [], .nil, _ => rfl
  | _, _, _ :: _, .nil, e => by simp at e
  | _, _, [], .cons _ _, e => by simp at e
  | _, _, x :: xs, @KVk.cons _ _ k d v l m h r, e => by
    simp only [List.map_cons, List.cons.injEq] at e
    obtain ⟨e1, e2⟩ := e
    rw [List.map_cons, List.map_cons, KVk.keys_str r e2]
    cases k with
    | inl i => cases e1
    | inr y => cases e1; rfl
theorem cl_sorted (hc : X.calm = true) : CallL X (.builtin "sorted") cSorted := by
  intro io H h ds vs q Q rh rd z k
  obtain ⟨n, xs, rfl, e, hl, z⟩ := z
  obtain ⟨v, rfl, d1⟩ := one_rd rd
  obtain ⟨a, rfl, i⟩ := ref_rd d1
  have fin : ∀ (ys : List Str) (p : Addr), ys.Perm xs → sortedS ys = true → H p = none → Q (.ref p) (upd H p (.lst (ys.map V.str))) := fun ys p p1 p2 hp => by
    obtain rfl := sortS_uniq p1 (sortedS_pw p2)
    obtain ⟨x2, rh2, d2⟩ := new_lst rh (to_strs (sortS xs)) hp
    exact k _ _ z _ _ _ x2 rh2 d2
  rcases e with e | ⟨lk, kvs, e, ek⟩
  · obtain ⟨vs, f1, f2⟩ := rh.list e i
    obtain rfl := rd_strs f2
    exact ⟨_, cr_sortedS, a, xs, rfl, f1, hl, fin⟩
  · obtain ⟨ks, f1, f2⟩ := (rh.cell n _ a e i).dK
    exact ⟨_, call_sortedD hc, a, ks, xs, rfl, f1.rd, f2.keys_str ek, hl, fin⟩
/-- list(a list, a tuple or a dict) -/
def cList : CD := fun ds h Q => match ds with
  | [.tup xs] => Q (.ref h.length) (h ++ [.lst xs])
  | [.ref n] => match h[n]? with
    | some (.dct false _ kvs) => Q (.ref h.length) (h ++ [.lst (kvs.map (·.1))])
    | _ => ∃ xs, items h n = some xs ∧ Q (.ref h.length) (h ++ [.lst xs])
  | _ => False
theorem KVk.keys_rd : ∀ {l : List (D × D)} {m : List (Key × V)}, KVk io H l m → RDs io H (l.map (·.1)) (m.map fun kv => kV kv.1)
  | _, _, .nil => .nil
  | _, _, @KVk.cons _ _ k d v l m h r => .cons (rd_keyD k) (KVk.keys_rd r)
theorem cl_list (hc : X.calm = true) : CallL X (.type "list") cList := by
  intro io H h ds vs q Q rh rd z k
  simp only [cList] at z
  split at z
  · rename_i xs
    obtain ⟨v, rfl, d1⟩ := one_rd rd
    cases d1 with
    | @tup a us _ ha ra =>
      refine ⟨_, call_list_of, a, us, rfl, .inr ha.sq, fun p hp => ?_⟩
      obtain ⟨x2, rh2, d2⟩ := new_lst rh ra hp
      exact k _ _ z _ _ _ x2 rh2 d2
  · rename_i n
    obtain ⟨v, rfl, d1⟩ := one_rd rd
    obtain ⟨a, rfl, i⟩ := ref_rd d1
    split at z
    · rename_i lk kvs e
      obtain ⟨ks, f1, f2⟩ := (rh.cell n _ a e i).dK
      refine ⟨_, call_listD hc, a, ks, rfl, f1.rd, fun p hp => ?_⟩
      obtain ⟨x2, rh2, d2⟩ := new_lst rh f2.keys_rd hp
      exact k _ _ z _ _ _ x2 rh2 d2
    · obtain ⟨xs, e, z⟩ := z
      obtain ⟨us, f1, f2⟩ := rh.list e i
      refine ⟨_, call_list_of, a, us, rfl, .inl f1, fun p hp => ?_⟩
      obtain ⟨x2, rh2, d2⟩ := new_lst rh f2 hp
      exact k _ _ z _ _ _ x2 rh2 d2
  · exact z.elim
def cTuple : CD := fun ds h Q => match ds with
  | [.tup xs] => Q (.tup xs) h
  | [.ref n] => ∃ xs, items h n = some xs ∧ Q (.tup xs) h
  | _ => False
theorem cl_tuple : CallL X (.type "tuple") cTuple := by
  intro io H h ds vs q Q rh rd z k
  simp only [cTuple] at z
  split at z
  · rename_i xs
    obtain ⟨v, rfl, d1⟩ := one_rd rd
    cases d1 with
    | @tup a us _ ha ra => exact ⟨_, call_tuple_of, a, us, rfl, .inr ⟨ha.sq, k _ _ z _ io H .refl rh (.tup ha ra)⟩⟩
  · rename_i n
    obtain ⟨v, rfl, d1⟩ := one_rd rd
    obtain ⟨a, rfl, i⟩ := ref_rd d1
    obtain ⟨xs, e, z⟩ := z
    obtain ⟨us, f1, f2⟩ := rh.list e i
    exact ⟨_, call_tuple_of, a, us, rfl, .inl ⟨f1, fun p hp => k _ _ z _ io _ (ex_upd hp) (rh.new hp) (.tup (.inl upd_same) (f2.mono (ex_upd hp)))⟩⟩
  · exact z.elim
def cAbs : CD := fun ds h Q => ∃ i, ds = [.int i] ∧ Q (.int (if i < 0 then -i else i)) h
theorem cl_abs : CallL X (.builtin "abs") cAbs := by
  intro io H h ds vs q Q rh rd z k
  obtain ⟨i, rfl, z⟩ := z
  obtain ⟨v, rfl, d1⟩ := one_rd rd
  cases d1
  exact ⟨_, call_abs, i, rfl, k _ _ z _ io H .refl rh (.int _)⟩
def cMax : CD := fun ds h Q => ∃ i j, ds = [.int i, .int j] ∧ Q (.int (if j > i then j else i)) h
def cMin : CD := fun ds h Q => ∃ i j, ds = [.int i, .int j] ∧ Q (.int (if j < i then j else i)) h
theorem cl_max (hc : X.calm = true) : CallL X (.builtin "max") cMax := by
  intro io H h ds vs q Q rh rd z k
  obtain ⟨i, j, rfl, z⟩ := z
  obtain ⟨v, w, rfl, d1, d2⟩ := two_rd rd
  cases d1; cases d2
  exact ⟨_, call_max2 hc, i, j, rfl, k _ _ z _ io H .refl rh (.int _)⟩
theorem cl_min (hc : X.calm = true) : CallL X (.builtin "min") cMin := by
  intro io H h ds vs q Q rh rd z k
  obtain ⟨i, j, rfl, z⟩ := z
  obtain ⟨v, w, rfl, d1, d2⟩ := two_rd rd
  cases d1; cases d2
  exact ⟨_, call_min2 hc, i, j, rfl, k _ _ z _ io H .refl rh (.int _)⟩
def cInt : CD := fun ds h Q => (∃ i, ds = [.int i] ∧ Q (.int i) h) ∨ ∃ b, ds = [.bl b] ∧ Q (.int (if b then 1 else 0)) h
theorem cl_int : CallL X (.type "int") cInt := by
  intro io H h ds vs q Q rh rd z k
  rcases z with ⟨i, rfl, z⟩ | ⟨b, rfl, z⟩
  · obtain ⟨v, rfl, d1⟩ := one_rd rd
    cases d1
    exact ⟨_, call_int1, .inl ⟨i, rfl, k _ _ z _ io H .refl rh (.int _)⟩⟩
  · obtain ⟨v, rfl, d1⟩ := one_rd rd
    cases d1
    exact ⟨_, call_int1, .inr ⟨b, rfl, k _ _ z _ io H .refl rh (.int _)⟩⟩
/-- dict(a list of pairs) by plain keys -/
def dictOfPairs (kvs : List (D × D)) : List (D × D) := kvs.foldl (fun acc p => putD acc p.1 p.2) []
def cDict : CD := fun ds h Q => ∃ n kvs, ds = [.ref n] ∧ items h n = some (kvs.map fun p => .tup [p.1, p.2]) ∧ (kvs.all fun p => keyOk false p.1) = true ∧ Q (.ref h.length) (h ++ [.dct false false (dictOfPairs kvs)])
theorem KVk.merge {more : List (D × D)} : ∀ {rs : List (Key × V)} {l : List (D × D)} {m : List (Key × V)}, KVk io H more rs → KVk io H l m → KVk io H (more.foldl (fun acc p => putD acc p.1 p.2) l) (mergeK m rs) := by
  induction more with
  | nil => intro rs l m r q; cases r; exact q
  | cons p more ih =>
    intro rs l m r q
    cases r with
    | @cons k d v _ m' hd r =>
      have := ih r (KVk.put (k := k) hd q)
      exact this
theorem pairs_rd : ∀ {kvs : List (D × D)} {vs : List V}, RDs io H (kvs.map fun p => .tup [p.1, p.2]) vs → (kvs.all fun p => keyOk false p.1) = true →
    ∃ (ps : List Addr) (ks : List (Key × V)), vs = ps.map V.ref ∧ Paired (fun p kv => SqT K H p [kV kv.1, kv.2]) ps ks ∧ KVk io H kvs ks
  | [], _, .nil, _ => ⟨[], [], rfl, .nil, .nil⟩
  | p :: kvs, _, .cons h r, e => by
    simp only [List.all_cons, Bool.and_eq_true] at e
    obtain ⟨ps, ks, rfl, q1, q2⟩ := pairs_rd r e.2
    obtain ⟨k, ek⟩ := key_of_ok e.1
    cases h with
    | @tup a us _ ha ra =>
      obtain ⟨v, w, rfl, d1, d2⟩ := two_rd ra
      rw [ek] at d1
      have := rd_key d1
      subst this
      refine ⟨a :: ps, (k, w) :: ks, rfl, .cons ha.sq q1, ?_⟩
      have : p = (keyD k, p.2) := by rw [← ek]
      rw [this]
      exact .cons d2 q2
theorem cl_dict (hc : X.calm = true) : CallL X (.type "dict") cDict := by
  intro io H h ds vs q Q rh rd z k
  obtain ⟨n, kvs, rfl, e, hk, z⟩ := z
  obtain ⟨v, rfl, d1⟩ := one_rd rd
  obtain ⟨a, rfl, i⟩ := ref_rd d1
  obtain ⟨us, f1, f2⟩ := rh.list e i
  obtain ⟨ps, ks, rfl, q1, q2⟩ := pairs_rd (K := X.K) f2 hk
  refine ⟨_, call_dictP hc, a, ps, ks, rfl, f1, q1, fun p hp => ?_⟩
  have x := ex_alloc (io := io) (o := .dK (mergeK [] ks)) hp
  exact k _ _ z _ _ _ x (rh.alloc hp (.ofK ⟨_, by simp [DOb, upd_same], (q2.mono x).merge .nil⟩)) (.ref (push_at rh p))
end
end MP

set_option Elab.async false
set_option linter.all false
set_option maxRecDepth 100000
set_option maxHeartbeats 2000000
/-! MpL: products, powers; repr; isinstance; methods of lists and dicts; displays of dicts; stars. -/
namespace MP
open PySem PySem.Spec
open PyProof.Rows hiding St
open L2

section
variable {X : Cx} {j : Nat} {a b c e f o : Expr} {pos pos' p p2 p3 apos cpos : Pos} {es : List Expr} {x : Str} {id T : String}
variable {K : PySem.W.Frag} {mg : Str → Option Value} {io io' : List Addr} {H H' : Hp} {h h' : Hd} {sl : Sd} {σ : L2.St}
/-! products and powers -/
def repD (k : Nat) (xs : List D) : List D := (List.replicate k xs).flatten
theorem RDs.rep {ds : List D} {vs : List V} (r : RDs io H ds vs) : ∀ k : Nat, RDs io H (repD k ds) (List.replicate k vs).flatten
  | 0 => .nil
  | k + 1 => by
    unfold repD
    rw [List.replicate_succ, List.replicate_succ, List.flatten_cons, List.flatten_cons]
    exact r.append (RDs.rep r k)
def oMul : O2 := fun x y h Q => match x, y with
  | .int a, .int b => CMulW a b ∧ Q (.int (a * b)) h
  | .tup xs, .int k => xs ≠ [] ∧ 2 ≤ k ∧ k ≤ 1000 ∧ xs.length ≤ 1000 ∧ Q (.tup (repD k.toNat xs)) h
  | .ref n, .int k => ∃ xs, h[n]? = some (.lst xs) ∧ -(2 ^ 63) ≤ k ∧ k < 2 ^ 63 ∧ xs.length * k.toNat ≤ sizeLine ∧ Q (.ref h.length) (h ++ [.lst (repD k.toNat xs)])
  | _, _ => False
theorem ol_mul : OpL X (binaryOp .Mult) oMul := by
  intro io H h x y u v q Q rh dx dy z k
  cases dx with
  | int a => cases dy with
    | int b => exact ⟨_, op_mulW, a, b, rfl, rfl, z.1, k _ _ z.2 _ io H .refl rh (.int _)⟩
    | _ => exact z.elim
  | @tup a vs xs ha ra => cases dy with
    | int n =>
      obtain ⟨h1, h2, h3, h4, z⟩ := z
      refine ⟨_, op_repT, a, n, vs, rfl, rfl, ha.sq, fun e => h1 (List.eq_nil_of_length_eq_zero (by rw [ra.length, e]; rfl)), h2, h3, by rw [← ra.length]; exact h4, fun p hp => ?_⟩
      exact k _ _ z _ io _ (ex_upd hp) (rh.new hp) (.tup (.inl upd_same) ((ra.rep _).mono (ex_upd hp)))
    | _ => exact z.elim
  | @ref m a i => cases dy with
    | int n =>
      obtain ⟨xs, e, h1, h2, h3, z⟩ := z
      obtain ⟨vs, f1, r1⟩ := rh.lst e i
      refine ⟨_, op_rep, a, n, vs, rfl, rfl, f1, h1, h2, by rw [← r1.length]; exact h3, fun p hp => ?_⟩
      obtain ⟨x2, rh2, d2⟩ := new_lst rh (r1.rep n.toNat) hp
      exact k _ _ z _ _ _ x2 rh2 d2
    | _ => exact z.elim
  | _ => exact z.elim
def CPowW (i j : Int) : Prop := 0 ≤ j ∧ (Builtin.Int.intBits i : Int) * j ≤ 2 ^ 27
theorem op_powW : OpR X (binaryOp .Pow) (rI CPowW fun i j => .int (i ^ j.toNat)) := opI fun _ _ _ _ _ _ _ hc q => pow_int hc.1 hc.2 q
abbrev oPow : O2 := oInt2 CPowW fun a b => .int (a ^ b.toNat)
theorem ol_pow : OpL X (binaryOp .Pow) oPow := ol_int2 op_powW fun _ _ _ _ => .int _

/-! repr -/
theorem call_reprD (hr : Room j X.A) (hgd : X.A.guards = some []) : CallR X (.builtin "repr") (fun xs H Q => ∃ x d, xs = [x] ∧ Dp X.K H x d ∧ PyData.showable d = true ∧ PyData.hasDict d = false ∧ d.shown.length ≤ sizeLine ∧ d.depth ≤ 60 ∧ Q (.str d.shown) H) := by
  intro pins s σ H xs us Q I r q
  obtain ⟨x, d, rfl, dp, hs, hn, hz, hd, q⟩ := q
  obtain ⟨u, rfl, rx⟩ := vals1 r
  have hu := hr.units
  obtain ⟨as, rd⟩ := Dp.reads I d x u dp rx
  cases dp with
  | non => cases (show u = Value.none from rx); exact PySem.P.repr_of_none ⟨.str _, H, I.tok _, ⟨_, rfl⟩, q⟩
  | bl b =>
    cases (show u = Value.bool b from rx)
    refine PySem.P.repr_of_bool ⟨.str _, H, I.tok _, ⟨_, rfl⟩, ?_⟩
    cases b <;> exact q
  | int i =>
    obtain ⟨t, rfl⟩ := (show ∃ t, u = Value.int i t from rx)
    exact PySem.P.repr_of_int (by simpa [PyData.showable] using hs) ⟨.str _, H, I.tok _, ⟨_, rfl⟩, q⟩
  | str y =>
    obtain ⟨t, rfl⟩ := (show ∃ t, u = Value.str y t from rx)
    exact PySem.P.repr_of_str ⟨.str _, H, I.tok _, ⟨_, rfl⟩, q⟩ hz
  | lst hq hall =>
    cases (show u = Value.ref _ from rx)
    exact repr_of_reads' rd hs (PyData.noDict_hsm hn) hgd (by omega) (fun _ _ e => e) (fun h' t tk hk => ⟨.str _, H, I.kept hk, ⟨_, rfl⟩, q⟩) hz
  | tup hq hall =>
    cases (show u = Value.ref _ from rx)
    exact repr_of_reads' rd hs (PyData.noDict_hsm hn) hgd (by omega) (fun _ _ e => e) (fun h' t tk hk => ⟨.str _, H, I.kept hk, ⟨_, rfl⟩, q⟩) hz
def cRepr : CD := fun ds h Q => ∃ x d, ds = [x] ∧ PyR h x d ∧ PyData.showable d = true ∧ PyData.hasDict d = false ∧ d.shown.length ≤ sizeLine ∧ d.depth ≤ 60 ∧ Q (.str d.shown) h
theorem cl_repr (hr : Room j X.A) (hgd : X.A.guards = some []) : CallL X (.builtin "repr") cRepr := by
  intro io H h ds vs q Q rh rd z k
  obtain ⟨x, d, rfl, pr, h1, h2, h3, h4, z⟩ := z
  obtain ⟨v, rfl, d1⟩ := one_rd rd
  exact ⟨_, call_reprD hr hgd, v, d, rfl, pr.dp rh d1, h1, h2, h3, h4, k _ _ z _ io H .refl rh (.str _)⟩

/-! isinstance -/
abbrev TyN := String ⊕ Str
def tyD (h : Hd) : D → Option TyN
  | .non => some (.inl "NoneType")
  | .bl _ => some (.inl "bool")
  | .int _ => some (.inl "int")
  | .str _ => some (.inl "str")
  | .tup _ => some (.inl "tuple")
  | .ref n => match h[n]? with
    | some (.lst _) => some (.inl "list")
    | some (.scr _) => some (.inl "list")
    | some (.dct false _ _) => some (.inl "dict")
    | some (.dct true false _) => some (.inl "dict")
    | some (.ins c _) => some (.inr c)
    | _ => none
/-- what isinstance asks of an own class -/
def InsOk (K : PySem.W.Frag) (C : Addr) : Prop := Cls K C ∧ PySem.W.findIn K (.ref C) "__class__" = some (some (.builtin "object.__class__")) ∧
  PySem.W.specialIn K (.builtin "object.__class__") "__get__" = some (some (.builtin "getset_descriptor.__get__")) ∧ PySem.W.takesIn K (.builtin "object.__class__") = some true ∧ PySem.W.mroIn K C (.type "object") = some true
/-- a table of answers of isinstance(.., cv) -/
structure IsTab (K : PySem.W.Frag) (mg : Str → Option Value) (cv : Value) (tab : TyN → Option Bool) : Prop where
  blt : ∀ T b, tab (.inl T) = some b → PySem.W.kitOne K (.type T) cv = some b
  own : ∀ c b C, tab (.inr c) = some b → mg c = some (.ref C) → InsOk K C ∧ PySem.W.kitOne K (.ref C) cv = some b
def wIsi (tab : TyN → Option Bool) (w : WE) : WE := fun sl h Q => w sl h fun x h1 => ∃ t b, tyD h1 x = some t ∧ tab t = some b ∧ Q (.bl b) h1
theorem le_isi {tab : TyN → Option Bool} {cu : V} {cv : Value} {w : WE} (tb : IsTab X.K X.mg cv tab) (hg : Gl X "isinstance") (hm : X.mg "isinstance" = none) (hv : bootBuiltins "isinstance" = some (.builtin "isinstance")) (hc : PE X c (tC cu)) (hcv : ClsV cu cv) (ha : LE X a w)
    (hs1 : starEach [a, c] X.env = (false, eval a X.env) :: starEach [c] X.env := by rfl) (hs2 : starEach [c] X.env = (false, eval c X.env) :: starEach [] X.env := by rfl) (hpl : (backTo pos (starEach [c] X.env)).any (·.1) = false := by rfl) :
    LE X (.Call (.Name "isinstance" p) [a, c] [] pos) (wIsi tab w) := (pe_callB call_isi hg hm hv (pa_cons ha (pa_cons hc pa_nil hs2) hs1) (by decide) (by decide) hs1 hpl).imp fun σ H Q z => by
  obtain ⟨sl, h, io, q, r, z, k⟩ := z
  refine tE.go r z fun x h1 z1 u i1 H1 x1 r1 d1 => ?_
  obtain ⟨t, b, e1, e2, z1⟩ := z1
  have fin := k _ _ z1 _ i1 H1 x1 r1.rh (.bl b)
  have go : ∀ (tv : Value), TyX X.K H1 u tv → PySem.W.kitOne X.K tv cv = some b → rIsi X.K [u, cu] H1 Q := fun tv ty kk => ⟨u, cu, tv, cv, b, rfl, hcv, ty, kk, fin⟩
  cases d1 with
  | non => cases e1; exact go _ (.base .non) (tb.blt _ _ e2)
  | bl y => cases e1; exact go _ (.base (.bl y)) (tb.blt _ _ e2)
  | int y => cases e1; exact go _ (.base (.int y)) (tb.blt _ _ e2)
  | str y => cases e1; exact go _ (.base (.str y)) (tb.blt _ _ e2)
  | tup ha ra =>
    cases e1
    rcases ha with ha | ⟨⟨o, ha⟩, _⟩
    · exact go _ (.base (.tup ha)) (tb.blt _ _ e2)
    · exact go _ (.fTuple ha) (tb.blt _ _ e2)
  | @ref n a i =>
    simp only [tyD] at e1
    split at e1
    · rename_i xs e
      cases e1
      obtain ⟨vs, f1, _⟩ := r1.rh.cell n _ a e i
      exact go _ (.base (.lst f1)) (tb.blt _ _ e2)
    · rename_i xs e
      cases e1
      obtain ⟨o, vs, f1, _⟩ := r1.rh.cell n _ a e i
      exact go _ (.base (.frz f1)) (tb.blt _ _ e2)
    · rename_i lk kvs e
      cases e1
      obtain ⟨ks, f1, _⟩ := (r1.rh.cell n _ a e i).dK
      cases lk with
      | false => exact go _ (.base (.dK (by simpa [DOb] using f1))) (tb.blt _ _ e2)
      | true =>
        obtain ⟨o, f1⟩ := (by simpa [DOb] using f1 : ∃ o, H1 a = some (.frz o (.dK ks)))
        exact go _ (.fDict f1) (tb.blt _ _ e2)
    · rename_i kvs e
      cases e1
      obtain ⟨ks, f1, _⟩ := (r1.rh.cell n _ a e i).dT
      exact go _ (.base (.dT (by simpa [DOb] using f1))) (tb.blt _ _ e2)
    · rename_i cn fs e
      cases e1
      obtain ⟨C, dx, gs, m1, m2, m3, fr⟩ := r1.rh.cell n _ a e i
      obtain ⟨⟨o1, o2, o3, o4, o5⟩, kk⟩ := tb.own _ _ C e2 m1
      exact go _ (.base (.ins m2 o1 o2 o3 o4 o5)) kk
    · cases e1

/-! heaps that only grow -/
theorem ex_grow (k : ∀ b o, H b = some o → H' b = some o) : Ex io io H H' := ⟨List.prefix_refl _, fun a xs e => k _ _ e, fun a o u e => ⟨u, k _ _ e, rfl⟩, fun a o e _ => k _ _ e, fun _ h => .inl h⟩
theorem RH.grow (r : RH K mg io H h) (k : ∀ b o, H b = some o → H' b = some o) : RH K mg io H' h :=
  ⟨r.len, r.inj, fun n c a e i => (r.cell n c a e i).stay (ex_grow k) (fun o q => k _ _ q) fun b q => k _ _ q⟩

/-! list(d.items()) -/
def wListItems (w : WE) : WE := fun sl h Q => w sl h fun x h1 => ∃ n kvs, x = .ref n ∧ h1[n]? = some (.dct false false kvs) ∧ Q (.ref h1.length) (h1 ++ [.lst (kvs.map fun p => .tup [p.1, p.2])])
theorem le_listItems {w : WE} (hc : X.calm = true) (he : LE X e w) (hg : Gl X "list") (hm : X.mg "list" = none) (hv : bootBuiltins "list" = some (.type "list")) (hbase : attributeBase e "items" X.env (eval e X.env) = eval e X.env := by rfl) (hline : (apos.endLine == cpos.line) = true := by rfl)
    (hs : starEach [.Call (.Attribute e "items" apos) [] [] cpos] X.env = (false, eval (.Call (.Attribute e "items" apos) [] [] cpos) X.env) :: starEach [] X.env := by rfl) :
    LE X (.Call (.Name "list" p) [.Call (.Attribute e "items" apos) [] [] cpos] [] pos) (wListItems w) := (LiI.pe_listItems hc he hg hm hv hbase hline hs).imp fun σ H Q z => by
  obtain ⟨sl, h, io, q, r, z, k⟩ := z
  refine tE.go r z fun x h1 z1 u i1 H1 x1 r1 d1 => ?_
  obtain ⟨n, kvs, rfl, e1, z1⟩ := z1
  obtain ⟨a, rfl, i⟩ := ref_rd d1
  obtain ⟨ks, f1, f2⟩ := (r1.rh.cell n _ a e1 i).dK
  refine ⟨a, ks, rfl, by simpa [DOb] using f1, fun H2 p ts k2 hp ht hpt hl pr => ?_⟩
  have xg : Ex i1 i1 H1 H2 := ex_grow k2
  have rh2 := r1.rh.grow k2
  have xa := ex_adopt xg hp
  have pn : p ∉ i1 := r1.rh.nin hp
  have rd : ∀ {l : List (D × D)} {m : List (Key × V)} {ts : List Addr}, KVk i1 H2 l m → Paired (fun (t : Addr) (q : Key × V) => H2 t = some (.tup [kV q.1, q.2])) ts m → RDs i1 H2 (l.map fun p => .tup [p.1, p.2]) (ts.map V.ref) := by
    intro l m ts r
    induction r generalizing ts with
    | nil => intro q; cases q; exact .nil
    | @cons kk d v l m hd r ih =>
      intro q
      cases q with
      | cons q1 q2 => exact .cons (.tup (.inl q1) (.cons (rd_keyD kk) (.cons hd .nil))) (ih q2)
  exact k _ _ z1 _ _ _ (x1.trans xa) (rh2.adopt pn ⟨_, hl, (rd (f2.mono xg) pr).mono1 (List.prefix_append _ _)⟩) (.ref (push_at rh2 p))

/-! dict.get -/
def isDct (h : Hd) (n : Nat) (x : D) (kvs : List (D × D)) : Prop := ∃ t lk, h[n]? = some (.dct t lk kvs) ∧ keyOk t x = true
theorem isD_of {n : Nat} {t lk : Bool} {kvs : List (D × D)} {a : Addr} (r : RH K mg io H h) (e : h[n]? = some (.dct t lk kvs)) (i : io[n]? = some a) : IsD H a := by
  cases t with
  | false => obtain ⟨ks, f, _⟩ := (r.cell n _ a e i).dK; exact .inl ⟨ks, f.rd⟩
  | true => obtain ⟨ks, f, _⟩ := (r.cell n _ a e i).dT; exact .inr ⟨ks, f.rd⟩
def wGet1 (wd wy : WE) : WE := fun sl h Q => wd sl h fun x h1 => (∃ n t lk kvs, x = .ref n ∧ h1[n]? = some (.dct t lk kvs)) ∧ wy sl h1 fun y h2 => ∃ n kvs, x = .ref n ∧ isDct h2 n y kvs ∧ Q ((getD kvs y).getD .non) h2
def wGet2 (wd wy wz : WE) : WE := fun sl h Q => wd sl h fun x h1 => (∃ n t lk kvs, x = .ref n ∧ h1[n]? = some (.dct t lk kvs)) ∧ wy sl h1 fun y h2 => wz sl h2 fun z h3 => ∃ n kvs, x = .ref n ∧ isDct h3 n y kvs ∧ Q ((getD kvs y).getD z) h3
theorem RO.getD {d : Option D} {o : Option V} {z : D} {w : V} (r : RO io H d o) (rz : RD io H z w) : RD io H (d.getD z) (o.getD w) := by
  cases d <;> cases o <;> first | exact rz | exact r | exact r.elim
theorem le_get1 {wd wy : WE} (hr : Room j X.A) (ho : LE X o wd) (he : LE X e wy) (m : M1 X o "get" apos e cpos) : LE X (.Call (.Attribute o "get" apos) [e] [] cpos) (wGet1 wd wy) := (pe_dget1 (hu_of hr) ho he m).imp fun σ H Q z => by
  obtain ⟨sl, h, io, q, r, z, k⟩ := z
  refine tE.go r z fun x h1 z1 u i1 H1 x1 r1 d1 => ?_
  obtain ⟨⟨n, t, lk, kvs, rfl, e1⟩, z1⟩ := z1
  obtain ⟨a, rfl, i⟩ := ref_rd d1
  refine ⟨a, rfl, isD_of r1.rh e1 i, tE.go r1 z1 fun y h2 z2 v i2 H2 x2 r2 d2 => ?_⟩
  obtain ⟨n', kvs', en, ⟨t', lk', e2, hk⟩, z2⟩ := z2
  cases en
  obtain ⟨o, g, ro⟩ := dget_rel (r2.rh.cell n _ a e2 (pre_get x2.pre i)) hk d2
  exact ⟨o, g, k _ _ z2 _ _ _ (x1.trans x2) r2.rh (ro.getD .non)⟩
theorem le_get2 {wd wy wz : WE} (hr : Room j X.A) (ho : LE X o wd) (he : LE X e wy) (hf : LE X f wz) (m : M2 X o "get" apos e f cpos) : LE X (.Call (.Attribute o "get" apos) [e, f] [] cpos) (wGet2 wd wy wz) := (pe_dget2 (hu_of hr) ho he hf m).imp fun σ H Q z => by
  obtain ⟨sl, h, io, q, r, z, k⟩ := z
  refine tE.go r z fun x h1 z1 u i1 H1 x1 r1 d1 => ?_
  obtain ⟨⟨n, t, lk, kvs, rfl, e1⟩, z1⟩ := z1
  obtain ⟨a, rfl, i⟩ := ref_rd d1
  refine ⟨a, rfl, isD_of r1.rh e1 i, tE.go r1 z1 fun y h2 z2 v i2 H2 x2 r2 d2 => tE.go r2 z2 fun w h3 z3 v3 i3 H3 x3 r3 d3 => ?_⟩
  obtain ⟨n', kvs', en, ⟨t', lk', e2, hk⟩, z3⟩ := z3
  cases en
  obtain ⟨o, g, ro⟩ := dget_rel (r3.rh.cell n _ a e2 (pre_get (x2.trans x3).pre i)) hk (d2.mono x3)
  exact ⟨o, g, k _ _ z3 _ _ _ ((x1.trans x2).trans x3) r3.rh (ro.getD d3)⟩

/-! methods of lists -/
def MtS (X : Cx) (id : String) : V → List V → Hp → VK → Prop := fun x xs H Q => ∃ r, MtR X id r ∧ r x xs H Q
theorem mtS : MtR X id (MtS X id) := by
  intro pins s σ H x xs v us Q I rx rxs h
  obtain ⟨r, hr, z⟩ := h
  exact hr pins s σ H x xs v us Q I rx rxs z
abbrev MD := D → List D → Hd → (D → Hd → Prop) → Prop
def MtL (X : Cx) (T id : String) (g : MD) : Prop := ∀ {io : List Addr} {H : Hp} {h : Hd} {x : D} {ds : List D} {v : V} {vs : List V} {q : D → Hd → Prop} {Q : VK}, RH X.K X.mg io H h → RD io H x v → RDs io H ds vs → g x ds h q → Kn X.K X.mg io H q Q → MtS X id v vs H Q
/-- x is a list that may be written -/
def isLst (h : Hd) (x : D) : Prop := ∃ n xs, x = .ref n ∧ h[n]? = some (.lst xs)
def wBM (g : MD) (wo : WE) (wa : WA) : WE := fun sl h Q => wo sl h fun x h1 => isLst h1 x ∧ wa sl h1 fun ds h2 => g x ds h2 Q
def wBM0 (g : MD) (wo : WE) : WE := fun sl h Q => wo sl h fun x h1 => isLst h1 x ∧ g x [] h1 Q
theorem tyV_lst {x : D} {v : V} (r : RH K mg io H h) (d : RD io H x v) (l : isLst h x) : tyV K "list" v H := by
  obtain ⟨n, xs, rfl, e⟩ := l
  obtain ⟨a, rfl, i⟩ := ref_rd d
  obtain ⟨vs, f1, _⟩ := r.lst e i
  exact .inl ⟨rfl, vs, SqL.of f1⟩
theorem le_bm {g : MD} {wo : WE} {wa : WA} {name : Str} (pa : PlainAttrs "list") (slot : Slot "list" name id) (hty : typeOf (.builtin id) = pure (.type "method_descriptor")) (hm : MtL X "list" id g) (ho : LE X o wo) (ha : LA X (e :: es) wa)
    (hbase : attributeBase o name X.env (eval o X.env) = eval o X.env := by rfl)
    (hfew : ((backTo cpos (starEach (e :: es) X.env)).all (fun x => !x.1) && (backToKw cpos (keywordEach [] X.env)).all (fun x => x.1.isSome)
      && decide ((e :: es).length + ([] : List Keyword).length + (if ([] : List Keyword).isEmpty then 0 else 1) < 30)) = true := by rfl)
    (hline : (apos.endLine == cpos.line) = true := by rfl) (hs : starEach (e :: es) X.env = (false, eval e X.env) :: starEach es X.env := by rfl) (hplain : (backTo cpos (starEach es X.env)).any (·.1) = false := by rfl) :
    LE X (.Call (.Attribute o name apos) (e :: es) [] cpos) (wBM g wo wa) := (pe_bm pa slot hty mtS ho ha hbase hfew hline hs hplain).imp fun σ H Q z => by
  obtain ⟨sl, h, io, q, r, z, k⟩ := z
  refine tE.go r z fun x h1 z1 u i1 H1 x1 r1 d1 => ?_
  exact ⟨tyV_lst r1.rh d1 z1.1, tA.go r1 z1.2 fun ds h2 z2 vs i2 H2 x2 r2 d2 => hm r2.rh (d1.mono x2) d2 z2 (k.on (x1.trans x2))⟩
theorem le_bm0 {g : MD} {wo : WE} {name : Str} (pa : PlainAttrs "list") (slot : Slot "list" name id) (hty : typeOf (.builtin id) = pure (.type "method_descriptor")) (hm : MtL X "list" id g) (ho : LE X o wo)
    (hbase : attributeBase o name X.env (eval o X.env) = eval o X.env := by rfl) (hline : (apos.endLine == cpos.line) = true := by rfl) :
    LE X (.Call (.Attribute o name apos) [] [] cpos) (wBM0 g wo) := (pe_bm0 pa slot hty mtS ho hbase hline).imp fun σ H Q z => by
  obtain ⟨sl, h, io, q, r, z, k⟩ := z
  refine tE.go r z fun x h1 z1 u i1 H1 x1 r1 d1 => ?_
  exact ⟨tyV_lst r1.rh d1 z1.1, hm r1.rh d1 .nil z1.2 (k.on x1)⟩
def mAppend : MD := fun x ds h Q => ∃ n xs y, x = .ref n ∧ ds = [y] ∧ h[n]? = some (.lst xs) ∧ xs.length < sizeLine ∧ Q .non (h.set n (.lst (xs ++ [y])))
theorem RH.setLst {n : Nat} {a : Addr} {xs ys : List D} {vs ws : List V} (rh : RH K mg io H h) (i : io[n]? = some a) (f : H a = some (.lst vs)) (r : RDs io H ys ws) : Ex io io H (upd H a (.lst ws)) ∧ RH K mg io (upd H a (.lst ws)) (h.set n (.lst ys)) :=
  rh.write (o := .lst ws) (c' := .lst ys) i f (fun _ z => nomatch z) (fun _ _ z => nomatch z) (fun _ z => nomatch z) fun ex => ⟨_, upd_same, r.mono ex⟩
theorem ml_append : MtL X "list" "list.append" mAppend := by
  intro io H h x ds v vs q Q rh dx dds z k
  obtain ⟨n, xs, y, rfl, rfl, e, hl, z⟩ := z
  obtain ⟨a, rfl, i⟩ := ref_rd dx
  obtain ⟨w, rfl, d1⟩ := one_rd dds
  obtain ⟨us, f1, f2⟩ := rh.lst e i
  obtain ⟨x2, rh2⟩ := rh.setLst (xs := xs) i f1 (f2.append (.cons d1 .nil))
  exact ⟨_, mt_append, a, us, w, rfl, rfl, f1, by rw [← f2.length]; exact hl, k _ _ z _ _ _ x2 rh2 .non⟩
def mExtend : MD := fun x ds h Q => ∃ n m xs ys, x = .ref n ∧ ds = [.ref m] ∧ h[n]? = some (.lst xs) ∧ h[m]? = some (.lst ys) ∧ xs.length + ys.length ≤ sizeLine ∧ Q .non (h.set n (.lst (xs ++ ys)))
theorem ml_extend : MtL X "list" "list.extend" mExtend := by
  intro io H h x ds v vs q Q rh dx dds z k
  obtain ⟨n, m, xs, ys, rfl, rfl, e, e2, hl, z⟩ := z
  obtain ⟨a, rfl, i⟩ := ref_rd dx
  obtain ⟨w, rfl, d1⟩ := one_rd dds
  obtain ⟨b, rfl, i2⟩ := ref_rd d1
  obtain ⟨us, f1, f2⟩ := rh.lst e i
  obtain ⟨ws, g1, g2⟩ := rh.lst e2 i2
  obtain ⟨x2, rh2⟩ := rh.setLst (xs := xs) i f1 (f2.append g2)
  exact ⟨_, mt_extend, a, b, us, ws, rfl, rfl, f1, g1, by rw [← f2.length, ← g2.length]; exact hl, k _ _ z _ _ _ x2 rh2 .non⟩
theorem RDs.erase {ds : List D} {vs : List V} (r : RDs io H ds vs) : ∀ k : Nat, RDs io H (ds.eraseIdx k) (vs.eraseIdx k) := by
  induction r using RDs.rec (motive_1 := fun _ _ _ => True) with
  | nil => intro k; exact .nil
  | cons h r _ ih =>
    intro k
    cases k with
    | zero => exact r
    | succ k => exact .cons h (ih k)
  | _ => trivial
def mPopAt : MD := fun x ds h Q => ∃ n xs i k y, x = .ref n ∧ ds = [.int i] ∧ h[n]? = some (.lst xs) ∧ -(2 ^ 63) ≤ i ∧ i < 2 ^ 63 ∧ seqIndex? i xs.length = some k ∧ xs[k]? = some y ∧ Q y (h.set n (.lst (xs.eraseIdx k)))
theorem ml_popAt : MtL X "list" "list.pop" mPopAt := by
  intro io H h x ds v vs q Q rh dx dds z k
  obtain ⟨n, xs, i0, kk, y, rfl, rfl, e, h1, h2, h3, h4, z⟩ := z
  obtain ⟨a, rfl, i⟩ := ref_rd dx
  obtain ⟨w, rfl, d1⟩ := one_rd dds
  cases d1
  obtain ⟨us, f1, f2⟩ := rh.lst e i
  obtain ⟨u, g1, g2⟩ := f2.get h4
  obtain ⟨x2, rh2⟩ := rh.setLst (xs := xs) i f1 (f2.erase kk)
  exact ⟨_, mt_popAt, a, us, i0, kk, u, rfl, rfl, f1, h1, h2, by rw [← f2.length]; exact h3, g1, k _ _ z _ _ _ x2 rh2 (g2.mono x2)⟩

/-! stars -/
def wStar (w : WE) (wr : WA) : WA := fun sl h Q => w sl h fun x h1 => (∃ xs, (x = .tup xs ∨ ∃ n, x = .ref n ∧ items h1 n = some xs) ∧ wr sl h1 fun ys h2 => Q (xs ++ ys) h2)
theorem la_star {w : WE} {wr : WA} (he : LE X e w) (hr : LA X es wr) (hs : starEach (.Starred e p :: es) X.env = (true, eval e X.env) :: starEach es X.env := by rfl) : LA X (.Starred e p :: es) (wStar w wr) := (StX.pa_star he hr hs).imp fun σ H Q z => by
  obtain ⟨sl, h, io, q, r, z, k⟩ := z
  refine tE.go r z fun x h1 z1 u i1 H1 x1 r1 d1 => ?_
  obtain ⟨xs, hx, z1⟩ := z1
  rcases hx with rfl | ⟨n, rfl, e1⟩
  · cases d1 with
    | @tup a vs _ ha ra => exact ⟨a, vs, rfl, .inl ha.sq, tA.go r1 z1 fun ys h2 z2 ws i2 H2 x2 r2 d2 => k _ _ z2 _ _ _ (x1.trans x2) r2.rh ((ra.mono x2).append d2)⟩
  · obtain ⟨a, rfl, i⟩ := ref_rd d1
    obtain ⟨vs, f1, f2⟩ := r1.rh.list e1 i
    exact ⟨a, vs, rfl, .inr f1, tA.go r1 z1 fun ys h2 z2 ws i2 H2 x2 r2 d2 => k _ _ z2 _ _ _ (x1.trans x2) r2.rh ((f2.mono x2).append d2)⟩

/-! displays of dicts -/
def wDNew (t : Bool) : WE := fun _ h Q => Q (.ref h.length) (h ++ [.dct t false []])
theorem le_dnewK : LE X (.Dict [] [] pos) (wDNew false) := pe_dnewK.imp fun σ H Q z => by
  obtain ⟨sl, h, io, q, r, z, k⟩ := z
  intro p hp
  have x := ex_alloc (io := io) (o := .dK []) hp
  exact k _ _ z _ _ _ x (r.rh.alloc hp (.ofK ⟨[], by simp [DOb, upd_same], .nil⟩)) (.ref (push_at r.rh p))
theorem le_dnewT : LE X (.Dict [] [] pos) (wDNew true) := pe_dnewT.imp fun σ H Q z => by
  obtain ⟨sl, h, io, q, r, z, k⟩ := z
  intro p hp
  have x := ex_alloc (io := io) (o := .dT []) hp
  exact k _ _ z _ _ _ x (r.rh.alloc hp (.ofT ⟨[], by simp [DOb, upd_same], .nil⟩)) (.ref (push_at r.rh p))
/-- {k: v}, one pair, the key a number or a text -/
def wD1 (wk wv : WE) : WE := fun sl h Q => wk sl h fun x h1 => wv sl h1 fun y h2 => keyOk false x = true ∧ Q (.ref h2.length) (h2 ++ [.dct false false [(x, y)]])
theorem le_d1 {wk wv : WE} (hk : LE X a wk) (hv : LE X b wv) : LE X (.Dict [some a] [b] pos) (wD1 wk wv) := (pe_disp (pps_cons hk hv pps_nil) rfl rfl (by simp) (by show 1 ≤ 15; decide)).imp fun σ H Q z => by
  obtain ⟨sl, h, io, q, r, z, k⟩ := z
  intro p hp
  have rn := r.on (ex_upd (o := .dK []) hp) (r.rh.new (o := .dK []) hp)
  have pn : p ∉ io := r.rh.nin hp
  refine tE.go rn z fun x h1 z1 u i1 H1 x1 r1 d1 => tE.go r1 z1 fun y h2 z2 v i2 H2 x2 r2 d2 => ?_
  obtain ⟨hk, z2⟩ := z2
  obtain ⟨key, rfl⟩ := key_of_ok hk
  have := rd_key d1
  subst this
  have x12 := x1.trans x2
  have e2 := x12.oth p _ upd_same pn
  have n2 := x12.nin upd_same pn
  refine ⟨e2, [(key, v)], rfl, by show 1 ≤ 15; decide, ?_⟩
  have y2 := ey_priv (io := i2) (o := .dK (mergeK [] [(key, v)])) e2 (fun _ z => nomatch z)
  have xa : Ex io i2 H (upd H2 p (.dK (mergeK [] [(key, v)]))) := ex_priv ((ex_upd hp).trans x12) hp
  have rh2 := r2.rh.priv (o := .dK (mergeK [] [(key, v)])) n2 e2 (fun _ z => nomatch z) (fun _ z => nomatch z)
  exact k _ _ z2 _ _ _ (ex_adopt xa hp) (rh2.adopt n2 (.ofK ⟨_, by simp only [DOb]; exact upd_same, ((KVk.nil.put (k := key) (d2.monoY y2)).mono1 (List.prefix_append _ _))⟩)) (.ref (push_at rh2 p))
end
end MP

set_option Elab.async false
set_option linter.all false
set_option maxRecDepth 100000
set_option maxHeartbeats 2000000
/-! MpM: a dict comprehension of two clauses; a display of a dict by tuples. -/
namespace MP2
open PySem PySem.Spec PyProof.Rows L2
theorem dTurn2_out (kx vx t0 i0 t1 i1 : Expr) (ifs0 ifs1 : List Expr) (scope : Scope) (pos : Pos) (it : Value) (D : Addr) (env : Env) :
    compTurn (.DictComp kx vx [⟨t0, i0, ifs0, 0⟩, ⟨t1, i1, ifs1, 0⟩] scope pos) 0 it (.ref D) env = (do
      standAt i0.pos
      match ← pyNext it with
      | none => pure (.done .next)
      | some v =>
        letOwnedTupleGo t0 it v
        assign t0 env v
        let mut ok := true
        for c in ifs0 do
          if ok then ok ← isTrue c env (eval c env)
        if ok then
          let x ← eval i1 env
          standAt i1.pos
          let x ← foldedSetIterable i1 env x
          let _ ← runOwn (.compStart (.DictComp kx vx [⟨t0, i0, ifs0, 0⟩, ⟨t1, i1, ifs1, 0⟩] scope pos) 1 (← holding [x] (pyIter x)) (.ref D) env) env
        again (.compLoop (.DictComp kx vx [⟨t0, i0, ifs0, 0⟩, ⟨t1, i1, ifs1, 0⟩] scope pos) 0 it (.ref D) env)) := by rfl
theorem dTurn2_in (kx vx t0 i0 t1 i1 : Expr) (ifs0 ifs1 : List Expr) (scope : Scope) (pos : Pos) (it : Value) (D : Addr) (env : Env) :
    compTurn (.DictComp kx vx [⟨t0, i0, ifs0, 0⟩, ⟨t1, i1, ifs1, 0⟩] scope pos) 1 it (.ref D) env = (do
      standAt i1.pos
      match ← pyNext it with
      | none => pure (.done .next)
      | some v =>
        letOwnedTupleGo t1 it v
        assign t1 env v
        let mut ok := true
        for c in ifs1 do
          if ok then ok ← isTrue c env (eval c env)
        if ok then
          (do
            let kv ← eval kx env
            let vv ← holding [kv] (eval vx env)
            standAt { kx.pos with endLine := vx.pos.endLine, endCol := vx.pos.endCol }
            holding [kv, vv] (dictSet D kv vv))
        again (.compLoop (.DictComp kx vx [⟨t0, i0, ifs0, 0⟩, ⟨t1, i1, ifs1, 0⟩] scope pos) 1 it (.ref D) env)) := by rfl

section
variable {prog : Program} {w : World} {A : Around} {R : Result → Shared → Prop} {s : Shared} {kx vx t0 i0 t1 i1 : Expr} {ifs0 ifs1 : List Expr} {scope : Scope} {pos : Pos} {it : Value} {D : Addr} {env : Env}
/-- the loop of the first clause -/
theorem dLoop2_out (hs : ∀ x, foldedSetIterable i1 env x = pure x) (I : Nat → Shared → Prop)
    (turn : ∀ n s, I n s → wpAny (model prog w) A (pyNext it) (fun r s₁ => match r with
      | none => R (.ok .next) s₁
      | some v => wpAny (model prog w) A (letOwnedTupleGo t0 it v) (fun _ s₁' => wpAny (model prog w) A (assign t0 env v) (fun _ s₂ =>
          wpAny (model prog w) A (forIn ifs0 true fun c r => if r = true then do let ok ← isTrue c env (eval c env); pure (ForInStep.yield ok) else pure (ForInStep.yield r)) (fun ok s₃ =>
            if ok = true then wpAny (model prog w) A (eval i1 env) (fun x s₄ => wpAny (model prog w) A (pyIter x) (fun it1 s₅ =>
              codeAny (model prog w) A (.compStart (.DictComp kx vx [⟨t0, i0, ifs0, 0⟩, ⟨t1, i1, ifs1, 0⟩] scope pos) 1 it1 (.ref D) env) (fun r s' => match r with
                | .ok _ => ∃ m, m < n ∧ I m s'
                | .error _ => False) s₅) (notedBy (model prog w) A env fun e s' => R (.error e) s') s₄) (notedBy (model prog w) A env fun e s' => R (.error e) s') s₃
            else ∃ m, m < n ∧ I m s₃) (notedBy (model prog w) A env fun e s' => R (.error e) s') s₂) (notedBy (model prog w) A env fun e s' => R (.error e) s') s₁') (notedBy (model prog w) A env fun e s' => R (.error e) s') s₁) (notedBy (model prog w) A env fun e s' => R (.error e) s') s)
    (n : Nat) (h : I n s) :
    codeAny (model prog w) A (.compLoop (.DictComp kx vx [⟨t0, i0, ifs0, 0⟩, ⟨t1, i1, ifs1, 0⟩] scope pos) 0 it (.ref D) env) R s := by
  refine codeAny_loop rfl I (fun n s hI => ?_) n h
  show wpAny _ A ((compTurn (.DictComp kx vx [⟨t0, i0, ifs0, 0⟩, ⟨t1, i1, ifs1, 0⟩] scope pos) 0 it (.ref D) env).onRaise (fun x => do noteFrame x env; theTreesLotGoes x)) _ _ s
  refine wpAny_noted ?_
  rw [dTurn2_out]
  refine wpAny_bind (wpAny_standAt (wpAny_bind (wpAny_mono (turn n s hI) (fun r s₁ h₁ => ?_) fun _ _ h' => h')))
  cases r with
  | none => exact wpAny_pure h₁
  | some v =>
    refine wpAny_bind (wpAny_mono h₁ (fun _ s₁' h₁' => ?_) fun _ _ h' => h')
    refine wpAny_bind (wpAny_mono h₁' (fun _ s₂ h₂ => wpAny_bind (wpAny_mono h₂ (fun ok s₃ h₃ => ?_) fun _ _ h' => h')) fun _ _ h' => h')
    cases ok with
    | false => exact wpAny_pure ⟨rfl, h₃⟩
    | true =>
      refine wpAny_bind (wpAny_mono h₃ (fun x s₄ h₄ => ?_) fun _ _ h' => h')
      refine wpAny_bind (wpAny_standAt (wpAny_bind (wpAny_of_eq (hs x) (wpAny_bind (wpAny_holding (wpAny_mono h₄ (fun it1 s₅ h₅ => ?_) fun _ _ h' => h'))))))
      refine wpAny_bind (wpAny_runOwn ?_)
      rw [Around.mark_none]
      refine codeAny_mono h₅ fun r s' hr => ?_
      cases r with
      | ok f =>
        first
          | exact wpAny_pure ⟨rfl, hr⟩
          | exact wpAny_bind (wpAny_pure (wpAny_pure ⟨rfl, hr⟩))
      | error e => exact hr.elim
/-- the loop of the second -/
theorem dLoop2_in (I : Nat → Shared → Prop)
    (turn : ∀ n s, I n s → wpAny (model prog w) A (pyNext it) (fun r s₁ => match r with
      | none => R (.ok .next) s₁
      | some v => wpAny (model prog w) A (letOwnedTupleGo t1 it v) (fun _ s₁' => wpAny (model prog w) A (assign t1 env v) (fun _ s₂ =>
          wpAny (model prog w) A (forIn ifs1 true fun c r => if r = true then do let ok ← isTrue c env (eval c env); pure (ForInStep.yield ok) else pure (ForInStep.yield r)) (fun ok s₃ =>
            if ok = true then wpAny (model prog w) A (eval kx env) (fun kv s₄ => wpAny (model prog w) A (eval vx env) (fun vv s₅ =>
              wpAny (model prog w) A (dictSet D kv vv) (fun _ s₆ => ∃ m, m < n ∧ I m s₆) (notedBy (model prog w) A env fun e s' => R (.error e) s') s₅) (notedBy (model prog w) A env fun e s' => R (.error e) s') s₄) (notedBy (model prog w) A env fun e s' => R (.error e) s') s₃
            else ∃ m, m < n ∧ I m s₃) (notedBy (model prog w) A env fun e s' => R (.error e) s') s₂) (notedBy (model prog w) A env fun e s' => R (.error e) s') s₁') (notedBy (model prog w) A env fun e s' => R (.error e) s') s₁) (notedBy (model prog w) A env fun e s' => R (.error e) s') s)
    (n : Nat) (h : I n s) :
    codeAny (model prog w) A (.compLoop (.DictComp kx vx [⟨t0, i0, ifs0, 0⟩, ⟨t1, i1, ifs1, 0⟩] scope pos) 1 it (.ref D) env) R s := by
  refine codeAny_loop rfl I (fun n s hI => ?_) n h
  show wpAny _ A ((compTurn (.DictComp kx vx [⟨t0, i0, ifs0, 0⟩, ⟨t1, i1, ifs1, 0⟩] scope pos) 1 it (.ref D) env).onRaise (fun x => do noteFrame x env; theTreesLotGoes x)) _ _ s
  refine wpAny_noted ?_
  rw [dTurn2_in]
  refine wpAny_bind (wpAny_standAt (wpAny_bind (wpAny_mono (turn n s hI) (fun r s₁ h₁ => ?_) fun _ _ h' => h')))
  cases r with
  | none => exact wpAny_pure h₁
  | some v =>
    refine wpAny_bind (wpAny_mono h₁ (fun _ s₁' h₁' => ?_) fun _ _ h' => h')
    refine wpAny_bind (wpAny_mono h₁' (fun _ s₂ h₂ => wpAny_bind (wpAny_mono h₂ (fun ok s₃ h₃ => ?_) fun _ _ h' => h')) fun _ _ h' => h')
    cases ok with
    | false => exact wpAny_pure ⟨rfl, h₃⟩
    | true =>
      exact wpAny_bind (wpAny_bind (wpAny_mono h₃ (fun kv s₄ h₄ => wpAny_bind (wpAny_holding (wpAny_mono h₄ (fun vv s₅ h₅ => wpAny_bind (wpAny_standAt (wpAny_holding (wpAny_mono h₅ (fun _ s₆ h₆ => wpAny_pure ⟨rfl, h₆⟩) fun _ _ h' => h')))) fun _ _ h' => h'))) fun _ _ h' => h'))
/-- the second clause's start -/
theorem dStart1_ok (h0 : codeAny (model prog w) A (.compLoop (.DictComp kx vx [⟨t0, i0, ifs0, 0⟩, ⟨t1, i1, ifs1, 0⟩] scope pos) 1 it (.ref D) env) R s)
    (h : wpAny (model prog w) A (pyIter it) (fun it' s' => codeAny (model prog w) A (.compLoop (.DictComp kx vx [⟨t0, i0, ifs0, 0⟩, ⟨t1, i1, ifs1, 0⟩] scope pos) 1 it' (.ref D) env) R s')
      (notedBy (model prog w) A env fun x s' => R (.error x) s') s) :
    codeAny (model prog w) A (.compStart (.DictComp kx vx [⟨t0, i0, ifs0, 0⟩, ⟨t1, i1, ifs1, 0⟩] scope pos) 1 it (.ref D) env) R s := by
  refine codeAny_of_tree ?_
  show wpAny _ _ ((compStart (.DictComp kx vx [⟨t0, i0, ifs0, 0⟩, ⟨t1, i1, ifs1, 0⟩] scope pos) 1 it (.ref D) env).onRaise (fun x => do noteFrame x env; standAt theWindowsPlace)) _ _ s
  refine wpAny_notedAt ?_
  unfold compStart
  show wpAny _ _ (ask >>= _) _ _ s
  refine wpAny_bind (wpAny_askSetting (wpAny_ite ?_))
  split
  · first
      | exact wpAny_bind (wpAny_pure (wpAny_pure (And.intro rfl h0)))
      | exact wpAny_pure (And.intro rfl h0)
  · first
      | exact wpAny_bind (wpAny_rule (wpAny_bind (wpAny_standAt (wpAny_bind (wpAny_mono h (fun it' s' h' => wpAny_pure (And.intro rfl h')) fun _ _ x => x)))))
      | (refine wpAny_bind (wpAny_rule ?_); show wpAny _ _ (standAt i1.pos >>= _) _ _ s; exact wpAny_bind (wpAny_standAt (wpAny_bind (wpAny_mono h (fun it' s' h' => wpAny_pure (And.intro rfl h')) fun _ _ x => x))))
end

section
variable {X : Cx}
def tDc2 (wi : TI) (g : TG) (tt : TT) (wi1 : TI) (g1 : TG) (tt1 : TT) (tk tv : TE) (vs vs1 : List Nat) : TE := fun σ H Q => wi σ H fun J H1 => ∀ D, H1 D = none → ∃ W : Nat → Nat → Hp → Prop, (∃ m, W 0 m (upd H1 D (.dK []))) ∧ ∀ i m H, W i m H →
  (J.stop i H ∧ Q (.ref D) H) ∨ (J.go i H ∧ ∃ Nx : Hp → Prop, (∀ H', Nx H' → ∃ m', m' < m ∧ W (i + 1) m' H') ∧ ∀ x H', J.yld i H x H' → g x (wipe σ vs) H' fun σ2 H2 => wipe σ2 vs = wipe σ vs ∧ tt σ2 H2 fun b H3 =>
    if b = true then wi1 σ2 H3 fun J1 H4 => ∃ W1 : Nat → Nat → Hp → Prop, (∃ m, W1 0 m H4) ∧ ∀ j k H, W1 j k H →
      (J1.stop j H ∧ Nx H) ∨ (J1.go j H ∧ ∃ Nx1 : Hp → Prop, (∀ H', Nx1 H' → ∃ k', k' < k ∧ W1 (j + 1) k' H') ∧ ∀ x H', J1.yld j H x H' → g1 x (wipe σ2 vs1) H' fun σ3 H5 => wipe σ3 vs1 = wipe σ2 vs1 ∧ tt1 σ3 H5 fun b H6 =>
        if b = true then tk σ3 H6 fun y H7 => tv σ3 H7 fun z H8 => ∃ kvs k, y = kV k ∧ H8 D = some (.dK kvs) ∧ kvs.length < sizeLine ∧ Nx1 (upd H8 D (.dK (putK kvs k z))) else Nx1 H6)
    else Nx H3)
theorem dc2_core {pins : List (Addr × Obj)} {s : Shared} {σ : L2.St} {H : Hp} {Q : VK} {kx vx tg iter tg1 iter1 : Expr} {ifs ifs1 : List Expr} {scope : Scope} {own : List (Str × Nat)} {vs1 : List Nat} {pos pos' : Pos} {wi wi1 : TI} {g g1 : TG} {tt tt1 : TT} {tk tv : TE} {use : Option (Value → Sem Unit)} {Qf : Value → Shared → Prop}
    (hc : X.calm = true) (hN : X.N.Nodup) (I : Inv X pins σ H s) (hi : PI X tg iter wi) (ok : BlkOk X.N X.env.scope scope own) (hv : ∀ i ∈ vs1, i ∈ own.map (·.2))
    (hg : ∀ (s : Shared) (H : Hp) (C : Addr) (cl : List (Str × Addr)) (fp : List Addr), PG (X.blk s H scope (compEnvC scope cl C X.env) fp) tg g) (ht : ∀ (s : Shared) (H : Hp) (C : Addr) (cl : List (Str × Addr)) (fp : List Addr), PTs (X.blk s H scope (compEnvC scope cl C X.env) fp) ifs tt)
    (hk : ∀ (s : Shared) (H : Hp) (C : Addr) (cl : List (Str × Addr)) (fp : List Addr), PE (X.blk s H scope (compEnvC scope cl C X.env) fp) kx tk)
    (he : ∀ (s : Shared) (H : Hp) (C : Addr) (cl : List (Str × Addr)) (fp : List Addr), PE (X.blk s H scope (compEnvC scope cl C X.env) fp) vx tv) (hs : ∀ x, foldedSetIterable iter X.env x = pure x)
    (hi1 : ∀ (s : Shared) (H : Hp) (C : Addr) (cl : List (Str × Addr)) (fp : List Addr), PI (X.blk s H scope (compEnvC scope cl C X.env) fp) tg1 iter1 wi1)
    (hg1 : ∀ (s : Shared) (H : Hp) (C : Addr) (cl : List (Str × Addr)) (fp : List Addr), PG (X.blk s H scope (compEnvC scope cl C X.env) fp) tg1 g1)
    (ht1 : ∀ (s : Shared) (H : Hp) (C : Addr) (cl : List (Str × Addr)) (fp : List Addr), PTs (X.blk s H scope (compEnvC scope cl C X.env) fp) ifs1 tt1)
    (hs1 : ∀ env x, foldedSetIterable iter1 env x = pure x)
    (h : tDc2 wi g tt wi1 g1 tt1 tk tv (own.map (·.2)) vs1 σ H Q)
    (hRR : ∀ D C s' m H', Inv X pins σ H' s' → Q (.ref D) H' → s'.heap.Ns C m → FpOk X pins H' C → compPost (model X.prog X.w) X.A X.xe use Qf (.ref D) C (.ok .next) s') :
    wpAny (model X.prog X.w) X.A (comprehension (.DictComp kx vx [⟨tg, iter, ifs, 0⟩, ⟨tg1, iter1, ifs1, 0⟩] scope pos) scope X.env pos' newDict false (eval iter X.env) use) Qf X.xe s := by
  have hfree : ∀ y ∈ scope.names, y.2 = .free → ∃ c, X.env.cells.lookup y.1 = some c := fun y hy e => by
    rcases ok.free y hy e with k | k
    · exact I.ok.has _ (.inl k)
    · exact I.ok.has _ (.inr k)
  refine wpAny_comprehension_free (use := use) rfl hs (closure_ok hfree) ok.kind (fun y hy e => by rw [ok.uniq y hy, e])
    (thn (hi.run pins s σ H _ I h) fun xv s1 hx => thn hx fun itv s2 h2 => ?_)
  obtain ⟨it, fp, tn, J, H2, e, I2, T, st2, f2, q⟩ := h2
  subst e
  refine wpAny_newObj_type (newEnv_comp ?_)
  generalize hD : s2.heap.objs.size = D
  have hDn : H2 D = none := I2.hok.fresh (Nat.le_of_eq hD)
  obtain ⟨W, ⟨m0, w0⟩, turn⟩ := q D hDn
  -- the new list
  generalize hs3 : ({ s2 with heap := s2.heap.push { cls := .type "dict", data := .dict #[] } } : Shared) = s3
  have I3 : Inv X pins σ (upd H2 D (.dK [])) s3 := by
    rw [← hs3]
    refine I2.laid (t' := s2.toks) (fun b o e => Heap.get?_push_of_some _ e) (Nat.le_of_eq hD) ?_
    rw [← hD]
    exact dk_empty s2.heap I2.big
  have h3 : s3.heap = s2.heap.push { cls := .type "dict", data := .dict #[] } := by rw [← hs3]
  have sz : ∀ b ∈ fp, b < s2.heap.objs.size := fun b hb => by
    obtain ⟨o, e, _⟩ := T.obj _ _ st2 b hb
    exact Heap.lt_size e
  have f3 : ∀ b ∈ fp, FpOk X pins (upd H2 D (.dK [])) b ∧ b < s3.heap.objs.size := fun b hb => by
    have hlt := sz b hb
    refine ⟨⟨?_, (f2 b hb).2⟩, by rw [h3, Heap.size_push]; exact Nat.lt_succ_of_lt hlt⟩
    rw [upd_ne (by rw [← hD]; exact Nat.ne_of_lt hlt)]
    exact (f2 b hb).1
  have st3 : tn 0 s3.heap := T.keep _ _ _ st2 fun b _ o e => by rw [h3]; exact Heap.get?_push_of_some _ e
  have I4 := block_start I3 ok hN f3
  have pg := hg s3 (upd H2 D (.dK [])) s3.heap.objs.size (cellsFrom (s3.heap.objs.size + 1) scope.names (cloFrom X.env.cells scope.names [])) fp
  have pt := ht s3 (upd H2 D (.dK [])) s3.heap.objs.size (cellsFrom (s3.heap.objs.size + 1) scope.names (cloFrom X.env.cells scope.names [])) fp
  have pk := hk s3 (upd H2 D (.dK [])) s3.heap.objs.size (cellsFrom (s3.heap.objs.size + 1) scope.names (cloFrom X.env.cells scope.names [])) fp
  have pe := he s3 (upd H2 D (.dK [])) s3.heap.objs.size (cellsFrom (s3.heap.objs.size + 1) scope.names (cloFrom X.env.cells scope.names [])) fp
  have pi1 := hi1 s3 (upd H2 D (.dK [])) s3.heap.objs.size (cellsFrom (s3.heap.objs.size + 1) scope.names (cloFrom X.env.cells scope.names [])) fp
  have pg1 := hg1 s3 (upd H2 D (.dK [])) s3.heap.objs.size (cellsFrom (s3.heap.objs.size + 1) scope.names (cloFrom X.env.cells scope.names [])) fp
  have pt1 := ht1 s3 (upd H2 D (.dK [])) s3.heap.objs.size (cellsFrom (s3.heap.objs.size + 1) scope.names (cloFrom X.env.cells scope.names [])) fp
  show codeAny _ _ (.compStart (.DictComp kx vx [⟨tg, iter, ifs, 0⟩, ⟨tg1, iter1, ifs1, 0⟩] scope pos) 0 (.ref it) (.ref D) (compEnvC scope (cellsFrom (s3.heap.objs.size + 1) scope.names (cloFrom X.env.cells scope.names [])) s3.heap.objs.size X.env)) (compPost (model X.prog X.w) X.A X.xe use Qf (.ref D) s3.heap.objs.size) { s3 with heap := pushCells (s3.heap.push { cls := .type "dict", data := .dict #[] }) scope.names }
  have nfp : ∀ b ∈ fp, (upd H2 D (.dK [])) b = none := fun b hb => (f3 b hb).1.1
  generalize hce : compEnvC scope (cellsFrom (s3.heap.objs.size + 1) scope.names (cloFrom X.env.cells scope.names [])) s3.heap.objs.size X.env = ce at I4 pg pt pk pe pi1 pg1 pt1 ⊢
  have cL : ce.locals = s3.heap.objs.size := by subst hce; rfl
  generalize hH3 : upd H2 D (.dK []) = H3 at I3 I4 pg pt pk pe pi1 pg1 pt1 w0 nfp f3
  generalize hs4 : ({ s3 with heap := pushCells (s3.heap.push { cls := .type "dict", data := .dict #[] }) scope.names } : Shared) = s4 at I4 ⊢
  have st4 : tn 0 s4.heap := T.keep _ _ _ st3 fun b _ o e => by rw [← hs4]; exact pushCells_keeps _ _ _ _ (Heap.get?_push_of_some _ e)
  have stat : ∀ {σ' : L2.St} {H' : Hp} {s' : Shared}, Inv (X.blk s3 H3 scope ce fp) [] σ' H' s' → (∀ b ∈ fp, H' b = none) → ∀ b ∈ fp, FpOk (X.blk s3 H3 scope ce fp) [] H' b := fun {σ' H' s'} I' hn b hb =>
    ⟨hn b hb, (I'.ok.exf b hb).1, I'.ok.exfs b hb, .inl hb, fun x c e => (I'.ok.exf b hb).2 x c e, fun p hp => absurd (show p ∈ ([] : List (Addr × Obj)) ++ [] from hp) (by simp)⟩
  have loop : codeAny (model X.prog X.w) X.A (.compLoop (.DictComp kx vx [⟨tg, iter, ifs, 0⟩, ⟨tg1, iter1, ifs1, 0⟩] scope pos) 0 (.ref it) (.ref D) ce) (compPost (model X.prog X.w) X.A X.xe use Qf (.ref D) s3.heap.objs.size) s4 := by
    refine dLoop2_out (hs1 ce) (fun n s' => ∃ i H', Inv (X.blk s3 H3 scope ce fp) [] (wipe σ (own.map (·.2))) H' s' ∧ tn i s'.heap ∧ (∀ b ∈ fp, H' b = none) ∧ W i n H') ?_ m0 ⟨0, H3, I4, st4, nfp, w0⟩
    rintro n s5 ⟨i, H5, I5, st5, n5, w5⟩
    rcases turn i n H5 w5 with ⟨stop, qq⟩ | ⟨go, Nx, hNx, step⟩
    · have td := T.done (X.blk s3 H3 scope ce fp) rfl rfl rfl hc i [] s5 _ H5 (fun _ _ => False) I5 (stat I5 n5) st5 stop
      refine thnF td fun r s6 ⟨hr, I6⟩ => ?_
      subst hr
      -- back in the def's context
      have I7 : Inv X pins σ H5 s6 := I3.call' (ch := fp) I6.os I6.base I6.hok I6.bare fun b hb => ⟨(f3 b hb).1.2.2.2.1, (f3 b hb).1.2.1, (f3 b hb).1.2.2.2.2.1, (f3 b hb).1.2.2.2.2.2⟩
      have nC : H5 s3.heap.objs.size = none := by
        have z : H5 ce.locals = none := I6.free
        rw [cL] at z
        exact z
      obtain ⟨m, hn, _⟩ := I6.loc
      have hn : s6.heap.Ns ce.locals m := hn
      rw [cL] at hn
      exact hRR D s3.heap.objs.size s6 m H5 I7 qq hn (I3.fpOk (Nat.le_refl _) nC)
    · have ti := T.item (X.blk s3 H3 scope ce fp) rfl rfl rfl hc i [] s5 _ H5 (fun _ _ => False) I5 (stat I5 n5) st5 go
      refine thnF ti fun r s6 ⟨u, hr, h6⟩ => ?_
      subst hr
      refine thnF h6 fun _ s7 ⟨x, H7, I7, r7, y7, st7, n7⟩ => ?_
      have I7' := I7.pinned (stat I7 n7) (T.obj _ _ st7)
      refine thnF (pg.run _ s7 _ H7 x u _ I7' r7 (step x H7 y7)) fun _ s8 ⟨σ8, H8, I8, hw8, q8⟩ => ?_
      refine thnF (pt.run _ s8 σ8 H8 _ I8 q8) fun b s9 ⟨H9, I9, q9⟩ => ?_
      -- the turn's end, from any slots that know what the block knew at its start
      have fin : ∀ {σ9 : L2.St} {s' : Shared} {H' : Hp}, Inv (X.blk s3 H3 scope ce fp) ([] ++ pinsAt fp s7.heap) σ9 H' s' → (wipe σ (own.map (·.2))).length = σ9.length → (∀ (j : Nat) v, (wipe σ (own.map (·.2)))[j]? = some (some v) → σ9[j]? = some (some v)) → Nx H' →
          ∃ m, m < n ∧ ∃ i H', Inv (X.blk s3 H3 scope ce fp) [] (wipe σ (own.map (·.2))) H' s' ∧ tn i s'.heap ∧ (∀ b ∈ fp, H' b = none) ∧ W i m H' := fun {σ9 s' H'} I' hl hk nx => by
        obtain ⟨m', hm, w'⟩ := hNx H' nx
        have pin' : ∀ b ∈ fp, ∀ o, s7.heap.get? b = some o → s'.heap.get? b = some o ∧ H' b = none := fun b hb o e =>
          let z := I'.pin (b, o) (List.mem_append_right _ (List.mem_append_right _ (mem_pinsAt hb e)))
          ⟨z.1, z.2.1⟩
        refine ⟨m', hm, i + 1, H', (I'.unpinned (pins := [])).weak hl hk, T.keep _ _ _ st7 fun b hb o e => (pin' b hb o e).1, fun b hb => ?_, w'⟩
        obtain ⟨o, e, _⟩ := T.obj _ _ st7 b hb
        exact (pin' b hb o e).2
      have hl8 : (wipe σ (own.map (·.2))).length = σ8.length := by rw [← hw8, wipe_length]
      have hk8 : ∀ (j : Nat) v, (wipe σ (own.map (·.2)))[j]? = some (some v) → σ8[j]? = some (some v) := fun j v e => by
        rw [← hw8] at e
        exact (wipe_some e).1
      have hk9 : ∀ (j : Nat) v, (wipe σ (own.map (·.2)))[j]? = some (some v) → (wipe σ8 vs1)[j]? = some (some v) := fun j v e => by
        rw [← hw8] at e
        obtain ⟨e1, e2⟩ := wipe_some e
        rw [wipe_out fun z => e2 (hv j z)]
        exact e1
      cases b with
      | false =>
        simp only [Bool.false_eq_true, if_false] at q9 ⊢
        exact fin I9 hl8 hk8 q9
      | true =>
        simp only [if_true] at q9 ⊢
        refine thnF (pi1.run _ s9 σ8 H9 _ I9 q9) fun xv s10 hx => thnF hx fun itv s11 h11 => ?_
        obtain ⟨it1, fp1, tn1, J1, H11, e1, I11, T1, st11, f11, W1, ⟨m1, w1⟩, turn1⟩ := h11
        subst e1
        -- the inner loop
        have stat1 : ∀ {H' : Hp}, (∀ b ∈ fp1, H' b = none) → ∀ b ∈ fp1, FpOk (X.blk s3 H3 scope ce fp) ([] ++ pinsAt fp s7.heap) H' b := fun hn b hb => ⟨hn b hb, (f11 b hb).2⟩
        have loop1 : codeAny (model X.prog X.w) X.A (.compLoop (.DictComp kx vx [⟨tg, iter, ifs, 0⟩, ⟨tg1, iter1, ifs1, 0⟩] scope pos) 1 (.ref it1) (.ref D) ce)
            (fun r s' => match r with
              | .ok _ => ∃ m, m < n ∧ ∃ i H', Inv (X.blk s3 H3 scope ce fp) [] (wipe σ (own.map (·.2))) H' s' ∧ tn i s'.heap ∧ (∀ b ∈ fp, H' b = none) ∧ W i m H'
              | .error _ => False) s11 := by
          refine dLoop2_in (fun k s' => ∃ j H', Inv (X.blk s3 H3 scope ce fp) ([] ++ pinsAt fp s7.heap) (wipe σ8 vs1) H' s' ∧ tn1 j s'.heap ∧ (∀ b ∈ fp1, H' b = none) ∧ W1 j k H') ?_ m1 ⟨0, H11, I11.weak (wipe_length _ _) (fun j v e => (wipe_some e).1), st11, fun b hb => (f11 b hb).1, w1⟩
          rintro k s12 ⟨j, H12, I12, st12, n12, w12⟩
          rcases turn1 j k H12 w12 with ⟨stop1, nx1⟩ | ⟨go1, Nx1, hNx1, step1⟩
          · refine thnF (T1.done (X.blk s3 H3 scope ce fp) rfl rfl rfl hc j _ s12 (wipe σ8 vs1) H12 (fun _ _ => False) I12 (stat1 n12) st12 stop1) fun r s13 ⟨hr, I13⟩ => ?_
            subst hr
            exact fin I13 (hl8.trans (wipe_length σ8 vs1).symm) hk9 nx1
          · refine thnF (T1.item (X.blk s3 H3 scope ce fp) rfl rfl rfl hc j _ s12 (wipe σ8 vs1) H12 (fun _ _ => False) I12 (stat1 n12) st12 go1) fun r s13 ⟨u1, hr, h13⟩ => ?_
            subst hr
            refine thnF h13 fun _ s14 ⟨x1, H14, I14, r14, y14, st14, n14⟩ => ?_
            have I14' := I14.pinned (stat1 n14) (T1.obj _ _ st14)
            refine thnF (pg1.run _ s14 (wipe σ8 vs1) H14 x1 u1 _ I14' r14 (step1 x1 H14 y14)) fun _ s15 ⟨σ15, H15, I15, hw15, q15⟩ => ?_
            refine thnF (pt1.run _ s15 σ15 H15 _ I15 q15) fun b1 s16 ⟨H16, I16, q16⟩ => ?_
            have fin1 : ∀ {s' : Shared} {H' : Hp}, Inv (X.blk s3 H3 scope ce fp) (([] ++ pinsAt fp s7.heap) ++ pinsAt fp1 s14.heap) σ15 H' s' → Nx1 H' → ∃ m, m < k ∧ ∃ j H', Inv (X.blk s3 H3 scope ce fp) ([] ++ pinsAt fp s7.heap) (wipe σ8 vs1) H' s' ∧ tn1 j s'.heap ∧ (∀ b ∈ fp1, H' b = none) ∧ W1 j m H' := fun {s' H'} I' nx => by
              obtain ⟨m', hm, w'⟩ := hNx1 H' nx
              have pin' : ∀ b ∈ fp1, ∀ o, s14.heap.get? b = some o → s'.heap.get? b = some o ∧ H' b = none := fun b hb o e =>
                let z := I'.pin (b, o) (List.mem_append_right _ (List.mem_append_right _ (mem_pinsAt hb e)))
                ⟨z.1, z.2.1⟩
              refine ⟨m', hm, j + 1, H', I'.unpinned.weak (by rw [← hw15, wipe_length]) (fun j v e => by rw [← hw15] at e; exact (wipe_some e).1), T1.keep _ _ _ st14 fun b hb o e => (pin' b hb o e).1, fun b hb => ?_, w'⟩
              obtain ⟨o, e, _⟩ := T1.obj _ _ st14 b hb
              exact (pin' b hb o e).2
            cases b1 with
            | false =>
              simp only [Bool.false_eq_true, if_false] at q16 ⊢
              exact fin1 I16 q16
            | true =>
              simp only [if_true] at q16 ⊢
              refine thnF (pk.run _ s16 σ15 H16 _ I16 q16) fun z s17 ⟨yk, H17, I17, r17, q17⟩ => ?_
              refine thnF (pe.run _ s17 σ15 H17 _ I17 q17) fun z2 s18 ⟨yv, H18, I18, r18, kvs, k, ek, hD18, hz18, nx⟩ => ?_
              subst ek
              exact d_dictSet (X := X.blk s3 H3 scope ce fp) I18 hD18 hz18 r17 r18 fun s19 I19 => fin1 I19 nx
        exact dStart1_ok loop1 (T1.self X.A 0 _ _ _ st11 loop1)
  exact codeAny_compStart_dict loop (T.self X.A 0 _ _ _ st4 loop)

theorem pe_dc2 {kx vx tg iter tg1 iter1 : Expr} {ifs ifs1 : List Expr} {scope : Scope} {own : List (Str × Nat)} {vs1 : List Nat} {pos : Pos} {wi wi1 : TI} {g g1 : TG} {tt tt1 : TT} {tk tv : TE} (hc : X.calm = true) (hN : X.N.Nodup) (hi : PI X tg iter wi) (ok : BlkOk X.N X.env.scope scope own) (hv : ∀ i ∈ vs1, i ∈ own.map (·.2))
    (hg : ∀ (s : Shared) (H : Hp) (C : Addr) (cl : List (Str × Addr)) (fp : List Addr), PG (X.blk s H scope (compEnvC scope cl C X.env) fp) tg g) (ht : ∀ (s : Shared) (H : Hp) (C : Addr) (cl : List (Str × Addr)) (fp : List Addr), PTs (X.blk s H scope (compEnvC scope cl C X.env) fp) ifs tt)
    (hi1 : ∀ (s : Shared) (H : Hp) (C : Addr) (cl : List (Str × Addr)) (fp : List Addr), PI (X.blk s H scope (compEnvC scope cl C X.env) fp) tg1 iter1 wi1)
    (hg1 : ∀ (s : Shared) (H : Hp) (C : Addr) (cl : List (Str × Addr)) (fp : List Addr), PG (X.blk s H scope (compEnvC scope cl C X.env) fp) tg1 g1) (ht1 : ∀ (s : Shared) (H : Hp) (C : Addr) (cl : List (Str × Addr)) (fp : List Addr), PTs (X.blk s H scope (compEnvC scope cl C X.env) fp) ifs1 tt1)
    (hk : ∀ (s : Shared) (H : Hp) (C : Addr) (cl : List (Str × Addr)) (fp : List Addr), PE (X.blk s H scope (compEnvC scope cl C X.env) fp) kx tk)
    (he : ∀ (s : Shared) (H : Hp) (C : Addr) (cl : List (Str × Addr)) (fp : List Addr), PE (X.blk s H scope (compEnvC scope cl C X.env) fp) vx tv) (hs : ∀ x, foldedSetIterable iter X.env x = pure x := by intro _; rfl) (hs1 : ∀ env x, foldedSetIterable iter1 env x = pure x := by intro _ _; rfl) :
    PE X (.DictComp kx vx [⟨tg, iter, ifs, 0⟩, ⟨tg1, iter1, ifs1, 0⟩] scope pos) (tDc2 wi g tt wi1 g1 tt1 tk tv (own.map (·.2)) vs1) := by
  refine ⟨fun pins s σ H Q I h => ?_⟩
  rw [arm_eval_DictComp]
  refine dc2_core hc hN I hi ok hv hg ht hk he hs hi1 hg1 ht1 hs1 h fun D C s' m H' I' q hn f => ⟨m, hn, fun h'' sb => ?_⟩
  obtain ⟨f0, f1, f2, f3, f4, f5⟩ := f
  exact ⟨.ref D, H', I'.turned (t' := s'.toks) (fun b o hb e => (sb.2 b hb).trans e) f0 f1 f3 f4 f5, rfl, q⟩
end
end MP2

set_option Elab.async false
set_option linter.all false
set_option maxRecDepth 100000
set_option maxHeartbeats 2000000
/-! MpN: the dict comprehension of two clauses; a display of one pair with a tuple key. -/
namespace MP
open PySem PySem.Spec
open PyProof.Rows hiding St
open L2

section
variable {X : Cx} {j : Nat} {a b c e o ie tg tg1 iter iter1 elt kx vx : Expr} {pos pos' p apos cpos tpos : Pos} {es elts ifs ifs1 : List Expr} {kk : Nat} {scope : Scope} {own : List (Str × Nat)} {vs vs1 : List Nat}
variable {K : PySem.W.Frag} {mg : Str → Option Value} {io io' : List Addr} {H H' : Hp} {h h' : Hd} {sl : Sd} {σ : L2.St}
def wDc2 (wi : WI) (g : WG) (tt : WT) (wi1 : WI) (g1 : WG) (tt1 : WT) (tk tv : WE) (vs vs1 : List Nat) : WE := fun sl h Q => wi sl h fun t h1 => ∃ W : Nat → Nat → List (D × D) → Hd → Prop, (∃ m, W 0 m [] h1) ∧ ∀ i m acc h, W i m acc h →
  (t i h = some none ∧ Q (.ref h.length) (h ++ [.dct false false acc])) ∨ ∃ d, t i h = some (some d) ∧ ∃ N : List (D × D) → Hd → Prop, (∀ acc' h', N acc' h' → ∃ m', m' < m ∧ W (i + 1) m' acc' h') ∧ g d (wipeD sl vs) h fun sl2 h2 => tt sl2 h2 fun b h3 =>
    if b = true then wi1 sl2 h3 fun t1 h4 => ∃ W1 : Nat → Nat → List (D × D) → Hd → Prop, (∃ m, W1 0 m acc h4) ∧ ∀ j k acc h, W1 j k acc h →
      (t1 j h = some none ∧ N acc h) ∨ ∃ d, t1 j h = some (some d) ∧ ∃ N1 : List (D × D) → Hd → Prop, (∀ acc' h', N1 acc' h' → ∃ k', k' < k ∧ W1 (j + 1) k' acc' h') ∧ g1 d (wipeD sl2 vs1) h fun sl3 h5 => tt1 sl3 h5 fun b h6 =>
        if b = true then tk sl3 h6 fun x h7 => tv sl3 h7 fun y h8 => keyOk false x = true ∧ acc.length < sizeLine ∧ N1 (putD acc x y) h8 else N1 acc h6
    else N acc h3
theorem dc2_imp {wi wi1 : WI} {g g1 : WG} {tt tt1 : WT} {tk tv : WE} : ∀ σ H Q, tE K mg (wDc2 wi g tt wi1 g1 tt1 tk tv vs vs1) σ H Q →
    MP2.tDc2 (tI K mg wi) (tGo K mg vs g) (tT K mg tt) (tI K mg wi1) (tGo K mg vs1 g1) (tT K mg tt1) (tE K mg tk) (tE K mg tv) vs vs1 σ H Q := by
  intro σ H Q z
  obtain ⟨sl, h, io, q, r, z, k⟩ := z
  refine ⟨sl, h, io, _, r, z, fun t h1 z1 J i1 H1 x1 rh1 rit D hD => ?_⟩
  obtain ⟨W, ⟨m0, w0⟩, turn⟩ := z1
  have nD : D ∉ i1 := rh1.nin hD
  refine ⟨fun i m H' => ∃ acc vs' h' io', Ex i1 io' H1 H' ∧ D ∉ io' ∧ RH K mg io' H' h' ∧ H' D = some (.dK vs') ∧ KVk io' H' acc vs' ∧ W i m acc h', ⟨m0, [], [], h1, i1, ex_upd hD, nD, rh1.new hD, upd_same, .nil, w0⟩, ?_⟩
  rintro i m H2 ⟨acc, vs2, h2, i2, x2, n2, rh2, e2, rd2, w2⟩
  rcases turn i m acc h2 w2 with ⟨e, z2⟩ | ⟨d, e, N, hN, z2⟩
  · left
    refine ⟨(rit i i2 H2 h2 x2.z rh2).1 e, ?_⟩
    have xa := ex_adopt x2 hD
    exact k _ _ z2 _ _ _ (x1.trans xa) (rh2.adopt n2 (.ofK ⟨vs2, by simp [DOb, e2], rd2.mono1 (List.prefix_append _ _)⟩)) (.ref (push_at rh2 D))
  · right
    obtain ⟨go, yl⟩ := (rit i i2 H2 h2 x2.z rh2).2 d e
    refine ⟨go, fun H' => ∃ acc vs' h' io', Ex i1 io' H1 H' ∧ D ∉ io' ∧ RH K mg io' H' h' ∧ H' D = some (.dK vs') ∧ KVk io' H' acc vs' ∧ N acc h', fun H' ⟨acc', vs', h', io', p1, p2, p3, p4, p5, n'⟩ => ?_, fun x H3 y => ?_⟩
    · obtain ⟨m', hm, w'⟩ := hN acc' h' n'
      exact ⟨m', hm, acc', vs', h', io', p1, p2, p3, p4, p5, w'⟩
    · obtain ⟨x3, rh3, d3⟩ := yl x H3 y
      have r3 : Rel K mg (wipeD sl vs) (L2.wipe σ vs) i2 H3 h2 := (r.wipe vs).on ((x1.trans x2).trans x3) rh3
      refine ⟨d, wipeD sl vs, h2, i2, _, r3, d3, z2, fun sl4 h4 z4 σ4 i4 H4 x4 r4 o4 => ⟨?_, ?_⟩⟩
      · rw [o4.wipe]
        exact wipe_ext (wipe_length _ _) fun i hi => wipe_out hi
      · refine tT.go r4 z4 fun b h5 z5 i5 H5 x5 r5 => ?_
        have x25 := (x3.trans x4).trans x5
        have e5 : H5 D = some (.dK vs2) := x25.oth D _ e2 n2
        have n5 := x25.nin e2 n2
        cases b with
        | false =>
          rw [if_neg Bool.false_ne_true] at z5 ⊢
          exact ⟨acc, vs2, h5, i5, x2.trans x25, n5, r5.rh, e5, rd2.mono x25, z5⟩
        | true =>
          rw [if_pos rfl] at z5 ⊢
          refine ⟨sl4, h5, i5, _, r5, z5, fun t1 h6 z6 J1 i6 H6 x6 rh6 rit1 => ?_⟩
          obtain ⟨W1, ⟨k0, v0⟩, turn1⟩ := z6
          have x16 := (x2.trans x25).trans x6
          have e6 := x6.oth D _ e5 n5
          have n6 := x6.nin e5 n5
          refine ⟨fun j k H' => ∃ acc vs' h' io', Ez i6 io' H6 H' ∧ Ex i1 io' H1 H' ∧ D ∉ io' ∧ RH K mg io' H' h' ∧ H' D = some (.dK vs') ∧ KVk io' H' acc vs' ∧ W1 j k acc h', ⟨k0, acc, vs2, h6, i6, Ex.refl.z, x16, n6, rh6, e6, (rd2.mono x25).mono x6, v0⟩, ?_⟩
          rintro j kk H7 ⟨acc7, vs7, h7, i7, y7, x7, n7, rh7, e7, rd7, v7⟩
          rcases turn1 j kk acc7 h7 v7 with ⟨e, z7⟩ | ⟨d', e, N1, hN1, z7⟩
          · exact .inl ⟨(rit1 j i7 H7 h7 y7 rh7).1 e, acc7, vs7, h7, i7, x7, n7, rh7, e7, rd7, z7⟩
          · right
            obtain ⟨go1, yl1⟩ := (rit1 j i7 H7 h7 y7 rh7).2 d' e
            refine ⟨go1, fun H' => ∃ acc vs' h' io', Ez i6 io' H6 H' ∧ Ex i1 io' H1 H' ∧ D ∉ io' ∧ RH K mg io' H' h' ∧ H' D = some (.dK vs') ∧ KVk io' H' acc vs' ∧ N1 acc h', fun H' ⟨acc', vs', h', io', p0, p1, p2, p3, p4, p5, n'⟩ => ?_, fun x H8 y => ?_⟩
            · obtain ⟨k', hk, w'⟩ := hN1 acc' h' n'
              exact ⟨k', hk, acc', vs', h', io', p0, p1, p2, p3, p4, p5, w'⟩
            · obtain ⟨x8, rh8, d8⟩ := yl1 x H8 y
              have r8 : Rel K mg (wipeD sl4 vs1) (L2.wipe σ4 vs1) i7 H8 h7 := by
                have r6 := r5.on x6 rh6
                exact (r6.onZ y7 rh7).on x8 rh8 |>.wipe vs1
              refine ⟨d', wipeD sl4 vs1, h7, i7, _, r8, d8, z7, fun sl9 h9 z9 σ9 i9 H9 x9 r9 o9 => ⟨?_, ?_⟩⟩
              · rw [o9.wipe]
                exact wipe_ext (wipe_length _ _) fun i hi => wipe_out hi
              · refine tT.go r9 z9 fun b h10 z10 i10 H10 x10 r10 => ?_
                have xx := (x8.trans x9).trans x10
                have e10 := xx.oth D _ e7 n7
                have n10 := xx.nin e7 n7
                cases b with
                | false =>
                  rw [if_neg Bool.false_ne_true] at z10 ⊢
                  exact ⟨acc7, vs7, h10, i10, y7.trans xx.z, x7.trans xx, n10, r10.rh, e10, rd7.mono xx, z10⟩
                | true =>
                  rw [if_pos rfl] at z10 ⊢
                  refine tE.go r10 z10 fun kd h11 z11 ku i11 H11 x11 r11 d11 => ?_
                  refine tE.go r11 z11 fun y h12 z12 u i12 H12 x12 r12 d12 => ?_
                  obtain ⟨hk, hl, z12⟩ := z12
                  obtain ⟨key, rfl⟩ := key_of_ok hk
                  have xx2 := (xx.trans x11).trans x12
                  have e12 := xx2.oth D _ e7 n7
                  have n12 := xx2.nin e7 n7
                  have y12 := ey_priv (io := i12) (o := .dK (putK vs7 key u)) e12 (fun _ z => nomatch z)
                  exact ⟨vs7, key, rd_key d11, e12, by rw [← rd7.length]; exact hl, putD acc7 (keyD key) y, putK vs7 key u, h12, i12, (y7.trans xx2.z).trans (ez_priv e12 (fun _ z => nomatch z) (fun _ _ z => nomatch z)), ex_priv (x7.trans xx2) hD, n12, r12.rh.priv n12 e12 (fun _ z => nomatch z) (fun _ z => nomatch z), upd_same, ((rd7.mono xx2).put d12).monoY y12, z12⟩
theorem le_dc2 {wi wi1 : WI} {g g1 : WG} {tt tt1 : WT} {tk tv : WE} (hc : X.calm = true) (hN : X.N.Nodup) (hi : LI X tg iter wi) (ok : BlkOk X.N X.env.scope scope own) (hv : ∀ i ∈ vs1, i ∈ own.map (·.2))
    (hg : inBlk X scope fun Y => LGo Y (own.map (·.2)) tg g) (ht : inBlk X scope fun Y => LTs Y ifs tt) (hi1 : inBlk X scope fun Y => LI Y tg1 iter1 wi1) (hg1 : inBlk X scope fun Y => LGo Y vs1 tg1 g1) (ht1 : inBlk X scope fun Y => LTs Y ifs1 tt1)
    (hk : inBlk X scope fun Y => LE Y kx tk) (he : inBlk X scope fun Y => LE Y vx tv) (hs : ∀ x, foldedSetIterable iter X.env x = pure x := by intro _; rfl) (hs1 : ∀ env x, foldedSetIterable iter1 env x = pure x := by intro _ _; rfl) :
    LE X (.DictComp kx vx [⟨tg, iter, ifs, 0⟩, ⟨tg1, iter1, ifs1, 0⟩] scope pos) (wDc2 wi g tt wi1 g1 tt1 tk tv (own.map (·.2)) vs1) := (MP2.pe_dc2 hc hN hi ok hv hg ht hi1 hg1 ht1 hk he hs hs1).imp dc2_imp

/-! {k: v}, k a tuple of numbers and texts -/
theorem d_dictSetT {pins : List (Addr × Obj)} {s : Shared} {E : Value → Shared → Prop} {D b : Addr} {kvs : List (List Key × V)} {k : List Key} {v : V} {r : Value} {Q : Unit → Shared → Prop} (hu : X.A.units < cLine) (I : L2.Inv X pins σ H s) (hD : H D = some (.dT kvs)) (hz : kvs.length < sizeLine)
    (eb : H b = some (.tup (k.map kV))) (rv : RelV v r) (h : ∀ s', L2.Inv X pins σ (upd H D (.dT (putK kvs k v))) s' → Q () s') : wpAny (model X.prog X.w) X.A (dictSet D (.ref b) r) Q E s := by
  obtain ⟨z, hd, xs, rel, dd⟩ := dt_of I.hok hD
  have hzv : xs.length ≤ sizeLine := by rw [← Paired.length rel]; exact z
  have hl : (putK kvs k v).length ≤ sizeLine := by have := length_putK kvs k v; omega
  refine wpAny_dictSet_heap (hsz := hzv) hu (key_of I.hok eb) dd fun h' dd' hs => h _ ?_
  obtain ⟨q, es, ep, hq, h2, h3, h4, _, h5⟩ := dd'
  refine d_write I (by rw [hD]; exact True.intro) hs ⟨q, hq⟩ ⟨hl, hd, _, (rel.put k eb rv).keeps fun c ys ec => ?_, q, es, ep, hq, h2, h3, h4, h5⟩
  rw [upd_ne (ne_of ec hD (fun z => nomatch z))]
  exact ec
def tD1T (tk tv : TE) : TE := fun σ H Q => ∀ p, H p = none → tk σ (upd H p (.dT [])) fun x H1 => tv σ H1 fun y H2 => ∃ b k, x = .ref b ∧ H2 b = some (.tup (k.map kV)) ∧ H2 p = some (.dT []) ∧ Q (.ref p) (upd H2 p (.dT [(k, y)]))
theorem pe_d1T {tk tv : TE} (hu : X.A.units < cLine) (hk : PE X a tk) (hv : PE X b tv) : PE X (.Dict [some a] [b] pos) (tD1T tk tv) := by
  refine ⟨fun pins s σ H Q I q => ?_⟩
  have hn := I.hok.fresh (Nat.le_refl s.heap.objs.size)
  have I1 := I.laid (a := s.heap.objs.size) (o := .dT []) (h' := s.heap.push { cls := .type "dict", data := .dict #[] }) (t' := s.toks) (fun _ _ q => Heap.get?_push_of_some _ q) (Nat.le_refl _) (dt_empty s.heap I.big)
  refine wpAny_Dict_any rfl rfl (by simp) (by show 1 ≤ 15; decide) (pairTrees_cons_walk (thn (hk.run pins _ σ _ _ I1 (q _ hn)) fun u s1 ⟨x, H1, I1, rx, q1⟩ => thn (hv.run pins s1 σ H1 _ I1 q1) fun w2 s2 ⟨y, H2, I2, ry, q2⟩ =>
    pairTrees_nil_walk ?_))
  obtain ⟨b', k, ex, eb, ep, q3⟩ := q2
  subst ex
  obtain rfl : u = Value.ref b' := rx
  show wpAny _ _ (storeAll s.heap.objs.size [(.ref b', w2)]) _ _ s2
  unfold storeAll
  rw [List.forIn_cons]
  refine wpAny_bind (wpAny_bind (d_dictSetT hu I2 ep (by show 0 < sizeLine; decide) eb ry fun s3 I3 => wpAny_pure ?_))
  exact wpAny_pure ⟨.ref s.heap.objs.size, _, I3, rfl, q3⟩
def wD1T (wk wv : WE) : WE := fun sl h Q => wk sl h fun x h1 => wv sl h1 fun y h2 => keyOk true x = true ∧ Q (.ref h2.length) (h2 ++ [.dct true false [(x, y)]])
theorem le_d1T {wk wv : WE} (hr : Room j X.A) (hk : LE X a wk) (hv : LE X b wv) : LE X (.Dict [some a] [b] pos) (wD1T wk wv) := (pe_d1T hr.units0 hk hv).imp fun σ H Q z => by
  obtain ⟨sl, h, io, q, r, z, k⟩ := z
  intro p hp
  have rn := r.on (ex_upd (o := .dT []) hp) (r.rh.new (o := .dT []) hp)
  have pn : p ∉ io := r.rh.nin hp
  refine tE.go rn z fun x h1 z1 u i1 H1 x1 r1 d1 => tE.go r1 z1 fun y h2 z2 v i2 H2 x2 r2 d2 => ?_
  obtain ⟨hk, z2⟩ := z2
  cases x with
  | tup xs =>
    obtain ⟨key, rfl⟩ := keys_of_ok hk
    have x12 := x1.trans x2
    have e2 := x12.oth p _ upd_same pn
    have n2 := x12.nin upd_same pn
    cases d1.mono x2 with
    | @tup ab vs _ ha ra =>
      have ha' := tup_key hk ha ra
      have := rd_keys ra
      subst this
      refine ⟨ab, key, rfl, ha', e2, ?_⟩
      have y2 := ey_priv (io := i2) (o := .dT [(key, v)]) e2 (fun _ z => nomatch z)
      have xa : Ex io i2 H (upd H2 p (.dT [(key, v)])) := ex_priv ((ex_upd hp).trans x12) hp
      have rh2 := r2.rh.priv (o := .dT [(key, v)]) n2 e2 (fun _ z => nomatch z) (fun _ z => nomatch z)
      exact k _ _ z2 _ _ _ (ex_adopt xa hp) (rh2.adopt n2 (.ofT ⟨_, by simp only [DOb]; exact upd_same, (KVt.nil.put (k := key) (d2.monoY y2)).mono1 (List.prefix_append _ _)⟩)) (.ref (push_at rh2 p))
  | _ => cases hk
end
end MP

set_option Elab.async false
set_option linter.all false
set_option maxRecDepth 100000
set_option maxHeartbeats 2000000
/-! MpO: names for the generator; defs, methods, makings from their bodies. -/
namespace MP
open PySem PySem.Spec
open PyProof.Rows hiding St
open L2

section
variable {X : Cx} {j : Nat} {a b c e o ie tg tg1 iter iter1 elt kx vx : Expr} {pos pos' p apos cpos tpos : Pos} {es elts ifs ifs1 : List Expr} {kk : Nat} {scope : Scope} {own : List (Str × Nat)} {vs vs1 : List Nat}
variable {K : PySem.W.Frag} {mg : Str → Option Value} {io io' : List Addr} {H H' : Hp} {h h' : Hd} {sl : Sd} {σ : L2.St}
theorem sl_ (i : Nat) {x : Str} (hN : X.N[i]? = some x := by rfl) (hv : Vis X.env.scope x := by first | exact Or.inl rfl | exact Or.inr (Or.inl rfl) | exact Or.inr (Or.inr rfl)) (hd : (x == ("__debug__" : Str)) = false := by decide)
    (hcd : (x == ("__classdict__" : Str)) = false := by decide) : LE X (.Name x pos) (wSlot i) := le_slot hN hv hd hcd
theorem gn_ (i : Nat) {x : Str} (nd : X.N.Nodup) (hi : X.N[i]? = some x := by rfl) (hx : Loc X.env.scope x := by first | exact Or.inl rfl | exact Or.inr rfl) (hf : X.fn x = true ∨ X.env.scope.names.lookup x = some .local := by first | exact Or.inr rfl | exact Or.inl rfl) : LG X (.Name x pos) (wNm i) := lg_name nd hi hx hf
theorem go_ (i : Nat) {x : Str} (nd : X.N.Nodup) (hv : i ∈ vs := by decide) (hi : X.N[i]? = some x := by rfl) (hx : Loc X.env.scope x := by first | exact Or.inl rfl | exact Or.inr rfl) (hf : X.fn x = true ∨ X.env.scope.names.lookup x = some .local := by first | exact Or.inr rfl | exact Or.inl rfl) : LGo X vs (.Name x pos) (wNm i) := lo_name hv nd hi hx hf
theorem ks_ (i : Nat) {x : Str} {w : WE} (nd : X.N.Nodup) (he : LE X e w) (hi : X.N[i]? = some x := by rfl) (hx : Loc X.env.scope x := by first | exact Or.inl rfl | exact Or.inr rfl) (hs : swapsWith e (some (.Name x pos')) pos.line X.env = pure false := by rfl) (hf : X.fn x = true ∨ X.env.scope.names.lookup x = some .local := by first | exact Or.inr rfl | exact Or.inl rfl) :
    LS X (.Assign [.Name x pos'] e pos) (wAsg w (wNm i)) := ls_set nd hi hx he hs hf
theorem ka_ (i : Nat) {x : Str} {w : WE} (nd : X.N.Nodup) (he : LE X e w) (hi : X.N[i]? = some x := by rfl) (hx : Loc X.env.scope x := by first | exact Or.inl rfl | exact Or.inr rfl) (hf : X.fn x = true ∨ X.env.scope.names.lookup x = some .local := by first | exact Or.inr rfl | exact Or.inl rfl) :
    LS X (.AugAssign (.Name x pos') .Add e pos) (wAug i w) := ls_aug nd hi hx he hf
/-- name = {..} on one line -/
theorem ps_setDc {i : Nat} {y : Str} {py : Pos} {spos : Pos} {wi : TI} {g : TG} {tt : TT} {tk tv : TE} (hc : X.calm = true) (hN : X.N.Nodup) (hy : X.N[i]? = some y) (hyl : X.env.scope.names.lookup y = some .local)
    (hsw : swapsWith (.DictComp kx vx [⟨tg, iter, ifs, 0⟩] scope pos) (some (.Name y py)) spos.line X.env = pure true) (hi : PI X tg iter wi) (ok : BlkOk X.N X.env.scope scope own)
    (hg : inBlk X scope fun Y => PG Y tg g) (ht : inBlk X scope fun Y => PTs Y ifs tt) (hk : inBlk X scope fun Y => PE Y kx tk) (he : inBlk X scope fun Y => PE Y vx tv) (hs : ∀ x, foldedSetIterable iter X.env x = pure x := by intro _; rfl) :
    PS X (.Assign [.Name y py] (.DictComp kx vx [⟨tg, iter, ifs, 0⟩] scope pos) spos) (tAsg (tDc wi g tt tk tv (own.map (·.2))) (gName i)) := by
  refine ⟨fun pins s σ H D I h => ?_⟩
  rw [exec_Assign_Name_used _ _ _ _ hsw]
  refine wpAny_bind (wpAny_standAt (wpAny_bind ?_))
  show wpAny _ X.A (do let _ ← comprehension (.DictComp kx vx [⟨tg, iter, ifs, 0⟩] scope pos) scope X.env (firstIterPos [⟨tg, iter, ifs, 0⟩] pos) newDict false (eval iter X.env) (some (assign (.Name y py) X.env))) _ _ s
  have h : tDc wi g tt tk tv (own.map (·.2)) σ H (fun x H1 => gName i x σ H1 D.nx) := h
  refine wpAny_bind (thn (dc_core (Qf := fun _ s' => SP X pins D .next s') hc hN I hi ok hg ht hk he hs h fun L C s' m H' I' q hn f => ?_) fun _ s' hq => wpAny_pure (wpAny_pure hq))
  show wpAny _ _ (assign (.Name y py) X.env (.ref L)) _ _ _
  refine wpAny_assign_Name (store_ok2 (v := V.ref L) I' hN hy (.inl hyl) rfl (fun s2 I2 ⟨a, sb, ha⟩ => ?_) (.inr hyl))
  obtain ⟨f0, f1, f2, f3, f4, f5⟩ := f
  have haC : C ≠ a := by
    rcases ha with z | z
    · rw [z]; exact f1
    · exact fun e => f4 y a z e.symm
  refine ⟨m, hn.sameBut sb haC, fun h3 sb3 => ?_⟩
  exact ⟨_, H', I2.turned (t' := s2.toks) (fun b o hb e => (sb3.2 b hb).trans e) f0 f1 f3 f4 f5, q⟩
theorem ls_setDc {i : Nat} {y : Str} {py spos : Pos} {wi : WI} {g : WG} {tt : WT} {tk tv : WE} (hc : X.calm = true) (hN : X.N.Nodup) (hy : X.N[i]? = some y) (hyl : X.env.scope.names.lookup y = some .local)
    (hsw : swapsWith (.DictComp kx vx [⟨tg, iter, ifs, 0⟩] scope pos) (some (.Name y py)) spos.line X.env = pure true) (hi : LI X tg iter wi) (ok : BlkOk X.N X.env.scope scope own)
    (hg : inBlk X scope fun Y => LGo Y (own.map (·.2)) tg g) (ht : inBlk X scope fun Y => LTs Y ifs tt) (hk : inBlk X scope fun Y => LE Y kx tk) (he : inBlk X scope fun Y => LE Y vx tv) (hs : ∀ x, foldedSetIterable iter X.env x = pure x := by intro _; rfl) :
    LS X (.Assign [.Name y py] (.DictComp kx vx [⟨tg, iter, ifs, 0⟩] scope pos) spos) (wAsg (wDc wi g tt tk tv (own.map (·.2))) (wNm i)) := (ps_setDc hc hN hy hyl hsw hi ok hg ht hk he hs).imp fun D σ H z => by
  obtain ⟨sl, h, io, q, r, z, k⟩ := z
  exact dc_imp σ H _ (tE.go r z fun x h1 z1 u i1 H1 x1 r1 d1 => k.nx _ _ z1 _ _ _ x1 (r1.set i d1))
theorem ps_setDc2 {i : Nat} {y : Str} {py : Pos} {spos : Pos} {wi wi1 : TI} {g g1 : TG} {tt tt1 : TT} {tk tv : TE} (hc : X.calm = true) (hN : X.N.Nodup) (hy : X.N[i]? = some y) (hyl : X.env.scope.names.lookup y = some .local)
    (hsw : swapsWith (.DictComp kx vx [⟨tg, iter, ifs, 0⟩, ⟨tg1, iter1, ifs1, 0⟩] scope pos) (some (.Name y py)) spos.line X.env = pure true) (hi : PI X tg iter wi) (ok : BlkOk X.N X.env.scope scope own) (hv : ∀ i ∈ vs1, i ∈ own.map (·.2))
    (hg : inBlk X scope fun Y => PG Y tg g) (ht : inBlk X scope fun Y => PTs Y ifs tt) (hi1 : inBlk X scope fun Y => PI Y tg1 iter1 wi1) (hg1 : inBlk X scope fun Y => PG Y tg1 g1) (ht1 : inBlk X scope fun Y => PTs Y ifs1 tt1)
    (hk : inBlk X scope fun Y => PE Y kx tk) (he : inBlk X scope fun Y => PE Y vx tv) (hs : ∀ x, foldedSetIterable iter X.env x = pure x := by intro _; rfl) (hs1 : ∀ env x, foldedSetIterable iter1 env x = pure x := by intro _ _; rfl) :
    PS X (.Assign [.Name y py] (.DictComp kx vx [⟨tg, iter, ifs, 0⟩, ⟨tg1, iter1, ifs1, 0⟩] scope pos) spos) (tAsg (MP2.tDc2 wi g tt wi1 g1 tt1 tk tv (own.map (·.2)) vs1) (gName i)) := by
  refine ⟨fun pins s σ H D I h => ?_⟩
  rw [exec_Assign_Name_used _ _ _ _ hsw]
  refine wpAny_bind (wpAny_standAt (wpAny_bind ?_))
  show wpAny _ X.A (do let _ ← comprehension (.DictComp kx vx [⟨tg, iter, ifs, 0⟩, ⟨tg1, iter1, ifs1, 0⟩] scope pos) scope X.env (firstIterPos [⟨tg, iter, ifs, 0⟩, ⟨tg1, iter1, ifs1, 0⟩] pos) newDict false (eval iter X.env) (some (assign (.Name y py) X.env))) _ _ s
  have h : MP2.tDc2 wi g tt wi1 g1 tt1 tk tv (own.map (·.2)) vs1 σ H (fun x H1 => gName i x σ H1 D.nx) := h
  refine wpAny_bind (thn (MP2.dc2_core (Qf := fun _ s' => SP X pins D .next s') hc hN I hi ok hv hg ht hk he hs hi1 hg1 ht1 hs1 h fun L C s' m H' I' q hn f => ?_) fun _ s' hq => wpAny_pure (wpAny_pure hq))
  show wpAny _ _ (assign (.Name y py) X.env (.ref L)) _ _ _
  refine wpAny_assign_Name (store_ok2 (v := V.ref L) I' hN hy (.inl hyl) rfl (fun s2 I2 ⟨a, sb, ha⟩ => ?_) (.inr hyl))
  obtain ⟨f0, f1, f2, f3, f4, f5⟩ := f
  have haC : C ≠ a := by
    rcases ha with z | z
    · rw [z]; exact f1
    · exact fun e => f4 y a z e.symm
  refine ⟨m, hn.sameBut sb haC, fun h3 sb3 => ?_⟩
  exact ⟨_, H', I2.turned (t' := s2.toks) (fun b o hb e => (sb3.2 b hb).trans e) f0 f1 f3 f4 f5, q⟩
theorem ls_setDc2 {i : Nat} {y : Str} {py spos : Pos} {wi wi1 : WI} {g g1 : WG} {tt tt1 : WT} {tk tv : WE} (hc : X.calm = true) (hN : X.N.Nodup) (hy : X.N[i]? = some y) (hyl : X.env.scope.names.lookup y = some .local)
    (hsw : swapsWith (.DictComp kx vx [⟨tg, iter, ifs, 0⟩, ⟨tg1, iter1, ifs1, 0⟩] scope pos) (some (.Name y py)) spos.line X.env = pure true) (hi : LI X tg iter wi) (ok : BlkOk X.N X.env.scope scope own) (hv : ∀ i ∈ vs1, i ∈ own.map (·.2))
    (hg : inBlk X scope fun Y => LGo Y (own.map (·.2)) tg g) (ht : inBlk X scope fun Y => LTs Y ifs tt) (hi1 : inBlk X scope fun Y => LI Y tg1 iter1 wi1) (hg1 : inBlk X scope fun Y => LGo Y vs1 tg1 g1) (ht1 : inBlk X scope fun Y => LTs Y ifs1 tt1)
    (hk : inBlk X scope fun Y => LE Y kx tk) (he : inBlk X scope fun Y => LE Y vx tv) (hs : ∀ x, foldedSetIterable iter X.env x = pure x := by intro _; rfl) (hs1 : ∀ env x, foldedSetIterable iter1 env x = pure x := by intro _ _; rfl) :
    LS X (.Assign [.Name y py] (.DictComp kx vx [⟨tg, iter, ifs, 0⟩, ⟨tg1, iter1, ifs1, 0⟩] scope pos) spos) (wAsg (wDc2 wi g tt wi1 g1 tt1 tk tv (own.map (·.2)) vs1) (wNm i)) := (ps_setDc2 hc hN hy hyl hsw hi ok hv hg ht hi1 hg1 ht1 hk he hs hs1).imp fun D σ H z => by
  obtain ⟨sl, h, io, q, r, z, k⟩ := z
  exact dc2_imp σ H _ (tE.go r z fun x h1 z1 u i1 H1 x1 r1 d1 => k.nx _ _ z1 _ _ _ x1 (r1.set i d1))
theorem sw_trueD {gs : List Comprehension} {py : Pos} {y : Str} {l : Nat} {env : Env} (hk : env.scope.kind = .function) (hy : env.scope.names.lookup y = some .local) (hl : (py.line == pos.line) = true)
    (ha : (scope.names.any fun (n, k) => n == y && (k == .local || k == .cell)) = false) : swapsWith (.DictComp kx vx gs scope pos) (some (.Name y py)) l env = pure true := by
  have ky : env.kindOf y = some .local := hy
  have hb : env.blockKind = .function := by unfold Env.blockKind; rw [hk]; rfl
  unfold swapsWith
  simp only [hb, ky, ha, Expr.pos, hl]
  rfl
end

theorem ol_eqA {X : Cx} {j : Nat} {A : Around} (hr : Room j A) (neg : Bool) (hA : X.A = A := by rfl) : OpL X (compareOp (if neg then .NotEq else .Eq)) (oEq neg) := by
  subst hA; exact ol_eq hr neg
theorem ol_inA {X : Cx} {j : Nat} {A : Around} (hr : Room j A) (neg : Bool) (hA : X.A = A := by rfl) : OpL X (compareOp (if neg then .NotIn else .In)) (oIn neg) := by
  subst hA; exact ol_in hr neg
/-! ### a def from its body -/
def startD (N : List Str) (ds : List D) : Sd := ds.map some ++ List.replicate (N.length - ds.length) none
theorem startD_len {N : List Str} {ds : List D} (h : ds.length ≤ N.length) : (startD N ds).length = N.length := by
  unfold startD; simp; omega
theorem rds_startD {io : List Addr} {H : Hp} {N : List Str} {ds : List D} {vs : List V} {K : PySem.W.Frag} {mg : Str → Option Value} {h : Hd} (rh : RH K mg io H h) (r : RDs io H ds vs) : Rel K mg (startD N ds) (L2.start N vs) io H h := by
  refine ⟨rh, by unfold startD L2.start; simp [r.length], fun i d e => ?_⟩
  unfold startD at e
  by_cases hi : i < ds.length
  · rw [List.getElem?_append_left (by simpa using hi)] at e
    simp only [List.getElem?_map] at e
    obtain ⟨d', e1, e2⟩ := Option.map_eq_some_iff.mp e
    cases e2
    obtain ⟨v, f1, f2⟩ := r.get e1
    refine ⟨v, ?_, f2⟩
    unfold L2.start
    rw [List.getElem?_append_left (by rw [List.length_map, ← r.length]; exact hi), List.getElem?_map, f1]
    rfl
  · rw [List.getElem?_append_right (by simpa using hi)] at e
    rw [List.getElem?_replicate] at e
    split at e <;> cases e
abbrev endR (q : D → Hd → Prop) : EndsD := { nx := fun _ h' => q .non h', rt := q }
theorem endR_ok {K : PySem.W.Frag} {mg : Str → Option Value} {io : List Addr} {H : Hp} {q : D → Hd → Prop} {Q : VK} (k : Kn K mg io H q Q) : KnE K mg io H (endR q) { nx := fun _ H' => Q .non H', rt := Q } :=
  ⟨fun sl h z σ io' H' x r => k _ _ z _ _ _ x r.rh .non, k, fun _ _ z => z.elim, fun _ _ z => z.elim⟩
/-- the context of a def's body -/
abbrev cxD (P : Program) (w : World) (K : PySem.W.Frag) (mg : Str → Option Value) (base : Heap) (N : List Str) (qual : Str) (scope : Scope) (f : Addr) (cd : Value) (A : Around) (outer : List Env) (s : Shared) (H : Hp) (E : XK) : Cx := (cxOf CX0 P w K mg base N qual scope f cd A outer s H E).nox
section
variable {P : Program} {w : World} {K : PySem.W.Frag} {mg : Str → Option Value} {base : Heap} {x qual cn : Str} {params : Arguments} {body : List Stmt} {scope : Scope} {dvs : List V} {kws : List (Str × V)} {f C : Addr} {fd : FuncData} {N ps : List Str} {k : Nat} {sp : SpD}
theorem fnG_of (F : FunD K x qual params body scope dvs kws f fd) (S : FnScope N ps scope) (ar : ∀ ds h q, sp ds h q → ds.length = ps.length)
    (hw : ∀ (cd : Value) (A : Around) (outer : List Env) (s : Shared) (H : Hp) (E : XK), Room k (cxD P w K mg base N qual scope f cd A outer s H E).A → (cxD P w K mg base N qual scope f cd A outer s H E).A.guards = some [] →
      ∃ wb : WS, LSs (cxD P w K mg base N qual scope f cd A outer s H E) body wb ∧ ∀ ds h q, sp ds h q → wb (endR q) (startD N ds) h) : FnG P w K mg base CX0 (k + 1) f fd ps (spD K mg ps.length sp) := by
  obtain ⟨oc, od, dV, kV, doc, pm, an, cdv, ct, osl, rfl, lk, hcd, _, _⟩ := F.ex
  refine fn_g lk hcd S (fun vs H Q E h => h.1) fun A outer s H vs Q E hr hg hsp => ?_
  obtain ⟨wb, hl, hp⟩ := hw cdv A outer s H E hr hg
  refine ⟨_, hl.nox, ?_⟩
  obtain ⟨_, ds, h, io, q, rh, rd, z, kn⟩ := hsp
  exact ⟨startD N ds, h, io, endR q, rds_startD rh rd, hp ds h q z, endR_ok kn⟩
theorem fnD_of (F : FunD K x x params body scope [] [] f fd) (hx : mg x = some (.ref f)) (S : FnScope N ps scope) (hb : Binds K fd ps []) (ar : ∀ ds h q, sp ds h q → ds.length = ps.length)
    (hw : ∀ (cd : Value) (A : Around) (outer : List Env) (s : Shared) (H : Hp) (E : XK), Room k (cxD P w K mg base N x scope f cd A outer s H E).A → (cxD P w K mg base N x scope f cd A outer s H E).A.guards = some [] →
      ∃ wb : WS, LSs (cxD P w K mg base N x scope f cd A outer s H E) body wb ∧ ∀ ds h q, sp ds h q → wb (endR q) (startD N ds) h) : FnD P w K mg base (k + 1) x ps.length sp :=
  ⟨⟨f, fd, ps, fnG_of F S ar hw, hx, F.kp, hb, rfl⟩, ar⟩
theorem mtD_of (F : FunD K x qual params body scope dvs kws f fd) (hC : mg cn = some (.ref C)) (cl : Cls K C) (me : Meth K C x f) (S : FnScope N ps scope) (hb : Binds K fd ps []) (ar : ∀ ds h q, sp ds h q → ds.length = ps.length)
    (hw : ∀ (cd : Value) (A : Around) (outer : List Env) (s : Shared) (H : Hp) (E : XK), Room k (cxD P w K mg base N qual scope f cd A outer s H E).A → (cxD P w K mg base N qual scope f cd A outer s H E).A.guards = some [] →
      ∃ wb : WS, LSs (cxD P w K mg base N qual scope f cd A outer s H E) body wb ∧ ∀ ds h q, sp ds h q → wb (endR q) (startD N ds) h) : MtD P w K mg base (k + 1) cn x ps.length sp :=
  ⟨⟨C, f, fd, ps, hC, cl, me, fnG_of F S ar hw, hb, rfl⟩, ar⟩
theorem mkD_of (F : FunD K x qual params body scope dvs kws f fd) (hC : mg cn = some (.ref C)) (mk : Mk K C f) (S : FnScope N ps scope) (hb : Binds K fd ps []) (ar : ∀ ds h q, sp ds h q → ds.length = ps.length)
    (hw : ∀ (cd : Value) (A : Around) (outer : List Env) (s : Shared) (H : Hp) (E : XK), Room k (cxD P w K mg base N qual scope f cd A outer s H E).A → (cxD P w K mg base N qual scope f cd A outer s H E).A.guards = some [] →
      ∃ wb : WS, LSs (cxD P w K mg base N qual scope f cd A outer s H E) body wb ∧ ∀ ds h q, sp ds h q → wb (endR q) (startD N ds) h) : MkD P w K mg base (k + 1) cn ps.length sp :=
  ⟨⟨C, f, fd, ps, hC, mk, fnG_of F S ar hw, hb, rfl⟩, ar⟩
end
end MP

set_option Elab.async false
set_option linter.all false
set_option maxRecDepth 100000
set_option maxHeartbeats 2000000
/-! MpP: sorted(set(a tuple of numbers)). -/
namespace MP
open PySem PySem.Spec
open PyProof.Rows hiding St
open L2

section
variable {X : Cx} {j : Nat} {a b c e o : Expr} {pos pos' p p2 : Pos}
variable {K : PySem.W.Frag} {mg : Str → Option Value} {io io' : List Addr} {H H' : Hp} {h h' : Hd} {sl : Sd} {σ : L2.St}
theorem cr_setTupI (hc : X.calm = true) : CallR X (.type "set") (fun xs H Q => ∃ (p0 : Addr) (ns : List Int), xs = [.ref p0] ∧ SqT X.K H p0 (ns.map V.int) ∧ ns.length ≤ 1000 ∧ ∀ (q : Addr) (c : Nat), H q = none → c ≤ ns.length → Q (.ref q) (upd H q (SetO X.w q (fun j => decide (j ∈ ns)) c))) := by
  intro pins s σ H xs us Q I r h
  obtain ⟨p0, ns, rfl, hq, hl, q⟩ := h
  obtain ⟨u, rfl, rx⟩ := vals1 r
  cases (show u = Value.ref p0 from rx)
  obtain ⟨its, rv, pt, hz⟩ := I.tuple hq
  have hi : IntsAre its.toArray.toList ns := ints_of_vals rv
  refine call_set_tupI ns (I.ok.hd hc) (show s.heap.IsTuple p0 its.toArray from pt) hi (by unfold scanBound; omega) fun h' tk c R1 hcn k => ?_
  exact ⟨.ref _, _, I.laid (t' := tk) k (Nat.le_refl _) (setO_new R1), rfl, q _ c (I.hok.fresh (Nat.le_refl _)) hcn⟩
/-- the numbers of a row, each once, ascending -/
def sortZ (ns : List Int) : List Int := (ns.eraseDups).mergeSort (fun a b => decide (a ≤ b))
def wSortedSet (w : WE) : WE := fun sl h Q => w sl h fun x h1 => ∃ ns : List Int, x = .tup (ns.map .int) ∧ ns.length < 64 ∧ ∀ out : List Int, out.Pairwise (· < ·) → (∀ k, k ∈ out ↔ k ∈ ns) → Q (.ref h1.length) (h1 ++ [.lst (out.map .int)])
theorem le_sortedSet {w : WE} (hc : X.calm = true) (hg : Gl X "sorted") (hm : X.mg "sorted" = none) (hg2 : Gl X "set") (hm2 : X.mg "set" = none) (he : LE X e w)
    (hs : starEach [.Call (.Name "set" p2) [e] [] pos'] X.env = (false, eval (.Call (.Name "set" p2) [e] [] pos') X.env) :: starEach [] X.env := by rfl) (hs2 : starEach [e] X.env = (false, eval e X.env) :: starEach [] X.env := by rfl) :
    LE X (.Call (.Name "sorted" p) [.Call (.Name "set" p2) [e] [] pos'] [] pos) (wSortedSet w) := (pe_callB (cr_sortedSet hc) hg hm boot_sorted (pa_cons (pe_callTy (cr_setTupI hc) hg2 hm2 PyProof.Rows.boot_set (pa_cons he pa_nil hs2) (by decide) (by decide) hs2 rfl) pa_nil hs) (by decide) (by decide) hs rfl).imp fun σ H Q z => by
  obtain ⟨sl, h, io, q, r, z, k⟩ := z
  refine tE.go r z fun x h1 z1 u i1 H1 x1 r1 d1 => ?_
  obtain ⟨ns, rfl, hl, z1⟩ := z1
  cases d1 with
  | @tup a vs _ ha ra =>
    obtain rfl := rd_ints ra
    refine ⟨a, ns, rfl, ha.sq, by omega, fun q0 c hq0 hcn => ⟨q0, _, c, rfl, upd_same, by omega, fun out p0 pw mem hlen hp0 => ?_⟩⟩
    have mem' : ∀ k, k ∈ out ↔ k ∈ ns := fun k => by rw [mem k, decide_eq_true_eq]
    obtain ⟨x2, rh2, d2⟩ := new_lst (r1.rh.new (o := SetO X.w q0 (fun j => decide (j ∈ ns)) c) hq0) (to_ints out) hp0
    exact k _ _ (z1 out pw mem') _ _ _ ((x1.trans (ex_upd hq0)).trans x2) rh2 d2

/-! list(d.items()), the dict locked or not -/
def rItemsR : V → Hp → VK → Prop := fun x H Q => ∃ (d : Addr) (kvs : List (Key × V)), x = .ref d ∧ Rd H d (.dK kvs) ∧
  ∀ (H' : Hp) (p : Addr) (ts : List Addr), (∀ b o, H b = some o → H' b = some o) → H p = none → (∀ t ∈ ts, H t = none) → p ∉ ts → H' p = some (.lst (ts.map V.ref)) → Paired (fun (t : Addr) (q : Key × V) => H' t = some (.tup [kV q.1, q.2])) ts kvs → Q (.ref p) H'
def tItemsR (te : TE) : TE := fun σ H Q => te σ H fun x H1 => rItemsR x H1 Q
variable {apos cpos : Pos} {te : TE}
theorem pe_listItemsR (hc : X.calm = true) (he : PE X e te) (hg : Gl X "list") (hm : X.mg "list" = none) (hv : bootBuiltins "list" = some (.type "list")) (hbase : attributeBase e "items" X.env (eval e X.env) = eval e X.env := by rfl) (hline : (apos.endLine == cpos.line) = true := by rfl)
    (hs : starEach [.Call (.Attribute e "items" apos) [] [] cpos] X.env = (false, eval (.Call (.Attribute e "items" apos) [] [] cpos) X.env) :: starEach [] X.env := by rfl) :
    PE X (.Call (.Name "list" p) [.Call (.Attribute e "items" apos) [] [] cpos] [] pos) (tItemsR te) := by
  refine ⟨fun pins s σ H Q I hq => ?_⟩
  refine wpAny_Call_Name_kw (ld_blt I hg hm hv ?_)
  refine PyProof.Rows.callWith_type1 ?_ hs rfl
  rw [hs]
  show wpAny _ _ (spliced ((false, eval (.Call (.Attribute e "items" apos) [] [] cpos) X.env) :: backTo pos (starEach [] X.env))) _ _ s
  refine Calls.spliced_cons ?_
  refine wpAny_Call_method (T := "dict") (id := "dict.items") hbase rfl hline F.plainAttrs_dict F.slot_dict_items F.type_dict_items (thn (he.run pins s σ H _ I hq) fun u s1 ⟨x, H1, I1, rx, d, kvs, ex, hd, q⟩ => ?_)
  subst ex
  obtain rfl : u = Value.ref d := rx
  obtain ⟨hz, hs0, vs, kv, hdo⟩ := dk_rd I1.hok hd
  obtain ⟨ep, hat⟩ := hdo.dictAt
  have lk : kvs.length = vs.length := Paired.length kv
  have I2 : L2.Inv X pins σ H1 { s1 with heap := s1.heap.push { cls := .type "dict_items", data := .fields #[.ref d] } } := I1.kept (t' := s1.toks) fun b ob q => Heap.get?_push_of_some _ q
  refine ⟨hdo.typeIs, hdo.mapOf.noDict, ?_⟩
  show wpAny _ _ (callWith cpos (.builtin "dict.items") [.ref d] [] []) _ X.xe s1
  refine method_meetsIn F.slot_dict_items F.entry_dict_items rfl (PySem.evalArgs_none ⟨rfl, hdo.typeIs, F.args_dict_items_1 _, _, meets_dict_items (mixKind X.prog X.w) d hs0, ⟨vs, hdo⟩, ?_⟩)
  refine Calls.spliced_nil ?_
  refine PySem.W.kdx_call (knd := mixKind X.prog X.w) (kvs := vs) (ep := ep) (I1.ok.hd hc) ⟨_, Heap.get?_push_size _ rfl, rfl, rfl⟩ (hat.push _) (by omega) fun h' tk acc c as hk hS hl hG hacc => ?_
  obtain ⟨H', k1, k2, k3, k4, k5, k6, J⟩ := LiI.items_laid (tk := tk) I2 hz kv hk hS hl hG hacc
  exact ⟨.ref _, H', J, rfl, q H' _ as k1 k2 k3 k4 k5 k6⟩
def wListItemsR (w : WE) : WE := fun sl h Q => w sl h fun x h1 => ∃ n lk kvs, x = .ref n ∧ h1[n]? = some (.dct false lk kvs) ∧ Q (.ref h1.length) (h1 ++ [.lst (kvs.map fun p => .tup [p.1, p.2])])
theorem le_listItemsR {w : WE} (hc : X.calm = true) (he : LE X e w) (hg : Gl X "list") (hm : X.mg "list" = none) (hv : bootBuiltins "list" = some (.type "list")) (hbase : attributeBase e "items" X.env (eval e X.env) = eval e X.env := by rfl) (hline : (apos.endLine == cpos.line) = true := by rfl)
    (hs : starEach [.Call (.Attribute e "items" apos) [] [] cpos] X.env = (false, eval (.Call (.Attribute e "items" apos) [] [] cpos) X.env) :: starEach [] X.env := by rfl) :
    LE X (.Call (.Name "list" p) [.Call (.Attribute e "items" apos) [] [] cpos] [] pos) (wListItemsR w) := (pe_listItemsR hc he hg hm hv hbase hline hs).imp fun σ H Q z => by
  obtain ⟨sl, h, io, q, r, z, k⟩ := z
  refine tE.go r z fun x h1 z1 u i1 H1 x1 r1 d1 => ?_
  obtain ⟨n, lk, kvs, rfl, e1, z1⟩ := z1
  obtain ⟨a, rfl, i⟩ := ref_rd d1
  obtain ⟨ks, f1, f2⟩ := (r1.rh.cell n _ a e1 i).dK
  refine ⟨a, ks, rfl, f1.rd, fun H2 p ts k2 hp ht hpt hl pr => ?_⟩
  have xg : Ex i1 i1 H1 H2 := ex_grow k2
  have rh2 := r1.rh.grow k2
  have xa := ex_adopt xg hp
  have pn : p ∉ i1 := r1.rh.nin hp
  have rd : ∀ {l : List (D × D)} {m : List (Key × V)} {ts : List Addr}, KVk i1 H2 l m → Paired (fun (t : Addr) (q : Key × V) => H2 t = some (.tup [kV q.1, q.2])) ts m → RDs i1 H2 (l.map fun p => .tup [p.1, p.2]) (ts.map V.ref) := by
    intro l m ts r
    induction r generalizing ts with
    | nil => intro q; cases q; exact .nil
    | @cons kk d v l m hd r ih =>
      intro q
      cases q with
      | cons q1 q2 => exact .cons (.tup (.inl q1) (.cons (rd_keyD kk) (.cons hd .nil))) (ih q2)
  exact k _ _ z1 _ _ _ (x1.trans xa) (rh2.adopt pn ⟨_, hl, (rd (f2.mono xg) pr).mono1 (List.prefix_append _ _)⟩) (.ref (push_at rh2 p))
end
end MP

set_option Elab.async false
set_option linter.all false
set_option maxRecDepth 100000
set_option maxHeartbeats 2000000
/-! MpQ: what an own class answers to in, ==, len, [ ]; its properties. -/
namespace MP
open PySem PySem.Spec
open PyProof.Rows hiding St
open L2
section
variable {X : Cx} {k j n : Nat} {cn m f : Str} {sp : SpD} {a : Addr} {e o ie : Expr} {pos p : Pos}
/-- the promise of a method, as its callee wants it -/
theorem spd_go {K : PySem.W.Frag} {mg : Str → Option Value} {io : List Addr} {H : Hp} {h : Hd} {ds : List D} {vs : List V} {q : D → Hd → Prop} {Q : VK} (ar : ∀ ds h q, sp ds h q → ds.length = n) (r : RH K mg io H h) (d : RDs io H ds vs) (z : sp ds h q) (k : Kn K mg io H q Q) : spD K mg n sp vs H Q E0 :=
  ⟨by rw [← d.length]; exact ar _ _ _ z, ds, h, io, q, r, d, z, k⟩
/-- an instance, as the heap has it -/
theorem ins_at {K : PySem.W.Frag} {mg : Str → Option Value} {io : List Addr} {H : Hp} {h : Hd} {i : Nat} {fs : List (Str × D)} {u : V} {C : Addr} (r : RH K mg io H h) (d : RD io H (.ref i) u) (e : h[i]? = some (.ins cn fs)) (hC : mg cn = some (.ref C)) :
    ∃ a dx gs, u = .ref a ∧ H a = some (.ins C dx gs) ∧ FSs io H fs gs := by
  cases d with
  | @ref _ a ia =>
    obtain ⟨C', dx, gs, m1, m2, m3, fr⟩ := r.cell i _ a e ia
    rw [hC] at m1; cases m1
    exact ⟨a, dx, gs, rfl, m2, fr⟩
theorem inst_of {pins : List (Addr × Obj)} {σ : L2.St} {H : Hp} {s : Shared} {a C dx : Addr} {gs : List (Str × V)} (I : Inv X pins σ H s) (e : H a = some (.ins C dx gs)) : ∃ ox od, PySem.W.InstAt s.heap a ox C (some od) := by
  obtain ⟨mA, O, _, _, _, _⟩ := ins_get I.hok e
  obtain ⟨od, J, _⟩ := O.look
  exact ⟨_, od, J⟩
/-! ### x in part -/
def oOwnIn (neg : Bool) (cn : Str) (sp : SpD) : O2 := fun x y h Q => (∃ i fs, y = .ref i ∧ h[i]? = some (.ins cn fs)) ∧ sp [y, x] h fun r h1 => ∃ b, r = .bl b ∧ Q (.bl (if neg then !b else b)) h1
theorem ol_ownIn (M : MtD X.prog X.w X.K X.mg X.base k cn "__contains__" 2 sp) (hr : Room j X.A) (hk : k ≤ j) (hgd : X.A.guards = some []) (neg : Bool) : OpL X (compareOp (if neg then .NotIn else .In)) (oOwnIn neg cn sp) := by
  obtain ⟨⟨C, g, fd, ps, hC, cl, me, G, hb, hn⟩, ar⟩ := M
  intro io H h x y u v q Q rh dx dy z kn
  obtain ⟨⟨i, fs, rfl, e⟩, z⟩ := z
  obtain ⟨a, da, gs, rfl, ea, _⟩ := ins_at rh dy e hC
  refine ⟨fun u v H Q => v = .ref a ∧ H a = some (.ins C da gs) ∧ spD X.K X.mg 2 sp [v, u] H (fun w H1 => ∃ b, w = .bl b ∧ Q (.bl (if neg then !b else b)) H1) E0, ?_, rfl, ea, ?_⟩
  · intro pins s σ H u v vu vv Q I ru rv ⟨ev, ea, q⟩
    subst ev
    cases (show vv = Value.ref a from rv)
    obtain ⟨ox, od, J⟩ := inst_of I ea
    obtain ⟨m, hF⟩ := I.fr
    have run := run_g (X := X) (us := [.ref a, vu]) (vs := [.ref a, u]) G (hr.mono hk) hgd hb .nil pass0 I (.cons rfl (.cons ru .nil)) q
    cases neg with
    | false =>
      refine PySem.W.in_K hF I.ok.mod.kin J me.at_ me.fn (wpAny_mono run (fun w s1 hw => ?_) fun _ _ x => x)
      obtain ⟨w', H1, I1, rw', b, rfl, q1⟩ := hw
      cases (show w = Value.bool b from rw')
      exact wpAny_truthy_bool ⟨.bl b, H1, I1, rfl, q1⟩
    | true =>
      refine PySem.W.notIn_K hF I.ok.mod.kin J me.at_ me.fn (wpAny_mono run (fun w s1 hw => ?_) fun _ _ x => x)
      obtain ⟨w', H1, I1, rw', b, rfl, q1⟩ := hw
      cases (show w = Value.bool b from rw')
      exact wpAny_truthy_bool ⟨.bl (!b), H1, I1, rfl, q1⟩
  · refine spd_go ar rh (.cons dy (.cons dx .nil)) z fun d h1 hd w io1 H1 x1 rh1 rd => ?_
    obtain ⟨b, rfl, hq⟩ := hd
    cases rd
    exact ⟨b, rfl, kn _ _ hq _ _ _ x1 rh1 (.bl _)⟩
/-! ### len(part) -/
def cOwnLen (cn : Str) (sp : SpD) : CD := fun ds h Q => ∃ i fs, ds = [.ref i] ∧ h[i]? = some (.ins cn fs) ∧ sp [.ref i] h fun r h1 => ∃ k : Nat, r = .int (k : Int) ∧ k < 2 ^ 62 ∧ Q (.int (k : Int)) h1
theorem cl_ownLen (M : MtD X.prog X.w X.K X.mg X.base k cn "__len__" 1 sp) (hr : Room j X.A) (hk : k + 1 ≤ j) (hgd : X.A.guards = some []) : CallL X (.builtin "len") (cOwnLen cn sp) := by
  obtain ⟨⟨C, g, fd, ps, hC, cl, me, G, hb, hn⟩, ar⟩ := M
  intro io H h ds vs q Q rh rd z kn
  obtain ⟨i, fs, rfl, e, z⟩ := z
  obtain ⟨v, rfl, d1⟩ := one_rd rd
  obtain ⟨a, da, gs, rfl, ea, _⟩ := ins_at rh d1 e hC
  refine ⟨fun xs H Q => xs = [.ref a] ∧ H a = some (.ins C da gs) ∧ spD X.K X.mg 1 sp xs H (fun w H1 => ∃ k : Nat, w = .int (k : Int) ∧ k < 2 ^ 62 ∧ Q (.int (k : Int)) H1) E0, ?_, rfl, ea, ?_⟩
  · intro pins s σ H xs us Q I r ⟨ex, ea, q⟩
    subst ex
    obtain ⟨vu, rfl, ru⟩ := vals1 r
    cases (show vu = Value.ref a from ru)
    obtain ⟨ox, od, J⟩ := inst_of I ea
    obtain ⟨m, hF⟩ := I.fr
    refine PySem.W.len_K hF I.ok.mod.kin J me.at_ me.fn ?_
    have hl : ([Value.ref a] ++ []).length = ps.length := hn.symm
    refine wpAny_call (codeAny_mono (G.run X.A.in1 X.stack s H ⟨[.ref a], []⟩ [.ref a] [.ref a] _ _ (Room.in1 (hr.mono hk)) hgd I.env0.in1 (hb s [.ref a] I.kIn hl) (.cons rfl .nil) q) fun r s1 hq => ?_)
    cases r with
    | error er => exact hq.elim
    | ok fl =>
      cases fl with
      | ret w =>
        obtain ⟨w', H1, I1, rw', k, rfl, hk2, q1⟩ := I.after hq
        obtain ⟨t, rfl⟩ := (show ∃ t, w = Value.int (k : Int) t from rw')
        exact ⟨⟨Int.natCast_nonneg _, by omega⟩, .int (k : Int), H1, I1.tok _, ⟨_, rfl⟩, q1⟩
      | next => exact hq.elim
      | brk => exact hq.elim
      | cont => exact hq.elim
  · refine spd_go ar rh (.cons d1 .nil) z fun d h1 hd w io1 H1 x1 rh1 rd => ?_
    obtain ⟨k, rfl, hk2, hq⟩ := hd
    cases rd
    exact ⟨k, rfl, hk2, kn _ _ hq _ _ _ x1 rh1 (.int _)⟩
/-! ### part == x -/
/-- the type of a value, as the library tells it -/
theorem tyx_of {K : PySem.W.Frag} {mg : Str → Option Value} {io : List Addr} {H : Hp} {h : Hd} {x : D} {u : V} {t : TyN} (r : RH K mg io H h) (d : RD io H x u) (e : tyD h x = some t) (own : ∀ c C, t = .inr c → mg c = some (.ref C) → InsOk K C) :
    ∃ tv, TyX K H u tv ∧ (∀ T, t = .inl T → tv = .type T) ∧ ∀ c, t = .inr c → ∃ C, mg c = some (.ref C) ∧ tv = .ref C := by
  have inl : ∀ T, TyX K H u (.type T) → tyD h x = some (.inl T) → ∃ tv, TyX K H u tv ∧ (∀ T, t = .inl T → tv = .type T) ∧ ∀ c, t = .inr c → ∃ C, mg c = some (.ref C) ∧ tv = .ref C := fun T ty e2 => by
    rw [e] at e2
    cases e2
    refine ⟨_, ty, ?_, ?_⟩
    · intro T z; cases z; rfl
    · intro c z; cases z
  cases d with
  | non => exact inl _ (.base .non) rfl
  | bl y => exact inl _ (.base (.bl y)) rfl
  | int y => exact inl _ (.base (.int y)) rfl
  | str y => exact inl _ (.base (.str y)) rfl
  | tup ha ra =>
    rcases ha with ha | ⟨⟨o, ha⟩, _⟩
    · exact inl _ (.base (.tup ha)) rfl
    · exact inl _ (.fTuple ha) rfl
  | @ref n a i =>
    have e0 := e
    simp only [tyD] at e
    split at e
    · rename_i xs e1
      obtain ⟨vs, f1, _⟩ := r.cell n _ a e1 i
      exact inl _ (.base (.lst f1)) (by simp only [tyD, e1])
    · rename_i xs e1
      obtain ⟨o, vs, f1, _⟩ := r.cell n _ a e1 i
      exact inl _ (.base (.frz f1)) (by simp only [tyD, e1])
    · rename_i lk kvs e1
      obtain ⟨ks, f1, _⟩ := (r.cell n _ a e1 i).dK
      cases lk with
      | false => exact inl _ (.base (.dK (by simpa [DOb] using f1))) (by simp only [tyD, e1])
      | true =>
        obtain ⟨o, f1⟩ := (by simpa [DOb] using f1 : ∃ o, H a = some (.frz o (.dK ks)))
        exact inl _ (.fDict f1) (by simp only [tyD, e1])
    · rename_i kvs e1
      obtain ⟨ks, f1, _⟩ := (r.cell n _ a e1 i).dT
      exact inl _ (.base (.dT (by simpa [DOb] using f1))) (by simp only [tyD, e1])
    · rename_i cn fs e1
      cases e
      obtain ⟨C, dx, gs, m1, m2, m3, fr⟩ := r.cell n _ a e1 i
      obtain ⟨o1, o2, o3, o4, o5⟩ := own _ _ rfl m1
      refine ⟨_, .base (.ins m2 o1 o2 o3 o4 o5), ?_, ?_⟩
      · intro T z; cases z
      · intro c z; cases z; exact ⟨C, m1, rfl⟩
    · cases e
/-- what == asks of the class, besides its method: the types of the other side -/
def EqOk (K : PySem.W.Frag) (mg : Str → Option Value) (cn : Str) (tys : List String) : Prop := ∀ C, mg cn = some (.ref C) → InsOk K C ∧ (∀ T ∈ tys, PySem.W.notFirst K C (.type T) = true) ∧ PySem.W.findIn K (.ref C) "__ne__" = some (some (.builtin "object.__ne__"))
theorem ne_in {prog : Program} {w : World} {A : Around} {E : Value → Shared → Prop} {s : Shared} {K : PySem.W.Frag} {x C L f : Addr} {h0 : Heap} {m : Str → Option Value} {ox : Obj} {od : Option Obj} {b tb : Value} {Q : Value → Shared → Prop}
    (hu : A.units + 1 < cLine) (F : PyProof.Rows.Fr h0 L s.heap m) (X0 : K.In h0) (I : PySem.W.InstAt s.heap x ox C od) (hb : PySem.W.Looks (model prog w) s.heap (typeOf b) tb) (hn : PySem.W.notFirst K C tb = true) (hm : PySem.W.mroIn K C (.type "object") = some true)
    (h1 : PySem.W.findIn K (.ref C) "__ne__" = some (some (.builtin "object.__ne__"))) (h2 : PySem.W.findIn K (.ref C) "__eq__" = some (some (.ref f))) (hf : PySem.W.isFn K (.ref f) = true)
    (h : wpAny (model prog w) A.in1 (call (.ref f) [.ref x, b]) (fun v s' => ∃ r, v = .bool r ∧ Q (.bool (!r)) s') E s) : wpAny (model prog w) A (richCompare .NotEq (.ref x) b) Q E s := by
  have X := X0.keeps F.keep
  have S := PySem.F.cmp_object.ne
  have chk : ∀ {B : Around} {E2 : Value → Shared → Prop} {Q2 : Unit → Shared → Prop}, Q2 () s → wpAny (model prog w) B (checkBuiltinCall "object.__ne__" ⟨[.ref x, b], []⟩) Q2 E2 s := fun {B E2 Q2} q => by
    simp only [checkBuiltinCall, PySem.F.cmpKind_ne, PySem.F.cmpSplit_ne]
    refine wpAny_bind ?_
    unfold isInstance
    refine wpAny_bind (I.type.here ((PySem.W.looks_mroIn X hm).here ?_))
    have ha := PySem.F.cmpArgs_ne (.ref x) b
    cases hsig : Manifest.signature? "object.__ne__" with
    | none => exact wpAny_pure q
    | some sig =>
      simp only [argsOk, hsig] at ha
      have h2 : Bind.checkArgs "object.__ne__" sig ⟨[.ref x, b], []⟩ = pure () := ha
      show wpAny _ _ (Bind.checkArgs "object.__ne__" sig ⟨[.ref x, b], []⟩) _ _ _
      rw [h2]; exact wpAny_pure q
  have one : wpAny (model prog w) A (tryCompare (.ref x) "__ne__" b) (fun r s' => ∃ v, r = some v ∧ Q v s') E s := by
    simp only [tryCompare, callSpecialIfBound?, bindSpecialIfBound?]
    have body : wpAny (model prog w) A (call (.builtin "object.__ne__") [.ref x, b]) (fun v s' => ∃ r, v = .bool r ∧ Q (.bool r) s') E s := by
      refine wpAny_call (codeAny_call_builtin S.plain PySem.F.cmpEntry_ne (chk ?_))
      unfold Builtin.«object.__ne__»
      repeat (first
        | with_reducible refine wpAny_cRoomFor hu ?_
        | (refine wpAny_bind (m := callSpecialIfBound? (.ref x) (Str.ofString "__eq__") [b]) (PySem.W.ifBound_K X I h2 hf (wpAny_mono h (fun v s' hv => by
            obtain ⟨r, rfl, hq⟩ := hv
            repeat (first | exact ⟨_, rfl, hq⟩ | exact wpAny_pure ⟨_, rfl, hq⟩ | (refine wpAny_bind (m := truthy (.bool _)) (wpAny_truthy_bool ?_)) | wp_step)) fun _ _ z => z)))
        | wp_step)
    refine wpAny_bind (wpAny_holding (wpAny_bind (wpAny_bind (wpAny_bind (I.type.here ((PySem.W.looks_findIn X h1).here ?_))))))
    simp only [S.bind]
    refine wpAny_bind (wpAny_askSetting (wpAny_ite ?_))
    have go : ∀ {QQ : Option Value → Shared → Prop}, (∀ r s1, Q (.bool r) s1 → QQ (some (.bool r)) s1) → wpAny (model prog w) A (call (.builtin "object.__ne__") ([.ref x] ++ [b]) >>= fun v => pure (some v)) QQ E s := fun hQ => by
      refine wpAny_bind (wpAny_mono body (fun v s1 hv => ?_) fun _ _ z => z)
      obtain ⟨r, rfl, hq⟩ := hv
      exact wpAny_pure (hQ _ _ hq)
    split
    · exact wpAny_bind (wpAny_pure (wpAny_pure (go fun r s1 hq => wpAny_pure ⟨_, rfl, hq⟩)))
    · exact wpAny_tryCatch (wpAny_bind (wpAny_pure (wpAny_pure (go fun r s1 hq => wpAny_pure ⟨_, rfl, hq⟩))))
  unfold richCompare
  simp only [oneThing_ref]
  refine wpAny_holding (wpAny_bind (wpAny_cRoomFor (Nat.lt_of_succ_lt hu) ?_))
  refine wpAny_bind (I.type.here (wpAny_bind (hb.here ?_)))
  by_cases hc : (Value.ref C != tb) = true
  · rw [if_pos hc]
    have e : PySem.W.subIn K tb (.ref C) = some false := (Bool.or_eq_true_iff.mp hn).elim (fun z => by rw [beq_iff_eq.mp z] at hc; simp at hc) fun z => beq_iff_eq.mp z
    refine wpAny_bind ((PySem.W.looks_subIn X e).here ?_)
    rw [if_neg Bool.false_ne_true]
    refine wpAny_bind (wpAny_mono one (fun r s1 z => ?_) fun _ _ z => z)
    obtain ⟨v, rfl, q⟩ := z
    exact wpAny_pure q
  · rw [if_neg hc]
    refine wpAny_bind (wpAny_pure ?_)
    rw [if_neg Bool.false_ne_true]
    refine wpAny_bind (wpAny_mono one (fun r s1 z => ?_) fun _ _ z => z)
    obtain ⟨v, rfl, q⟩ := z
    exact wpAny_pure q
def oOwnEq (neg : Bool) (cn : Str) (tys : List String) (sp : SpD) : O2 := fun x y h Q => (∃ i fs, x = .ref i ∧ h[i]? = some (.ins cn fs)) ∧ (∃ t, tyD h y = some t ∧ (t = .inr cn ∨ ∃ T ∈ tys, t = .inl T)) ∧ sp [x, y] h fun r h1 => ∃ b, r = .bl b ∧ Q (.bl (if neg then !b else b)) h1
theorem ol_ownEq {tys : List String} (M : MtD X.prog X.w X.K X.mg X.base k cn "__eq__" 2 sp) (hE : EqOk X.K X.mg cn tys) (hr : Room j X.A) (hk : k + 1 ≤ j) (hgd : X.A.guards = some []) (neg : Bool) : OpL X (compareOp (if neg then .NotEq else .Eq)) (oOwnEq neg cn tys sp) := by
  obtain ⟨⟨C, g, fd, ps, hC, cl, me, G, hb, hn⟩, ar⟩ := M
  obtain ⟨io0, hts, hne⟩ := hE C hC
  intro io H h x y u v q Q rh dx dy z kn
  obtain ⟨⟨i, fs, rfl, e⟩, ⟨t, et, ht⟩, z⟩ := z
  obtain ⟨a, da, gs, rfl, ea, _⟩ := ins_at rh dx e hC
  obtain ⟨tv, ty, t1, t2⟩ := tyx_of rh dy et (fun c C' ec hC' => by
    rcases ht with rfl | ⟨T, _, rfl⟩
    · cases ec; rw [hC] at hC'; cases hC'; exact io0
    · cases ec)
  have hnf : PySem.W.notFirst X.K C tv = true := by
    rcases ht with rfl | ⟨T, hT, rfl⟩
    · obtain ⟨C', hC', rfl⟩ := t2 _ rfl
      rw [hC] at hC'; cases hC'
      unfold PySem.W.notFirst
      rw [beq_self_eq_true]; rfl
    · rw [t1 _ rfl]; exact hts T hT
  refine ⟨fun u v H Q => u = .ref a ∧ H a = some (.ins C da gs) ∧ TyX X.K H v tv ∧ spD X.K X.mg 2 sp [u, v] H (fun w H1 => ∃ b, w = .bl b ∧ Q (.bl (if neg then !b else b)) H1) E0, ?_, rfl, ea, ty, ?_⟩
  · intro pins s σ H u v vu vv Q I ru rv ⟨eu, ea, ty, q⟩
    subst eu
    cases (show vu = Value.ref a from ru)
    obtain ⟨ox, od, J⟩ := inst_of I ea
    obtain ⟨m, hF⟩ := I.fr
    obtain ⟨P, Z, p, _⟩ := kit_of I rv ty
    have hl := Z.ty (model X.prog X.w) _ I.kIn p
    cases neg with
    | false =>
      have run := run_g (X := X) (us := [.ref a, vv]) (vs := [.ref a, v]) G (hr.mono (Nat.le_of_succ_le hk)) hgd hb .nil pass0 I (.cons rfl (.cons rv .nil)) q
      show wpAny _ _ (richCompare .Eq (.ref a) vv) _ _ _
      refine PySem.W.cmp_K (op := .Eq) (tb := tv) hr.units0 hF I.ok.mod.kin J hl hnf me.at_ me.fn (wpAny_mono run (fun w s1 hw => ?_) fun _ _ x => x)
      obtain ⟨w', H1, I1, rw', b, rfl, q1⟩ := hw
      cases (show w = Value.bool b from rw')
      exact ⟨.bl b, H1, I1, rfl, q1⟩
    | true =>
      have hr1 : Room (k + 1) X.A := hr.mono hk
      have hl2 : ([Value.ref a, vv] ++ []).length = ps.length := hn.symm
      show wpAny _ _ (richCompare .NotEq (.ref a) vv) _ _ _
      refine ne_in (tb := tv) (by have := hr1.units; omega) hF I.ok.mod.kin J hl hnf io0.2.2.2.2 hne me.at_ me.fn ?_
      refine wpAny_call (codeAny_mono (G.run X.A.in1 X.stack s H ⟨[.ref a, vv], []⟩ [.ref a, vv] [.ref a, v] _ _ hr1.in1 hgd I.env0.in1 (hb s [.ref a, vv] I.kIn hl2) (.cons rfl (.cons rv .nil)) q) fun r s1 hq => ?_)
      cases r with
      | error er => exact hq.elim
      | ok fl =>
        cases fl with
        | ret w =>
          obtain ⟨w', H1, I1, rw', b, rfl, q1⟩ := I.after hq
          cases (show w = Value.bool b from rw')
          exact ⟨b, rfl, .bl (!b), H1, I1, rfl, q1⟩
        | next => exact hq.elim
        | brk => exact hq.elim
        | cont => exact hq.elim
  · refine spd_go ar rh (.cons dx (.cons dy .nil)) z fun d h1 hd w io1 H1 x1 rh1 rd => ?_
    obtain ⟨b, rfl, hq⟩ := hd
    cases rd
    exact ⟨b, rfl, kn _ _ hq _ _ _ x1 rh1 (.bl _)⟩
/-! ### part[x] -/
def oOwnIx (cn : Str) (sp : SpD) : O2 := fun x y h Q => (∃ i fs, x = .ref i ∧ h[i]? = some (.ins cn fs)) ∧ sp [x, y] h Q
/-- the method is a def -/
def FnIn (K : PySem.W.Frag) (mg : Str → Option Value) (cn m : Str) : Prop := ∀ C f, mg cn = some (.ref C) → PySem.W.findIn K (.ref C) m = some (some (.ref f)) → PySem.W.fnIn K f = true
theorem le_ownIx {a b : Expr} {wa wb : WE} (M : MtD X.prog X.w X.K X.mg X.base k cn "__getitem__" 2 sp) (hf : FnIn X.K X.mg cn "__getitem__") (hr : Room j X.A) (hk : k + 1 ≤ j) (hgd : X.A.guards = some []) (ha : LE X a wa) (hb : LE X b wb)
    (hs : ∀ v i : Value, subscripted b true v i = runValue (.builtin "lifetime.subscript" ⟨[v, i], []⟩) := by intro _ _; with_unfolding_all rfl) : LE X (.Subscript a b pos) (wBin (oOwnIx cn sp) wa wb) := by
  obtain ⟨⟨C, g, fd, ps, hC, cl, me, G, hbi, hn⟩, ar⟩ := M
  have hr1 : Room (k + 1) X.A := hr.mono hk
  have op : ∀ (pins : List (Addr × Obj)) (s : Shared) (σ : L2.St) (H : Hp) (u v : V) (vu vv : Value) (Q : VK), Inv X pins σ H s → RelV u vu → RelV v vv → (∃ a da gs, u = .ref a ∧ H a = some (.ins C da gs) ∧ spD X.K X.mg 2 sp [u, v] H Q E0) →
      wpAny (model X.prog X.w) X.A (subscriptTail a b vu vv) (EP X pins σ Q) X.xe s := by
    intro pins s σ H u v vu vv Q I ru rv ⟨ad, da, gs, eu, ea, q⟩
    subst eu
    cases (show vu = Value.ref ad from ru)
    obtain ⟨ox, od, J⟩ := inst_of I ea
    obtain ⟨m, hF⟩ := I.fr
    have hl2 : ([Value.ref ad, vv] ++ []).length = ps.length := hn.symm
    refine PySem.W.sub_K hF I.ok.mod.kin J me.at_ (hf C g hC me.at_) me.fn (wpAny_call (codeAny_mono (G.run X.A.in1 X.stack s H ⟨[.ref ad, vv], []⟩ [.ref ad, vv] [.ref ad, v] _ _ hr1.in1 hgd I.env0.in1 (hbi s [.ref ad, vv] I.kIn hl2) (.cons rfl (.cons rv .nil)) q) fun r s1 hq => ?_)) (hs _ _)
    cases r with
    | error er => exact hq.elim
    | ok fl =>
      cases fl with
      | ret w => exact I.after hq
      | next => exact hq.elim
      | brk => exact hq.elim
      | cont => exact hq.elim
  have tot : PE X (.Subscript a b pos) (tOp (fun u v H Q => ∃ a da gs, u = .ref a ∧ H a = some (.ins C da gs) ∧ spD X.K X.mg 2 sp [u, v] H Q E0) (tE X.K X.mg wa) (tE X.K X.mg wb)) :=
    ⟨fun pins s σ H Q I h => Subscript_ (binT ha hb I h fun v u s2 x y H2 I2 rx ry q => op pins s2 σ H2 x y v u Q I2 rx ry q)⟩
  refine tot.imp fun σ H Q z => ?_
  obtain ⟨sl, h, io, q, r, z, kn⟩ := z
  refine tE.go r z fun x h1 z1 u i1 H1 x1 r1 d1 => ?_
  refine tE.go r1 z1 fun y h2 z2 v i2 H2 x2 r2 d2 => ?_
  obtain ⟨⟨i, fs, rfl, e⟩, z3⟩ := z2
  obtain ⟨ad, da, gs, rfl, ea, _⟩ := ins_at r2.rh (d1.mono x2) e hC
  exact ⟨ad, da, gs, rfl, ea, spd_go ar r2.rh (.cons (d1.mono x2) (.cons d2 .nil)) z3 (kn.on (x1.trans x2))⟩
/-! ### part.f, a property -/
structure PrD (P : Program) (w : World) (K : PySem.W.Frag) (mg : Str → Option Value) (base : Heap) (k : Nat) (c m : Str) (sp : SpD) : Prop where
  ex : ∃ (C p g : Addr) (fd : FuncData) (ps : List Str), mg c = some (.ref C) ∧ Cls K C ∧ PropOf K C m p g ∧ FnG P w K mg base CX0 k g fd ps (spD K mg 1 sp) ∧ Binds K fd ps [] ∧ ps.length = 1
  ar : ∀ ds h q, sp ds h q → ds.length = 1
def wProp (cn : Str) (sp : SpD) (wo : WE) : WE := fun sl h Q => wo sl h fun x h1 => (∃ i fs, x = .ref i ∧ h1[i]? = some (.ins cn fs)) ∧ sp [x] h1 Q
theorem le_prop {wo : WE} (M : PrD X.prog X.w X.K X.mg X.base k cn f sp) (hr : Room j X.A) (hk : k + 1 ≤ j) (hgd : X.A.guards = some []) (ho : LE X o wo) (hab : attributeBase o f X.env (eval o X.env) = eval o X.env := by rfl) : LE X (.Attribute o f pos) (wProp cn sp wo) := by
  obtain ⟨⟨C, p, g, fd, ps, hC, cl, hp, G, hb, hn⟩, ar⟩ := M
  have hr1 : Room (k + 1) X.A := hr.mono hk
  refine ⟨fun pins s σ H Q I z => ?_⟩
  obtain ⟨sl, h, io, q, r, z, kn⟩ := z
  refine attr_of hab (thn (ho.run pins s σ H (fun x H1 => ∃ a da gs, x = .ref a ∧ H1 a = some (.ins C da gs) ∧ spD X.K X.mg 1 sp [x] H1 Q E0) I (tE.go r z fun x h1 z1 u i1 H1 x1 r1 d1 => ?_)) fun u s1 ⟨x, H1, I1, rx, a, da, gs, ex, ea, q1⟩ => ?_)
  · obtain ⟨⟨i, fs, rfl, e⟩, z2⟩ := z1
    obtain ⟨a, da, gs, rfl, ea, _⟩ := ins_at r1.rh d1 e hC
    exact ⟨a, da, gs, rfl, ea, spd_go ar r1.rh (.cons d1 .nil) z2 (kn.on x1)⟩
  · subst ex
    obtain rfl : u = Value.ref a := rx
    obtain ⟨ox, od, J⟩ := inst_of I1 ea
    obtain ⟨rest, hrec⟩ := hp.rec_
    have I2 := I1.tok (s1.toks + 1)
    have hl2 : ([Value.ref a] ++ []).length = ps.length := hn.symm
    have hc : (PySem.W.clsIn X.K C).isSome = true := by
      obtain ⟨cd, e, _⟩ := PySem.W.any_some cl.hd
      rw [e]; rfl
    refine PySem.W.get_bind I1.kIn J (PySem.W.plainGet_of (cl.get f)).1 (PySem.W.findObj_data hc hp.at_ hp.get hp.tak) (PySem.W.plainGet_of (cl.get f)).2 (wpAny_call (PySem.W.prop_get (s := { s1 with toks := s1.toks + 1 }) I1.kIn hrec ?_))
    refine codeAny_mono (G.run X.A.in1 X.stack { s1 with toks := s1.toks + 1 } H1 ⟨[.ref a], []⟩ [.ref a] [.ref a] Q E0 hr1.in1 hgd I2.env0.in1 (hb _ [.ref a] I2.kIn hl2) (.cons rfl .nil) q1) fun r s2 hq => ?_
    cases r with
    | error er => exact hq.elim
    | ok fl =>
      cases fl with
      | ret w =>
        obtain ⟨w', H2, I3, rw', q2⟩ := I2.after hq
        refine wpAny_of_eq (PySem.W.handedOut_of (handed_of rw')) ⟨w', H2, I3, rw', q2⟩
      | next => exact hq.elim
      | brk => exact hq.elim
      | cont => exact hq.elim
end
end MP

set_option Elab.async false
set_option linter.all false
set_option maxRecDepth 100000
set_option maxHeartbeats 2000000
/-! MpR: repr of nested data with dicts. -/
namespace MP
open PySem PySem.Spec
open PyProof.Rows hiding St
open L2
mutual
/-- nested data, dicts by plain keys among it -/
inductive PyX (h : Hd) : D → PyData → Prop
  | non : PyX h .non .none
  | bl (b : Bool) : PyX h (.bl b) (.bool b)
  | int (i : Int) : PyX h (.int i) (.int i)
  | str (x : Str) : PyX h (.str x) (.str x)
  | lst {n : Nat} {xs : List D} {ds : List PyData} : items h n = some xs → PyXs h xs ds → PyX h (.ref n) (.list ds)
  | tup {xs : List D} {ds : List PyData} : PyXs h xs ds → PyX h (.tup xs) (.tuple ds)
  | dct {n : Nat} {lk : Bool} {kvs : List (D × D)} {ps : List (PyData × PyData)} : h[n]? = some (.dct false lk kvs) → PyXk h kvs ps → PyX h (.ref n) (.dict ps)
inductive PyXs (h : Hd) : List D → List PyData → Prop
  | nil : PyXs h [] []
  | cons {x : D} {xs : List D} {d : PyData} {ds : List PyData} : PyX h x d → PyXs h xs ds → PyXs h (x :: xs) (d :: ds)
inductive PyXk (h : Hd) : List (D × D) → List (PyData × PyData) → Prop
  | nil : PyXk h [] []
  | int {i : Int} {y : D} {r : List (D × D)} {e : PyData} {ps : List (PyData × PyData)} : PyX h y e → PyXk h r ps → PyXk h ((.int i, y) :: r) ((.int i, e) :: ps)
  | str {x : Str} {y : D} {r : List (D × D)} {e : PyData} {ps : List (PyData × PyData)} : PyX h y e → PyXk h r ps → PyXk h ((.str x, y) :: r) ((.str x, e) :: ps)
end
/-- the dict of modules is known to be a dict -/
def SmOk (K : PySem.W.Frag) : Prop := ∃ o, K.lookup sysModules = some o ∧ o.cls = .type "dict"
theorem SmOk.ne {K : PySem.W.Frag} {h : Heap} {a : Addr} {o : Obj} (k : SmOk K) (X : K.In h) (e : h.get? a = some o) (c : o.cls = .type "list") : a ≠ sysModules := fun z => by
  obtain ⟨o2, e2, c2⟩ := k
  have e3 := X _ _ e2
  rw [z, e3] at e
  cases e
  exact absurd (c.symm.trans c2) (by simp)
theorem rd_int {h : Heap} {v : Value} {i : Int} {t : Tok} (e : v = .int i t) : Reads h v (.int i) [] := by rw [e]; exact .int i t
theorem rd_str {h : Heap} {v : Value} {x : Str} {t : Tok} (e : v = .str x t) : Reads h v (.str x) [] := by rw [e]; exact .str x t
section
variable {X : Cx} {pins : List (Addr × Obj)} {σ : L2.St} {s : Shared} {io : List Addr} {H : Hp} {h : Hd}
mutual
theorem PyX.reads (k : SmOk X.K) (I : Inv X pins σ H s) (rh : RH X.K X.mg io H h) : ∀ {x : D} {d : PyData} {v : V} {u : Value}, PyX h x d → RD io H x v → RelV v u → ∃ as, Reads s.heap u d as ∧ sysModules ∉ as
  | _, _, _, _, .non, .non, r => by cases r; exact ⟨_, .none, by simp⟩
  | _, _, _, _, .bl b, .bl _, r => by cases r; exact ⟨_, .bool b, by simp⟩
  | _, _, _, _, .int i, .int _, r => by obtain ⟨t, rfl⟩ := r; exact ⟨_, .int i t, by simp⟩
  | _, _, _, _, .str x, .str _, r => by obtain ⟨t, rfl⟩ := r; exact ⟨_, .str x t, by simp⟩
  | _, _, _, _, .lst e q, .ref i, r => by
    obtain ⟨vs, hs, rd⟩ := rh.list e i
    cases r
    obtain ⟨its, rv, ⟨o, n, ho, hc, _, hd⟩, _⟩ := I.list hs
    obtain ⟨as, hr, hn⟩ := PyXs.reads k I rh q rd rv
    refine ⟨_, .list ho hc hd hr, fun z => ?_⟩
    rcases List.mem_cons.mp z with z | z
    · exact k.ne I.kIn ho hc z.symm
    · exact hn z
  | _, _, _, _, .tup q, .tup e rd, r => by
    cases r
    obtain ⟨its, rv, ⟨o, ho, hc, n, hd⟩, _⟩ := I.tuple e.sq
    obtain ⟨as, hr, hn⟩ := PyXs.reads k I rh q rd rv
    exact ⟨_, .tuple ho hc hd hr, hn⟩
  | _, _, _, _, @PyX.dct _ n lk kvs ps e q, rdn, r => by
    cases rdn with
    | @ref _ a i =>
    cases r
    obtain ⟨ks, f1, rk⟩ := (rh.cell n _ _ e i).dK
    have rd : Rd H a (.dK ks) := by
      cases lk with
      | false => exact .inl (by simpa [DOb] using f1)
      | true => exact .inr (by simpa [DOb] using f1)
    obtain ⟨_, hsm, vs, kv, o, es, ep, ho, hx, hd, _, hp, _⟩ := dk_rd I.hok rd
    obtain ⟨as, bs, r1, r2, n1, n2⟩ := PyXk.reads k I rh q rk kv hp
    refine ⟨_, .dict ho hx.1 hd r1 r2, fun z => ?_⟩
    rcases List.mem_append.mp z with z | z
    · rcases List.mem_cons.mp z with z | z
      · rw [z] at hsm; simp at hsm
      · exact n1 z
    · exact n2 z
theorem PyXs.reads (k : SmOk X.K) (I : Inv X pins σ H s) (rh : RH X.K X.mg io H h) : ∀ {xs : List D} {ds : List PyData} {vs : List V} {us : List Value}, PyXs h xs ds → RDs io H xs vs → Vals vs us → ∃ as, ReadsAll s.heap us ds as ∧ sysModules ∉ as
  | _, _, _, _, .nil, .nil, r => by cases r; exact ⟨_, .nil, by simp⟩
  | _, _, _, _, .cons a q, .cons b rd, r => by
    cases r with
    | cons r1 r2 =>
      obtain ⟨as, h1, n1⟩ := PyX.reads k I rh a b r1
      obtain ⟨bs, h2, n2⟩ := PyXs.reads k I rh q rd r2
      refine ⟨_, .cons h1 h2, fun z => ?_⟩
      rcases List.mem_append.mp z with z | z
      · exact n1 z
      · exact n2 z
theorem PyXk.reads (k : SmOk X.K) (I : Inv X pins σ H s) (rh : RH X.K X.mg io H h) : ∀ {kvs : List (D × D)} {ps : List (PyData × PyData)} {ks : List (Key × V)} {vs : List (Key × Value)} {es : List DictEntry}, PyXk h kvs ps → KVk io H kvs ks → KV ks vs → Pairs (mixKind X.prog X.w) es vs →
      ∃ as bs, ReadsAll s.heap (es.map (·.key)) (ps.map (·.1)) as ∧ ReadsAll s.heap (es.map (·.val)) (ps.map (·.2)) bs ∧ sysModules ∉ as ∧ sysModules ∉ bs
  | _, _, _, _, _, .nil, rk, kv, hp => by
    cases rk; cases kv; cases hp
    exact ⟨_, _, .nil, .nil, by simp, by simp⟩
  | _, _, _, _, _, @PyXk.int _ i y r e ps a q, rk, kv, hp => by
    generalize hk : ((D.int i, y) :: r) = kvs at rk
    cases rk with
    | nil => cases hk
    | @cons key d v l m rd rk =>
      obtain ⟨h1, h2⟩ := List.cons.inj hk
      obtain ⟨h3, rfl⟩ := Prod.mk.inj h1
      subst h2
      cases kv with
      | cons e1 kv =>
        cases hp with
        | cons hi hv hp =>
          obtain ⟨e1a, e1b⟩ := e1
          rw [← hv] at e1b
          obtain ⟨as, r1, n1⟩ := PyX.reads k I rh a rd e1b
          obtain ⟨as2, bs2, r2, r3, n2, n3⟩ := PyXk.reads k I rh q rk kv hp
          rcases keyIs_shape hi with ⟨i', t, ek, ev⟩ | ⟨x, t, ek, ev⟩
          · have ek := e1a.trans ek
            dsimp only at ek
            rw [ek] at h3
            cases h3
            exact ⟨_, _, .cons (rd_int ev) r2, .cons r1 r3, by simpa using n2, fun z => by
              rcases List.mem_append.mp z with z | z
              · exact n1 z
              · exact n3 z⟩
          · have ek := e1a.trans ek
            dsimp only at ek
            rw [ek] at h3
            cases h3
  | _, _, _, _, _, @PyXk.str _ x y r e ps a q, rk, kv, hp => by
    generalize hk : ((D.str x, y) :: r) = kvs at rk
    cases rk with
    | nil => cases hk
    | @cons key d v l m rd rk =>
      obtain ⟨h1, h2⟩ := List.cons.inj hk
      obtain ⟨h3, rfl⟩ := Prod.mk.inj h1
      subst h2
      cases kv with
      | cons e1 kv =>
        cases hp with
        | cons hi hv hp =>
          obtain ⟨e1a, e1b⟩ := e1
          rw [← hv] at e1b
          obtain ⟨as, r1, n1⟩ := PyX.reads k I rh a rd e1b
          obtain ⟨as2, bs2, r2, r3, n2, n3⟩ := PyXk.reads k I rh q rk kv hp
          rcases keyIs_shape hi with ⟨i', t, ek, ev⟩ | ⟨x', t, ek, ev⟩
          · have ek := e1a.trans ek
            dsimp only at ek
            rw [ek] at h3
            cases h3
          · have ek := e1a.trans ek
            dsimp only at ek
            rw [ek] at h3
            cases h3
            exact ⟨_, _, .cons (rd_str ev) r2, .cons r1 r3, by simpa using n2, fun z => by
              rcases List.mem_append.mp z with z | z
              · exact n1 z
              · exact n3 z⟩
end
theorem call_reprX (k : SmOk X.K) {j : Nat} (hr : Room j X.A) (hgd : X.A.guards = some []) : CallR X (.builtin "repr") (fun xs H Q => ∃ (x : D) (h : Hd) (io : List Addr) (v : V) (d : PyData), xs = [v] ∧ RH X.K X.mg io H h ∧ RD io H x v ∧ PyX h x d ∧ PyData.showable d = true ∧ d.shown.length ≤ sizeLine ∧ d.depth ≤ 60 ∧ Q (.str d.shown) H) := by
  intro pins s σ H xs us Q I r q
  obtain ⟨x, h, io, v, d, rfl, rh, rd, px, hs, hz, hd, q⟩ := q
  obtain ⟨u, rfl, rx⟩ := vals1 r
  have hu := hr.units
  obtain ⟨as, re, hn⟩ := px.reads k I rh rd rx
  have fin : ∀ (h' : Heap) t tk, (∀ b o, s.heap.get? b = some o → h'.get? b = some o) → EP X pins σ Q (.str d.shown t) { s with heap := h', toks := tk } := fun h' t tk kp => ⟨.str _, H, I.kept kp, ⟨_, rfl⟩, q⟩
  cases px with
  | non => cases rd; cases (show u = Value.none from rx); exact PySem.P.repr_of_none ⟨.str _, H, I.tok _, ⟨_, rfl⟩, q⟩
  | bl b =>
    cases rd
    cases (show u = Value.bool b from rx)
    refine PySem.P.repr_of_bool ⟨.str _, H, I.tok _, ⟨_, rfl⟩, ?_⟩
    cases b <;> exact q
  | int i =>
    cases rd
    obtain ⟨t, rfl⟩ := (show ∃ t, u = Value.int i t from rx)
    exact PySem.P.repr_of_int (by simpa [PyData.showable] using hs) ⟨.str _, H, I.tok _, ⟨_, rfl⟩, q⟩
  | str y =>
    cases rd
    obtain ⟨t, rfl⟩ := (show ∃ t, u = Value.str y t from rx)
    exact PySem.P.repr_of_str ⟨.str _, H, I.tok _, ⟨_, rfl⟩, q⟩ hz
  | lst _ _ =>
    cases rd
    cases (show u = Value.ref _ from rx)
    exact repr_of_reads' re hs (fun _ => hn) hgd (by omega) (fun _ _ e => e) (fun h' t tk hk => fin h' t tk hk) hz
  | tup _ =>
    cases rd
    cases (show u = Value.ref _ from rx)
    exact repr_of_reads' re hs (fun _ => hn) hgd (by omega) (fun _ _ e => e) (fun h' t tk hk => fin h' t tk hk) hz
  | dct _ _ =>
    cases rd
    cases (show u = Value.ref _ from rx)
    exact repr_of_reads' re hs (fun _ => hn) hgd (by omega) (fun _ _ e => e) (fun h' t tk hk => fin h' t tk hk) hz
end
def cReprX : CD := fun ds h Q => ∃ x d, ds = [x] ∧ PyX h x d ∧ PyData.showable d = true ∧ d.shown.length ≤ sizeLine ∧ d.depth ≤ 60 ∧ Q (.str d.shown) h
theorem cl_reprX {X : Cx} {j : Nat} (k : SmOk X.K) (hr : Room j X.A) (hgd : X.A.guards = some []) : CallL X (.builtin "repr") cReprX := by
  intro io H h ds vs q Q rh rd z kn
  obtain ⟨x, d, rfl, px, h1, h2, h3, z⟩ := z
  obtain ⟨v, rfl, d1⟩ := one_rd rd
  exact ⟨_, call_reprX k hr hgd, x, h, io, v, d, rfl, rh, d1, px, h1, h2, h3, kn _ _ z _ io H .refl rh (.str _)⟩
end MP

set_option Elab.async false
set_option linter.all false
set_option maxRecDepth 100000
set_option maxHeartbeats 2000000
/-! MpS: == of tuples of dicts. -/
namespace PySem.SeqAt
open AutoSeq1 (wpAny_loadPart')
section
variable {prog : Program} {w : World}
/-- how far two tuples agree -/
def agree (e : Nat → Bool) (m i : Nat) : Bool := ((List.range m).drop i).all e
theorem agree_end {e : Nat → Bool} {m i : Nat} (h : m ≤ i) : agree e m i = true := by
  unfold agree; rw [List.drop_of_length_le (by simpa using h)]; rfl
theorem agree_step {e : Nat → Bool} {m i : Nat} (h : i < m) : agree e m i = (e i && agree e m (i + 1)) := by
  unfold agree
  rw [List.drop_eq_getElem_cons (by simpa using h), List.all_cons, List.getElem_range]
/-- the tuple's own ==, within one model -/
theorem tupEq_in {a b : Addr} {xs ys : Array Value} {nx ny : Nat} {dx dy : Option Addr} {sx sy : Array (Option Value)} {e : Nat → Bool} :
    MeetsIn prog w (Builtin.«tuple.__eq__» ⟨[.ref a, .ref b], []⟩) (fun A R s => s.heap.get? a = some { cls := .type "tuple", dict := dx, data := .seq xs nx, slots := sx } ∧
      s.heap.get? b = some { cls := .type "tuple", dict := dy, data := .seq ys ny, slots := sy } ∧ (∀ j (p : j < xs.size) (q : j < ys.size), EqP prog w A.in1 s xs[j] ys[j] (e j)) ∧
      R (.ok (.ret (.bool (agree e (min xs.size ys.size) 0 && xs.size == ys.size)))) s) := by
  intro A R s hyp
  obtain ⟨hp, g, d, tk, os⟩ := s
  obtain ⟨ha, hb, he, hR⟩ := hyp
  have st := AutoSeq1.sub_tuple_tuple
  have lz : (xs.toList.zip ys.toList).length = min xs.size ys.size := by simp
  wp_walk using wpAny_loadPart' ha, wpAny_loadPart' hb, wpAny_forIn_list _ (fun rest z s2 => z.1 = none ∧ s2 = ⟨hp, g, d, tk, os⟩ ∧ ∃ i, rest = (xs.toList.zip ys.toList).drop i ∧
    R (.ok (.ret (.bool (agree e (min xs.size ys.size) i && xs.size == ys.size)))) ⟨hp, g, d, tk, os⟩) _
  case turn =>
    rintro ⟨u, v⟩ rest z s2 ⟨z0, rfl, i, ez, r⟩
    have li : i < (xs.toList.zip ys.toList).length := Nat.lt_of_not_le fun q => by rw [List.drop_of_length_le q] at ez; cases ez
    have lm : i < min xs.size ys.size := lz ▸ li
    have p1 : i < xs.size := by omega
    have p2 : i < ys.size := by omega
    rw [List.drop_eq_getElem_cons li] at ez
    obtain ⟨e1, e2⟩ := List.cons.inj ez
    rw [List.getElem_zip] at e1
    obtain ⟨eu, ev⟩ := Prod.mk.inj e1
    have eu : u = xs[i] := by rw [eu]; simp
    have ev : v = ys[i] := by rw [ev]; simp
    subst eu ev
    rw [agree_step lm] at r
    refine wpAny_bind (he i p1 p2 _ _ ?_)
    cases q : e i with
    | true =>
      rw [q] at r
      wp_walk
      exact ⟨rfl, rfl, i + 1, e2, by simpa using r⟩
    | false =>
      rw [q] at r
      wp_walk
      simpa using r
  case fin =>
    rintro ⟨z1, z2⟩ s2 ⟨z0, rfl, i, ez, r⟩
    have z0 : z1 = none := z0
    subst z0
    have gi : min xs.size ys.size ≤ i := Nat.le_of_not_lt fun q => by rw [List.drop_eq_getElem_cons (lz.symm ▸ q)] at ez; cases ez
    rw [agree_end gi] at r
    wp_walk
    simpa [Builtin.Tuple.tupleCompareSizes] using r
  case h => exact ⟨rfl, rfl, 0, rfl, by simpa using hR⟩
theorem rcP_tuples {A : Around} {s : Shared} {a b : Addr} {xs ys : Array Value} {e : Nat → Bool} (ha : s.heap.IsTuple a xs) (hb : s.heap.IsTuple b ys) (hu : A.units < cLine)
    (he : ∀ j (p : j < xs.size) (q : j < ys.size), EqP prog w A.in1 s xs[j] ys[j] (e j)) (E Q : Value → Shared → Prop) (h : Q (.bool (agree e (min xs.size ys.size) 0 && xs.size == ys.size)) s) : wpAny (model prog w) A (richCompare .Eq (.ref a) (.ref b)) Q E s := by
  obtain ⟨⟨c1, d1, dt1, s1⟩, ho1, hc1, n1, hd1⟩ := ha
  obtain ⟨⟨c2, d2, dt2, s2⟩, ho2, hc2, n2, hd2⟩ := hb
  simp only at hc1 hd1 hc2 hd2
  subst hc1 hd1 hc2 hd2
  have t1 : s.TypeIs (.ref a) "tuple" := ⟨_, ho1, rfl⟩
  have t2 : s.TypeIs (.ref b) "tuple" := ⟨_, ho2, rfl⟩
  refine wpAny_richCompare_same_room (op := .Eq) t1 t2 F.slot_tuple_eq (call_meetsIn F.slot_tuple_eq t1 F.entry_tuple_eq (F.args_tuple_eq_2 _ _) tupEq_in ⟨ho1, ho2, he, ?_⟩) hu
  exact show Value.bool _ ≠ Value.notImplemented ∧ Q _ s from ⟨(fun z => nomatch z), h⟩
end
end PySem.SeqAt
namespace MP
open PySem PySem.Spec
open PyProof.Rows hiding St
open L2
/-! ### two dicts of plain keys and plain values -/
def flatV : V → Bool
  | .non => true
  | .bl _ => true
  | .int _ => true
  | .str _ => true
  | _ => false
/-- == of two dicts with plain values of one kind each, told by their pairs -/
def dictB {κ : Type} [DecidableEq κ] (ks ls : List (κ × V)) : Bool := ks.all fun p => match valV ls p.1 with
  | some u => decide (p.2 = u)
  | none => false
theorem eqP_int {P : Program} {w : World} {A : Around} {s : Shared} {i k : Int} {v u : Value} (rv : RelV (.int i) v) (ru : RelV (.int k) u) : SeqAt.EqP P w A s v u (decide (V.int i = V.int k)) := by
  obtain ⟨t, rfl⟩ := (show ∃ t, v = Value.int i t from rv)
  obtain ⟨t2, rfl⟩ := (show ∃ t, u = Value.int k t from ru)
  have e : decide (V.int i = V.int k) = (i == k) := by
    rw [Bool.eq_iff_iff]; simp
  rw [e]
  exact (SeqAt.EqAt.int_int i t k t2).eqP
def intsV (ks : List (Key × V)) : Prop := ∀ p ∈ ks, ∃ i : Int, p.2 = .int i
theorem hits_b {P : Program} {w : World} {A : Around} {s : Shared} {ls : List (Key × V)} {vb : List (Key × Value)} (rb : KV ls vb) (hl : intsV ls) : ∀ {ks : List (Key × V)} {va : List (Key × Value)}, intsV ks → KV ks va → PySem.W.KeqHitsP P w A s vb va (dictB ks ls)
  | [], _, _, ra => by cases ra; exact .nil
  | p :: ks, _, hk, ra => by
    cases ra with
    | @cons _ q _ qs h t =>
      obtain ⟨key, v⟩ := q
      obtain ⟨h1, h2⟩ := h
      have ih := hits_b (P := P) (w := w) (A := A) (s := s) rb hl (fun p hp => hk p (List.mem_cons_of_mem _ hp)) t
      have h1 : p.1 = key := h1
      obtain ⟨i, ei⟩ := hk p List.mem_cons_self
      have rr := rb.val p.1
      unfold dictB
      rw [List.all_cons]
      cases e : valV ls p.1 with
      | none =>
        rw [e] at rr
        exact .miss (by rw [← h1]; exact RelO.none_of rr)
      | some u =>
        rw [e] at rr
        obtain ⟨y, hy, ry⟩ := rr.some_of
        have hu : ∃ k : Int, u = .int k := by
          obtain ⟨kv, f1, f2⟩ := Option.map_eq_some_iff.mp (show (ls.find? fun kv => decide (kv.1 = p.1)).map (·.2) = some u from e)
          obtain ⟨k, ek⟩ := hl kv (List.mem_of_find?_eq_some f1)
          exact ⟨k, by rw [← f2, ek]⟩
        obtain ⟨k, rfl⟩ := hu
        have h2 : RelV p.2 v := h2
        rw [ei] at h2 ⊢
        exact .hit (by rw [← h1]; exact hy) (eqP_int h2 ry) ih
end MP
namespace MP
open PySem PySem.Spec
open PyProof.Rows hiding St
open L2
def rowB (ks ls : List (Key × V)) : Bool := ks.length == ls.length && dictB ks ls
def rowAt (ka kb : List (List (Key × V))) (j : Nat) : Bool := match ka[j]?, kb[j]? with
  | some k, some l => rowB k l
  | _, _ => false
def rowsB (ka kb : List (List (Key × V))) : Bool := SeqAt.agree (rowAt ka kb) (min ka.length kb.length) 0 && ka.length == kb.length
/-- a tuple of dicts of plain keys and whole numbers -/
def RowsV (H : Hp) (as : List Addr) (ka : List (List (Key × V))) : Prop := Paired (fun (p : Addr) (k : List (Key × V)) => Rd H p (.dK k) ∧ intsV k) as ka
theorem RowsV.at {H : Hp} : ∀ {as : List Addr} {ka : List (List (Key × V))}, RowsV H as ka → ∀ {j : Nat} {p : Addr}, as[j]? = some p → ∃ k, ka[j]? = some k ∧ Rd H p (.dK k) ∧ intsV k
  | _, _, .nil, j, p, e => by simp at e
  | _, _, .cons h r, 0, p, e => by
    simp at e; subst e
    exact ⟨_, rfl, h⟩
  | _, _, .cons h r, j + 1, p, e => by
    simp at e
    obtain ⟨k, e1, e2⟩ := RowsV.at r e
    exact ⟨k, by simpa using e1, e2⟩
theorem vals_refs : ∀ {as : List Addr} {us : List Value}, Vals (as.map V.ref) us → us = as.map Value.ref
  | [], _, r => by cases r; rfl
  | a :: as, _, r => by
    cases r with
    | cons h t =>
      have h := (show _ = Value.ref a from h)
      rw [vals_refs t, h]; rfl
theorem dictB_self {ks : List (Key × V)} (nd : (ks.map (·.1)).Nodup) : dictB ks ks = true := by
  unfold dictB
  refine List.all_eq_true.mpr fun p hp => ?_
  have e : valV ks p.1 = some p.2 := by
    unfold valV
    induction ks with
    | nil => cases hp
    | cons q r ih =>
      rw [List.map_cons, List.nodup_cons] at nd
      rcases List.mem_cons.mp hp with rfl | hp
      · simp
      · have hne : ¬ q.1 = p.1 := fun z => nd.1 (List.mem_map.mpr ⟨p, hp, z.symm⟩)
        rw [List.find?_cons, decide_eq_false hne]
        exact ih nd.2 hp
  rw [e]
  exact decide_eq_true rfl
theorem kv_keys : ∀ {ks : List (Key × V)} {vs : List (Key × Value)}, KV ks vs → ks.map (·.1) = vs.map (·.1)
  | _, _, .nil => rfl
  | _, _, .cons h r => by
    rw [List.map_cons, List.map_cons, kv_keys r, h.1]
theorem eqP_rows {X : Cx} {pins : List (Addr × Obj)} {σ : L2.St} {H : Hp} {s : Shared} {A : Around} {p q : Addr} {k l : List (Key × V)} (I : Inv X pins σ H s) (hu : A.units < cLine) (hp : Rd H p (.dK k)) (hq : Rd H q (.dK l)) (ik : intsV k) (il : intsV l) :
    SeqAt.EqP X.prog X.w A s (.ref p) (.ref q) (rowB k l) := by
  obtain ⟨_, ya, va, ra, da⟩ := dk_rd I.hok hp
  obtain ⟨_, yb, vb, rb, db⟩ := dk_rd I.hok hq
  by_cases e : p = q
  · subst e
    have ekl : k = l := by
      rcases hp with hp | ⟨o, hp⟩ <;> rcases hq with hq | ⟨o2, hq⟩ <;> (rw [hp] at hq; cases hq) <;> rfl
    subst ekl
    have nd : (k.map (·.1)).Nodup := by
      rw [kv_keys ra]
      obtain ⟨_, _, _, _, _, _, _, _, nd⟩ := da
      exact nd
    have : rowB k k = true := by unfold rowB; rw [dictB_self nd]; simp
    rw [this]
    exact (SeqAt.EqAt.same _).eqP
  · have e1 : va.length = k.length := ra.length.symm
    have e2 : vb.length = l.length := rb.length.symm
    have : rowB k l = (va.length == vb.length && dictB k l) := by unfold rowB; rw [e1, e2]
    rw [this]
    exact SeqAt.eqP_refs e fun E Q h => PySem.W.rcP_dicts ya yb da db hu (fun _ => hits_b rb il ik ra) E Q h
def rEqRows : R2 := fun x y H Q => ∃ (a b : Addr) (as bs : List Addr) (ka kb : List (List (Key × V))), x = .ref a ∧ y = .ref b ∧ MP.TupE H a (as.map V.ref) ∧ MP.TupE H b (bs.map V.ref) ∧ RowsV H as ka ∧ RowsV H bs kb ∧ Q (.bl (rowsB ka kb)) H
theorem RowsV.len {H : Hp} {as : List Addr} {ka : List (List (Key × V))} (r : RowsV H as ka) : as.length = ka.length := Paired.length r
theorem op_eqRows {X : Cx} (hu : X.A.units + 64 < cLine) : OpR X (compareOp .Eq) rEqRows := by
  intro pins s σ H x y v u Q I rx ry h
  obtain ⟨a, b, as, bs, ka, kb, rfl, rfl, ha, hb, pa, pb, q⟩ := h
  cases (show v = Value.ref a from rx)
  cases (show u = Value.ref b from ry)
  obtain ⟨its, rv, ⟨o, ho, hc, n, hd⟩, _⟩ := I.tuple ha.sq
  obtain ⟨its2, rv2, ⟨o2, ho2, hc2, n2, hd2⟩, _⟩ := I.tuple hb.sq
  obtain rfl := vals_refs rv
  obtain rfl := vals_refs rv2
  show wpAny _ _ (richCompare .Eq (.ref a) (.ref b)) _ _ _
  have la : ka.length = as.length := pa.len.symm
  have lb : kb.length = bs.length := pb.len.symm
  refine SeqAt.rcP_tuples (e := rowAt ka kb) ⟨o, ho, hc, n, hd⟩ ⟨o2, ho2, hc2, n2, hd2⟩ (by omega) (fun j p1 p2 => ?_) _ _ ?_
  · have p1' : j < as.length := by simpa using p1
    have p2' : j < bs.length := by simpa using p2
    obtain ⟨k, e1, r1, i1⟩ := pa.at (List.getElem?_eq_getElem p1')
    obtain ⟨l, e2, r2, i2⟩ := pb.at (List.getElem?_eq_getElem p2')
    have := eqP_rows (A := X.A.in1) I (by show X.A.units + 1 < cLine; omega) r1 r2 i1 i2
    unfold rowAt
    rw [e1, e2]
    simpa using this
  · refine ⟨.bl (rowsB ka kb), H, I, ?_, q⟩
    unfold rowsB
    rw [la, lb]
    show Value.bool _ = Value.bool _
    simp
end MP
namespace MP
open PySem PySem.Spec
open PyProof.Rows hiding St
open L2
def dictD (k l : List (D × D)) : Bool := k.all fun p => match getD l p.1 with
  | some u => decide (p.2 = u)
  | none => false
def rowD (k l : List (D × D)) : Bool := k.length == l.length && dictD k l
def cellK (h : Hd) : D → Option (List (D × D))
  | .ref n => match h[n]? with
    | some (.dct false _ kvs) => some kvs
    | _ => none
  | _ => none
def rowDAt (h : Hd) (xs ys : List D) (j : Nat) : Bool := match (xs[j]?).bind (cellK h), (ys[j]?).bind (cellK h) with
  | some k, some l => rowD k l
  | _, _ => false
def rowsD (h : Hd) (xs ys : List D) : Bool := SeqAt.agree (rowDAt h xs ys) (min xs.length ys.length) 0 && xs.length == ys.length
def intRows (h : Hd) (xs : List D) : Prop := ∀ d ∈ xs, ∃ kvs, cellK h d = some kvs ∧ ∀ p ∈ kvs, ∃ i : Int, p.2 = .int i
section
variable {K : PySem.W.Frag} {mg : Str → Option Value} {io : List Addr} {H : Hp} {h : Hd}
theorem KVk.ints : ∀ {kvs : List (D × D)} {ks : List (Key × V)}, KVk io H kvs ks → (∀ p ∈ kvs, ∃ i : Int, p.2 = .int i) → intsV ks
  | _, _, .nil, _ => fun p hp => by cases hp
  | _, _, .cons hd r, hi => fun p hp => by
    rcases List.mem_cons.mp hp with rfl | hp
    · obtain ⟨i, e⟩ := hi _ List.mem_cons_self
      have e : _ = D.int i := e
      subst e
      cases hd
      exact ⟨i, rfl⟩
    · exact KVk.ints r (fun q hq => hi q (List.mem_cons_of_mem _ hq)) p hp
theorem dict_same {lvs : List (D × D)} {ls : List (Key × V)} (rl : KVk io H lvs ls) (il : ∀ p ∈ lvs, ∃ i : Int, p.2 = .int i) : ∀ {kvs : List (D × D)} {ks : List (Key × V)}, KVk io H kvs ks → (∀ p ∈ kvs, ∃ i : Int, p.2 = .int i) → dictD kvs lvs = dictB ks ls
  | _, _, .nil, _ => rfl
  | _, _, @KVk.cons _ _ key d v l m hd r, hi => by
    have ih := dict_same rl il r fun q hq => hi q (List.mem_cons_of_mem _ hq)
    unfold dictD dictB at ih ⊢
    rw [List.all_cons, List.all_cons, ih]
    obtain ⟨i, e⟩ := hi _ List.mem_cons_self
    have e : d = D.int i := e
    subst e
    cases hd
    have ro := rl.get (k := key)
    dsimp only
    cases e1 : getD lvs (keyD key) with
    | none =>
      rw [e1] at ro
      cases e2 : valV ls key with
      | none => rfl
      | some u => rw [e2] at ro; exact ro.elim
    | some du =>
      rw [e1] at ro
      cases e2 : valV ls key with
      | none => rw [e2] at ro; exact ro.elim
      | some u =>
        rw [e2] at ro
        have hdu : ∃ k : Int, du = .int k := by
          unfold getD at e1
          obtain ⟨p, f1, f2⟩ := Option.map_eq_some_iff.mp e1
          obtain ⟨k, ek⟩ := il p (List.mem_of_find?_eq_some f1)
          exact ⟨k, by rw [← f2, ek]⟩
        obtain ⟨k, rfl⟩ := hdu
        have ro : RD io H (.int k) u := ro
        cases ro
        have : decide (D.int i = D.int k) = decide (V.int i = V.int k) := by rw [Bool.eq_iff_iff]; simp
        dsimp only
        rw [this]
theorem rows_v (rh : RH K mg io H h) : ∀ {xs : List D} {vs : List V}, RDs io H xs vs → intRows h xs → ∃ (as : List Addr) (ka : List (List (Key × V))), vs = as.map V.ref ∧ RowsV H as ka ∧ ka.length = xs.length ∧
    ∀ (j : Nat) (k : List (Key × V)), ka[j]? = some k → ∃ kvs, (xs[j]?).bind (cellK h) = some kvs ∧ KVk io H kvs k ∧ ∀ p ∈ kvs, ∃ i : Int, p.2 = .int i
  | _, _, .nil, _ => ⟨[], [], rfl, .nil, rfl, fun j k e => by simp at e⟩
  | _, _, @RDs.cons _ _ d v xs vs rd r, hi => by
    obtain ⟨as, ka, e1, e2, e3, e4⟩ := rows_v rh r fun x hx => hi x (List.mem_cons_of_mem _ hx)
    obtain ⟨kvs, ck, ci⟩ := hi _ List.mem_cons_self
    cases rd with
    | @ref n a i =>
      have cell : ∃ lk, h[n]? = some (.dct false lk kvs) := by
        simp only [cellK] at ck
        split at ck
        · rename_i lk kvs' e; cases ck; exact ⟨lk, e⟩
        · cases ck
      obtain ⟨lk, e⟩ := cell
      obtain ⟨ks, f1, rk⟩ := (rh.cell n _ a e i).dK
      have rdk : Rd H a (.dK ks) := by
        cases lk with
        | false => exact .inl (by simpa [DOb] using f1)
        | true => exact .inr (by simpa [DOb] using f1)
      refine ⟨a :: as, ks :: ka, by rw [e1]; rfl, .cons ⟨rdk, rk.ints ci⟩ e2, by simp [e3], fun j k ej => ?_⟩
      cases j with
      | zero =>
        simp at ej
        subst ej
        exact ⟨kvs, by simpa using ck, rk, ci⟩
      | succ j =>
        simp at ej
        obtain ⟨kv2, f2, f3⟩ := e4 j k ej
        exact ⟨kv2, by simpa using f2, f3⟩
    | _ => simp [cellK] at ck
end
def oEqRows : O2 := fun x y h Q => ∃ xs ys, x = .tup xs ∧ y = .tup ys ∧ intRows h xs ∧ intRows h ys ∧ Q (.bl (rowsD h xs ys)) h
theorem ol_eqRows {X : Cx} {j : Nat} (hr : Room j X.A) : OpL X (compareOp .Eq) oEqRows := by
  intro io H h x y u v q Q rh dx dy z kn
  obtain ⟨xs, ys, rfl, rfl, ix, iy, z⟩ := z
  cases dx with
  | @tup a vs _ ha ra =>
    cases dy with
    | @tup b ws _ hb rb =>
      obtain ⟨as, ka, rfl, r1, l1, f1⟩ := rows_v rh ra ix
      obtain ⟨bs, kb, rfl, r2, l2, f2⟩ := rows_v rh rb iy
      have e : rowsD h xs ys = rowsB ka kb := by
        unfold rowsD rowsB
        rw [l1, l2]
        have ea : rowDAt h xs ys = rowAt ka kb := by
          funext j
          unfold rowDAt rowAt
          cases ek : ka[j]? with
          | none =>
            have hx : xs[j]? = none := List.getElem?_eq_none (by rw [← l1]; exact List.getElem?_eq_none_iff.mp ek)
            rw [hx]; rfl
          | some k =>
            obtain ⟨kvs, g1, g2, g3⟩ := f1 j k ek
            rw [g1]
            cases el : kb[j]? with
            | none =>
              have hy : ys[j]? = none := List.getElem?_eq_none (by rw [← l2]; exact List.getElem?_eq_none_iff.mp el)
              rw [hy]; rfl
            | some l =>
              obtain ⟨lvs, g4, g5, g6⟩ := f2 j l el
              rw [g4]
              show rowD kvs lvs = rowB k l
              unfold rowD rowB
              rw [dict_same g5 g6 g2 g3]
              have n1 : kvs.length = k.length := g2.length
              have n2 : lvs.length = l.length := g5.length
              rw [n1, n2]
        rw [ea]
      rw [e] at z
      exact ⟨_, op_eqRows hr.units, a, b, as, bs, ka, kb, rfl, rfl, ha, hb, r1, r2, kn _ _ z _ io H .refl rh (.bl _)⟩
end MP

set_option Elab.async false
set_option linter.all false
set_option maxRecDepth 100000
set_option maxHeartbeats 2000000
/-! MpT: str of a number and of an own thing; texts with fields; a dict cleared. -/
namespace MP
open PySem PySem.Spec
open PyProof.Rows hiding St
open L2
section
variable {X : Cx} {k j n : Nat} {cn m f : Str} {sp : SpD} {e o : Expr} {pos p apos cpos : Pos}
def cStrInt : CD := fun ds h Q => ∃ i : Int, ds = [.int i] ∧ i.natAbs.log2 < 1920 ∧ Q (.str (toString i)) h
theorem cl_strInt : CallL X (.type "str") cStrInt := by
  intro io H h ds vs q Q rh rd z kn
  obtain ⟨i, rfl, hz, z⟩ := z
  obtain ⟨v, rfl, d1⟩ := one_rd rd
  cases d1
  exact ⟨_, call_str_int, i, rfl, hz, kn _ _ z _ io H .refl rh (.str _)⟩
def cOwnStr (cn : Str) (sp : SpD) : CD := fun ds h Q => ∃ i fs, ds = [.ref i] ∧ h[i]? = some (.ins cn fs) ∧ sp [.ref i] h fun r h1 => ∃ x : Str, r = .str x ∧ Q (.str x) h1
theorem cl_ownStr (M : MtD X.prog X.w X.K X.mg X.base k cn "__str__" 1 sp) (hr : Room j X.A) (hk : k + 2 ≤ j) (hgd : X.A.guards = some []) : CallL X (.type "str") (cOwnStr cn sp) := by
  obtain ⟨⟨C, g, fd, ps, hC, cl, me, G, hb, hn⟩, ar⟩ := M
  intro io H h ds vs q Q rh rd z kn
  obtain ⟨i, fs, rfl, e, z⟩ := z
  obtain ⟨v, rfl, d1⟩ := one_rd rd
  obtain ⟨a, da, gs, rfl, ea, _⟩ := ins_at rh d1 e hC
  refine ⟨fun xs H Q => xs = [.ref a] ∧ H a = some (.ins C da gs) ∧ spD X.K X.mg 1 sp xs H (fun w H1 => ∃ x : Str, w = .str x ∧ Q (.str x) H1) E0, ?_, rfl, ea, ?_⟩
  · intro pins s σ H xs us Q I r ⟨ex, ea, q⟩
    subst ex
    obtain ⟨vu, rfl, ru⟩ := vals1 r
    cases (show vu = Value.ref a from ru)
    obtain ⟨ox, od, J⟩ := inst_of I ea
    have r2 : Room (k + 1 + 1) X.A := hr.mono hk
    have r3 : Room k X.A.in1.in1 := (show Room (k + 1) X.A.in1 from r2.in1).in1
    have hl : ([Value.ref a] ++ []).length = ps.length := hn.symm
    refine PySem.W.kso_call r3.units0 I.kIn J me.at_ me.fn (wpAny_call (codeAny_mono (G.run X.A.in1.in1 X.stack s H ⟨[.ref a], []⟩ [.ref a] [.ref a] _ _ r3 hgd I.env0.in1.in1 (hb s [.ref a] I.kIn hl) (.cons rfl .nil) q) fun r s1 hq => ?_))
    cases r with
    | error er => exact hq.elim
    | ok fl =>
      cases fl with
      | ret w =>
        obtain ⟨w', H1, I1, rw', x, rfl, q1⟩ := I.after hq
        obtain ⟨t, rfl⟩ := (show ∃ t, w = Value.str x t from rw')
        exact ⟨.str x, H1, I1, ⟨t, rfl⟩, q1⟩
      | next => exact hq.elim
      | brk => exact hq.elim
      | cont => exact hq.elim
  · refine spd_go ar rh (.cons d1 .nil) z fun d h1 hd w io1 H1 x1 rh1 rd => ?_
    obtain ⟨x, rfl, hq⟩ := hd
    cases rd
    exact ⟨x, rfl, kn _ _ hq _ _ _ x1 rh1 (.str _)⟩
/-! ### f".." -/
def wFmt (w : WE) : WE := fun sl h Q => w sl h fun x h1 => (∃ y : Str, x = .str y ∧ y.length ≤ sizeLine ∧ Q (.str y) h1) ∨ ∃ i : Int, x = .int i ∧ i.natAbs.log2 < 1920 ∧ Q (.str (toString i)) h1
theorem le_fmt {w : WE} (he : LE X e w) : LE X (.FormattedValue e (-1) none pos) (wFmt w) := (pe_fmt he).imp fun σ H Q z => by
  obtain ⟨sl, h, io, q, r, z, kn⟩ := z
  refine tE.go r z fun x h1 z1 u i1 H1 x1 r1 d1 => ?_
  rcases z1 with ⟨y, rfl, hy, z2⟩ | ⟨i, rfl, hi, z2⟩
  · cases d1
    exact .inl ⟨y, rfl, hy, kn _ _ z2 _ _ _ x1 r1.rh (.str _)⟩
  · cases d1
    exact .inr ⟨i, rfl, hi, kn _ _ z2 _ _ _ x1 r1.rh (.str _)⟩
def wJs : List WE → Str → Sd → Hd → (Str → Hd → Prop) → Prop
  | [], acc, _, h, Q => Q acc h
  | w :: ws, acc, sl, h, Q => w sl h fun x h1 => ∃ y : Str, x = .str y ∧ (acc ++ y).length ≤ sizeLine ∧ wJs ws (acc ++ y) sl h1 Q
def wJoin (ws : List WE) : WE := fun sl h Q => wJs ws Str.empty sl h fun out h1 => Q (.str out) h1
inductive LJ (X : Cx) : List Expr → List WE → Prop where
  | nil : LJ X [] []
  | cons {e : Expr} {w : WE} {es : List Expr} {ws : List WE} (h : LE X e w) (r : LJ X es ws) : LJ X (e :: es) (w :: ws)
theorem LJ.pj : ∀ {es : List Expr} {ws : List WE}, LJ X es ws → PJ X es (ws.map (tE X.K X.mg))
  | _, _, .nil => .nil
  | _, _, .cons h r => .cons h (LJ.pj r)
theorem js_imp {K : PySem.W.Frag} {mg : Str → Option Value} : ∀ {ws : List WE} {acc : Str} {σ : L2.St} {sl : Sd} {h : Hd} {io : List Addr} {H : Hp} {q : Str → Hd → Prop} {Q : Str → Hp → Prop}, Rel K mg sl σ io H h → wJs ws acc sl h q →
    (∀ out h', q out h' → ∀ io' H', Ex io io' H H' → RH K mg io' H' h' → Q out H') → tJs (ws.map (tE K mg)) acc σ H Q
  | [], _, _, _, _, _, _, _, _, r, z, k => k _ _ z _ _ .refl r.rh
  | w :: ws, acc, _, _, _, _, _, _, _, r, z, k => tE.go r z fun x h1 z1 u i1 H1 x1 r1 d1 => by
    obtain ⟨y, rfl, hy, z2⟩ := z1
    cases d1
    exact ⟨y, rfl, hy, js_imp r1 z2 fun out h' hq io' H' x2 rh2 => k out h' hq io' H' (x1.trans x2) rh2⟩
theorem le_join {v1 v2 : Expr} {rest : List Expr} {ws : List WE} (h : LJ X (v1 :: v2 :: rest) ws) : LE X (.JoinedStr (v1 :: v2 :: rest) pos) (wJoin ws) := (pe_joined h.pj).imp fun σ H Q z => by
  obtain ⟨sl, h, io, q, r, z, kn⟩ := z
  exact js_imp r z fun out h' hq io' H' x rh => kn _ _ hq _ _ _ x rh (.str _)
/-! ### d.clear() -/
def wClear (wo : WE) : WE := fun sl h Q => wo sl h fun x h1 => ∃ i kvs, x = .ref i ∧ h1[i]? = some (.dct false false kvs) ∧ Q .non (h1.set i (.dct false false []))
theorem le_clear {wo : WE} (ho : LE X o wo) (hbase : attributeBase o "clear" X.env (eval o X.env) = eval o X.env := by rfl) (hline : (apos.endLine == cpos.line) = true := by rfl) : LE X (.Call (.Attribute o "clear" apos) [] [] cpos) (wClear wo) := (pe_dclear ho hbase hline).imp fun σ H Q z => by
  obtain ⟨sl, h, io, q, r, z, kn⟩ := z
  refine tE.go r z fun x h1 z1 u i1 H1 x1 r1 d1 => ?_
  obtain ⟨i, kvs, rfl, e, z2⟩ := z1
  cases d1 with
  | @ref _ a ia =>
    obtain ⟨ks, f1, rk⟩ := (r1.rh.cell i _ a e ia).dK
    have f2 : H1 a = some (.dK ks) := by simpa [DOb] using f1
    obtain ⟨x2, rh2⟩ : Ex i1 i1 H1 (upd H1 a (.dK [])) ∧ RH X.K X.mg i1 (upd H1 a (.dK [])) (h1.set i (.dct false false [])) :=
      r1.rh.write (o := .dK []) (c' := .dct false false []) ia f2 (fun _ z => nomatch z) (fun _ _ z => nomatch z) (fun _ z => nomatch z) fun ex => .ofK ⟨[], by simp [DOb, upd_same], .nil⟩
    exact ⟨.inr (.inr (.inl ⟨rfl, .inl ⟨ks, f2⟩⟩)), a, ks, rfl, rfl, f2, kn _ _ z2 _ _ _ (x1.trans x2) rh2 .non⟩
end
end MP

set_option Elab.async false
set_option linter.all false
set_option maxRecDepth 100000
set_option maxHeartbeats 2000000
/-! MpU: making where the last argument is left to its default, an empty tuple. -/
namespace MP
open PySem PySem.Spec
open PyProof.Rows hiding St
open L2
/-- the making of an instance; its last parameter's default is the empty tuple of the cell .dfl c -/
structure MkE (P : Program) (w : World) (K : PySem.W.Frag) (mg : Str → Option Value) (base : Heap) (k : Nat) (c : Str) (n : Nat) (sp : SpD) : Prop where
  ex : ∃ (C f : Addr) (fd : FuncData) (ps : List Str) (a : Addr), mg c = some (.ref C) ∧ Mk K C f ∧ FnG P w K mg base CX0 k f fd ps (spD K mg n sp) ∧ Binds K fd ps [.ref a] ∧ dflA K mg c = some a ∧ ps.length = n
  ar : ∀ ds h q, sp ds h q → ds.length = n
def wMakeE (cn : Str) (sp : SpD) (wa : WA) : WE := fun sl h Q => wa sl h fun ds h1 => (∃ i : Nat, h1[i]? = some (Cell.dfl cn)) ∧ sp (.ref h1.length :: (ds ++ [.tup []])) (h1 ++ [.ins cn []]) fun v h2 => v = .non ∧ Q (.ref h1.length) h2
section
variable {X : Cx} {k j n : Nat} {cn : Str} {sp : SpD} {p pos : Pos} {e : Expr} {es : List Expr}
theorem run_mkE {C f a : Addr} {fd : FuncData} {ps : List Str} {sp : Sp} {pins : List (Addr × Obj)} {σ : L2.St} {H : Hp} {s : Shared} {Q : VK} {us : List Value} {vs : List V} (M : Mk X.K C f) (F : FnG X.prog X.w X.K X.mg X.base CX0 k f fd ps sp) (hr : Room (k + 1) X.A) (hgd : X.A.guards = some []) (hb : Binds X.K fd ps [.ref a])
    (I : Inv X pins σ H s) (r : Vals vs us) (h : ∀ x dx, H x = none → H dx = none → dx ≠ x → sp (.ref x :: (vs ++ [.ref a])) (upd (upd H dx (.own x)) x (.ins C dx [])) (fun v H2 => v = .non ∧ Q (.ref x) H2) E0) :
    wpAny (model X.prog X.w) X.A (call (.ref C) us) (EP X pins σ Q) X.xe s := by
  let at_ := s.heap.objs.size + 1
  have asked := h at_ s.heap.objs.size (I.hok.fresh (Nat.le_succ _)) (I.hok.fresh (Nat.le_refl _)) (Nat.ne_of_lt (Nat.lt_succ_self _))
  have J := Inv.made (C := C) I
  have full : Vals (V.ref at_ :: (vs ++ [.ref a])) (Value.ref at_ :: (us ++ [.ref a])) := .cons rfl (r.append (.cons rfl .nil))
  have many : (Value.ref at_ :: us ++ [Value.ref a]).length = ps.length := by
    have z := full.length
    rw [F.len _ _ _ _ asked] at z
    exact z.symm
  have free : (X.A.under (.builtin "type.__call__" ⟨.ref C :: us, []⟩)).guards = some [] := by
    simp [Around.under, Code.guards, Code.isGuard, guardIds, hgd]; rfl
  have bound := hb _ (Value.ref at_ :: us) J.kIn many
  refine wpAny_call (make_map (f := f) I.kIn M.makes M.init (beq_iff_eq.mp M.fn) (codeAny_mono (F.run _ X.stack _ _ ⟨Value.ref at_ :: us, []⟩ (Value.ref at_ :: us ++ [Value.ref a]) _ _ E0 (hr.make C us []) free
    (J.env0.make C us []) bound full asked) fun r s' back => ?_))
  cases r with
  | error er => exact back.elim
  | ok fl =>
    cases fl with
    | next => exact back.elim
    | brk => exact back.elim
    | cont => exact back.elim
    | ret u =>
      obtain ⟨v, H2, J2, rv, ev, fin⟩ := J.after back
      subst ev
      exact ⟨rv, V.ref at_, H2, J2, rfl, fin⟩
theorem le_makeE {wa : WA} (M : MkE X.prog X.w X.K X.mg X.base k cn n sp) (hr : Room j X.A) (hk : k + 1 ≤ j) (hgd : X.A.guards = some []) (hg : Gl X cn) (ha : LA X (e :: es) wa) (hdb : (cn == ("__debug__" : Str)) = false := by decide)
    (he : starEach (e :: es) X.env = (false, eval e X.env) :: starEach es X.env := by rfl) (hpl : (backTo pos (starEach es X.env)).any (·.1) = false := by rfl) : LE X (.Call (.Name cn p) (e :: es) [] pos) (wMakeE cn sp wa) := by
  obtain ⟨⟨C, f, fd, ps, a, hC, mk, G, hb, hd, hn⟩, ar⟩ := M
  refine ⟨fun pins s σ H Q I z => ?_⟩
  obtain ⟨sl, h, io, q, r, z, kn⟩ := z
  refine wpAny_Call_Name_kw (ld_glob I hg hC ?_ hdb)
  refine PySem.W.callWith_K (h₀ := X.base) I.ok.mod.kin mk.kp (thn (ha.run pos pins s σ H (fun vs H1 => ∀ x dx, H1 x = none → H1 dx = none → dx ≠ x → spD X.K X.mg n sp (.ref x :: (vs ++ [.ref a])) (upd (upd H1 dx (.own x)) x (.ins C dx [])) (fun v H2 => v = .non ∧ Q (.ref x) H2) E0) I
    (tA.go r z fun ds h1 z1 vs i1 H1 x1 r1 d1 => ?_)) fun us s1 ⟨vs, H1, I1, rv, q1⟩ => ⟨I1.kIn, run_mkE mk G (hr.mono hk) hgd hb I1 rv q1⟩) he hpl
  obtain ⟨⟨i, ei⟩, z1⟩ := z1
  have et : TupE H1 a [] := by
    obtain ⟨b, eb, e1, e2⟩ := r1.rh.at ei
    rw [hd] at e2
    cases e2
    exact .inr ⟨e1, rfl⟩
  intro y dx hy hdx hne
  have y2 : upd H1 dx (.own y) y = none := by rw [upd_ne (Ne.symm hne)]; exact hy
  have xa : Ex i1 i1 H1 (upd H1 dx (.own y)) := ex_upd hdx
  have xb : Ex i1 (i1 ++ [y]) (upd H1 dx (.own y)) (upd (upd H1 dx (.own y)) y (.ins C dx [])) := ex_alloc y2
  have x2 := xa.trans xb
  have rb := (r1.rh.new (o := .own y) hdx).alloc (o := .ins C dx []) (c := .ins cn []) y2 ⟨C, dx, [], hC, upd_same, by rw [upd_ne hne, upd_same], .nil⟩
  have da : RDs (i1 ++ [y]) (upd (upd H1 dx (.own y)) y (.ins C dx [])) (ds ++ [.tup []]) (vs ++ [V.ref a]) := (d1.mono x2).append (.cons (.tup (x2.y.rd et) .nil) .nil)
  have d3 : RDs (i1 ++ [y]) (upd (upd H1 dx (.own y)) y (.ins C dx [])) (.ref h1.length :: (ds ++ [.tup []])) (V.ref y :: (vs ++ [V.ref a])) := .cons (.ref (push_at r1.rh y)) da
  refine ⟨by rw [← d3.length]; exact ar _ _ _ z1, _, _, _, _, rb, d3, z1, fun d h2 z3 v i3 H3 x3 r3 d4 => ?_⟩
  obtain ⟨rfl, z4⟩ := z3
  cases d4
  exact ⟨rfl, kn _ _ z4 _ i3 H3 ((x1.trans x2).trans x3) r3 ((RD.ref (push_at r1.rh y)).mono x3)⟩
end
end MP

set_option Elab.async false
set_option linter.all false
set_option maxRecDepth 100000
set_option maxHeartbeats 2000000
/-! GenF: a for loop within a generator. -/
namespace PySem
open PyProof.Rows
section
variable {prog : Program} {w : World} {A : Around} {R : GenEnd} {Y : Protocol} {n : Nat} {s₀ : Shared} {fs : List Frame} {s : Shared} {env : Env} {c : Code}
  {K : Flow → Sem Fin} {H : Value → Sem Fin} {gd : Bool → Bool} {lv : List Value → List Value}
theorem bind_wrapped {α β γ : Type} (m : Sem α) (f : α → Sem β) (K : β → Sem γ) (H : Value → Sem γ) (gd : Bool → Bool) (lv : List Value → List Value) : (m >>= f).wrap K H gd lv = m.wrap (fun a => (f a).wrap K H gd lv) H gd lv := by
  rw [Sem.bind_eq_wrap', Sem.wrap_wrap]
  exact Sem.wrap_congr _ _ _ (fun _ => rfl) fun _ => rfl
theorem seg_bindW {M : Model} {α β : Type} {m : Sem α} {f : α → Sem β} {K : β → Sem Fin} (h : wpAny M (A.over c fs) m (fun a s' => Seg M A R Y n s₀ c ((f a).wrap K H gd lv) fs s') (fun x s' => Seg M A R Y n s₀ c (H x) fs s') s) :
    Seg M A R Y n s₀ c ((m >>= f).wrap K H gd lv) fs s := by
  rw [bind_wrapped]
  exact seg_wrap h
abbrev noted (env : Env) (x : Value) : Sem Fin := (do noteFrame x env; theTreesLotGoes x : Sem Unit).wrap (fun _ => .raise x) .raise id id
theorem seg_forTurn {tg : Expr} {it : Value} {body : List Stmt}
    (h : wpAny (model prog w) (A.over (.forLoop tg it body [] env) fs) (pyNext it) (fun r s1 => match r with
      | none => Seg (model prog w) A R Y n s₀ (.forLoop tg it body [] env) (.pure (.again (.block [] env))) fs s1
      | some v => wpAny (model prog w) (A.over (.forLoop tg it body [] env) fs) (letOwnedTupleGo tg it v) (fun _ s2 => wpAny (model prog w) (A.over (.forLoop tg it body [] env) fs) (assign tg env v) (fun _ s3 =>
          Seg (model prog w) A R Y n s₀ (.forLoop tg it body [] env) ((execs body env).wrap (fun f => match f with
            | .next | .cont => .pure (.again (.forLoop tg it body [] env))
            | .brk => .pure (.done .next)
            | .ret v => .pure (.done (.ret v))) (noted env) id id) fs s3)
          (fun x s' => Seg (model prog w) A R Y n s₀ (.forLoop tg it body [] env) (noted env x) fs s') s2)
        (fun x s' => Seg (model prog w) A R Y n s₀ (.forLoop tg it body [] env) (noted env x) fs s') s1)
      (fun x s' => Seg (model prog w) A R Y n s₀ (.forLoop tg it body [] env) (noted env x) fs s') s) :
    Seg (model prog w) A R Y n s₀ (.forLoop tg it body [] env) ((model prog w).den (.forLoop tg it body [] env)) fs s := by
  show Seg _ A R Y n s₀ _ ((forTurn tg it body [] env).onRaise (fun x => do noteFrame x env; theTreesLotGoes x)) fs s
  unfold forTurn
  rw [Sem.onRaise_eq_wrap]
  have eh : ∀ x : Value, ((do noteFrame x env; theTreesLotGoes x : Sem Unit).bind fun _ => (.raise x : Sem Fin)) = noted env x := fun x => Sem.bind_eq_wrap _ _
  rw [Sem.wrap_congr _ id id (K' := Sem.pure) (H' := noted env) (fun _ => rfl) eh]
  refine seg_bindW (wpAny_standAt ?_)
  refine seg_bindW (wpAny_onRaise (wpAny_mono h (fun r s1 h1 => ?_) fun x s1 hx => wpAny_standAt hx))
  cases r with
  | none => exact h1
  | some v =>
    refine seg_bindW (wpAny_mono h1 (fun _ s2 h2 => ?_) fun x s2 hx => hx)
    refine seg_bindW (wpAny_mono h2 (fun _ s3 h3 => ?_) fun x s3 hx => hx)
    rw [bind_wrapped]
    rw [Sem.wrap_congr (execs body env) id id (K' := fun f => match f with
            | .next | .cont => .pure (.again (.forLoop tg it body [] env))
            | .brk => .pure (.done .next)
            | .ret v => .pure (.done (.ret v))) (H' := noted env) (fun f => by cases f <;> rfl) fun _ => rfl]
    exact h3
theorem seg_For {M : Model} {tg iter : Expr} {body : List Stmt} {pos : Pos} (hs : ∀ x, foldedSetIterable iter env x = pure x)
    (h : wpAny M (A.over c fs) (eval iter env) (fun x s1 => wpAny M (A.over c fs) (pyIter x) (fun it s2 => ∀ p, Seg M A R Y n s₀ (.forLoop tg it body [] env) (M.den (.forLoop tg it body [] env))
        (.ret (fun r => ((match r with | .ok f => (.pure f : Sem Flow) | .error e => .raise e).onRaise fun (x : Value) => do
          if (← field x 1) == Value.none then unsupported "frame.own-activation:exception-without-traceback"
          setFlight x env.frame).wrap K H gd lv) none (gd false) (lv []) c p [] :: fs) s2) (fun x s2 => Seg M A R Y n s₀ c (H x) fs s2) s1) (fun x s1 => Seg M A R Y n s₀ c (H x) fs s1) s) :
    Seg M A R Y n s₀ c ((exec (.For tg iter body [] pos) env).wrap K H gd lv) fs s := by
  rw [exec_For]
  refine seg_bindW (wpAny_standAt ?_)
  refine seg_bindW (wpAny_mono h (fun x s1 h1 => ?_) fun x s1 hx => hx)
  refine seg_bindW (wpAny_of_eq (hs x) ?_)
  refine seg_bindW (wpAny_standAt ?_)
  refine seg_bindW (wpAny_holding (wpAny_mono h1 (fun it s2 h2 => ?_) fun x s2 hx => hx))
  exact seg_call h2
end
end PySem
namespace L2
open PySem PySem.Spec PyProof.Rows
section
variable {X : Cx}
def tGFor (wi : TI) (g : TG) (tb : TGn) : TGn := fun D ys σ H => wi σ H fun J H1 => ∃ W : Nat → Nat → List V → St → Hp → Prop, (∃ m, W 0 m ys σ H1) ∧ ∀ i m ys σ H, W i m ys σ H →
  (J.stop i H ∧ D.nx ys σ H) ∨ (J.go i H ∧ ∃ N : List V → St → Hp → Prop, (∀ ys' σ' H', N ys' σ' H' → ∃ m', m' < m ∧ W (i + 1) m' ys' σ' H') ∧ ∀ x H', J.yld i H x H' → g x σ H' fun σ2 H2 => tb { D with nx := N, ct := N, bk := D.nx } ys σ2 H2)
theorem gc_pins {S : Addr} {ip : List (Addr × Obj)} {A : Around} {c : Code} {fs : List Frame} {gd : Bool → Bool} {pl : List (Addr × Obj)} (g : GC X S ip A c fs gd) (hp : ∀ p ∈ pl, p.1 ≠ S) : GC X S (ip ++ pl) A c fs gd :=
  ⟨g.pn, fun p h => (List.mem_append.mp h).elim (g.ip p) (hp p), g.apart, g.over, g.split, g.guard, g.gd⟩
theorem GI.unpin {S : Addr} {ip pl : List (Addr × Obj)} {ys : List V} {σ : St} {H : Hp} {s : Shared} (h : GI X S (ip ++ pl) ys σ H s) : GI X S ip ys σ H s := by
  obtain ⟨acc, c, r, I⟩ := h
  refine ⟨acc, c, r, I.pins_of fun p hp => I.pin p (List.mem_append_right _ ?_)⟩
  rcases List.mem_cons.mp hp with q | q
  · rw [q]; exact List.mem_cons_self
  · exact List.mem_cons_of_mem _ (List.mem_append_left _ q)
theorem gs_for {tg iter : Expr} {body : List Stmt} {pos : Pos} {wi : TI} {g : TG} {tb : TGn} (hp : PassesOwn (model X.prog X.w) X.A X.env X.xe) (hc : X.calm = true) (hi : PI X tg iter wi) (hg : PG X tg g) (hb : GSs X body tb)
    (hs : ∀ x, foldedSetIterable iter X.env x = pure x := by intro _; rfl) : GS X (.For tg iter body [] pos) (tGFor wi g tb) := by
  refine ⟨fun A S ip R n ys s₀ c fs K J gd lv s σ H D gc hn k hI ht => ?_⟩
  obtain ⟨acc, cc, rv, I⟩ := hI
  refine seg_For hs ?_
  rw [gc.over]
  refine wpAny_mono (hi.run _ s σ H _ I ht) (fun v s1 h1 => wpAny_mono h1 (fun itv s2 h2 p => ?_) fun x s2 hx => k.exc n s₀ x s2 hx) fun x s1 hx => k.exc n s₀ x s1 hx
  obtain ⟨it, fp, tn, Jt, H2, rfl, I2, T, st2, f2, W, ⟨m0, w0⟩, turn⟩ := h2
  have f3 : ∀ {acc' : Array Value} {c' : Nat} {H' : Hp}, (∀ b ∈ fp, H' b = none) → ∀ b ∈ fp, FpOk X ((S, lstObj acc' c') :: ip) H' b := fun hn b hb => by
    obtain ⟨_, q1, q2, q3, q4, q5⟩ := f2 b hb
    refine ⟨hn b hb, q1, q2, q3, q4, fun y hy => ?_⟩
    rcases List.mem_append.mp hy with z | z
    · exact q5 y (List.mem_append_left _ z)
    · rcases List.mem_cons.mp z with z | z
      · rw [z]; exact q5 (S, lstObj acc cc) (List.mem_append_right _ List.mem_cons_self)
      · exact q5 y (List.mem_append_right _ (List.mem_cons_of_mem _ z))
  have fS : ∀ b ∈ fp, b ≠ S := fun b hb z => (f2 b hb).2.2.2.2.2 (S, lstObj acc cc) (List.mem_append_right _ List.mem_cons_self) z.symm
  have gl := fun (kk : Result → Sem PySem.Fin) => gc_loop (k := kk) (c' := .forLoop tg (.ref it) body [] X.env) (l := lv []) (kp := []) (p := p) gc rfl rfl
  have loop : ∀ (m n : Nat) (ys : List V) (s₀ s : Shared) (σ : St) (H : Hp) (i : Nat), n + ys.length = sizeLine → W i m ys σ H → GI X S ip ys σ H s → tn i s.heap → (∀ b ∈ fp, H b = none) →
      Seg (model X.prog X.w) A R (GY X S) n s₀ (.forLoop tg (.ref it) body [] X.env) ((model X.prog X.w).den (.forLoop tg (.ref it) body [] X.env))
        (.ret (fun r => ((match r with | .ok f => (.pure f : Sem Flow) | .error e => .raise e).onRaise (cameBack X.env)).wrap K J gd lv) none (gd false) (lv []) c p [] :: fs) s := by
    intro m
    induction m using Nat.strongRecOn with
    | ind m ih =>
      intro n ys s₀ s σ H i hn w hI hst hfr
      have out : ∀ (n : Nat) (s₀ : Shared) (x : Value) (s' : Shared), X.xe x s' → Seg (model X.prog X.w) A R (GY X S) n s₀ (.forLoop tg (.ref it) body [] X.env) (noted X.env x)
          (.ret (fun r => ((match r with | .ok f => (.pure f : Sem Flow) | .error e => .raise e).onRaise (cameBack X.env)).wrap K J gd lv) none (gd false) (lv []) c p [] :: fs) s' := fun n s₀ x s1 hx => by
        refine seg_wrap ?_
        rw [(gl _).over]
        exact wpAny_bind (wpAny_mono (hp x s1 hx) (fun _ s2 hb => wpAny_theTreesLotGoes (seg_leaf (.error x) (seg_cameBack gc k hb))) fun y s2 hb => seg_leaf (.error y) (seg_cameBack gc k hb))
      refine seg_forTurn ?_
      rw [(gl _).over]
      obtain ⟨ac, c1, r1, I1⟩ := hI
      rcases turn i m ys σ H w with ⟨stop, qn⟩ | ⟨go, N, hN, step⟩
      · refine wpAny_mono (T.done X rfl rfl rfl hc i _ s σ H X.xe I1 (f3 hfr) hst stop) (fun r s1 hr => ?_) fun x s1 hx => out n s₀ x s1 hx
        obtain ⟨rfl, I2⟩ := hr
        refine seg_again rfl ?_
        exact seg_leaf (.ok .next) (k.ok n ys s₀ s1 .next hn ⟨σ, H, ⟨ac, c1, r1, I2⟩, qn⟩)
      · refine wpAny_mono (T.item X rfl rfl rfl hc i _ s σ H X.xe I1 (f3 hfr) hst go) (fun r s1 hr => ?_) fun x s1 hx => out n s₀ x s1 hx
        obtain ⟨u, rfl, h1⟩ := hr
        refine wpAny_mono h1 (fun _ s2 h2 => ?_) fun x s2 hx => out n s₀ x s2 hx
        obtain ⟨x, H2, I2, rx, y2, st2, fr2⟩ := h2
        have I3 : Inv X ((S, lstObj ac c1) :: (ip ++ pinsAt fp s2.heap)) σ H2 s2 := I2.pinned (f3 fr2) (T.obj _ _ st2)
        refine wpAny_mono (hg.run _ s2 σ H2 x u _ I3 rx (step x H2 y2)) (fun _ s3 h3 => ?_) fun x s3 hx => out n s₀ x s3 hx
        obtain ⟨σ3, H3, I4, q3⟩ := h3
        have gb := gc_pins (pl := pinsAt fp s2.heap) (gl (fun r => ((match r with | .ok f => (.pure f : Sem Flow) | .error e => .raise e).onRaise (cameBack X.env)).wrap K J gd lv)) fun q hq => fS _ (of_pinsAt hq).1
        have back : ∀ {ys' : List V} {σ' : St} {H' : Hp} {s' : Shared}, GI X S (ip ++ pinsAt fp s2.heap) ys' σ' H' s' → tn (i + 1) s'.heap ∧ ∀ b ∈ fp, H' b = none := fun {ys' σ' H' s'} hG => by
          obtain ⟨a', c', _, I'⟩ := hG
          have at_ : ∀ b o, b ∈ fp → s2.heap.get? b = some o → s'.heap.get? b = some o ∧ H' b = none := fun b o hb e => by
            obtain ⟨z1, z2, _⟩ := I'.pin (b, o) (List.mem_append_right _ (List.mem_cons_of_mem _ (List.mem_append_right _ (mem_pinsAt hb e))))
            exact ⟨z1, z2⟩
          refine ⟨T.keep _ _ _ st2 fun b hb o e => (at_ b o hb e).1, fun b hb => ?_⟩
          obtain ⟨o, e, _⟩ := T.obj _ _ st2 b hb
          exact (at_ b o hb e).2
        refine hb.run A S (ip ++ pinsAt fp s2.heap) R n ys s₀ _ _ _ _ id id s3 σ3 H3 { D with nx := N, ct := N, bk := D.nx } gb hn ⟨fun n' ys' s₀' s4 f hn' hs4 => ?_, fun n' s₀' x s4 hx => out n' s₀' x s4 hx⟩ ⟨ac, c1, r1, I4⟩ q3
        cases f with
        | next =>
          obtain ⟨σ4, H4, I5, n4⟩ := hs4
          obtain ⟨m', hm, w4⟩ := hN ys' σ4 H4 n4
          obtain ⟨b1, b2⟩ := back I5
          exact seg_again rfl (ih m' hm n' ys' s₀' s4 σ4 H4 (i + 1) hn' w4 I5.unpin b1 b2)
        | cont =>
          obtain ⟨σ4, H4, I5, n4⟩ := hs4
          obtain ⟨m', hm, w4⟩ := hN ys' σ4 H4 n4
          obtain ⟨b1, b2⟩ := back I5
          exact seg_again rfl (ih m' hm n' ys' s₀' s4 σ4 H4 (i + 1) hn' w4 I5.unpin b1 b2)
        | brk =>
          obtain ⟨σ4, H4, I5, n4⟩ := hs4
          exact seg_leaf (.ok .next) (k.ok n' ys' s₀' s4 .next hn' ⟨σ4, H4, I5.unpin, n4⟩)
        | ret v =>
          obtain ⟨v4, σ4, H4, I5, r4, n4⟩ := hs4
          exact seg_leaf (.ok (.ret v)) (k.ok n' ys' s₀' s4 (.ret v) hn' ⟨v4, σ4, H4, I5.unpin, r4, n4⟩)
  exact loop m0 n ys s₀ s2 σ H2 0 hn w0 ⟨acc, cc, rv, I2⟩ st2 fun b hb => (f2 b hb).1
end
end L2

set_option Elab.async false
set_option linter.all false
set_option maxRecDepth 100000
set_option maxHeartbeats 2000000
/-! GenL: yield from a list. -/
namespace L2
open PySem PySem.Spec PyProof.Rows
section
variable {prog : Program} {w : World} {A : Around} {E : Value → Shared → Prop} {s : Shared}
theorem lst_turn {it l : Addr} {i : Nat} {items : Array Value} {x : Value} {Q : Option Value → Shared → Prop} (at_ : s.heap.IsListIter it l i) (hl : s.heap.IsList l items) (hx : items[i]? = some x)
    (k : ∀ h', h'.IsListIter it l (i + 1) → Heap.SameBut it s.heap h' → Q (some x) { s with heap := h' }) : wpAny (model prog w) A (callSpecial? (.ref it) "__next__") Q E s := by
  obtain ⟨ob, e1, e2, e3⟩ := id at_
  obtain ⟨lo, f1, _, m, f2⟩ := hl
  have ty : s.TypeIs (.ref it) "list_iterator" := ⟨ob, e1, e2⟩
  refine wpAny_callSpecial?_slot (name := Str.ofString "__next__") ty slot_listiter_next (wpAny_call_entry slot_listiter_next ty entry_listiter_next ?_ (args_listiter_next _))
  show wpAny (model prog w) _ (field (.ref it) 0 >>= fun _ => _) _ _ s
  refine wpAny_bind (wpAny_field (x := .ref l) e1 e3 rfl ?_)
  show wpAny (model prog w) _ (if (Value.ref l == Value.none) = true then _ else _) _ _ s
  rw [if_neg (show ¬ (Value.ref l == Value.none) = true from Bool.false_ne_true)]
  show wpAny (model prog w) _ (field (.ref it) 1 >>= fun _ => _) _ _ s
  refine wpAny_bind (wpAny_field (x := .int i 0) e1 e3 rfl ?_)
  show wpAny (model prog w) _ (seqItems? (.ref l) >>= fun _ => _) _ _ s
  refine wpAny_bind (wpAny_seqItems f1 f2 ?_)
  simp only [Int.toNat_natCast, hx]
  refine wpAny_bind (wpAny_setField e1 e3 (by simp) (wpAny_pure ⟨x, rfl, k _ ?_ (Heap.SameBut.update ..)⟩))
  refine ⟨_, Heap.get?_update_self _ e1 (Obj.isFreed_of_fields (Obj.data_mapFields e3 _)), (Obj.cls_mapFields ..).trans e2, ?_⟩
  rw [Obj.data_mapFields e3]
  simp [rawInt]
theorem lst_over {it l : Addr} {i : Nat} {items : Array Value} {Q : Option Value → Shared → Prop} (free : A.handled = none) (at_ : s.heap.IsListIter it l i) (hl : s.heap.IsList l items) (hx : items[i]? = none)
    (k : ∀ e h', StopX e h' → Heap.ExtBut it s.heap h' → E e { s with heap := h' }) : wpAny (model prog w) A (callSpecial? (.ref it) "__next__") Q E s := by
  obtain ⟨ob, e1, e2, e3⟩ := id at_
  obtain ⟨lo, f1, _, m, f2⟩ := hl
  have ty : s.TypeIs (.ref it) "list_iterator" := ⟨ob, e1, e2⟩
  refine wpAny_callSpecial?_slot (name := Str.ofString "__next__") ty slot_listiter_next (wpAny_call_entry slot_listiter_next ty entry_listiter_next ?_ (args_listiter_next _))
  show wpAny (model prog w) _ (field (.ref it) 0 >>= fun _ => _) _ _ s
  refine wpAny_bind (wpAny_field (x := .ref l) e1 e3 rfl ?_)
  show wpAny (model prog w) _ (if (Value.ref l == Value.none) = true then _ else _) _ _ s
  rw [if_neg (show ¬ (Value.ref l == Value.none) = true from Bool.false_ne_true)]
  show wpAny (model prog w) _ (field (.ref it) 1 >>= fun _ => _) _ _ s
  refine wpAny_bind (wpAny_field (x := .int i 0) e1 e3 rfl ?_)
  show wpAny (model prog w) _ (seqItems? (.ref l) >>= fun _ => _) _ _ s
  refine wpAny_bind (wpAny_seqItems f1 f2 ?_)
  simp only [Int.toNat_natCast, hx]
  refine wpAny_bind (wpAny_rule (wpAny_bind (wpAny_setField e1 e3 (by simp) ?_)))
  show wpAny (model prog w) _ (newExc (.type "StopIteration") [] >>= fun _ => _) _ _ _
  refine wpAny_bind ?_
  simp only [newExc, newTuple]
  refine wpAny_bind (wpAny_newObj_type ?_ (by size_fits))
  refine wpAny_bind (m := firstArgMember _ _) (wpAny_of_eq (a := Value.none) (by first | rfl | (simp only [firstArgMember]; rfl)) ?_)
  refine wpAny_newObj_type ?_ (by size_fits)
  simp only [raiseNew]
  refine wpAny_bind (wpAny_handled ?_)
  first | rw [show A.in1.handled = none from free] | rw [free]
  refine wpAny_bind (wpAny_pure (wpAny_throw ?_))
  refine k _ _ ⟨_, _, _, rfl, Heap.get?_push_size _ rfl, rfl, rfl, ?_⟩ (((Heap.SameBut.update ..).extBut.push _).push _)
  first
    | rfl
    | (rw [Array.getElem?_append_left (by decide)]; rfl)
    | kernel_rfl
end
def tYfLst (te : TE) : TYf := fun σ H Q => te σ H fun x H1 => ∃ a xs, x = .ref a ∧ H1 a = some (.lst xs) ∧ Q xs H1
theorem close_lst : typeLookup (.type "list_iterator") "close" = pure none := by rw [typeLookup_type, builtinLookup_eq_fast]; kernel_rfl
theorem yf_lst {X : Cx} {e : Expr} {te : TE} (he : PE X e te) : YfE X e (tYfLst te) := by
  refine ⟨fun pins s σ H Q I h => thn (he.run pins s σ H _ I h) fun v s1 ⟨x, H1, I1, r1, a, xs, ex, ha, hq⟩ => ?_⟩
  subst ex
  obtain rfl : v = Value.ref a := r1
  obtain ⟨hlen, its, n, rits, hob⟩ := (show ObjOk X.prog X.w H1 s1.heap a (.lst xs) from I1.hok a _ ha)
  have hl : s1.heap.IsList a its.toArray := ⟨_, hob, rfl, n, rfl⟩
  refine ⟨"list", hl.typeIs, by decide, wpAny_pyIter_list hl ?_⟩
  have far : ∀ b o, s1.heap.get? b = some o → b ≠ s1.heap.objs.size := fun b o e => Nat.ne_of_lt (Heap.lt_size e)
  have kept : ∀ b o, s1.heap.get? b = some o → (s1.heap.push { cls := .type "list_iterator", data := .fields #[.ref a, .int 0 0] }).get? b = some o := fun b o e => Heap.get?_push_of_some _ e
  refine ⟨s1.heap.objs.size, H1, xs, fun j h => h.IsListIter s1.heap.objs.size a j ∧ h.IsList a its.toArray, rfl, I1.kept (t' := s1.toks) kept, .inr I1.sz, Nat.ne_of_gt I1.lt, fun y c hy => ?_, I1.hok.fresh (Nat.le_refl _), fun p hp => ?_,
    ⟨⟨_, Heap.get?_push_size _ rfl, rfl, rfl⟩, ⟨_, kept _ _ hob, rfl, n, rfl⟩⟩, ⟨⟨"list_iterator", fun j h q => ?_, close_lst, by decide⟩, fun j h h' q hk => ?_, fun A' j x s2 Q' E' hA hx q hQ => ?_, fun A' s2 Q' E' hA q hE => ?_⟩, hq⟩
  · obtain ⟨v, o, ho, _⟩ := I1.cell y c hy
    exact far c o ho
  · exact far p.1 _ (I1.pin p hp).1
  · obtain ⟨⟨o, ho, hc, _⟩, _⟩ := q
    exact ⟨o, ho, hc⟩
  · obtain ⟨⟨o, ho, r⟩, o2, ho2, r2⟩ := q
    exact ⟨⟨o, hk _ o (.inl rfl) ho, r⟩, o2, hk _ o2 (.inr (by rw [ha]; exact fun z => by cases z)) ho2, r2⟩
  · obtain ⟨q1, q2⟩ := q
    obtain ⟨u, hu, ru⟩ := rits.get hx
    have hne : a ≠ s1.heap.objs.size := far a _ hob
    exact lst_turn q1 q2 (x := u) (by simpa using hu) fun h' q1' hs => hQ u h' s2.toks ru ⟨q1', q2.extBut hs.extBut hne⟩ fun b o hb eb => hs.extBut b o hb eb
  · obtain ⟨q1, q2⟩ := q
    have hnone : its.toArray[xs.length]? = none := by
      have e := rits.length
      have e2 : its[xs.length]? = none := List.getElem?_eq_none_iff.mpr (by omega)
      simpa using e2
    exact lst_over hA q1 q2 hnone fun e h' hS hk => hE e h' s2.toks hS fun b o hb eb => hk b o hb eb
end L2

set_option Elab.async false
set_option linter.all false
set_option maxRecDepth 100000
set_option maxHeartbeats 2000000
/-! GenD: generators at D-level; defs that may be called wherever there is room. -/
namespace MP
open PySem PySem.Spec
open PyProof.Rows hiding St
open L2

/-! ### defs that no guard bars -/
structure FnE (P : Program) (w : World) (K : PySem.W.Frag) (mg : Str → Option Value) (base : Heap) (k : Nat) (x : Str) (n : Nat) (sp : SpD) : Prop where
  ex : ∃ (f : Addr) (fd : FuncData) (ps : List Str), FnOk P w K mg base CX0 k f fd ps (spD K mg n sp) ∧ mg x = some (.ref f) ∧ PySem.W.keepIn K (.ref f) = true ∧ Binds K fd ps [] ∧ ps.length = n
  ar : ∀ ds h q, sp ds h q → ds.length = n
section
variable {P : Program} {w : World} {K : PySem.W.Frag} {mg : Str → Option Value} {base : Heap} {x qual cn : Str} {params : Arguments} {body : List Stmt} {scope : Scope} {dvs : List V} {kws : List (Str × V)} {f C : Addr} {fd : FuncData} {N ps : List Str} {k n : Nat} {sp : SpD}
theorem FnE.toD (F : FnE P w K mg base k x n sp) : FnD P w K mg base k x n sp := by
  obtain ⟨⟨f, fd, ps, G, a, b, c, d⟩, ar⟩ := F
  exact ⟨⟨f, fd, ps, .of G, a, b, c, d⟩, ar⟩
theorem fnE_of (F : FunD K x x params body scope [] [] f fd) (hx : mg x = some (.ref f)) (S : FnScope N ps scope) (hb : Binds K fd ps []) (ar : ∀ ds h q, sp ds h q → ds.length = ps.length)
    (hw : ∀ (cd : Value) (A : Around) (outer : List Env) (s : Shared) (H : Hp) (E : XK), Room k (cxD P w K mg base N x scope f cd A outer s H E).A →
      ∃ wb : WS, LSs (cxD P w K mg base N x scope f cd A outer s H E) body wb ∧ ∀ ds h q, sp ds h q → wb (endR q) (startD N ds) h) : FnE P w K mg base (k + 1) x ps.length sp := by
  refine ⟨⟨f, fd, ps, ?_, hx, F.kp, hb, rfl⟩, ar⟩
  obtain ⟨oc, od, dV, kV, doc, pm, an, cdv, ct, osl, rfl, lk, hcd, _, _⟩ := F.ex
  refine fn_of lk hcd S (fun vs H Q E h => h.1) fun A outer s H vs Q E hr hsp => ?_
  obtain ⟨wb, hl, hp⟩ := hw cdv A outer s H E hr
  refine ⟨_, hl.nox, ?_⟩
  obtain ⟨_, ds, h, io, q, rh, rd, z, kn⟩ := hsp
  exact ⟨startD N ds, h, io, endR q, rds_startD rh rd, hp ds h q z, endR_ok kn⟩
end
section
variable {X : Cx} {k j n : Nat} {x c m : Str} {p pos apos : Pos} {e o : Expr} {es : List Expr} {sp : SpD} {wa : WA} {wo : WE}
theorem le_callE (F : FnE X.prog X.w X.K X.mg X.base k x n sp) (hr : Room j X.A) (hk : k ≤ j) (hg : Gl X x) (ha : LA X (e :: es) wa) (hdb : (x == ("__debug__" : Str)) = false := by decide)
    (he : starEach (e :: es) X.env = (false, eval e X.env) :: starEach es X.env := by rfl) (hpl : (backTo pos (starEach es X.env)).any (·.1) = false := by rfl) : LE X (.Call (.Name x p) (e :: es) [] pos) (wCall sp wa) := by
  obtain ⟨⟨f, fd, ps, G, hm, hkp, hb, hn⟩, ar⟩ := F
  refine ⟨fun pins s σ H Q I z => ?_⟩
  obtain ⟨sl, h, io, q, r, z, kn⟩ := z
  refine wpAny_Call_Name_kw (ld_glob I hg hm ?_ hdb)
  refine PySem.W.callWith_K (h₀ := X.base) I.ok.mod.kin hkp (thn (ha.run pos pins s σ H (fun vs H1 => spD X.K X.mg n sp (vs ++ []) H1 Q E0) I (tA.go r z fun ds h1 z1 vs i1 H1 x1 r1 d1 => ?_)) fun us s1 ⟨vs, H1, I1, rv, q1⟩ => ⟨I1.kIn, ?_⟩) he hpl
  · rw [List.append_nil]
    exact ⟨by rw [← d1.length]; exact ar _ _ _ z1, ds, h1, i1, q, r1.rh, d1, z1, kn.on x1⟩
  · exact run_fn G (hr.mono hk) hb .nil pass0 I1 rv q1
end

/-! ### statements of a generator -/
structure GEndsD where
  nx : List D → Sd → Hd → Prop
  bk : List D → Sd → Hd → Prop := fun _ _ _ => False
  ct : List D → Sd → Hd → Prop := fun _ _ _ => False
abbrev WGn := GEndsD → List D → Sd → Hd → Prop
def KnG (K : PySem.W.Frag) (mg : Str → Option Value) (io : List Addr) (H : Hp) (q : List D → Sd → Hd → Prop) (Q : List V → L2.St → Hp → Prop) : Prop :=
  ∀ yd sl' h', q yd sl' h' → ∀ ys σ' io' H', Ex io io' H H' → Rel K mg sl' σ' io' H' h' → RDs io' H' yd ys → Q ys σ' H'
theorem KnG.on {K : PySem.W.Frag} {mg : Str → Option Value} {io io' : List Addr} {H H' : Hp} {q : List D → Sd → Hd → Prop} {Q : List V → L2.St → Hp → Prop} (k : KnG K mg io H q Q) (x : Ex io io' H H') : KnG K mg io' H' q Q :=
  fun yd sl h z ys σ i2 H2 y => k yd sl h z ys σ i2 H2 (x.trans y)
structure KnGE (K : PySem.W.Frag) (mg : Str → Option Value) (io : List Addr) (H : Hp) (q : GEndsD) (Q : GEnds) : Prop where
  nx : KnG K mg io H q.nx Q.nx
  bk : KnG K mg io H q.bk Q.bk
  ct : KnG K mg io H q.ct Q.ct
theorem KnGE.on {K : PySem.W.Frag} {mg : Str → Option Value} {io io' : List Addr} {H H' : Hp} {q : GEndsD} {Q : GEnds} (k : KnGE K mg io H q Q) (x : Ex io io' H H') : KnGE K mg io' H' q Q := ⟨k.nx.on x, k.bk.on x, k.ct.on x⟩
def tGn (K : PySem.W.Frag) (mg : Str → Option Value) (w : WGn) : TGn := fun D ys σ H => ∃ yd sl h io q, Rel K mg sl σ io H h ∧ RDs io H yd ys ∧ w q yd sl h ∧ KnGE K mg io H q D
abbrev GLS (X : Cx) (st : Stmt) (w : WGn) : Prop := GS X st (tGn X.K X.mg w)
abbrev GLSs (X : Cx) (st : List Stmt) (w : WGn) : Prop := GSs X st (tGn X.K X.mg w)
section
variable {X : Cx} {st : Stmt} {rest : List Stmt}
theorem _root_.L2.GS.imp {t t' : TGn} (h : GS X st t) (i : ∀ D ys σ H, t' D ys σ H → t D ys σ H) : GS X st t' :=
  ⟨fun A S ip R n ys s₀ c fs K J gd lv s σ H D g hn k hI z => h.run A S ip R n ys s₀ c fs K J gd lv s σ H D g hn k hI (i _ _ _ _ z)⟩
theorem _root_.L2.GSs.imp {t t' : TGn} (h : GSs X rest t) (i : ∀ D ys σ H, t' D ys σ H → t D ys σ H) : GSs X rest t' :=
  ⟨fun A S ip R n ys s₀ c fs K J gd lv s σ H D g hn k hI z => h.run A S ip R n ys s₀ c fs K J gd lv s σ H D g hn k hI (i _ _ _ _ z)⟩
def wGPlain (w : WS) : WGn := fun q yd sl h => w { nx := q.nx yd, rt := fun _ _ => False, bk := q.bk yd, ct := q.ct yd } sl h
theorem gl_plain {w : WS} (h : LS X st w) : GLS X st (wGPlain w) := (gs_ps h).imp fun D ys σ H z => by
  obtain ⟨yd, sl, h, io, q, r, rd, z, k⟩ := z
  exact ⟨sl, h, io, _, r, z, ⟨fun sl' h' n' σ' io' H' x r' => k.nx _ _ _ n' _ _ _ _ x r' (rd.mono x), fun _ _ z => z.elim, fun sl' h' n' σ' io' H' x r' => k.bk _ _ _ n' _ _ _ _ x r' (rd.mono x), fun sl' h' n' σ' io' H' x r' => k.ct _ _ _ n' _ _ _ _ x r' (rd.mono x)⟩⟩
def wGNext : WGn := fun q yd sl h => q.nx yd sl h
theorem gls_nil : GLSs X [] wGNext := gss_nil.imp fun D ys σ H z => by
  obtain ⟨yd, sl, h, io, q, r, rd, z, k⟩ := z
  exact k.nx _ _ _ z _ _ _ _ .refl r rd
def wGSeq (w v : WGn) : WGn := fun q yd sl h => w { q with nx := fun yd' sl' h' => v q yd' sl' h' } yd sl h
theorem gls_cons {w v : WGn} (a : GLS X st w) (b : GLSs X rest v) : GLSs X (st :: rest) (wGSeq w v) := (gss_cons a b).imp fun D ys σ H z => by
  obtain ⟨yd, sl, h, io, q, r, rd, z, k⟩ := z
  exact ⟨yd, sl, h, io, _, r, rd, z, ⟨fun yd' sl' h' n' ys' σ' io' H' x r' rd' => ⟨yd', sl', h', io', q, r', rd', n', k.on x⟩, k.bk, k.ct⟩⟩
theorem gls_one {w : WGn} (a : GLS X st w) : GLSs X [st] w := (gls_cons a gls_nil).imp fun D ys σ H z => z
def wGFrom (w : WE) : WGn := fun q yd sl h => w sl h fun x h1 => ∃ n xs, x = .ref n ∧ h1[n]? = some (.lst xs) ∧ yd.length + xs.length ≤ sizeLine ∧ q.nx (yd ++ xs) sl h1
theorem gl_from {e : Expr} {yp pos : Pos} {w : WE} (he : LE X e w) (hc : X.A.handled = none) (hi : interactive X.env = false := by rfl) : GLS X (.Expr (.YieldFrom e yp) pos) (wGFrom w) := (gs_yieldFrom (yf_lst he) hc hi).imp fun D ys σ H z => by
  obtain ⟨yd, sl, h, io, q, r, rd, z, k⟩ := z
  refine tE.go r z fun x h1 z1 u i1 H1 x1 r1 d1 => ?_
  obtain ⟨n, xs, rfl, e1, hl, z1⟩ := z1
  obtain ⟨a, rfl, i⟩ := ref_rd d1
  obtain ⟨vs, f1, f2⟩ := r1.rh.cell n _ a e1 i
  refine ⟨a, vs, rfl, f1, by rw [← f2.length, ← rd.length]; exact hl, ?_⟩
  exact k.nx _ _ _ z1 _ _ _ _ x1 r1 ((rd.mono x1).append f2)
def wGFor (wi : WI) (g : WG) (wb : WGn) : WGn := fun E yd sl h => wi sl h fun t h1 => ∃ W : Nat → Nat → List D → Sd → Hd → Prop, (∃ m, W 0 m yd sl h1) ∧ ∀ i m yd sl h, W i m yd sl h →
  (t i h = some none ∧ E.nx yd sl h) ∨ ∃ d, t i h = some (some d) ∧ ∃ N : List D → Sd → Hd → Prop, (∀ yd' sl' h', N yd' sl' h' → ∃ m', m' < m ∧ W (i + 1) m' yd' sl' h') ∧ g d sl h fun sl2 h2 => wb { E with nx := N, ct := N, bk := E.nx } yd sl2 h2
theorem gl_for {body : List Stmt} {tg ie : Expr} {pos : Pos} {wi : WI} {g : WG} {wb : WGn} (hp : PassesOwn (model X.prog X.w) X.A X.env X.xe) (hc : X.calm = true) (hi : LI X tg ie wi) (hg : LG X tg g) (hb : GLSs X body wb)
    (hs : ∀ x, foldedSetIterable ie X.env x = pure x := by intro _; rfl) : GLS X (.For tg ie body [] pos) (wGFor wi g wb) := (gs_for hp hc hi hg hb hs).imp fun D ys σ H z => by
  obtain ⟨yd, sl, h, io, q, r, rd, z, k⟩ := z
  refine ⟨sl, h, io, _, r, z, fun t h1 z1 J i1 H1 x1 rh1 rit => ?_⟩
  obtain ⟨W, ⟨m0, w0⟩, turn⟩ := z1
  refine ⟨fun i m ys' σ' H' => ∃ yd' sl' h' io', Ex i1 io' H1 H' ∧ Rel X.K X.mg sl' σ' io' H' h' ∧ RDs io' H' yd' ys' ∧ W i m yd' sl' h', ⟨m0, yd, sl, h1, i1, .refl, r.on x1 rh1, rd.mono x1, w0⟩, ?_⟩
  rintro i m ys2 σ2 H2 ⟨yd2, sl2, h2, i2, x2, r2, rd2, w2⟩
  obtain ⟨st, gg⟩ := rit i i2 H2 h2 x2.z r2.rh
  rcases turn i m yd2 sl2 h2 w2 with ⟨e, z2⟩ | ⟨d, e, N, hN, z2⟩
  · exact .inl ⟨st e, k.nx _ _ _ z2 _ _ _ _ (x1.trans x2) r2 rd2⟩
  · obtain ⟨go, yl⟩ := gg d e
    refine .inr ⟨go, fun ys' σ' H' => ∃ yd' sl' h' io', Ex i1 io' H1 H' ∧ Rel X.K X.mg sl' σ' io' H' h' ∧ RDs io' H' yd' ys' ∧ N yd' sl' h', fun ys' σ' H' ⟨yd', sl', h', io', x', r', rd', n'⟩ => ?_, fun x H3 y => ?_⟩
    · obtain ⟨m', hm, w'⟩ := hN yd' sl' h' n'
      exact ⟨m', hm, yd', sl', h', io', x', r', rd', w'⟩
    · obtain ⟨x3, rh3, d3⟩ := yl x H3 y
      refine ⟨d, sl2, h2, i2, _, r2.on x3 rh3, d3, z2, fun sl4 h4 z4 σ4 i4 H4 x4 r4 => ?_⟩
      have x14 := (x2.trans x3).trans x4
      have k4 := k.on (x1.trans x14)
      exact ⟨yd2, sl4, h4, i4, _, r4, rd2.mono (x3.trans x4), z4, ⟨fun yd' sl' h' n' ys' σ' io' H' x' r' rd' => ⟨yd', sl', h', io', x14.trans x', r', rd', n'⟩, k4.nx, fun yd' sl' h' n' ys' σ' io' H' x' r' rd' => ⟨yd', sl', h', io', x14.trans x', r', rd', n'⟩⟩⟩
end

/-! ### generator defs -/
abbrev SpGD := List D → Hd → (List D → Hd → Prop) → Prop
def KnL (K : PySem.W.Frag) (mg : Str → Option Value) (io : List Addr) (H : Hp) (q : List D → Hd → Prop) (Q : List V → Hp → Prop) : Prop :=
  ∀ ds h', q ds h' → ∀ vs io' H', Ex io io' H H' → RH K mg io' H' h' → RDs io' H' ds vs → Q vs H'
def spGD (K : PySem.W.Frag) (mg : Str → Option Value) (n : Nat) (w : SpGD) : SpG := fun vs H Q _ => vs.length = n ∧ ∃ ds h io q, RH K mg io H h ∧ RDs io H ds vs ∧ w ds h q ∧ KnL K mg io H q Q
structure GMtD (P : Program) (w : World) (K : PySem.W.Frag) (mg : Str → Option Value) (base : Heap) (k : Nat) (c m : Str) (n : Nat) (sp : SpGD) : Prop where
  ex : ∃ (C f : Addr) (fd : FuncData) (ps : List Str), mg c = some (.ref C) ∧ Cls K C ∧ Meth K C m f ∧ GFn P w K mg base k f fd ps (spGD K mg n sp) ∧ Binds K fd ps [] ∧ ps.length = n
  ar : ∀ ds h q, sp ds h q → ds.length = n
abbrev gcxD (P : Program) (w : World) (K : PySem.W.Frag) (mg : Str → Option Value) (base : Heap) (N : List Str) (qual : Str) (scope : Scope) (f : Addr) (cd : Value) (A : Around) (outer : List Env) (s : Shared) (H : Hp) (E : XK) (pn : List (Addr × Obj)) : Cx := gcxOf P w K mg base N qual scope f cd A outer s H E pn
abbrev endG (q : List D → Hd → Prop) : GEndsD := { nx := fun yd _ h' => q yd h' }
section
variable {P : Program} {w : World} {K : PySem.W.Frag} {mg : Str → Option Value} {base : Heap} {x qual cn : Str} {params : Arguments} {body : List Stmt} {scope : Scope} {dvs : List V} {kws : List (Str × V)} {f C : Addr} {fd : FuncData} {N ps : List Str} {k n : Nat} {sp : SpGD}
theorem gmtD_of (F : FunD K x qual params body scope dvs kws f fd) (hC : mg cn = some (.ref C)) (cl : Cls K C) (me : Meth K C x f) (S : GScope N ps scope) (hb : Binds K fd ps []) (ar : ∀ ds h q, sp ds h q → ds.length = ps.length)
    (hw : ∀ (cd : Value) (A : Around) (outer : List Env) (s : Shared) (H : Hp) (E : XK) (pn : List (Addr × Obj)), Room k (gcxD P w K mg base N qual scope f cd A outer s H E pn).A →
      ∃ wb : WGn, GLSs (gcxD P w K mg base N qual scope f cd A outer s H E pn) body wb ∧ ∀ ds h q, sp ds h q → wb (endG q) [] (startD N ds) h) : GMtD P w K mg base (k + 1) cn x ps.length sp := by
  refine ⟨⟨C, f, fd, ps, hC, cl, me, ?_, hb, rfl⟩, ar⟩
  obtain ⟨oc, od, dV, kV, doc, pm, an, cdv, ct, osl, rfl, lk, hcd, _, _⟩ := F.ex
  refine gfn_of lk hcd S (fun vs H Q E h => h.1) fun A outer s H vs Q E pn hr hsp => ?_
  obtain ⟨wb, hl, hp⟩ := hw cdv A outer s H E pn hr
  refine ⟨_, hl, ?_⟩
  obtain ⟨_, ds, h, io, q, rh, rd, z, kn⟩ := hsp
  exact ⟨[], startD N ds, h, io, endG q, rds_startD rh rd, .nil, hp ds h q z, ⟨fun yd sl' h' z' ys σ' io' H' x r rd' => kn _ _ z' _ _ _ x r.rh rd', fun _ _ _ z => z.elim, fun _ _ _ z => z.elim⟩⟩
end
section
variable {X : Cx} {k j n : Nat} {c m : Str} {p pos pos' apos : Pos} {e o : Expr} {es : List Expr} {sp : SpGD} {wa : WA} {wo : WE}
def wListG (c m : Str) (sp : SpGD) (wo : WE) (wa : WA) : WE := fun sl h Q => wo sl h fun x h1 => ∃ n fs, x = .ref n ∧ h1[n]? = some (.ins c fs) ∧ fs.lookup m = none ∧ wa sl h1 fun ds h2 => sp (x :: ds) h2 fun out h3 => Q (.ref h3.length) (h3 ++ [.lst out])
theorem pass_never : Passes (CX X.prog X.w) X E0 := fun pins σ H s e s' I hc => by
  obtain ⟨a, B, H', cls, d, _, _, _, _, _, _, _, z⟩ := hc
  exact z.elim
theorem le_listG (F : GMtD X.prog X.w X.K X.mg X.base k c m n sp) (hr : Room j X.A) (hk : k + 3 ≤ j) (ho : LE X o wo) (ha : LA X (e :: es) wa) (hg : Gl X "list") (hmg : X.mg "list" = none)
    (hst : starEach (e :: es) X.env = (false, eval e X.env) :: starEach es X.env := by rfl) (hpl : (backTo pos' (starEach es X.env)).any (·.1) = false := by rfl)
    {pl : Sem Bool} (hev : eval (.Call (.Attribute o m apos) (e :: es) [] pos') X.env = (do
      let ov ← eval o X.env
      standAt apos.atName
      let (f, first) ← holding [ov] (getMethod ov m pl)
      callWith pos' f first (backTo pos' (starEach (e :: es) X.env)) (backToKw pos' (keywordEach [] X.env))) := by rfl)
    (he : starEach [.Call (.Attribute o m apos) (e :: es) [] pos'] X.env = (false, eval (.Call (.Attribute o m apos) (e :: es) [] pos') X.env) :: starEach [] X.env := by rfl) :
    LE X (.Call (.Name "list" p) [.Call (.Attribute o m apos) (e :: es) [] pos'] [] pos) (wListG c m sp wo wa) := by
  obtain ⟨⟨C, f, fd, ps, hC, cl, me, G, hb, hn⟩, ar⟩ := F
  refine (pe_listG (E := E0) (pgen_meth (E := E0) (dvs := []) ho cl me G (hr.mono (by omega)) hb .nil ha hst hpl hev) pass_never (fun cls d H z => z.elim) (hr.mono hk) hg hmg boot_list (he := he)).imp fun σ H Q z => ?_
  obtain ⟨sl, h, io, q, r, z, kn⟩ := z
  refine tE.go r z fun x h1 z1 u i1 H1 x1 r1 d1 => ?_
  obtain ⟨nn, fs, rfl, e1, hlk, z1⟩ := z1
  obtain ⟨a, rfl, i⟩ := ref_rd d1
  obtain ⟨C', dx, gs, f1, f2, f3, f4⟩ := r1.rh.cell nn _ a e1 i
  rw [hC] at f1; cases f1
  have ro := f4.lookup (f := m)
  rw [hlk] at ro
  refine ⟨a, dx, gs, rfl, f2, by
    cases q2 : gs.lookup m with
    | none => rfl
    | some v => rw [q2] at ro; exact ro.elim, ?_⟩
  refine tA.go r1 z1 fun ds h2 z2 vs i2 H2 x2 r2 d2 => ?_
  refine ⟨?_, .ref nn :: ds, h2, i2, _, r2.rh, .cons (d1.mono x2) (by rw [List.append_nil]; exact d2), z2, fun out h3 z3 os i3 H3 x3 rh3 rd3 p hp => ?_⟩
  · have := ar _ _ _ z2
    simp only [List.append_nil, List.length_cons] at this ⊢
    rw [← d2.length]; exact this
  · obtain ⟨y1, y2, y3⟩ := new_lst rh3 rd3 hp
    exact kn _ _ z3 _ _ _ (((x1.trans x2).trans x3).trans y1) y2 y3
end
end MP

set_option Elab.async false
set_option linter.all false
set_option maxRecDepth 100000
set_option maxHeartbeats 4000000
/-! STxt: sorted(set(a list of texts)). -/
namespace L2
open PySem PySem.Spec PyProof.Rows

def keyOfT (e : Int × Value) : Str := match e.2 with | .str k _ => k | _ => ⟨#[]⟩
def GoodT (w : World) (e : Int × Value) : Prop := ∃ k tk, e.2 = Value.str k tk ∧ e.1 = hashStr w k
/-- the set of texts at a: S its members, n their number -/
def SetS (w : World) (h : Heap) (a : Addr) (S : Str → Bool) (n : Nat) : Prop :=
  ∃ o es ep t, h.get? a = some o ∧ o.ExactSet ∧ o.data = .set es ep t ∧ (∀ e ∈ es.toList, GoodT w e) ∧ (es.toList.map keyOfT).Nodup ∧ (∀ k, S k = true ↔ k ∈ es.toList.map keyOfT) ∧
    es.size < scanBound ∧ t.fits es.size = true ∧ es.size = n ∧ Ris t.place.toList ∧ (w.params.followText "set-order" = true ∨ t.led = true)
section
variable {P : Program} {w : World} {h h' : Heap} {a : Addr} {S : Str → Bool} {n : Nat}
theorem SetS.at (R : SetS w h a S n) (k : ∀ o, h.get? a = some o → h'.get? a = some o) : SetS w h' a S n := by
  obtain ⟨o, es, ep, t, ho, r⟩ := R
  exact ⟨o, es, ep, t, k o ho, r⟩
theorem SetS.congr {S' : Str → Bool} (R : SetS w h a S n) (e : ∀ k, S' k = S k) : SetS w h a S' n := by
  have q : S' = S := funext e
  rw [q]; exact R
theorem goodT_elems {l : List (Int × Value)} (g : ∀ e ∈ l, GoodT w e) : ElemsOf (PySem.strKind P w) l := fun e he => by
  obtain ⟨k, tk, h1, h2⟩ := g e he
  exact ⟨⟨k, by rw [h1]; exact strKind_is P w k tk, h2⟩, by rw [h1] <;> rfl⟩
theorem goodT_is {e : Int × Value} (g : GoodT w e) (k : Str) : (PySem.strKind P w).is k e.2 = true ↔ keyOfT e = k := by
  obtain ⟨k0, tk, h1, _⟩ := g
  unfold keyOfT
  rw [h1]
  show ((k0 == k) = true) ↔ k0 = k
  exact beq_iff_eq
theorem goodT_mem {l : List (Int × Value)} (g : ∀ e ∈ l, GoodT w e) (k : Str) : k ∈ l.map keyOfT ↔ ∃ e ∈ l, (PySem.strKind P w).is k e.2 = true := by
  rw [List.mem_map]
  constructor
  · rintro ⟨e, he, q⟩
    exact ⟨e, he, (goodT_is (g e he) k).2 q⟩
  · rintro ⟨e, he, q⟩
    exact ⟨e, he, (goodT_is (g e he) k).1 q⟩
end
section
variable {P : Program} {w : World} {A : Around} {E : Value → Shared → Prop} {s : Shared} {a : Addr} {S : Str → Bool} {n : Nat}
theorem setS_add_tail {g : Bool → Sem Unit} (hg : ∀ (b : Bool) (s₁ : Shared) (Q' : Unit → Shared → Prop), Q' () s₁ → wpAny (model P w) A (g b) Q' E s₁)
    {o : Obj} {es : Array (Int × Value)} {ep : Nat} {t : SetTable} (ho : s.heap.get? a = some o) (hex : o.ExactSet) (hd : o.data = .set es ep t)
    {es1 : Array (Int × Value)} {t2 : SetTable} {S' : Str → Bool} (g1 : ∀ e ∈ es1.toList, GoodT w e) (nd1 : (es1.toList.map keyOfT).Nodup) (m1 : ∀ k, S' k = true ↔ k ∈ es1.toList.map keyOfT)
    (hb1 : es1.size < scanBound) (hf2 : t2.fits es1.size = true) (hr : Ris t2.place.toList) (hl : w.params.followText "set-order" = true ∨ t2.led = true) {wasDummy : Bool} {R : Option Bool → Shared → Prop}
    (hR : ∀ h', Heap.SameBut a s.heap h' → SetS w h' a S' es1.size → R (some true) { s with heap := h' }) :
    wpAny (model P w) A (do
        storeSet a es1 t2
        if (!wasDummy && t2.tooFull) = true then do
            g (relayAll t2 es1 (SetTable.grown es1.size)).2.2
            storeSet a (relayAll t2 es1 (SetTable.grown es1.size)).1 (relayAll t2 es1 (SetTable.grown es1.size)).2.1
            pure (some true)
          else pure (some true)) R E s := by
  refine wpAny_bind (wpAny_storeSet_of ho hd ?_ (fits_of_scanBound hb1))
  have ho1 := store_at (es' := es1) (t' := t2) ho hd
  have sb1 := Heap.SameBut.update s.heap a (Obj.putSet es1 t2)
  split
  · have pm := relayAll_perm t2 es1 (SetTable.grown es1.size)
    have hf3 := relayAll_fits t2 es1 (SetTable.grown es1.size)
    have hr3 := relayAll_ris t2 es1 (SetTable.grown es1.size)
    have hl3 := relayAll_led t2 es1 (SetTable.grown es1.size)
    generalize relayAll t2 es1 (SetTable.grown es1.size) = Z at pm hf3 hr3 hl3 ⊢
    obtain ⟨es2, t3, gave⟩ := Z
    dsimp only at pm hf3 hr3 hl3 ⊢
    have hsz : es2.size = es1.size := by rw [← Array.length_toList, pm.length_eq, Array.length_toList]
    have hb2 : es2.size < scanBound := by rw [hsz]; exact hb1
    refine wpAny_bind (hg _ _ _ ?_)
    refine wpAny_bind (wpAny_storeSet_of ho1 rfl ?_ (fits_of_scanBound hb2))
    have ho2 := store_at (es' := es2) (t' := t3) ho1 rfl
    refine wpAny_pure (hR _ (sb1.trans (Heap.SameBut.update _ a _)) ?_)
    exact ⟨_, es2, _, t3, ho2, hex, rfl, fun e he => g1 e (pm.mem_iff.mp he), (pm.map keyOfT).nodup_iff.mpr nd1, fun k => (m1 k).trans (pm.map keyOfT).mem_iff.symm, hb2, hf3, hsz, hr3,
      hl.imp id fun z => by rw [hl3]; exact z⟩
  · exact wpAny_pure (hR _ sb1 ⟨_, es1, _, t2, ho1, hex, rfl, g1, nd1, m1, hb1, hf2, rfl, hr, hl⟩)
theorem setS_add_hashed {k : Str} {tk : Tok} {Q : Bool → Shared → Prop} (R : SetS w s.heap a S n) (room : n + 1 < scanBound)
    (hQ : ∀ h', Heap.SameBut a s.heap h' → SetS w h' a (fun j => S j || decide (j = k)) (if S k = true then n else n + 1) → Q (!S k) { s with heap := h' }) :
    wpAny (model P w) A (setAddHashed a (.str k tk) ((PySem.strKind P w).hash k)) Q E s := by
  obtain ⟨o, es, ep, t, ho, hex, hd, g, nd, hm, hb, hf, hn, hr, hl⟩ := R
  have hkey : (PySem.strKind P w).is k (.str k tk) = true := strKind_is P w k tk
  have hsc : (Value.str k tk).scannable = true := rfl
  have hel : ElemsOf (PySem.strKind P w) es.toList := goodT_elems g
  unfold setAddHashed setAddHashedIn
  refine wpAny_holding (wpAny_bind (wpAny_setState_of ho hd hf ?_))
  dsimp only
  rw [byScan_of hsc hb hel]
  simp only [↓reduceIte]
  unfold setAddByScan
  refine wpAny_bind ?_
  refine wpAny_bind (wpAny_rule ?_)
  refine wpAny_bind (wpAny_setScan_of hkey ho hd hf hel ?_)
  cases hfi : List.findIdx? (fun e => (PySem.strKind P w).is k e.2) es.toList with
  | some j =>
    dsimp only
    obtain ⟨hj, pj, _⟩ := List.findIdx?_eq_some_iff_getElem.mp hfi
    have hSk : S k = true := (hm k).2 ((goodT_mem (P := P) (w := w) g k).2 ⟨es.toList[j], List.getElem_mem hj, pj⟩)
    refine wpAny_pure (wpAny_pure ?_)
    have q := hQ s.heap (Heap.SameBut.refl a s.heap) ⟨o, es, ep, t, ho, hex, hd, g, nd, fun i => by
      rw [Bool.or_eq_true, decide_eq_true_eq, ← hm i]
      exact ⟨fun z => z.elim id (fun e => e ▸ hSk), .inl⟩, hb, hf, by rw [if_pos hSk]; exact hn, hr, hl⟩
    rw [hSk] at q
    exact q
  | none =>
    dsimp only
    have hnk : k ∉ es.toList.map keyOfT := fun z => by
      obtain ⟨e, he, q⟩ := (goodT_mem (P := P) (w := w) g k).1 z
      have c := List.findIdx?_eq_none_iff.mp hfi e he
      rw [q] at c
      cases c
    have hSk : S k = false := by
      cases q : S k with
      | false => rfl
      | true => exact absurd ((hm k).1 q) hnk
    have hgw : ∀ (b : Bool) {s₁ : Shared} {Q' : Unit → Shared → Prop}, Q' () s₁ → wpAny (model P w) A (match b with | true => rule "set.scan.the-table-gave-way" | false => pure ()) Q' E s₁ :=
      fun b s₁ Q' q => by cases b <;> first | exact wpAny_pure q | exact wpAny_rule q
    have pm := layNew_perm t es ((PySem.strKind P w).hash k) (.str k tk)
    have hf1 := layNew_fits t es ((PySem.strKind P w).hash k) (.str k tk)
    have hr1 := layNew_ris t es ((PySem.strKind P w).hash k) (.str k tk) hr
    have hl1 := layNew_led t es ((PySem.strKind P w).hash k) (.str k tk)
    generalize layNew t es ((PySem.strKind P w).hash k) (.str k tk) = Z at pm hf1 hr1 hl1 ⊢
    obtain ⟨es1, t1, wasDummy, gave⟩ := Z
    dsimp only at pm hf1 hr1 hl1 ⊢
    rw [Array.toList_push] at pm
    have pc : es1.toList.Perm (((PySem.strKind P w).hash k, Value.str k tk) :: es.toList) := pm.trans (List.perm_append_singleton _ _)
    have pk : (es1.toList.map keyOfT).Perm (k :: es.toList.map keyOfT) := pc.map keyOfT
    have g1 : ∀ e ∈ es1.toList, GoodT w e := fun e he => by
      rcases List.mem_cons.mp (pc.mem_iff.mp he) with z | z
      · rw [z]; exact ⟨k, tk, rfl, rfl⟩
      · exact g e z
    have nd1 : (es1.toList.map keyOfT).Nodup := pk.nodup_iff.mpr (List.nodup_cons.mpr ⟨hnk, nd⟩)
    have m1 : ∀ i, (S i || decide (i = k)) = true ↔ i ∈ es1.toList.map keyOfT := fun i => by
      rw [Bool.or_eq_true, decide_eq_true_eq, hm i, pk.mem_iff, List.mem_cons]
      exact Or.comm
    have hsz : es1.size = n + 1 := by rw [← Array.length_toList, pc.length_eq, List.length_cons, Array.length_toList, hn]
    have hb1 : es1.size < scanBound := by rw [hsz]; exact room
    have hled : w.params.followText "set-order" = true ∨ t1.led = true := hl.imp id fun z => by rw [hl1]; exact z
    have fin : ∀ h', Heap.SameBut a s.heap h' → SetS w h' a (fun j => S j || decide (j = k)) es1.size → Q true { s with heap := h' } := fun h' sb r => by
      have q := hQ h' sb
      rw [hSk] at q
      rw [hsz] at r
      exact q r
    refine wpAny_bind (hgw _ ?_)
    split
    · refine wpAny_bind ?_
      rw [hashByValue_scannable 8 hsc]
      refine wpAny_pure ?_
      refine setS_add_tail ?_ ho hex hd g1 nd1 m1 hb1 ?_ ?_ ?_ ?_
      · intro b s₁ Q' q; cases b <;> first | exact wpAny_pure q | exact wpAny_rule q
      · first | (split <;> first | exact hf1 | exact SetTable.fits_plain_off hf1) | exact hf1
      · first | (split <;> exact hr1) | exact hr1
      · first | (split <;> exact hled) | exact hled
      · intro h' sb r; dsimp only; exact wpAny_pure (fin h' sb r)
    · refine wpAny_bind (wpAny_pure ?_)
      simp only [↓reduceIte]
      refine setS_add_tail ?_ ho hex hd g1 nd1 m1 hb1 hf1 hr1 hled ?_
      · intro b s₁ Q' q; cases b <;> first | exact wpAny_pure q | exact wpAny_rule q
      · intro h' sb r; dsimp only; exact wpAny_pure (fin h' sb r)
theorem strsAre_at : ∀ {us : List Value} {ys : List Str}, StrsAre us ys → ∀ (i : Nat) (v : Value), us[i]? = some v → ∃ k t, ys[i]? = some k ∧ v = .str k t
  | _, _, .nil, i, v, h => by simp at h
  | _, _, .cons y t r, 0, v, h => by simp at h; exact ⟨y, t, rfl, h.symm⟩
  | _, _, .cons y t r, i + 1, v, h => by
    simp only [List.getElem?_cons_succ] at h
    exact strsAre_at r i v h
theorem setS_new_at {h : Heap} {xs : List Str} (ho : h.get? a = some { cls := .type "set", dict := none, data := .set #[] 0 (.fresh 0 0 (!w.params.followText "set-order")) }) : SetS w h a (fun j => decide (j ∈ xs.take 0)) 0 :=
  ⟨_, #[], 0, _, ho, ⟨rfl, rfl, rfl⟩, rfl, (fun e he => by simp at he), (by simp), (fun k => by simp), (by decide), (by rfl), rfl, List.Pairwise.nil, by
    show _ ∨ (!w.params.followText "set-order") = true
    cases w.params.followText "set-order"
    · exact .inr rfl
    · exact .inl rfl⟩
theorem set_update_strs {I : Addr} {fp wr : List Addr} {G : Array GenState → Array GenState → Prop} {n : Nat} {Pv : Nat → Value → Prop} {St : Nat → Shared → Prop} {R : Result → Shared → Prop}
    (W : WalksS P w A.in1 I fp wr G n Pv St) (S : Addr) (hSf : S ∉ fp) (xs : List Str) (hn : n = xs.length) (hb : xs.length + 1 < scanBound) (hval : ∀ i v, Pv i v → ∃ k t, xs[i]? = some k ∧ v = .str k t) :
    ∀ (k i : Nat) (s : Shared), n - i = k → i ≤ n → St i s → (∃ c, c ≤ i ∧ SetS w s.heap S (fun j => decide (j ∈ xs.take i)) c) →
      (∀ s' c, Moved (S :: wr) G s s' → c ≤ n → SetS w s'.heap S (fun j => decide (j ∈ xs)) c → R (.ok (.ret .none)) s') →
      codeAny (model P w) A (.builtin "set.update.loop" ⟨[.ref S, .ref I], []⟩) R s := by
  have hSw : S ∉ wr := fun h => hSf (W.sub _ h)
  have hsub : ∀ b ∈ wr, b ∈ S :: wr := fun b hb => List.mem_cons_of_mem _ hb
  intro k
  induction k with
  | zero =>
    intro i s hk' hi hst ⟨c, hc, hS⟩ hR
    have hin : i = n := by omega
    subst hin
    refine codeAny_builtin PyProof.Rows.F.entry_set_update_loop ?_
    rw [Around.under_plainId PyProof.Rows.F.plain_set_update_loop _]
    show wpAny _ A.in1 (pyNext (.ref I) >>= _) _ _ s
    refine wpAny_bind (W.done s _ _ hst fun s' hm => ?_)
    show wpAny _ A.in1 (ret Value.none) _ _ s'
    have e : xs.take i = xs := List.take_of_length_le (by omega)
    rw [e] at hS
    exact wpAny_pure (hR s' c (hm.mono hsub) hc (hS.at fun o e => hm.heap S o hSw e))
  | succ k ih =>
    intro i s hk' hi hst ⟨c, hc, hS⟩ hR
    have hlt : i < n := by omega
    refine codeAny_builtin PyProof.Rows.F.entry_set_update_loop ?_
    rw [Around.under_plainId PyProof.Rows.F.plain_set_update_loop _]
    show wpAny _ A.in1 (pyNext (.ref I) >>= _) _ _ s
    refine wpAny_bind (W.item i s _ _ hlt hst fun v s' hP hst' hm => ?_)
    obtain ⟨z, t, hz, rfl⟩ := hval i v hP
    have hS' : SetS w s'.heap S (fun j => decide (j ∈ xs.take i)) c := hS.at fun o e => hm.heap S o hSw e
    show wpAny _ A.in1 (holding [Value.str z t] (setAdd S (.str z t)) >>= _) _ _ s'
    refine wpAny_bind (wpAny_holding ?_)
    unfold setAdd
    refine wpAny_holding ?_
    refine wpAny_bind ((PySem.strKind P w).pyHash (k := z) (strKind_is _ _ _ _) ?_)
    refine setS_add_hashed (s := { s' with toks := s'.toks + 1 }) hS' (by omega) fun h' hsb hS2 => ?_
    have hS3 : SetS w h' S (fun j => decide (j ∈ xs.take (i + 1))) (if decide (z ∈ xs.take i) = true then c else c + 1) := hS2.congr fun j => by
      rw [List.take_add_one, hz]
      simp [List.mem_append]
    have hc3 : (if decide (z ∈ xs.take i) = true then c else c + 1) ≤ i + 1 := by
      split <;> omega
    refine wpAny_pure ⟨plainId_quiet PyProof.Rows.F.plain_set_update_loop _, ih (i + 1) _ (by omega) hlt (W.frame _ s' _ _ hst' (Nat.le_succ _) fun b hb o e => ?_) ⟨_, hc3, hS3⟩ fun s'' c2 hm'' hc'' hS'' => ?_⟩
    · rw [hsb.2 b (fun h : b = S => hSf (by rw [← h]; exact hb))]; exact e
    · refine hR s'' c2 (Moved.trans W.gtrans ((hm.mono hsub).then_heap (Nat.le_succ _) fun b o hb e => ?_) hm'') hc'' hS''
      rw [hsb.2 b (fun h : b = S => hb (by rw [h]; exact List.mem_cons_self))]; exact e
set_option maxRecDepth 100000 in
set_option maxHeartbeats 3200000 in
theorem call_set_strs {l : Addr} {items : Array Value} (xs : List Str) {Q : Value → Shared → Prop} (hh : A.handled = none) (hl : s.heap.IsList l items) (hit : StrsAre items.toList xs) (hb : xs.length + 1 < scanBound)
    (h : ∀ (h' : Heap) (tk c : Nat), SetS w h' s.heap.objs.size (fun j => decide (j ∈ xs)) c → c ≤ xs.length → (∀ b o, s.heap.get? b = some o → h'.get? b = some o) → Q (.ref s.heap.objs.size) { s with heap := h', toks := tk }) :
    wpAny (model P w) A (call (.type "set") [.ref l]) Q E s := by
  have hisz : items.size = xs.length := by
    have q := hit.length
    rw [Array.length_toList] at q
    exact q
  obtain ⟨c, tl, hmro⟩ := F.called_set.mro
  have hmade := F.called_set.made
  have hsub := F.called_set.sub
  refine wpAny_call (codeAny_of_tree ?_)
  show wpAny _ _ (callAny (.type "set") _) _ _ _
  refine wpAny_pure ⟨Code.quiet_builtin _ (by decide +kernel), codeAny_builtin F.entry_type_call ?_⟩
  rw [Around.under_plain (weight_type_call_type "set" [.ref l] []) rfl]
  have h1 := F.called_set.notType
  have h2 := F.called_set.canCreate
  have hct := F.typeCall_set_1 (.ref l)
  repeat (any_goals (first | assumption | wp_step))

  refine codeAny_mono (code_set_led1 (.ref l) (E := E) (Q₁ := fun obj s₁ => obj = .ref s.heap.objs.size ∧ s₁ = { s with heap := s.heap.push { cls := .type "set", dict := none, data := .set #[] 0 (.fresh 0 0 (!w.params.followText "set-order")) } }) ⟨rfl, rfl⟩) fun r s₁ hr => ?_
  cases r with
  | error e => exact hr
  | ok fl =>
    cases fl with
    | ret obj =>
      obtain ⟨rfl, rfl⟩ := hr
      have hS : (s.heap.push { cls := .type "set", dict := none, data := .set #[] 0 (.fresh 0 0 (!w.params.followText "set-order")) }).get? s.heap.objs.size = some { cls := .type "set", dict := none, data := .set #[] 0 (.fresh 0 0 (!w.params.followText "set-order")) } := Heap.get?_push_size _ rfl
      have hT : Shared.TypeIs { s with heap := s.heap.push { cls := .type "set", dict := none, data := .set #[] 0 (.fresh 0 0 (!w.params.followText "set-order")) } } (.ref s.heap.objs.size) "set" := ⟨_, hS, rfl⟩
      have hli := F.called_set.init.lookup
      have hbi := F.called_set.init.bind (.ref s.heap.objs.size)
      repeat (any_goals (first | assumption | wp_step))

      refine codeAny_mono (codeAny_call_builtin (R := wants (fun r s₂ => r = .none ∧ ∃ h' tk c, s₂ = { s with heap := h', toks := tk } ∧ SetS w h' s.heap.objs.size (fun j => decide (j ∈ xs)) c ∧ c ≤ xs.length ∧
          (∀ b o, s.heap.get? b = some o → h'.get? b = some o)) E) F.called_set.init.plain F.entry_set_init (check_set_init_1 hT ?_)) fun r₂ s₂ hr₂ => ?_
      · obtain ⟨ol, hol, hcl, nl, hdl⟩ := hl
        obtain ⟨ocls, odict, odata, oslots⟩ := ol
        simp only at hcl hdl
        subst hcl; subst hdl
        have hol' : (s.heap.push { cls := .type "set", dict := none, data := .set #[] 0 (.fresh 0 0 (!w.params.followText "set-order")) }).get? l = some { cls := .type "list", dict := odict, data := .seq items nl, slots := oslots } := Heap.get?_push_of_some _ hol
        have hsls := F.sub_list_set
        have hslf := F.sub_list_frozenset
        have hne : (Value.type "list" == Value.type "dict") = false := by decide
        have hl1 : (s.heap.push { cls := .type "set", dict := none, data := .set #[] 0 (.fresh 0 0 (!w.params.followText "set-order")) }).IsList l items := ⟨_, hol', rfl, nl, rfl⟩
        unfold Builtin.«set.__init__» noKeywords Builtin.Frozenset.updateFrom
        generalize hPI : pyIter = PI
        wp_walk
        subst hPI

        refine wpAny_pyIter_list hl1 ?_
        refine wpAny_bind (wpAny_runValue ?_)
        have hlS : l < s.heap.objs.size := Heap.lt_size hol
        have hh3 : A.in1.in1.in1.handled = none := by simp [hh]
        have hz1 : (s.heap.push { cls := .type "set", dict := none, data := .set #[] 0 (.fresh 0 0 (!w.params.followText "set-order")) }).objs.size = s.heap.objs.size + 1 := Heap.size_push ..
        have hneI : l ≠ (s.heap.push { cls := .type "set", dict := none, data := .set #[] 0 (.fresh 0 0 (!w.params.followText "set-order")) }).objs.size := by
          rw [Heap.size_push]; exact Nat.ne_of_lt (Nat.lt_succ_of_lt hlS)
        have hSf : s.heap.objs.size ∉ [(s.heap.push { cls := .type "set", dict := none, data := .set #[] 0 (.fresh 0 0 (!w.params.followText "set-order")) }).objs.size, l] := by
          rw [Heap.size_push]; simp only [List.mem_cons, List.mem_singleton, List.not_mem_nil, or_false, not_or]
          exact ⟨Nat.ne_of_lt (Nat.lt_succ_self _), Nat.ne_of_gt hlS⟩
        have hval : ∀ (i : Nat) (v : Value), items[i]? = some v → ∃ k t, xs[i]? = some k ∧ v = .str k t := fun i v hv => by
          exact strsAre_at hit i v (by rw [Array.getElem?_toList]; exact hv)
        refine set_update_strs ((Walks.list hh3 _ l hneI items).toS) s.heap.objs.size
          hSf xs hisz hb hval (items.size - 0) 0 _ (by omega) (Nat.zero_le _)
          ⟨⟨_, Heap.get?_push_size _ rfl, rfl, rfl⟩, (hl1.push _)⟩ ?hS0 ?hR
        case hS0 =>
          have hget : ((s.heap.push { cls := .type "set", dict := none, data := .set #[] 0 (.fresh 0 0 (!w.params.followText "set-order")) }).push { cls := .type "list_iterator", data := .fields #[.ref l, .int 0 0] }).get? s.heap.objs.size
              = some { cls := .type "set", dict := none, data := .set #[] 0 (.fresh 0 0 (!w.params.followText "set-order")) } := Heap.get?_push_of_some _ hS
          exact ⟨0, Nat.le_refl 0, setS_new_at hget⟩
        case hR =>
          intro s' c' hm hc' hS'
          obtain ⟨h', g2, d', tk', os'⟩ := s'
          have eg : g2 = s.gens := hm.gens
          have ed : d' = s.drawn := hm.drawn
          have eo : os' = s.os := hm.os
          subst eg; subst ed; subst eo
          show wpAny _ _ _ _ _ _
          refine wpAny_pure ?_
          show wpAny _ _ (ret Value.none) _ _ _
          rw [hisz] at hc'
          refine wpAny_pure ⟨rfl, h', tk', c', rfl, hS', hc', fun b o e => ?_⟩
          have hb0 : b < s.heap.objs.size := Heap.lt_size e
          have hb1 : b ≠ s.heap.objs.size := Nat.ne_of_lt hb0
          have hb2 : b ≠ (s.heap.push { cls := .type "set", dict := none, data := .set #[] 0 (.fresh 0 0 (!w.params.followText "set-order")) }).objs.size := by
            rw [Heap.size_push]; exact Nat.ne_of_lt (Nat.lt_succ_of_lt hb0)
          exact hm.heap b o (by simp only [List.mem_cons, List.mem_singleton, List.not_mem_nil, or_false, not_or]; exact ⟨hb1, hb2⟩) (Heap.get?_push_of_some _ (Heap.get?_push_of_some _ e))

      · cases r₂ with
        | error e => exact hr₂
        | ok fl₂ =>
          cases fl₂ with
          | ret r =>
            obtain ⟨rfl, h', tk, c', rfl, hS', hc', hk'⟩ := hr₂
            repeat (any_goals (first | assumption | wp_step))
            exact h _ _ _ hS' hc' hk'
          | _ => exact hr₂.elim
    | _ => exact hr.elim
theorem strs_of : ∀ (l : List Value), (∀ v ∈ l, ∃ k tk, v = Value.str k tk) → ∃ xs, StrsAre l xs
  | [], _ => ⟨[], .nil⟩
  | v :: l, h => by
    obtain ⟨k, tk, rfl⟩ := h v List.mem_cons_self
    obtain ⟨xs, r⟩ := strs_of l fun u hu => h u (List.mem_cons_of_mem _ hu)
    exact ⟨k :: xs, .cons k tk r⟩
theorem strs_keys : ∀ {l : List Value} {xs : List Str}, StrsAre l xs → l.map (fun v => keyOfT (0, v)) = xs
  | _, _, .nil => rfl
  | _, _, .cons y t r => by rw [List.map_cons, strs_keys r] <;> rfl
theorem sorted_setS {Q : Value → Shared → Prop} (R : SetS w s.heap a S n) (hh : A.handled = none) (h64 : n < 64)
    (hQ : ∀ s' p (out : Array Value) (c : Nat) (ys : List Str), (∀ b o, s.heap.get? b = some o → s'.heap.get? b = some o) → s'.gens = s.gens → s'.os = s.os → s.heap.objs.size ≤ p →
      s'.heap.get? p = some (seqObj "list" out c) → StrsAre out.toList ys → sortedS ys = true → ys.Nodup → (∀ k, k ∈ ys ↔ S k = true) → ys.length = n → Q (.ref p) s') :
    wpAny (model P w) A (call (.builtin "sorted") [.ref a]) Q E s := by
  obtain ⟨o, es, ep, t, ho, hex, hd, g, nd, hm, hb, hf, hn, hr, hl⟩ := R
  refine Calls.call_function_entry kind_sorted plain_sorted entry_sorted (args_sorted1 _) ?_
  unfold Builtin.«sorted»
  refine wpAny_bind (m := checkCount "sorted" 1 1 _) (wpAny_pure ?_)
  refine wpAny_bind (collect_set (A := A.in1) hh ⟨o, ho, hex.1, hd⟩ hf hb hr hl fun s1 vs k1 hz g1 o1 pm => ?_)
  have hvl : vs.length = n := by rw [pm.length_eq, List.length_map, Array.length_toList]; exact hn
  obtain ⟨xs, hI⟩ := strs_of vs fun v hv => by
    obtain ⟨e, he, q⟩ := List.mem_map.mp (pm.mem_iff.mp hv)
    obtain ⟨k, tk, h1, _⟩ := g e he
    exact ⟨k, tk, by rw [← q]; exact h1⟩
  have pk : xs.Perm (es.toList.map keyOfT) := by
    have q := pm.map (fun v => keyOfT (0, v))
    rw [strs_keys hI, List.map_map] at q
    exact q
  refine wpAny_bind (wpAny_newList ?_ (by rw [hvl, sizeLine_eq]; omega))
  have hoL : (s1.heap.push (seqObj "list" vs.toArray 0)).get? s1.heap.objs.size = some (seqObj "list" vs.toArray 0) := Heap.get?_push_size _ rfl
  refine wpAny_bind (wpAny_holding (wpAny_call_entry slot_list_sort ⟨_, hoL, rfl⟩ entry_list_sort (list_sort_treeK strKind_oneLt hoL hI.keysOf (fun v₁ v₂ rest e => keyKind_strs (by rw [← e]; exact hI)) (by rw [hvl]; exact h64) fun st' hp hs => ⟨_, rfl, ?_⟩) (args_list_sort _)))
  obtain ⟨ys, a1, a2, a3⟩ := sorted_out_str hI hp hs
  obtain ⟨c, hc⟩ := sortedHeap_at (vs := vs) (out := (arrOf st').map (·.2)) hoL
  have pn : ys.Perm (es.toList.map keyOfT) := a2.trans pk
  refine wpAny_pure ⟨_, rfl, hQ _ s1.heap.objs.size _ c ys (fun b u e => ?_) g1 o1 hz hc a1 a3 (pn.nodup_iff.mpr nd) (fun k => by rw [pn.mem_iff, ← hm k]) ?_⟩
  · have q := k1 b u e
    have hlt := Heap.lt_size q
    show (sortedHeap (s1.heap.push (seqObj "list" vs.toArray 0)) s1.heap.objs.size vs _).get? b = some u
    rw [sortedHeap_old (Nat.ne_of_lt hlt) (by rw [size_push']; exact Nat.lt_succ_of_lt hlt)]
    exact Heap.get?_push_of_some _ q
  · rw [pn.length_eq, List.length_map, Array.length_toList]; exact hn
end
/-- the set of texts at a -/
def SetSO (w : World) (a : Addr) (S : Str → Bool) (n : Nat) : HO := .ext fun h => SetS w h a S n
section
variable {X : Cx}
theorem setSO_new {w : World} {P : Program} {H : Hp} {h : Heap} {a : Addr} {S : Str → Bool} {n : Nat} (R : SetS w h a S n) : ObjOk P w H h a (SetSO w a S n) := by
  have ⟨o, _, _, _, ho, _⟩ := R
  exact ⟨R, ⟨o, ho⟩, fun h1 h2 p k => SetS.at p k⟩
theorem cr_setListS (hc : X.calm = true) : CallR X (.type "set") (fun xs H Q => ∃ (p0 : Addr) (ns : List Str), xs = [.ref p0] ∧ SqL X.K H p0 (ns.map V.str) ∧ ns.length ≤ 1000 ∧ ∀ (q : Addr) (c : Nat), H q = none → c ≤ ns.length → Q (.ref q) (upd H q (SetSO X.w q (fun j => decide (j ∈ ns)) c))) := by
  intro pins s σ H xs us Q I r h
  obtain ⟨p0, ns, rfl, hq, hl, q⟩ := h
  rw [Vals.ref1 r]
  obtain ⟨its, rv, pt, hz⟩ := I.list hq
  refine call_set_strs ns (I.ok.hd hc) pt.isList (by simpa using strsAre_of rv) (by unfold scanBound; omega) fun h' tk c R1 hcn k => ?_
  exact ⟨.ref _, _, I.laid (t' := tk) k (Nat.le_refl _) (setSO_new R1), rfl, q _ c (I.hok.fresh (Nat.le_refl _)) hcn⟩
def rSortedSetS (w : World) : List V → Hp → VK → Prop := fun vs H Q => ∃ (a : Addr) (S : Str → Bool) (n : Nat), vs = [V.ref a] ∧ H a = some (SetSO w a S n) ∧ n < 64 ∧
  ∀ (ys : List Str) (p : Addr), sortedS ys = true → ys.Nodup → (∀ k, k ∈ ys ↔ S k = true) → ys.length = n → H p = none → Q (.ref p) (upd H p (.lst (ys.map V.str)))
theorem cr_sortedSetS (hc : X.calm = true) : CallR X (.builtin "sorted") (rSortedSetS X.w) := by
  intro pins s σ H vs us Q I r h
  obtain ⟨a, S, n, rfl, ha, h64, q⟩ := h
  have R : SetS X.w s.heap a S n := (I.hok a _ ha).1
  rw [Vals.ref1 r]
  refine sorted_setS R (I.ok.hd hc) h64 fun s' p out c ys k g o hp hg hi hs hnd hm hl => ?_
  have hlen : (ys.map V.str).length ≤ sizeLine := by rw [List.length_map, hl, sizeLine_eq]; omega
  have hn : H p = none := I.hok.fresh hp
  have J : Inv X pins σ (upd H p (.lst (ys.map V.str))) { s with heap := s'.heap, gens := s'.gens, drawn := s'.drawn, toks := s'.toks } :=
    I.call (ch := []) (Un.laid k hp hn) (I.hok.laid k hp ⟨hlen, out.toList, c, vals_of_strs hi, hg⟩) (by rw [g]; exact I.bare) (fun _ z => nomatch z)
  have e : s' = { s with heap := s'.heap, gens := s'.gens, drawn := s'.drawn, toks := s'.toks } := by
    cases s'
    cases s
    cases o
    rfl
  rw [e]
  exact ⟨.ref p, _, J, rfl, q ys p hs hnd hm hl hn⟩
end
end L2
namespace MP
open PySem PySem.Spec
open PyProof.Rows hiding St
open L2
section
variable {X : Cx} {j : Nat} {a b c e o : Expr} {pos pos' p p2 : Pos}
variable {K : PySem.W.Frag} {mg : Str → Option Value} {io io' : List Addr} {H H' : Hp} {h h' : Hd} {sl : Sd} {σ : L2.St}
def wSortedSetS (w : WE) : WE := fun sl h Q => w sl h fun x h1 => ∃ (n : Nat) (xs : List Str), x = .ref n ∧ items h1 n = some (xs.map .str) ∧ xs.length < 64 ∧ Q (.ref h1.length) (h1 ++ [.lst ((sortS xs.eraseDups).map .str)])
theorem mem_eraseDupsS (k : Str) : ∀ (n : Nat) (xs : List Str), xs.length ≤ n → (k ∈ xs.eraseDups ↔ k ∈ xs) := by
  intro n
  induction n with
  | zero => intro xs h; have : xs = [] := List.length_eq_zero_iff.mp (by omega); subst this; simp
  | succ n ih =>
    intro xs h
    cases xs with
    | nil => simp
    | cons x xs =>
      rw [List.eraseDups_cons, List.mem_cons, List.mem_cons, ih _ (by have := List.length_filter_le (fun b => !b == x) xs; simp at h; omega)]
      simp only [List.mem_filter, Bool.not_eq_eq_eq_not, Bool.not_true, beq_eq_false_iff_ne, ne_eq]
      by_cases q : k = x
      · simp [q]
      · simp [q]
theorem nodup_eraseDupsS : ∀ (n : Nat) (xs : List Str), xs.length ≤ n → xs.eraseDups.Nodup := by
  intro n
  induction n with
  | zero => intro xs h; have : xs = [] := List.length_eq_zero_iff.mp (by omega); subst this; simp
  | succ n ih =>
    intro xs h
    cases xs with
    | nil => simp
    | cons x xs =>
      rw [List.eraseDups_cons, List.nodup_cons]
      have hl : (xs.filter fun b => !b == x).length ≤ n := by have := List.length_filter_le (fun b => !b == x) xs; simp at h; omega
      refine ⟨fun q => ?_, ih _ hl⟩
      rw [mem_eraseDupsS x _ _ hl] at q
      simp at q
theorem le_sortedSetS {w : WE} (hc : X.calm = true) (hg : Gl X "sorted") (hm : X.mg "sorted" = none) (hg2 : Gl X "set") (hm2 : X.mg "set" = none) (he : LE X e w)
    (hs : starEach [.Call (.Name "set" p2) [e] [] pos'] X.env = (false, eval (.Call (.Name "set" p2) [e] [] pos') X.env) :: starEach [] X.env := by rfl) (hs2 : starEach [e] X.env = (false, eval e X.env) :: starEach [] X.env := by rfl) :
    LE X (.Call (.Name "sorted" p) [.Call (.Name "set" p2) [e] [] pos'] [] pos) (wSortedSetS w) := (pe_callB (cr_sortedSetS hc) hg hm boot_sorted (pa_cons (pe_callTy (cr_setListS hc) hg2 hm2 PyProof.Rows.boot_set (pa_cons he pa_nil hs2) (by decide) (by decide) hs2 rfl) pa_nil hs) (by decide) (by decide) hs rfl).imp fun σ H Q z => by
  obtain ⟨sl, h, io, q, r, z, k⟩ := z
  refine tE.go r z fun x h1 z1 u i1 H1 x1 r1 d1 => ?_
  obtain ⟨n, xs, rfl, hi, hl, z1⟩ := z1
  obtain ⟨a, rfl, i⟩ := ref_rd d1
  obtain ⟨vs, f1, f2⟩ := r1.rh.list hi i
  obtain rfl := rd_strs f2
  refine ⟨a, xs, rfl, f1, by omega, fun q0 c hq0 hcn => ⟨q0, _, c, rfl, upd_same, by omega, fun ys p0 srt hnd mem hlen hp0 => ?_⟩⟩
  have pm : ys.Perm xs.eraseDups := (List.perm_ext_iff_of_nodup hnd (nodup_eraseDupsS _ xs (Nat.le_refl _))).mpr fun k => by
    rw [mem k, decide_eq_true_eq, mem_eraseDupsS k _ xs (Nat.le_refl _)]
  obtain rfl := sortS_uniq pm (sortedS_pw srt)
  obtain ⟨x2, rh2, d2⟩ := new_lst (r1.rh.new (o := SetSO X.w q0 (fun j => decide (j ∈ xs)) c) hq0) (to_strs (sortS xs.eraseDups)) hp0
  exact k _ _ z1 _ _ _ ((x1.trans (ex_upd hq0)).trans x2) rh2 d2
end
end MP

set_option Elab.async false
set_option linter.all false
set_option maxRecDepth 100000
set_option maxHeartbeats 2000000
/-! MpW: {k: v, l: w}. -/
namespace MP
open PySem PySem.Spec
open PyProof.Rows hiding St
open L2
section
variable {X : Cx} {a b c e : Expr} {pos : Pos}
def wD2 (wk wv wk2 wv2 : WE) : WE := fun sl h Q => wk sl h fun x h1 => wv sl h1 fun y h2 => wk2 sl h2 fun x2 h3 => wv2 sl h3 fun y2 h4 => keyOk false x = true ∧ keyOk false x2 = true ∧ Q (.ref h4.length) (h4 ++ [.dct false false (putD [(x, y)] x2 y2)])
theorem le_d2 {wk wv wk2 wv2 : WE} (hk : LE X a wk) (hv : LE X b wv) (hk2 : LE X c wk2) (hv2 : LE X e wv2) : LE X (.Dict [some a, some c] [b, e] pos) (wD2 wk wv wk2 wv2) := (pe_disp (pps_cons hk hv (pps_cons hk2 hv2 pps_nil)) rfl rfl (by simp) (by show 2 ≤ 15; decide)).imp fun σ H Q z => by
  obtain ⟨sl, h, io, q, r, z, k⟩ := z
  intro p hp
  have rn := r.on (ex_upd (o := .dK []) hp) (r.rh.new (o := .dK []) hp)
  have pn : p ∉ io := r.rh.nin hp
  refine tE.go rn z fun x h1 z1 u i1 H1 x1 r1 d1 => tE.go r1 z1 fun y h2 z2 v i2 H2 x2 r2 d2 => tE.go r2 z2 fun x' h3 z3 u' i3 H3 x3 r3 d3 => tE.go r3 z3 fun y' h4 z4 v' i4 H4 x4 r4 d4 => ?_
  obtain ⟨hk, hk', z4⟩ := z4
  obtain ⟨key, rfl⟩ := key_of_ok hk
  obtain ⟨key', rfl⟩ := key_of_ok hk'
  have := rd_key d1
  subst this
  have := rd_key d3
  subst this
  have x14 := ((x1.trans x2).trans x3).trans x4
  have e2 := x14.oth p _ upd_same pn
  have n2 := x14.nin upd_same pn
  refine ⟨e2, [(key, v), (key', v')], rfl, by show 2 ≤ 15; decide, ?_⟩
  have y2 := ey_priv (io := i4) (o := .dK (mergeK [] [(key, v), (key', v')])) e2 (fun _ z => nomatch z)
  have xa : Ex io i4 H (upd H4 p (.dK (mergeK [] [(key, v), (key', v')]))) := ex_priv ((ex_upd hp).trans x14) hp
  have rh2 := r4.rh.priv (o := .dK (mergeK [] [(key, v), (key', v')])) n2 e2 (fun _ z => nomatch z) (fun _ z => nomatch z)
  exact k _ _ z4 _ _ _ (ex_adopt xa hp) (rh2.adopt n2 (.ofK ⟨_, by simp only [DOb]; exact upd_same, (((KVk.nil.put (k := key) (((d2.mono x3).mono x4).monoY y2)).put (k := key') (d4.monoY y2)).mono1 (List.prefix_append _ _))⟩)) (.ref (push_at rh2 p))
theorem ol_ownInA {P : Program} {w : World} {K : PySem.W.Frag} {mg : Str → Option Value} {base : Heap} {A : Around} {k j : Nat} {cn : Str} {sp : SpD} (M : MtD P w K mg base k cn "__contains__" 2 sp) (hr : Room j A) (hk : k ≤ j) (hgd : A.guards = some []) (neg : Bool)
    (hA : X.A = A := by rfl) (h1 : X.prog = P := by rfl) (h2 : X.w = w := by rfl) (h3 : X.K = K := by rfl) (h4 : X.mg = mg := by rfl) (h5 : X.base = base := by rfl) : OpL X (compareOp (if neg then .NotIn else .In)) (oOwnIn neg cn sp) := by
  subst hA h1 h2 h3 h4 h5
  exact ol_ownIn M hr hk hgd neg
end
end MP

set_option Elab.async false
set_option linter.all false
set_option maxRecDepth 100000
set_option maxHeartbeats 2000000
/-! K07Q2: the law's def called with the script, from the layer's promise. -/
namespace MP
open PySem PySem.Spec
open PyProof.Rows hiding St
open L2
def isListC (p : Addr × Obj) : Bool := decide (p.2.cls = .type "list")
theorem notIn {K : PySem.W.Frag} {a : Addr} {o : Obj} (h : (K.all fun p => !isListC p) = true) (c : o.cls = .type "list") : K.lookup a ≠ some o := fun e => by
  have m : (a, o) ∈ K := by
    clear h
    induction K with
    | nil => cases e
    | cons p r ih =>
      obtain ⟨b, ob⟩ := p
      rw [List.lookup_cons] at e
      by_cases hb : a == b
      · rw [hb] at e
        have e2 : ob = o := Option.some.inj e
        rw [e2, eq_of_beq hb]; exact List.mem_cons_self
      · have hb' : (a == b) = false := by simpa using hb
        rw [hb'] at e
        exact List.mem_cons_of_mem _ (ih e)
  have := List.all_eq_true.mp h _ m
  unfold isListC at this
  rw [decide_eq_true c] at this
  cases this
abbrev scrO (vs : List Value) : Obj := { cls := .type "list", data := .seq vs.toArray }
/-- the heap in which nothing but the script is told -/
def scrH (a : Addr) (vs : List Value) (ns : List Int) : Hp := fun b => if b = a then some (.frz (scrO vs) (.lst (ns.map V.int))) else none
theorem scrH_at {a : Addr} {vs : List Value} {ns : List Int} : scrH a vs ns a = some (.frz (scrO vs) (.lst (ns.map V.int))) := if_pos rfl
theorem scrH_ne {a b : Addr} {vs : List Value} {ns : List Int} (h : b ≠ a) : scrH a vs ns b = none := if_neg h
theorem rds_ints {io : List Addr} {H : Hp} : ∀ ns : List Int, RDs io H (ns.map D.int) (ns.map V.int)
  | [] => .nil
  | n :: ns => .cons (.int n) (rds_ints ns)
/-- the layer's state at the script alone -/
theorem scr_spD {K : PySem.W.Frag} {mg : Str → Option Value} {a : Addr} {vs : List Value} {ns : List Int} {sp : SpD} (z : ∀ q : D → Hd → Prop, (∀ h', q (.bl true) h') → sp [.ref 0] [.scr (ns.map D.int)] q) :
    spD K mg 1 sp [.ref a] (scrH a vs ns) (fun v _ => v = .bl true) fun _ _ _ => False := by
  refine ⟨rfl, [.ref 0], [.scr (ns.map D.int)], [a], fun d _ => d = .bl true, ?_, .cons (.ref rfl) .nil, z _ fun _ => rfl, ?_⟩
  · refine ⟨rfl, fun n m b e1 e2 => ?_, fun n c b e1 e2 => ?_⟩
    · have h1 := (List.getElem?_eq_some_iff.mp e1).1
      have h2 := (List.getElem?_eq_some_iff.mp e2).1
      simp at h1 h2; omega
    · have h1 := (List.getElem?_eq_some_iff.mp e1).1
      have h0 : n = 0 := by simpa using h1
      subst h0
      simp at e1 e2
      subst e1; subst e2
      exact ⟨_, _, scrH_at, rds_ints ns⟩
  · intro d h' hd v io' H' x rh r
    subst hd
    cases r
    rfl
theorem law_callG {P : Program} {w : World} {K : PySem.W.Frag} {mg mb : Str → Option Value} {k : Nat} {fa a : Addr} {fd : FuncData} {x : Str} {sp : SpD} {s1 : Shared} {vs : List Value} {ns : List Int}
    (KX : K.In s1.heap) (hns : s1.heap.Ns mainGlobals mg) (hb : s1.heap.Ns builtinsNs mb) (hbb : ∀ x : Str, x ≠ "__name__" → mb x = bootBuiltins x) (hlim : s1.heap.NoLimit) (hg : s1.gens = #[])
    (ha : s1.heap.get? a = some (scrO vs)) (hi : IntsAre vs ns) (hl : ns.length ≤ sizeLine) (hr : Room k callerA) (hgd : callerA.guards = some [])
    (F : ∀ base : Heap, FnG P w K mg base CX0 k fa fd [x] (spD K mg 1 sp)) (hbind : ∀ (s : Shared) (u : Value), BindsTo s fd ⟨[u], []⟩ [(x, u)]) (hnl : (K.all fun p => !isListC p) = true)
    (z : ∀ q : D → Hd → Prop, (∀ h', q (.bl true) h') → sp [.ref 0] [.scr (ns.map D.int)] q) :
    codeAny (model P w) callerA (.call (.ref fa) ⟨[.ref a], []⟩) (fun r s' => r = .ok (.ret (.bool true)) ∧ OldK s1.heap s'.heap ∧ s'.os = s1.os ∧ AllBare s'.gens) s1 := by
  have rv := vals_ints hi
  let H := scrH a vs ns
  have old : ∀ {b : Addr} {o : Obj}, s1.heap.get? b = some o → b ≠ a → (hidT s1.heap H).get? b = some o := fun e n => hidT_get e (scrH_ne n)
  have neD : ∀ {b : Addr} {o : Obj} {es : Array DictEntry} {ep : Nat}, s1.heap.get? b = some o → o.data = .dict es ep → b ≠ a := by
    intro b o es ep e d h
    subst h
    rw [ha] at e
    cases e
    have d2 : Data.seq vs.toArray _ = Data.dict es ep := d
    cases d2
  have nsO : ∀ {b : Addr} {m : Str → Option Value}, s1.heap.Ns b m → (hidT s1.heap H).Ns b m := by
    rintro b m ⟨o, es, ep, e, d, r⟩
    exact ⟨o, es, ep, old e (neD e d), d, r⟩
  have inO : K.In (hidT s1.heap H) := by
    intro b o e
    have e1 := KX b o e
    refine old e1 fun h => ?_
    subst h
    rw [ha] at e1
    cases e1
    exact notIn hnl rfl e
  obtain ⟨mc, l1, l2⟩ := hlim
  have mo : Mod K mg (hidT s1.heap H) := ⟨inO, nsO hns, ⟨mb, nsO hb, hbb⟩, ⟨mc, nsO l1, l2⟩⟩
  have hok : HOk P w H s1.heap := by
    intro b u e
    by_cases h : b = a
    · subst h
      have e2 := scrH_at.symm.trans e
      cases e2
      exact ⟨ha, by rw [List.length_map]; exact hl, vs, _, rv, ha⟩
    · have e2 := (scrH_ne h).symm.trans e
      cases e2
  have nil : ∀ {b : Addr}, b ∈ ([] : List Addr) → False := fun h => by cases h
  have e0 : Env0 P w K mg (hidT s1.heap H) callerA [] s1 H := ⟨rfl, mo, fun b o e => of_hidT e, Nat.le_of_eq (hidT_size _ _), trivial, fun b h => (nil h).elim, hok, .of_eq hg⟩
  have run := (F (hidT s1.heap H)).run callerA [] s1 H ⟨[.ref a], []⟩ [.ref a] [.ref a] _ _ hr hgd e0 (hbind s1 (.ref a)) (.cons rfl .nil) (scr_spD z)
  refine codeAny_mono run fun r s2 h => ?_
  cases r with
  | error e => exact h.elim
  | ok fl =>
    cases fl with
    | next => exact h.elim
    | brk => exact h.elim
    | cont => exact h.elim
    | ret u =>
      obtain ⟨v, H2, os, bare, un, hok2, r2, q⟩ := h
      obtain rfl : v = .bl true := q
      obtain rfl : u = Value.bool true := r2
      refine ⟨rfl, OldK.of_keep fun b o e => ?_, os, bare⟩
      by_cases h : b = a
      · subst h
        obtain ⟨e1, _⟩ := hok2 b _ (un.frzs b _ _ scrH_at)
        rw [ha] at e
        cases e
        exact e1
      · exact un.keep b o e (scrH_ne h) (fun z => (nil z).elim) (by simp)
end MP

set_option Elab.async false
set_option linter.all false
set_option maxRecDepth 100000
set_option maxHeartbeats 2000000
/-! MpHd: the head's facts for these laws: the default tuple of Part is left out of what is known, properties' getters are read; the law's call with the default tuple tracked. -/
namespace MP
open PySem PySem.Spec
open PyProof.Rows hiding St
open L2
/-! ### getters of properties -/
def gtAd (K : PySem.W.Frag) (C m : Str) : Addr := match PySem.W.recIn K (He.ma K (He.ga K C) m) "property" with
  | some (.ref g :: _) => g
  | _ => 0
def fnWa (K : PySem.W.Frag) (a : Addr) : He.FnW := match K.lookup a with
  | some ⟨_, _, .func fd, _⟩ => some (fd.name, fd.qualname, fd.params, fd.body, fd.scope, fd.globals, fd.closure, fd.builtins)
  | _ => none
def okA (K : PySem.W.Frag) (a : Addr) (d : He.DefD) : Bool := PySem.W.keepIn K (.ref a) && (match K.lookup a with
  | some ⟨_, _, .func fd, _⟩ => PySem.W.codeIn K fd.code d.qual && (He.dflB K fd.defaults (d.dvs K) && He.kwdB K fd.kwdefaults (d.kws K))
  | _ => false)
theorem funDA {K : PySem.W.Frag} {a : Addr} {d : He.DefD} (e : fnWa K a = d.val) (c : okA K a d = true) : ∃ fd, FunD K d.name d.qual d.params d.body d.scope (d.dvs K) (d.kws K) a fd := by
  obtain ⟨kp, c2⟩ := He.ba c
  unfold fnWa at e
  cases q : K.lookup a with
  | none =>
    rw [q] at c2
    cases c2
  | some o =>
    obtain ⟨oc, od, dt, osl⟩ := o
    rw [q] at c2 e
    cases dt with
    | func fd =>
      obtain ⟨n1, n2, n3, n4, n5, n6, n7, n8, n9, n10, n11, n12, n13, n14, n15⟩ := fd
      have e2 : (some (n1, n2, n3, n4, n5, n6, n7, n15) : He.FnW) = some (d.name, d.qual, d.params, .stmts d.body, d.scope, mainGlobals, [], builtinsNs) := e
      simp only [Option.some.injEq, Prod.mk.injEq] at e2
      obtain ⟨h1, h2, h3, h4, h5, h6, h7, h8⟩ := e2
      subst h1 h2 h3 h4 h5 h6 h7 h8
      have c3 : (PySem.W.codeIn K n13 d.qual && (He.dflB K n8 (d.dvs K) && He.kwdB K n9 (d.kws K))) = true := c2
      obtain ⟨k1, k2⟩ := He.ba c3
      obtain ⟨k3, k4⟩ := He.ba k2
      exact ⟨_, ⟨oc, od, n8, n9, n10, n11, n12, n13, n14, osl, rfl, q, k1, He.dflB_ok k3, He.kwdB_ok k4⟩, kp⟩
    | _ => cases c2
def prB (C m : Str) (K : PySem.W.Frag) : Bool := He.eqO (PySem.W.findIn K (.ref (He.ga K C)) m) (some (some (.ref (He.ma K (He.ga K C) m)))) && (He.eqO (PySem.W.specialIn K (.ref (He.ma K (He.ga K C) m)) "__get__") (some (some (.builtin "property.__get__"))) &&
  (decide (PySem.W.takesIn K (.ref (He.ma K (He.ga K C) m)) = some true) && (match PySem.W.recIn K (He.ma K (He.ga K C) m) "property" with
  | some (.ref g :: _) => true
  | _ => false)))
theorem prB_ok {K : PySem.W.Frag} {C m : Str} (h : prB C m K = true) : PropOf K (He.ga K C) m (He.ma K (He.ga K C) m) (gtAd K C m) := by
  obtain ⟨h1, h⟩ := He.ba h
  obtain ⟨h2, h⟩ := He.ba h
  obtain ⟨h3, h4⟩ := He.ba h
  refine ⟨He.eqO_ok h1, He.eqO_ok h2, of_decide_eq_true h3, ?_⟩
  unfold gtAd
  cases q : PySem.W.recIn K (He.ma K (He.ga K C) m) "property" with
  | none => rw [q] at h4; cases h4
  | some l =>
    rw [q] at h4
    cases l with
    | nil => cases h4
    | cons v r =>
      cases v with
      | ref g => exact ⟨r, rfl⟩
      | _ => cases h4
/-- a property and its getter's def -/
structure PrP where
  c : Str
  m : Str
  d : He.DefD
/-! ### what else is asked -/
def smB (K : PySem.W.Frag) : Bool := match K.lookup sysModules with
  | some ⟨.type c, _, _, _⟩ => decide (c = "dict")
  | _ => false
theorem smB_ok {K : PySem.W.Frag} (h : smB K = true) : SmOk K := by
  unfold smB at h
  cases q : K.lookup sysModules with
  | none => rw [q] at h; cases h
  | some o =>
    obtain ⟨oc, od, dt, osl⟩ := o
    rw [q] at h
    cases oc with
    | type c => exact ⟨_, q, congrArg Value.type (of_decide_eq_true h)⟩
    | _ => cases h
def fnInB (C m : Str) (K : PySem.W.Frag) : Bool := He.eqO (PySem.W.findIn K (.ref (He.ga K C)) m) (some (some (.ref (He.ma K (He.ga K C) m)))) && PySem.W.fnIn K (He.ma K (He.ga K C) m)
theorem fnInB_ok {K : PySem.W.Frag} {mg : Str → Option Value} {C m : Str} (hC : mg C = some (.ref (He.ga K C))) (h : fnInB C m K = true) : FnIn K mg C m := by
  obtain ⟨h1, h2⟩ := He.ba h
  intro D f hD hf
  rw [hC] at hD
  cases hD
  rw [He.eqO_ok h1] at hf
  cases hf
  exact h2
/-- the default tuple of a class's making -/
abbrev tAd (C : Str) (K : PySem.W.Frag) : Addr := He.dflAt (C, some "__init__") 0 K
theorem dflA_mg {K : PySem.W.Frag} {m m' : Str → Option Value} {c : Str} (h : m c = m' c) : dflA K m c = dflA K m' c := by
  unfold dflA
  rw [h]
def dfB (C : Str) (K : PySem.W.Frag) : Bool := decide (dflA K (fun _ => some (.ref (He.ga K C))) C = some (tAd C K)) && (K.lookup (tAd C K)).isNone
theorem dfB_ok {K : PySem.W.Frag} {mg : Str → Option Value} {C : Str} (hC : mg C = some (.ref (He.ga K C))) (h : dfB C K = true) : dflA K mg C = some (tAd C K) ∧ K.lookup (tAd C K) = none := by
  obtain ⟨h1, h2⟩ := He.ba h
  refine ⟨?_, Option.isNone_iff_eq_none.mp h2⟩
  rw [← of_decide_eq_true h1]
  exact dflA_mg hC
def tupO (n : Nat) (sl : Array (Option Value)) (od : Option Addr) : Obj := ⟨.type "tuple", od, .seq #[] n, sl⟩
def emB : Option Obj → Bool
  | some ⟨.type c, _, .seq its _, _⟩ => decide (c = "tuple") && its.isEmpty
  | _ => false
theorem emB_ok {o : Option Obj} (h : emB o = true) : ∃ n sl od, o = some (tupO n sl od) := by
  cases o with
  | none => cases h
  | some o =>
    obtain ⟨oc, od, dt, osl⟩ := o
    cases oc with
    | type c =>
      cases dt with
      | seq its n =>
        obtain ⟨h1, h2⟩ := He.ba h
        rw [of_decide_eq_true h1, Array.isEmpty_iff.mp h2]
        exact ⟨_, _, _, rfl⟩
      | _ => cases h
    | _ => cases dt <;> cases h
/-! ### the Hook -/
def asP (g : Addr → Option Obj) (n : Nat) : List Addr := sysModules :: ((He.asD g n).filter fun a => !(a == tAd "Part" (He.frG g (He.asD g n))))
abbrev AlP : Type := Bool × He.AlD × List He.FnW
def obsP (n : Nat) (ex : List (PySem.W.Frag → Bool)) (fa : List He.Fa) (fn : List He.DefD) (pr : List PrP) (g : Addr → Option Obj) : AlP :=
  let K := He.frG g (asP g n)
  ((ex.all fun f => f K) && ((pr.all fun p => prB p.c p.m K && okA K (gtAd K p.c p.m) p.d) && (dfB "Part" K && emB (g (tAd "Part" K)))), He.obsD fa fn K, pr.map fun p => fnWa K (gtAd K p.c p.m))
def valP (fn : List He.DefD) (pr : List PrP) : AlP := (true, He.valD fn, pr.map fun p => p.d.val)
structure SaysP (ex : List (PySem.W.Frag → Bool)) (fa : List He.Fa) (fn : List He.DefD) (pr : List PrP) (K : PySem.W.Frag) (h : Heap) : Prop where
  in_ : K.In h
  ex : (ex.all fun f => f K) = true
  d : He.SaysD fa fn K
  p1 : (pr.all fun p => prB p.c p.m K && okA K (gtAd K p.c p.m) p.d) = true
  p2 : (pr.map fun p => fnWa K (gtAd K p.c p.m)) = pr.map fun p => p.d.val
  t1 : dfB "Part" K = true
  t2 : ∃ n sl od, h.get? (tAd "Part" K) = some (tupO n sl od)
theorem SaysP.prop {ex : List (PySem.W.Frag → Bool)} {fa : List He.Fa} {fn : List He.DefD} {pr : List PrP} {K : PySem.W.Frag} {h : Heap} (c : SaysP ex fa fn pr K h) (i : Nat) {p : PrP} (e : pr[i]? = some p := by rfl) :
    PropOf K (He.ga K p.c) p.m (He.ma K (He.ga K p.c) p.m) (gtAd K p.c p.m) ∧ ∃ fd, FunD K p.d.name p.d.qual p.d.params p.d.body p.d.scope (p.d.dvs K) (p.d.kws K) (gtAd K p.c p.m) fd := by
  obtain ⟨h1, h2⟩ := He.ba (List.all_eq_true.mp c.p1 p (List.mem_of_getElem? e))
  refine ⟨prB_ok h1, funDA ?_ h2⟩
  have e2 : (pr.map fun p => fnWa K (gtAd K p.c p.m))[i]? = (pr.map fun p => p.d.val)[i]? := by rw [c.p2]
  rw [List.getElem?_map, List.getElem?_map, e] at e2
  exact Option.some.inj e2
theorem SaysP.x {ex : List (PySem.W.Frag → Bool)} {fa : List He.Fa} {fn : List He.DefD} {pr : List PrP} {K : PySem.W.Frag} {h : Heap} (c : SaysP ex fa fn pr K h) (i : Nat) {f : PySem.W.Frag → Bool} (e : ex[i]? = some f) : f K = true :=
  List.all_eq_true.mp c.ex f (List.mem_of_getElem? e)
theorem saysP_of {n : Nat} {ex : List (PySem.W.Frag → Bool)} {fa : List He.Fa} {fn : List He.DefD} {pr : List PrP} {h : Heap} (e : obsP n ex fa fn pr h.get? = valP fn pr) : SaysP ex fa fn pr (He.frG h.get? (asP h.get? n)) h := by
  have e1 := congrArg (fun z : AlP => z.1) e
  have e2 := congrArg (fun z : AlP => z.2.1) e
  have e3 := congrArg (fun z : AlP => z.2.2) e
  obtain ⟨a1, a2⟩ := He.ba e1
  obtain ⟨a3, a4⟩ := He.ba a2
  obtain ⟨a5, a6⟩ := He.ba a4
  exact ⟨He.frG_in, a1, e2, a3, e3, a5, emB_ok a6⟩
def hookP (n : Nat) (ex : List (PySem.W.Frag → Bool)) (fa : List He.Fa) (fn : List He.DefD) (pr : List PrP) : PySem.W.Hook where
  α := AlP
  obs := fun s => obsP n ex fa fn pr s.heap.get?
  val := fun _ => valP fn pr
  says := fun _ h => ∃ K : PySem.W.Frag, SaysP ex fa fn pr K h
  of := fun _ _ e => ⟨_, saysP_of e⟩
  keeps := fun _ _ _ ⟨K, c⟩ k => ⟨K, PySem.W.Frag.In.keeps c.in_ k, c.ex, c.d, c.p1, c.p2, c.t1, let ⟨n, sl, od, e⟩ := c.t2; ⟨n, sl, od, k _ _ e⟩⟩
def obP (n : Nat) (ex : List (PySem.W.Frag → Bool)) (fa : List He.Fa) (fn : List He.DefD) (pr : List PrP) (s : PySem.W.SharedT) : AlP := obsP n ex fa fn pr (HandSHeadRun.getT s)
theorem obP_eq {n : Nat} {ex : List (PySem.W.Frag → Bool)} {fa : List He.Fa} {fn : List He.DefD} {pr : List PrP} (s : PySem.W.SharedT) : obP n ex fa fn pr s = (hookP n ex fa fn pr).obs s.abs := by
  have e : HandSHeadRun.getT s = s.abs.heap.get? := funext fun a => HandSHeadRun.getT_eq s a
  unfold obP
  rw [e]
  rfl
/-! ### the law's call -/
/-- the heap in which the script and the default tuple are told -/
def scrT (a T : Addr) (vs : List Value) (ns : List Int) (n : Nat) (sl : Array (Option Value)) (od : Option Addr) : Hp := fun b => if b = a then some (.frz (scrO vs) (.lst (ns.map V.int))) else if b = T then some (.frz (tupO n sl od) (.tup [])) else none
section
variable {K : PySem.W.Frag} {mg : Str → Option Value} {a T : Addr} {vs : List Value} {ns : List Int} {n : Nat} {sl : Array (Option Value)} {od : Option Addr}
theorem scrT_at : scrT a T vs ns n sl od a = some (.frz (scrO vs) (.lst (ns.map V.int))) := if_pos rfl
theorem scrT_T (h : T ≠ a) : scrT a T vs ns n sl od T = some (.frz (tupO n sl od) (.tup [])) := by
  unfold scrT
  rw [if_neg h, if_pos rfl]
theorem scrT_ne {b : Addr} (h : b ≠ a) (h2 : b ≠ T) : scrT a T vs ns n sl od b = none := by
  unfold scrT
  rw [if_neg h, if_neg h2]
theorem scrT_spD {sp : SpD} (hT : T ≠ a) (hd : dflA K mg "Part" = some T) (z : ∀ q : D → Hd → Prop, (∀ h', q (.bl true) h') → sp [.ref 0] [.scr (ns.map D.int), .dfl "Part"] q) :
    spD K mg 1 sp [.ref a] (scrT a T vs ns n sl od) (fun v _ => v = .bl true) fun _ _ _ => False := by
  refine ⟨rfl, [.ref 0], [.scr (ns.map D.int), .dfl "Part"], [a, T], fun d _ => d = .bl true, ?_, .cons (.ref rfl) .nil, z _ fun _ => rfl, ?_⟩
  · refine ⟨rfl, fun n m b e1 e2 => ?_, fun n c b e1 e2 => ?_⟩
    · have h1 := (List.getElem?_eq_some_iff.mp e1).1
      have h2 := (List.getElem?_eq_some_iff.mp e2).1
      simp at h1 h2
      have hn : n = 0 ∨ n = 1 := by omega
      have hm : m = 0 ∨ m = 1 := by omega
      rcases hn with rfl | rfl <;> rcases hm with rfl | rfl
      · rfl
      · simp at e1 e2
        exact absurd (e2.trans e1.symm) hT
      · simp at e1 e2
        exact absurd (e1.trans e2.symm) hT
      · rfl
    · have h1 := (List.getElem?_eq_some_iff.mp e1).1
      have h0 : n = 0 ∨ n = 1 := by
        simp at h1
        omega
      rcases h0 with rfl | rfl
      · simp at e1 e2
        subst e1; subst e2
        exact ⟨_, _, scrT_at, rds_ints ns⟩
      · simp at e1 e2
        subst e1; subst e2
        exact ⟨⟨_, scrT_T hT⟩, hd⟩
  · intro d h' hd v io' H' x rh r
    subst hd
    cases r
    rfl
theorem law_callP {P : Program} {w : World} {K : PySem.W.Frag} {mg mb : Str → Option Value} {k : Nat} {fa a T : Addr} {fd : FuncData} {x : Str} {sp : SpD} {s1 : Shared} {vs : List Value} {ns : List Int}
    (KX : K.In s1.heap) (hns : s1.heap.Ns mainGlobals mg) (hb : s1.heap.Ns builtinsNs mb) (hbb : ∀ x : Str, x ≠ "__name__" → mb x = bootBuiltins x) (hlim : s1.heap.NoLimit) (hg : s1.gens = #[])
    (ha : s1.heap.get? a = some (scrO vs)) (hi : IntsAre vs ns) (hl : ns.length ≤ sizeLine) (hr : Room k callerA) (hgd : callerA.guards = some [])
    (F : ∀ base : Heap, FnG P w K mg base CX0 k fa fd [x] (spD K mg 1 sp)) (hbind : ∀ (s : Shared) (u : Value), BindsTo s fd ⟨[u], []⟩ [(x, u)]) (hnl : (K.all fun p => !isListC p) = true)
    (hT : ∃ n sl od, s1.heap.get? T = some (tupO n sl od)) (hd : dflA K mg "Part" = some T) (hK : K.lookup T = none)
    (z : ∀ q : D → Hd → Prop, (∀ h', q (.bl true) h') → sp [.ref 0] [.scr (ns.map D.int), .dfl "Part"] q) :
    codeAny (model P w) callerA (.call (.ref fa) ⟨[.ref a], []⟩) (fun r s' => r = .ok (.ret (.bool true)) ∧ OldK s1.heap s'.heap ∧ s'.os = s1.os ∧ AllBare s'.gens) s1 := by
  have rv := vals_ints hi
  obtain ⟨n, sl, od, hT⟩ := hT
  have neT : T ≠ a := fun e => by
    rw [e, ha] at hT
    have e2 := congrArg (fun o : Option Obj => o.map (·.cls)) hT
    have e3 : Value.type "list" = Value.type "tuple" := Option.some.inj e2
    injection e3 with e4
    exact absurd e4 (by decide)
  let H := scrT a T vs ns n sl od
  have old : ∀ {b : Addr} {o : Obj}, s1.heap.get? b = some o → b ≠ a → b ≠ T → (hidT s1.heap H).get? b = some o := fun e n n2 => hidT_get e (scrT_ne n n2)
  have neD : ∀ {b : Addr} {o : Obj} {es : Array DictEntry} {ep : Nat}, s1.heap.get? b = some o → o.data = .dict es ep → b ≠ a := by
    intro b o es ep e d h
    subst h
    rw [ha] at e
    cases e
    have d2 : Data.seq vs.toArray _ = Data.dict es ep := d
    cases d2
  have neD2 : ∀ {b : Addr} {o : Obj} {es : Array DictEntry} {ep : Nat}, s1.heap.get? b = some o → o.data = .dict es ep → b ≠ T := by
    intro b o es ep e d h
    subst h
    rw [hT] at e
    cases e
    have d2 : Data.seq #[] n = Data.dict es ep := d
    cases d2
  have nsO : ∀ {b : Addr} {m : Str → Option Value}, s1.heap.Ns b m → (hidT s1.heap H).Ns b m := by
    rintro b m ⟨o, es, ep, e, d, r⟩
    exact ⟨o, es, ep, old e (neD e d) (neD2 e d), d, r⟩
  have inO : K.In (hidT s1.heap H) := by
    intro b o e
    have e1 := KX b o e
    refine old e1 (fun h => ?_) (fun h => ?_)
    · subst h
      rw [ha] at e1
      cases e1
      exact notIn hnl rfl e
    · subst h
      rw [hK] at e
      cases e
  obtain ⟨mc, l1, l2⟩ := hlim
  have mo : Mod K mg (hidT s1.heap H) := ⟨inO, nsO hns, ⟨mb, nsO hb, hbb⟩, ⟨mc, nsO l1, l2⟩⟩
  have hok : HOk P w H s1.heap := by
    intro b u e
    by_cases h : b = a
    · subst h
      have e2 := scrT_at.symm.trans e
      cases e2
      exact ⟨ha, by rw [List.length_map]; exact hl, vs, _, rv, ha⟩
    · by_cases h2 : b = T
      · subst h2
        have e2 := (scrT_T h).symm.trans e
        cases e2
        exact ⟨hT, Nat.zero_le _, [], .nil, _, hT, rfl, n, rfl⟩
      · have e2 := (scrT_ne h h2).symm.trans e
        cases e2
  have nil : ∀ {b : Addr}, b ∈ ([] : List Addr) → False := fun h => by cases h
  have e0 : Env0 P w K mg (hidT s1.heap H) callerA [] s1 H := ⟨rfl, mo, fun b o e => of_hidT e, Nat.le_of_eq (hidT_size _ _), trivial, fun b h => (nil h).elim, hok, .of_eq hg⟩
  have run := (F (hidT s1.heap H)).run callerA [] s1 H ⟨[.ref a], []⟩ [.ref a] [.ref a] _ _ hr hgd e0 (hbind s1 (.ref a)) (.cons rfl .nil) (scrT_spD neT hd z)
  refine codeAny_mono run fun r s2 h => ?_
  cases r with
  | error e => exact h.elim
  | ok fl =>
    cases fl with
    | next => exact h.elim
    | brk => exact h.elim
    | cont => exact h.elim
    | ret u =>
      obtain ⟨v, H2, os, bare, un, hok2, r2, q⟩ := h
      obtain rfl : v = .bl true := q
      obtain rfl : u = Value.bool true := r2
      refine ⟨rfl, OldK.of_keep fun b o e => ?_, os, bare⟩
      by_cases h : b = a
      · subst h
        obtain ⟨e1, _⟩ := hok2 b _ (un.frzs b _ _ scrT_at)
        rw [ha] at e
        cases e
        exact e1
      · by_cases h2 : b = T
        · subst h2
          obtain ⟨e1, _⟩ := hok2 b _ (un.frzs b _ _ (scrT_T h))
          rw [hT] at e
          cases e
          exact e1
        · exact un.keep b o e (scrT_ne h h2) (fun z => (nil z).elim) (by simp)
end
end MP

set_option Elab.async false
set_option linter.all false
set_option maxRecDepth 100000
set_option maxHeartbeats 2000000
/-! K02W: the readings of the defs (printed by k02gen.py). -/
namespace K02
open PySem PySem.Spec
open PyProof.Rows hiding St
open L2 MP
abbrev P2 : Program := PySem.Challenge.pw_whatparts_k02_whole_parts_by_their_words
def top (i : Nat) : Stmt := P2.main.body.getD i (.Pass ⟨0, 0, 0, 0⟩)
def cls (i j : Nat) : Stmt := match top i with
  | .ClassDef _ _ _ b _ _ _ _ _ _ _ => b.getD j (.Pass ⟨0, 0, 0, 0⟩)
  | _ => .Pass ⟨0, 0, 0, 0⟩
def tabB (c : String) (T : TyN) : Option Bool := match T with
  | .inl n => kitB n c
  | .inr c => if c = "Part" then some false else none
def tabStr : TyN → Option Bool := tabB "str"
def tabInt : TyN → Option Bool := tabB "int"
def tabBool : TyN → Option Bool := tabB "bool"
def tabTuple : TyN → Option Bool := tabB "tuple"
def tabDict : TyN → Option Bool := tabB "dict"
def tabRows : TyN → Option Bool
  | .inl "tuple" => some false
  | _ => none
def tabPart : TyN → Option Bool
  | .inr "Part" => some true
  | .inl "str" => some false
  | .inl "tuple" => some false
  | _ => none
theorem b_str : bootBuiltins "str" = some (.type "str") := by decide +kernel
theorem b_int : bootBuiltins "int" = some (.type "int") := by decide +kernel
theorem b_bool : bootBuiltins "bool" = some (.type "bool") := by decide +kernel
theorem b_tuple : bootBuiltins "tuple" = some (.type "tuple") := by decide +kernel
theorem b_dict : bootBuiltins "dict" = some (.type "dict") := by decide +kernel
section
variable {P : Program} {w : World} {K : PySem.W.Frag} {mg : Str → Option Value} {base : Heap} {f : Addr} {cd : Value} {A : Around} {outer : List Env} {s : Shared} {H : Hp} {E : XK} {pn : List (Addr × Obj)}
/-! is_name -/
abbrev N_is_name : List Str := ["value", "letter"]
abbrev P_is_name : List Str := ["value"]
def w_is_name : WS := (wSeq (wIfS (wOr (wNot (wTru (wIsi tabStr (wSlot 0)))) (wNot (wBl (wChain oLe oLe (wC (.int 1)) (wCB cLen (wCons (wSlot 0) wNil)) (wC (.int 8)))))) (wRet (wC (.bl false))) wNext)
    (wRet (wCB cAll (wCons (wLc (wOver (wSlot 0) fStr) (wNm 1) wYes (wChain oLe oLe (wC (.str "a")) (wSlot 1) (wC (.str "z"))) [1]) wNil))))
theorem nd_is_name : N_is_name.Nodup := by decide +kernel
theorem l_is_name (hr : Room 0 (cxD P2 w K mg base N_is_name "is_name" (defScope (top 11)) f cd A outer s H E).A) (hgd : (cxD P2 w K mg base N_is_name "is_name" (defScope (top 11)) f cd A outer s H E).A.guards = some []) (g_len : mg "len" = none) (g_isinstance : mg "isinstance" = none) (g_str : mg "str" = none) (g_all : mg "all" = none) {tk_MAX_LETTERS : Tok} (m_MAX_LETTERS : mg "MAX_LETTERS" = some (.int 8 tk_MAX_LETTERS)) (t_str : IsTab K mg (.type "str") tabStr) :
    LSs (cxD P2 w K mg base N_is_name "is_name" (defScope (top 11)) f cd A outer s H E) (defBody (top 11)) (w_is_name) := by
  have nd := nd_is_name
  exact (lss_cons (ls_if (lt_w (lw_or (lt_not (lt_val (le_isi t_str (by rfl) g_isinstance boot_isinstance (pe_bltn (v := .ty "str") (by rfl) g_str b_str rfl) (.ty _) (sl_ 0)) (by intro _; rfl))) (lw_or1 (lt_not (lt_chain ol_le ol_le le_int (le_callB cl_len (by rfl) g_len boot_len (la_cons (sl_ 0) la_nil)) (le_glob (d := .int 8) rfl (by rfl) m_MAX_LETTERS ⟨_, rfl⟩)))))) (lss_one (ls_ret le_bl)) lss_nil)
    (lss_one (ls_ret (le_callB (cl_all rfl) (by rfl) g_all boot_all (la_cons (le_lc rfl nd (li_str (sl_ 0)) (blkOk_by (own := [("letter", 1)]) (by kernel_rfl)) (fun _ _ _ _ _ => (go_ 1 nd)) (fun _ _ _ _ _ => lts_nil) (fun _ _ _ _ _ => (le_chain ol_le ol_le le_str (sl_ 1) le_str))) la_nil)))))

/-! is_ascending -/
abbrev N_is_ascending : List Str := ["items", "one", "other"]
abbrev P_is_ascending : List Str := ["items"]
def w_is_ascending : WS := (wRet (wCB cAll (wCons (wLc (wZip (wCons (wSlot 0) (wCons (wSlice (wSlot 0) (wPart (wC (.int 1))) wNoPart) wNil))) (wGT 2 (wG1 (wNm 1) (wG1 (wNm 2) wG0))) wYes (wBin oLt (wSlot 1) (wSlot 2)) [1, 2]) wNil)))
theorem nd_is_ascending : N_is_ascending.Nodup := by decide +kernel
theorem l_is_ascending (hr : Room 0 (cxD P2 w K mg base N_is_ascending "is_ascending" (defScope (top 12)) f cd A outer s H E).A) (hgd : (cxD P2 w K mg base N_is_ascending "is_ascending" (defScope (top 12)) f cd A outer s H E).A.guards = some []) (g_all : mg "all" = none) (g_zip : mg "zip" = none) :
    LSs (cxD P2 w K mg base N_is_ascending "is_ascending" (defScope (top 12)) f cd A outer s H E) (defBody (top 12)) (w_is_ascending) := by
  have nd := nd_is_ascending
  exact (lss_one (ls_ret (le_callB (cl_all rfl) (by rfl) g_all boot_all (la_cons (le_lc rfl nd (li_zip (by rfl) g_zip (la_cons (sl_ 0) (la_cons (le_slice (sl_ 0) (lo_some le_int) lo_none) la_nil))) (blkOk_by (own := [("one", 1), ("other", 2)]) (by kernel_rfl)) (fun _ _ _ _ _ => (lo_tup rfl (los_cons (go_ 1 nd) (los_cons (go_ 2 nd) los_nil)))) (fun _ _ _ _ _ => lts_nil) (fun _ _ _ _ _ => (le_cmp ol_lt (sl_ 1) (sl_ 2) (nomark _)))) la_nil))))

/-! is_index -/
abbrev N_is_index : List Str := ["value", "total"]
abbrev P_is_index : List Str := ["value", "total"]
def w_is_index : WS := (wRet (wAndV (wIsi tabInt (wSlot 0)) (wAndV (wNotV (wIsi tabBool (wSlot 0))) (wChain oLe oLt (wC (.int 0)) (wSlot 0) (wSlot 1)))))
theorem nd_is_index : N_is_index.Nodup := by decide +kernel
theorem l_is_index (hr : Room 0 (cxD P2 w K mg base N_is_index "is_index" (defScope (top 13)) f cd A outer s H E).A) (g_isinstance : mg "isinstance" = none) (g_bool : mg "bool" = none) (g_int : mg "int" = none) (t_bool : IsTab K mg (.type "bool") tabBool) (t_int : IsTab K mg (.type "int") tabInt) :
    LSs (cxD P2 w K mg base N_is_index "is_index" (defScope (top 13)) f cd A outer s H E) (defBody (top 13)) (w_is_index) := by
  have nd := nd_is_index
  exact (lss_one (ls_ret (le_and (le_isi t_int (by rfl) g_isinstance boot_isinstance (pe_bltn (v := .ty "int") (by rfl) g_int b_int rfl) (.ty _) (sl_ 0)) (le_and (le_not (le_isi t_bool (by rfl) g_isinstance boot_isinstance (pe_bltn (v := .ty "bool") (by rfl) g_bool b_bool rfl) (.ty _) (sl_ 0))) (le_one (le_chain ol_le ol_lt le_int (sl_ 0) (sl_ 1)))))))

/-! is_word -/
abbrev N_is_word : List Str := ["value", "name"]
abbrev P_is_word : List Str := ["value"]
def w_is_word (s_is_name : SpD) : WS := (wRet (wAndV (wIsi tabTuple (wSlot 0)) (wCB cAll (wCons (wLc (wOver (wSlot 0) fTup) (wNm 1) wYes (wCall s_is_name (wCons (wSlot 1) wNil)) [1]) wNil))))
theorem nd_is_word : N_is_word.Nodup := by decide +kernel
theorem l_is_word {s_is_name : SpD} (hr : Room 1 (cxD P2 w K mg base N_is_word "is_word" (defScope (top 14)) f cd A outer s H E).A) (hgd : (cxD P2 w K mg base N_is_word "is_word" (defScope (top 14)) f cd A outer s H E).A.guards = some []) (g_all : mg "all" = none) (g_isinstance : mg "isinstance" = none) (g_tuple : mg "tuple" = none) (t_tuple : IsTab K mg (.type "tuple") tabTuple) (F_is_name : FnD P2 w K mg base 1 "is_name" 1 s_is_name) :
    LSs (cxD P2 w K mg base N_is_word "is_word" (defScope (top 14)) f cd A outer s H E) (defBody (top 14)) (w_is_word s_is_name) := by
  have nd := nd_is_word
  exact (lss_one (ls_ret (le_and (le_isi t_tuple (by rfl) g_isinstance boot_isinstance (pe_bltn (v := .ty "tuple") (by rfl) g_tuple b_tuple rfl) (.ty _) (sl_ 0)) (le_one (le_callB (cl_all rfl) (by rfl) g_all boot_all (la_cons (le_lc rfl nd (li_tup (sl_ 0)) (blkOk_by (own := [("name", 1)]) (by kernel_rfl)) (fun _ _ _ _ _ => (go_ 1 nd)) (fun _ _ _ _ _ => lts_nil) (fun _ _ _ _ _ => (le_call F_is_name hr (by decide) hgd (by rfl) (la_cons (sl_ 1) la_nil)))) la_nil))))))

/-! require_word -/
abbrev N_require_word : List Str := ["value"]
abbrev P_require_word : List Str := ["value"]
def w_require_word (s_is_word : SpD) : WS := (wIfS (wNot (wTru (wCall s_is_word (wCons (wSlot 0) wNil)))) wNever wNext)
theorem nd_require_word : N_require_word.Nodup := by decide +kernel
theorem l_require_word {s_is_word : SpD} (hr : Room 2 (cxD P2 w K mg base N_require_word "require_word" (defScope (top 15)) f cd A outer s H E).A) (hgd : (cxD P2 w K mg base N_require_word "require_word" (defScope (top 15)) f cd A outer s H E).A.guards = some []) (F_is_word : FnD P2 w K mg base 2 "is_word" 1 s_is_word) :
    LSs (cxD P2 w K mg base N_require_word "require_word" (defScope (top 15)) f cd A outer s H E) (defBody (top 15)) (w_require_word s_is_word) := by
  have nd := nd_require_word
  exact (lss_one (ls_if (lt_not (lt_val (le_call F_is_word hr (by decide) hgd (by rfl) (la_cons (sl_ 0) la_nil)) (by intro _; rfl))) (lss_one ls_never) lss_nil))

/-! require_most -/
abbrev N_require_most : List Str := ["value"]
abbrev P_require_most : List Str := ["value"]
def w_require_most (s_is_index : SpD) : WS := (wIfS (wNot (wTru (wCall s_is_index (wCons (wSlot 0) (wCons (wBin oAdd (wC (.int 6)) (wC (.int 1))) wNil))))) wNever wNext)
theorem nd_require_most : N_require_most.Nodup := by decide +kernel
theorem l_require_most {s_is_index : SpD} (hr : Room 1 (cxD P2 w K mg base N_require_most "require_most" (defScope (top 16)) f cd A outer s H E).A) {tk_MAX_WORD : Tok} (m_MAX_WORD : mg "MAX_WORD" = some (.int 6 tk_MAX_WORD)) (F_is_index : FnE P2 w K mg base 1 "is_index" 2 s_is_index) :
    LSs (cxD P2 w K mg base N_require_most "require_most" (defScope (top 16)) f cd A outer s H E) (defBody (top 16)) (w_require_most s_is_index) := by
  have nd := nd_require_most
  exact (lss_one (ls_if (lt_not (lt_val (le_callE F_is_index hr (by decide) (by rfl) (la_cons (sl_ 0) (la_cons (le_bin ol_add (le_glob (d := .int 6) rfl (by rfl) m_MAX_WORD ⟨_, rfl⟩) le_int) la_nil))) (by intro _; rfl))) (lss_one ls_never) lss_nil))

/-! actions_in -/
abbrev N_actions_in : List Str := ["steps", "found", "row", "action"]
abbrev P_actions_in : List Str := ["steps"]
def w_actions_in : WS := (wSeq (wAsg (wDc2 (wOver (wSlot 0) fTup) (wNm 2) wYes (wOverD (wSlot 2) (fDct (fun _ => True) itKeys)) (wNm 3) wYes (wSlot 3) (wC (.bl true)) [2, 3] [3]) (wNm 1))
    (wRet (wCB cTuple (wCons (wCB cSorted (wCons (wCB cList (wCons (wSlot 1) wNil)) wNil)) wNil))))
theorem nd_actions_in : N_actions_in.Nodup := by decide +kernel
theorem l_actions_in (hr : Room 0 (cxD P2 w K mg base N_actions_in "actions_in" (defScope (top 19)) f cd A outer s H E).A) (hgd : (cxD P2 w K mg base N_actions_in "actions_in" (defScope (top 19)) f cd A outer s H E).A.guards = some []) (g_tuple : mg "tuple" = none) (g_sorted : mg "sorted" = none) (g_list : mg "list" = none) :
    LSs (cxD P2 w K mg base N_actions_in "actions_in" (defScope (top 19)) f cd A outer s H E) (defBody (top 19)) (w_actions_in) := by
  have nd := nd_actions_in
  exact (lss_cons (ls_setDc2 (i := 1) rfl nd rfl rfl (sw_trueD rfl rfl rfl rfl) (li_tup (sl_ 0)) (blkOk_by (own := [("row", 2), ("action", 3)]) (by kernel_rfl)) (by decide) (fun _ _ _ _ _ => (go_ 2 nd)) (fun _ _ _ _ _ => lts_nil) (fun _ _ _ _ _ => (li_keys (sl_ 2))) (fun _ _ _ _ _ => (go_ 3 nd)) (fun _ _ _ _ _ => lts_nil) (fun _ _ _ _ _ => (sl_ 3)) (fun _ _ _ _ _ => le_bl))
    (lss_one (ls_ret (le_callT cl_tuple (by rfl) g_tuple boot_tuple (la_cons (le_callB (cl_sorted rfl) (by rfl) g_sorted boot_sorted (la_cons (le_callT (cl_list rfl) (by rfl) g_list boot_list (la_cons (sl_ 1) la_nil)) la_nil)) la_nil)))))

/-! are_rows -/
abbrev N_are_rows : List Str := ["value", "keys", "targets", "row", "action", "state"]
abbrev P_are_rows : List Str := ["value"]
def w_are_rows (s_is_index s_is_name : SpD) : WS := (wSeq (wIfS (wOr (wNot (wTru (wIsi tabTuple (wSlot 0)))) (wNot (wBl (wChain oLe oLe (wC (.int 1)) (wCB cLen (wCons (wSlot 0) wNil)) (wC (.int 8)))))) (wRet (wC (.bl false))) wNext)
    (wSeq (wIfS (wNot (wTru (wCB cAll (wCons (wLc (wOver (wSlot 0) fTup) (wNm 3) wYes (wIsi tabDict (wSlot 3)) [3]) wNil)))) (wRet (wC (.bl false))) wNext)
    (wSeq (wAsg (wLc2 (wOver (wSlot 0) fTup) (wNm 3) wYes (wOverD (wSlot 3) (fDct (fun _ => True) itKeys)) (wNm 4) wYes (wSlot 4) [3, 4] [4]) (wNm 1))
    (wSeq (wAsg (wLc2 (wOver (wSlot 0) fTup) (wNm 3) wYes (wOverD (wSlot 3) (fDct (· = false) itVals)) (wNm 5) wYes (wSlot 5) [3, 5] [5]) (wNm 2))
    (wRet (wAndV (wCB cAll (wCons (wLc (wOver (wSlot 1) fLst) (wNm 4) wYes (wCall s_is_name (wCons (wSlot 4) wNil)) [4]) wNil)) (wCB cAll (wCons (wLc (wOver (wSlot 2) fLst) (wNm 5) wYes (wCall s_is_index (wCons (wSlot 5) (wCons (wCB cLen (wCons (wSlot 0) wNil)) wNil))) [5]) wNil))))))))
theorem nd_are_rows : N_are_rows.Nodup := by decide +kernel
theorem l_are_rows {s_is_index s_is_name : SpD} (hr : Room 1 (cxD P2 w K mg base N_are_rows "are_rows" (defScope (top 20)) f cd A outer s H E).A) (hgd : (cxD P2 w K mg base N_are_rows "are_rows" (defScope (top 20)) f cd A outer s H E).A.guards = some []) (g_len : mg "len" = none) (g_isinstance : mg "isinstance" = none) (g_tuple : mg "tuple" = none) (g_all : mg "all" = none) (g_dict : mg "dict" = none) {tk_MAX_STATES : Tok} (m_MAX_STATES : mg "MAX_STATES" = some (.int 8 tk_MAX_STATES)) (t_tuple : IsTab K mg (.type "tuple") tabTuple) (t_dict : IsTab K mg (.type "dict") tabDict) (F_is_index : FnD P2 w K mg base 1 "is_index" 2 s_is_index) (F_is_name : FnD P2 w K mg base 1 "is_name" 1 s_is_name) :
    LSs (cxD P2 w K mg base N_are_rows "are_rows" (defScope (top 20)) f cd A outer s H E) (defBody (top 20)) (w_are_rows s_is_index s_is_name) := by
  have nd := nd_are_rows
  exact (lss_cons (ls_if (lt_w (lw_or (lt_not (lt_val (le_isi t_tuple (by rfl) g_isinstance boot_isinstance (pe_bltn (v := .ty "tuple") (by rfl) g_tuple b_tuple rfl) (.ty _) (sl_ 0)) (by intro _; rfl))) (lw_or1 (lt_not (lt_chain ol_le ol_le le_int (le_callB cl_len (by rfl) g_len boot_len (la_cons (sl_ 0) la_nil)) (le_glob (d := .int 8) rfl (by rfl) m_MAX_STATES ⟨_, rfl⟩)))))) (lss_one (ls_ret le_bl)) lss_nil)
    (lss_cons (ls_if (lt_not (lt_val (le_callB (cl_all rfl) (by rfl) g_all boot_all (la_cons (le_lc rfl nd (li_tup (sl_ 0)) (blkOk_by (own := [("row", 3)]) (by kernel_rfl)) (fun _ _ _ _ _ => (go_ 3 nd)) (fun _ _ _ _ _ => lts_nil) (fun _ _ _ _ _ => (le_isi t_dict (by rfl) g_isinstance boot_isinstance (pe_bltn (v := .ty "dict") (by rfl) g_dict b_dict rfl) (.ty _) (sl_ 3)))) la_nil)) (by intro _; rfl))) (lss_one (ls_ret le_bl)) lss_nil)
    (lss_cons (ls_setLc2 (i := 1) rfl nd rfl rfl (sw_true rfl rfl rfl rfl) (li_tup (sl_ 0)) (blkOk_by (own := [("row", 3), ("action", 4)]) (by kernel_rfl)) (by decide) (fun _ _ _ _ _ => (go_ 3 nd)) (fun _ _ _ _ _ => lts_nil) (fun _ _ _ _ _ => (li_keys (sl_ 3))) (fun _ _ _ _ _ => (go_ 4 nd)) (fun _ _ _ _ _ => lts_nil) (fun _ _ _ _ _ => (sl_ 4)))
    (lss_cons (ls_setLc2 (i := 2) rfl nd rfl rfl (sw_true rfl rfl rfl rfl) (li_tup (sl_ 0)) (blkOk_by (own := [("row", 3), ("state", 5)]) (by kernel_rfl)) (by decide) (fun _ _ _ _ _ => (go_ 3 nd)) (fun _ _ _ _ _ => lts_nil) (fun _ _ _ _ _ => (li_vals (sl_ 3))) (fun _ _ _ _ _ => (go_ 5 nd)) (fun _ _ _ _ _ => lts_nil) (fun _ _ _ _ _ => (sl_ 5)))
    (lss_one (ls_ret (le_and (le_callB (cl_all rfl) (by rfl) g_all boot_all (la_cons (le_lc rfl nd (li_lst (sl_ 1)) (blkOk_by (own := [("action", 4)]) (by kernel_rfl)) (fun _ _ _ _ _ => (go_ 4 nd)) (fun _ _ _ _ _ => lts_nil) (fun _ _ _ _ _ => (le_call F_is_name hr (by decide) hgd (by rfl) (la_cons (sl_ 4) la_nil)))) la_nil)) (le_one (le_callB (cl_all rfl) (by rfl) g_all boot_all (la_cons (le_lc rfl nd (li_lst (sl_ 2)) (blkOk_by (own := [("state", 5)]) (by kernel_rfl)) (fun _ _ _ _ _ => (go_ 5 nd)) (fun _ _ _ _ _ => lts_nil) (fun _ _ _ _ _ => (le_call F_is_index hr (by decide) hgd (by rfl) (la_cons (sl_ 5) (la_cons (le_callB cl_len (by rfl) g_len boot_len (la_cons (sl_ 0) la_nil)) la_nil))))) la_nil))))))))))

/-! is_rests -/
abbrev N_is_rests : List Str := ["value", "total", "state"]
abbrev P_is_rests : List Str := ["value", "total"]
def w_is_rests (s_is_index s_is_ascending : SpD) : WS := (wSeq (wIfS (wOr (wNot (wTru (wIsi tabTuple (wSlot 0)))) (wNot (wTru (wCB cAll (wCons (wLc (wOver (wSlot 0) fTup) (wNm 2) wYes (wCall s_is_index (wCons (wSlot 2) (wCons (wSlot 1) wNil))) [2]) wNil))))) (wRet (wC (.bl false))) wNext)
    (wRet (wCall s_is_ascending (wCons (wSlot 0) wNil))))
theorem nd_is_rests : N_is_rests.Nodup := by decide +kernel
theorem l_is_rests {s_is_index s_is_ascending : SpD} (hr : Room 1 (cxD P2 w K mg base N_is_rests "is_rests" (defScope (top 21)) f cd A outer s H E).A) (hgd : (cxD P2 w K mg base N_is_rests "is_rests" (defScope (top 21)) f cd A outer s H E).A.guards = some []) (g_all : mg "all" = none) (g_isinstance : mg "isinstance" = none) (g_tuple : mg "tuple" = none) (t_tuple : IsTab K mg (.type "tuple") tabTuple) (F_is_index : FnD P2 w K mg base 1 "is_index" 2 s_is_index) (F_is_ascending : FnD P2 w K mg base 1 "is_ascending" 1 s_is_ascending) :
    LSs (cxD P2 w K mg base N_is_rests "is_rests" (defScope (top 21)) f cd A outer s H E) (defBody (top 21)) (w_is_rests s_is_index s_is_ascending) := by
  have nd := nd_is_rests
  exact (lss_cons (ls_if (lt_w (lw_or (lt_not (lt_val (le_isi t_tuple (by rfl) g_isinstance boot_isinstance (pe_bltn (v := .ty "tuple") (by rfl) g_tuple b_tuple rfl) (.ty _) (sl_ 0)) (by intro _; rfl))) (lw_or1 (lt_not (lt_val (le_callB (cl_all rfl) (by rfl) g_all boot_all (la_cons (le_lc rfl nd (li_tup (sl_ 0)) (blkOk_by (own := [("state", 2)]) (by kernel_rfl)) (fun _ _ _ _ _ => (go_ 2 nd)) (fun _ _ _ _ _ => lts_nil) (fun _ _ _ _ _ => (le_call F_is_index hr (by decide) hgd (by rfl) (la_cons (sl_ 2) (la_cons (sl_ 1) la_nil))))) la_nil)) (by intro _; rfl)))))) (lss_one (ls_ret le_bl)) lss_nil)
    (lss_one (ls_ret (le_call F_is_ascending hr (by decide) hgd (by rfl) (la_cons (sl_ 0) la_nil)))))

/-! sorted_rows -/
abbrev N_sorted_rows : List Str := ["steps", "row", "action"]
abbrev P_sorted_rows : List Str := ["steps"]
def w_sorted_rows : WS := (wRet (wCB cTuple (wCons (wLc (wOver (wSlot 0) fTup) (wNm 1) wYes (wDc (wOver (wCB cSorted (wCons (wCB cList (wCons (wSlot 1) wNil)) wNil)) fLst) (wNm 2) wYes (wSlot 2) (wBin oIx (wSlot 1) (wSlot 2)) [2]) [1]) wNil)))
theorem nd_sorted_rows : N_sorted_rows.Nodup := by decide +kernel
theorem l_sorted_rows (hr : Room 0 (cxD P2 w K mg base N_sorted_rows "sorted_rows" (defScope (top 22)) f cd A outer s H E).A) (hgd : (cxD P2 w K mg base N_sorted_rows "sorted_rows" (defScope (top 22)) f cd A outer s H E).A.guards = some []) (g_tuple : mg "tuple" = none) (g_sorted : mg "sorted" = none) (g_list : mg "list" = none) :
    LSs (cxD P2 w K mg base N_sorted_rows "sorted_rows" (defScope (top 22)) f cd A outer s H E) (defBody (top 22)) (w_sorted_rows) := by
  have nd := nd_sorted_rows
  exact (lss_one (ls_ret (le_callT cl_tuple (by rfl) g_tuple boot_tuple (la_cons (le_lc rfl nd (li_tup (sl_ 0)) (blkOk_by (own := [("row", 1)]) (by kernel_rfl)) (fun _ _ _ _ _ => (go_ 1 nd)) (fun _ _ _ _ _ => lts_nil) (fun _ _ _ _ _ => (le_dc rfl nd (li_lst (le_callB (cl_sorted rfl) (by rfl) g_sorted boot_sorted (la_cons (le_callT (cl_list rfl) (by rfl) g_list boot_list (la_cons (sl_ 1) la_nil)) la_nil))) (blkOk_by (own := [("action", 2)]) (by kernel_rfl)) (fun _ _ _ _ _ => (go_ 2 nd)) (fun _ _ _ _ _ => lts_nil) (fun _ _ _ _ _ => (sl_ 2)) (fun _ _ _ _ _ => (le_ix hr (sl_ 1) (sl_ 2) (fun _ _ => rfl)))))) la_nil))))

/-! next_state -/
abbrev N_next_state : List Str := ["part", "state", "action"]
abbrev P_next_state : List Str := ["part", "state", "action"]
def w_next_state : WS := (wRet (wIf (wBl (wBin (oIs false) (wSlot 1) (wC .non))) (wC .non) (wGet2 (wBin oIx (wFld ["Part", "Rows"] "own_steps" (wSlot 0)) (wSlot 1)) (wSlot 2) (wC .non))))
theorem nd_next_state : N_next_state.Nodup := by decide +kernel
theorem l_next_state (hr : Room 0 (cxD P2 w K mg base N_next_state "next_state" (defScope (top 27)) f cd A outer s H E).A) (hgd : (cxD P2 w K mg base N_next_state "next_state" (defScope (top 27)) f cd A outer s H E).A.guards = some []) (T_own_steps : ∀ x ∈ (["Part", "Rows"] : List Str), Fl K mg x "own_steps") :
    LSs (cxD P2 w K mg base N_next_state "next_state" (defScope (top 27)) f cd A outer s H E) (defBody (top 27)) (w_next_state) := by
  have nd := nd_next_state
  exact (lss_one (ls_ret (le_if (lt_cmp (ol_is false) (sl_ 1) le_non (nomark _)) le_non (le_get2 hr (le_ix hr (le_fld T_own_steps (sl_ 0) rfl) (sl_ 1) (fun _ _ => rfl)) (sl_ 2) le_non ⟨rfl, rfl, rfl, rfl⟩))))

/-! Rows_init -/
abbrev N_Rows_init : List Str := ["self", "steps", "rests"]
abbrev P_Rows_init : List Str := ["self", "steps", "rests"]
def w_Rows_init (s_sorted_rows : SpD) : WS := (wSeq (wFldS ["Part", "Rows"] "own_steps" (wSlot 0) (wCall s_sorted_rows (wCons (wSlot 1) wNil)))
    (wFldS ["Part", "Rows"] "own_rests" (wSlot 0) (wCB cTuple (wCons (wSortedSet (wSlot 2)) wNil))))
theorem nd_Rows_init : N_Rows_init.Nodup := by decide +kernel
theorem l_Rows_init {s_sorted_rows : SpD} (hr : Room 1 (cxD P2 w K mg base N_Rows_init "Rows.__init__" (defScope (cls 32 0)) f cd A outer s H E).A) (hgd : (cxD P2 w K mg base N_Rows_init "Rows.__init__" (defScope (cls 32 0)) f cd A outer s H E).A.guards = some []) (g_tuple : mg "tuple" = none) (g_sorted : mg "sorted" = none) (g_set : mg "set" = none) (T_own_steps : ∀ x ∈ (["Part", "Rows"] : List Str), Fl K mg x "own_steps") (T_own_rests : ∀ x ∈ (["Part", "Rows"] : List Str), Fl K mg x "own_rests") (F_sorted_rows : FnD P2 w K mg base 1 "sorted_rows" 1 s_sorted_rows) :
    LSs (cxD P2 w K mg base N_Rows_init "Rows.__init__" (defScope (cls 32 0)) f cd A outer s H E) (defBody (cls 32 0)) (w_Rows_init s_sorted_rows) := by
  have nd := nd_Rows_init
  exact (lss_cons (ls_fld T_own_steps (sl_ 0) (le_call F_sorted_rows hr (by decide) hgd (by rfl) (la_cons (sl_ 1) la_nil)) rfl)
    (lss_one (ls_fld T_own_rests (sl_ 0) (le_callT cl_tuple (by rfl) g_tuple boot_tuple (la_cons (le_sortedSet rfl (by rfl) g_sorted (by rfl) g_set (sl_ 2)) la_nil)) rfl)))

/-! checked_rows -/
abbrev N_checked_rows : List Str := ["steps", "rests"]
abbrev P_checked_rows : List Str := ["steps", "rests"]
def w_checked_rows (s_actions_in s_are_rows s_is_rests s_Rows : SpD) : WS := (wSeq (wIfS (wOr (wNot (wTru (wCall s_are_rows (wCons (wSlot 0) wNil)))) (wBl (wBin oGt (wCB cLen (wCons (wCall s_actions_in (wCons (wSlot 0) wNil)) wNil)) (wC (.int 4))))) wNever wNext)
    (wSeq (wIfS (wNot (wTru (wCall s_is_rests (wCons (wSlot 1) (wCons (wCB cLen (wCons (wSlot 0) wNil)) wNil))))) wNever wNext)
    (wRet (wMake "Rows" s_Rows (wCons (wSlot 0) (wCons (wSlot 1) wNil))))))
theorem nd_checked_rows : N_checked_rows.Nodup := by decide +kernel
theorem l_checked_rows {s_actions_in s_are_rows s_is_rests s_Rows : SpD} (hr : Room 3 (cxD P2 w K mg base N_checked_rows "checked_rows" (defScope (top 33)) f cd A outer s H E).A) (hgd : (cxD P2 w K mg base N_checked_rows "checked_rows" (defScope (top 33)) f cd A outer s H E).A.guards = some []) (g_len : mg "len" = none) {tk_MAX_ACTIONS : Tok} (m_MAX_ACTIONS : mg "MAX_ACTIONS" = some (.int 4 tk_MAX_ACTIONS)) (F_actions_in : FnD P2 w K mg base 1 "actions_in" 1 s_actions_in) (F_are_rows : FnD P2 w K mg base 2 "are_rows" 1 s_are_rows) (F_is_rests : FnD P2 w K mg base 2 "is_rests" 2 s_is_rests) (F_Rows : MkD P2 w K mg base 2 "Rows" 3 s_Rows) :
    LSs (cxD P2 w K mg base N_checked_rows "checked_rows" (defScope (top 33)) f cd A outer s H E) (defBody (top 33)) (w_checked_rows s_actions_in s_are_rows s_is_rests s_Rows) := by
  have nd := nd_checked_rows
  exact (lss_cons (ls_if (lt_w (lw_or (lt_not (lt_val (le_call F_are_rows hr (by decide) hgd (by rfl) (la_cons (sl_ 0) la_nil)) (by intro _; rfl))) (lw_or1 (lt_cmp ol_gt (le_callB cl_len (by rfl) g_len boot_len (la_cons (le_call F_actions_in hr (by decide) hgd (by rfl) (la_cons (sl_ 0) la_nil)) la_nil)) (le_glob (d := .int 4) rfl (by rfl) m_MAX_ACTIONS ⟨_, rfl⟩) (nomark _))))) (lss_one ls_never) lss_nil)
    (lss_cons (ls_if (lt_not (lt_val (le_call F_is_rests hr (by decide) hgd (by rfl) (la_cons (sl_ 1) (la_cons (le_callB cl_len (by rfl) g_len boot_len (la_cons (sl_ 0) la_nil)) la_nil))) (by intro _; rfl))) (lss_one ls_never) lss_nil)
    (lss_one (ls_ret (le_make F_Rows hr (by decide) hgd (by rfl) (la_cons (sl_ 0) (la_cons (sl_ 1) la_nil)))))))

/-! Part_init -/
abbrev N_Part_init : List Str := ["self", "steps", "rests", "rows"]
abbrev P_Part_init : List Str := ["self", "steps", "rests"]
def w_Part_init (s_checked_rows s_actions_in : SpD) : WS := (wSeq (wAsg (wIf (wTru (wIsi tabRows (wSlot 1))) (wSlot 1) (wCall s_checked_rows (wCons (wSlot 1) (wCons (wSlot 2) wNil)))) (wNm 3))
    (wSeq (wFldS ["Part", "Rows"] "own_steps" (wSlot 0) (wFld ["Part", "Rows"] "own_steps" (wSlot 3)))
    (wSeq (wFldS ["Part", "Rows"] "own_rests" (wSlot 0) (wFld ["Part", "Rows"] "own_rests" (wSlot 3)))
    (wFldS ["Part"] "own_actions" (wSlot 0) (wCall s_actions_in (wCons (wFld ["Part", "Rows"] "own_steps" (wSlot 3)) wNil))))))
theorem nd_Part_init : N_Part_init.Nodup := by decide +kernel
theorem l_Part_init {s_checked_rows s_actions_in : SpD} (hr : Room 4 (cxD P2 w K mg base N_Part_init "Part.__init__" (defScope (cls 34 0)) f cd A outer s H E).A) (hgd : (cxD P2 w K mg base N_Part_init "Part.__init__" (defScope (cls 34 0)) f cd A outer s H E).A.guards = some []) (g_isinstance : mg "isinstance" = none) (T_own_steps : ∀ x ∈ (["Part", "Rows"] : List Str), Fl K mg x "own_steps") (T_own_rests : ∀ x ∈ (["Part", "Rows"] : List Str), Fl K mg x "own_rests") (T_own_actions : ∀ x ∈ (["Part"] : List Str), Fl K mg x "own_actions") {C_Rows : Addr} (m_Rows : mg "Rows" = some (.ref C_Rows)) (t_Rows : IsTab K mg (.ref C_Rows) tabRows) (F_checked_rows : FnD P2 w K mg base 4 "checked_rows" 2 s_checked_rows) (F_actions_in : FnD P2 w K mg base 1 "actions_in" 1 s_actions_in) :
    LSs (cxD P2 w K mg base N_Part_init "Part.__init__" (defScope (cls 34 0)) f cd A outer s H E) (defBody (cls 34 0)) (w_Part_init s_checked_rows s_actions_in) := by
  have nd := nd_Part_init
  exact (lss_cons (ks_ 3 nd (le_if (lt_val (le_isi t_Rows (by rfl) g_isinstance boot_isinstance (pe_glob (v := .ref C_Rows) (by rfl) m_Rows rfl) (.own _) (sl_ 1)) (by intro _; rfl)) (sl_ 1) (le_call F_checked_rows hr (by decide) hgd (by rfl) (la_cons (sl_ 1) (la_cons (sl_ 2) la_nil)))))
    (lss_cons (ls_fld T_own_steps (sl_ 0) (le_fld T_own_steps (sl_ 3) rfl) rfl)
    (lss_cons (ls_fld T_own_rests (sl_ 0) (le_fld T_own_rests (sl_ 3) rfl) rfl)
    (lss_one (ls_fld T_own_actions (sl_ 0) (le_call F_actions_in hr (by decide) hgd (by rfl) (la_cons (le_fld T_own_steps (sl_ 3) rfl) la_nil)) rfl)))))

/-! offer_at -/
abbrev N_offer_at : List Str := ["part", "state"]
abbrev P_offer_at : List Str := ["part", "state"]
def w_offer_at : WS := (wRet (wTup (wCons (wCB cTuple (wCons (wCB cList (wCons (wBin oIx (wFld ["Part", "Rows"] "own_steps" (wSlot 0)) (wSlot 1)) wNil)) wNil)) (wCons (wBin (oIn false) (wSlot 1) (wFld ["Part", "Rows"] "own_rests" (wSlot 0))) wNil))))
theorem nd_offer_at : N_offer_at.Nodup := by decide +kernel
theorem l_offer_at (hr : Room 0 (cxD P2 w K mg base N_offer_at "offer_at" (defScope (top 37)) f cd A outer s H E).A) (hgd : (cxD P2 w K mg base N_offer_at "offer_at" (defScope (top 37)) f cd A outer s H E).A.guards = some []) (g_tuple : mg "tuple" = none) (g_list : mg "list" = none) (T_own_rests : ∀ x ∈ (["Part", "Rows"] : List Str), Fl K mg x "own_rests") (T_own_steps : ∀ x ∈ (["Part", "Rows"] : List Str), Fl K mg x "own_steps") :
    LSs (cxD P2 w K mg base N_offer_at "offer_at" (defScope (top 37)) f cd A outer s H E) (defBody (top 37)) (w_offer_at) := by
  have nd := nd_offer_at
  exact (lss_one (ls_ret (le_tup (la_cons (le_callT cl_tuple (by rfl) g_tuple boot_tuple (la_cons (le_callT (cl_list rfl) (by rfl) g_list boot_list (la_cons (le_ix hr (le_fld T_own_steps (sl_ 0) rfl) (sl_ 1) (fun _ _ => rfl)) la_nil)) la_nil)) (la_cons (le_cmp (ol_inA hr false) (sl_ 1) (le_fld T_own_rests (sl_ 0) rfl) (by with_unfolding_all rfl)) la_nil)))))

/-! state_after -/
abbrev N_state_after : List Str := ["part", "word", "state", "action"]
abbrev P_state_after : List Str := ["part", "word"]
def w_state_after (s_next_state : SpD) : WS := (wSeq (wAsg (wC (.int 0)) (wNm 2))
    (wSeq (wFor (wOver (wSlot 1) fTup) (wNm 3)
      (wAsg (wCall s_next_state (wCons (wSlot 0) (wCons (wSlot 2) (wCons (wSlot 3) wNil)))) (wNm 2)))
    (wRet (wSlot 2))))
theorem nd_state_after : N_state_after.Nodup := by decide +kernel
theorem l_state_after {s_next_state : SpD} (hr : Room 1 (cxD P2 w K mg base N_state_after "state_after" (defScope (top 38)) f cd A outer s H E).A) (hgd : (cxD P2 w K mg base N_state_after "state_after" (defScope (top 38)) f cd A outer s H E).A.guards = some []) (F_next_state : FnD P2 w K mg base 1 "next_state" 3 s_next_state) :
    LSs (cxD P2 w K mg base N_state_after "state_after" (defScope (top 38)) f cd A outer s H E) (defBody (top 38)) (w_state_after s_next_state) := by
  have nd := nd_state_after
  exact (lss_cons (ks_ 2 nd le_int)
    (lss_cons (ls_for PassesOwn.never rfl (li_tup (sl_ 1)) (gn_ 3 nd)
      (lss_one (ks_ 2 nd (le_call F_next_state hr (by decide) hgd (by rfl) (la_cons (sl_ 0) (la_cons (sl_ 2) (la_cons (sl_ 3) la_nil)))))))
    (lss_one (ls_ret (sl_ 2)))))

/-! Part_steps -/
abbrev N_Part_steps : List Str := ["self"]
abbrev P_Part_steps : List Str := ["self"]
def w_Part_steps (s_sorted_rows : SpD) : WS := (wRet (wCall s_sorted_rows (wCons (wFld ["Part", "Rows"] "own_steps" (wSlot 0)) wNil)))
theorem nd_Part_steps : N_Part_steps.Nodup := by decide +kernel
theorem l_Part_steps {s_sorted_rows : SpD} (hr : Room 1 (cxD P2 w K mg base N_Part_steps "Part.steps" (defScope (cls 34 2)) f cd A outer s H E).A) (hgd : (cxD P2 w K mg base N_Part_steps "Part.steps" (defScope (cls 34 2)) f cd A outer s H E).A.guards = some []) (T_own_steps : ∀ x ∈ (["Part", "Rows"] : List Str), Fl K mg x "own_steps") (F_sorted_rows : FnD P2 w K mg base 1 "sorted_rows" 1 s_sorted_rows) :
    LSs (cxD P2 w K mg base N_Part_steps "Part.steps" (defScope (cls 34 2)) f cd A outer s H E) (defBody (cls 34 2)) (w_Part_steps s_sorted_rows) := by
  have nd := nd_Part_steps
  exact (lss_one (ls_ret (le_call F_sorted_rows hr (by decide) hgd (by rfl) (la_cons (le_fld T_own_steps (sl_ 0) rfl) la_nil))))

/-! Part_rests -/
abbrev N_Part_rests : List Str := ["self"]
abbrev P_Part_rests : List Str := ["self"]
def w_Part_rests : WS := (wRet (wFld ["Part", "Rows"] "own_rests" (wSlot 0)))
theorem nd_Part_rests : N_Part_rests.Nodup := by decide +kernel
theorem l_Part_rests (hr : Room 0 (cxD P2 w K mg base N_Part_rests "Part.rests" (defScope (cls 34 3)) f cd A outer s H E).A) (hgd : (cxD P2 w K mg base N_Part_rests "Part.rests" (defScope (cls 34 3)) f cd A outer s H E).A.guards = some []) (T_own_rests : ∀ x ∈ (["Part", "Rows"] : List Str), Fl K mg x "own_rests") :
    LSs (cxD P2 w K mg base N_Part_rests "Part.rests" (defScope (cls 34 3)) f cd A outer s H E) (defBody (cls 34 3)) (w_Part_rests) := by
  have nd := nd_Part_rests
  exact (lss_one (ls_ret (le_fld T_own_rests (sl_ 0) rfl)))

/-! Part_actions -/
abbrev N_Part_actions : List Str := ["self"]
abbrev P_Part_actions : List Str := ["self"]
def w_Part_actions : WS := (wRet (wFld ["Part"] "own_actions" (wSlot 0)))
theorem nd_Part_actions : N_Part_actions.Nodup := by decide +kernel
theorem l_Part_actions (hr : Room 0 (cxD P2 w K mg base N_Part_actions "Part.actions" (defScope (cls 34 4)) f cd A outer s H E).A) (hgd : (cxD P2 w K mg base N_Part_actions "Part.actions" (defScope (cls 34 4)) f cd A outer s H E).A.guards = some []) (T_own_actions : ∀ x ∈ (["Part"] : List Str), Fl K mg x "own_actions") :
    LSs (cxD P2 w K mg base N_Part_actions "Part.actions" (defScope (cls 34 4)) f cd A outer s H E) (defBody (cls 34 4)) (w_Part_actions) := by
  have nd := nd_Part_actions
  exact (lss_one (ls_ret (le_fld T_own_actions (sl_ 0) rfl)))

/-! Part_offer -/
abbrev N_Part_offer : List Str := ["self", "state"]
abbrev P_Part_offer : List Str := ["self", "state"]
def w_Part_offer (s_is_index s_offer_at : SpD) : WS := (wSeq (wIfS (wNot (wTru (wCall s_is_index (wCons (wSlot 1) (wCons (wCB cLen (wCons (wFld ["Part", "Rows"] "own_steps" (wSlot 0)) wNil)) wNil))))) wNever wNext)
    (wRet (wCall s_offer_at (wCons (wSlot 0) (wCons (wSlot 1) wNil)))))
theorem nd_Part_offer : N_Part_offer.Nodup := by decide +kernel
theorem l_Part_offer {s_is_index s_offer_at : SpD} (hr : Room 1 (cxD P2 w K mg base N_Part_offer "Part.offer" (defScope (cls 34 6)) f cd A outer s H E).A) (hgd : (cxD P2 w K mg base N_Part_offer "Part.offer" (defScope (cls 34 6)) f cd A outer s H E).A.guards = some []) (g_len : mg "len" = none) (T_own_steps : ∀ x ∈ (["Part", "Rows"] : List Str), Fl K mg x "own_steps") (F_is_index : FnD P2 w K mg base 1 "is_index" 2 s_is_index) (F_offer_at : FnD P2 w K mg base 1 "offer_at" 2 s_offer_at) :
    LSs (cxD P2 w K mg base N_Part_offer "Part.offer" (defScope (cls 34 6)) f cd A outer s H E) (defBody (cls 34 6)) (w_Part_offer s_is_index s_offer_at) := by
  have nd := nd_Part_offer
  exact (lss_cons (ls_if (lt_not (lt_val (le_call F_is_index hr (by decide) hgd (by rfl) (la_cons (sl_ 1) (la_cons (le_callB cl_len (by rfl) g_len boot_len (la_cons (le_fld T_own_steps (sl_ 0) rfl) la_nil)) la_nil))) (by intro _; rfl))) (lss_one ls_never) lss_nil)
    (lss_one (ls_ret (le_call F_offer_at hr (by decide) hgd (by rfl) (la_cons (sl_ 0) (la_cons (sl_ 1) la_nil))))))

/-! Part_after -/
abbrev N_Part_after : List Str := ["self", "word"]
abbrev P_Part_after : List Str := ["self", "word"]
def w_Part_after (s_require_word s_state_after : SpD) : WS := (wSeq (wExpr (wCall s_require_word (wCons (wSlot 1) wNil)))
    (wRet (wCall s_state_after (wCons (wSlot 0) (wCons (wSlot 1) wNil)))))
theorem nd_Part_after : N_Part_after.Nodup := by decide +kernel
theorem l_Part_after {s_require_word s_state_after : SpD} (hr : Room 3 (cxD P2 w K mg base N_Part_after "Part.after" (defScope (cls 34 7)) f cd A outer s H E).A) (hgd : (cxD P2 w K mg base N_Part_after "Part.after" (defScope (cls 34 7)) f cd A outer s H E).A.guards = some []) (F_require_word : FnD P2 w K mg base 3 "require_word" 1 s_require_word) (F_state_after : FnD P2 w K mg base 2 "state_after" 2 s_state_after) :
    LSs (cxD P2 w K mg base N_Part_after "Part.after" (defScope (cls 34 7)) f cd A outer s H E) (defBody (cls 34 7)) (w_Part_after s_require_word s_state_after) := by
  have nd := nd_Part_after
  exact (lss_cons (ls_expr (le_call F_require_word hr (by decide) hgd (by rfl) (la_cons (sl_ 1) la_nil)))
    (lss_one (ls_ret (le_call F_state_after hr (by decide) hgd (by rfl) (la_cons (sl_ 0) (la_cons (sl_ 1) la_nil))))))

/-! Part_words -/
abbrev N_Part_words : List Str := ["self", "most", "layer", "turn", "rows", "word", "state", "row", "action"]
abbrev P_Part_words : List Str := ["self", "most"]
def w_Part_words (s_require_most : SpD) : WGn := (wGSeq (wGPlain (wExpr (wCall s_require_most (wCons (wSlot 1) wNil))))
    (wGSeq (wGPlain (wAsg (wLst (wCons (wTup (wCons (wTup wNil) (wCons (wC (.int 0)) wNil))) wNil)) (wNm 2)))
    (wGFor (wRange1 (wCons (wBin oAdd (wSlot 1) (wC (.int 1))) wNil)) (wNm 3)
      (wGSeq (wGFrom (wLc (wOver (wSlot 2) fLst) (wGT 2 (wG1 (wNm 5) (wG1 (wNm 6) wG0))) wYes (wSlot 5) [5, 6]))
    (wGSeq (wGPlain (wAsg (wLc (wOver (wSlot 2) fLst) (wGT 2 (wG1 (wNm 5) (wG1 (wNm 6) wG0))) wYes (wTup (wCons (wSlot 5) (wCons (wBin oIx (wFld ["Part", "Rows"] "own_steps" (wSlot 0)) (wSlot 6)) wNil))) [5, 6]) (wNm 4)))
    (wGPlain (wAsg (wLc2 (wOver (wSlot 4) fLst) (wGT 2 (wG1 (wNm 5) (wG1 (wNm 7) wG0))) wYes (wOverD (wSlot 7) (fDct (· = false) itItems)) (wGT 2 (wG1 (wNm 8) (wG1 (wNm 6) wG0))) wYes (wTup (wCons (wTup (wStar (wSlot 5) (wCons (wSlot 8) wNil))) (wCons (wSlot 6) wNil))) [5, 7, 8, 6] [8, 6]) (wNm 2))))))))
theorem nd_Part_words : N_Part_words.Nodup := by decide +kernel
theorem l_Part_words {s_require_most : SpD} (hr : Room 2 (gcxD P2 w K mg base N_Part_words "Part.words" (defScope (cls 34 8)) f cd A outer s H E pn).A) (g_range : mg "range" = none) (T_own_steps : ∀ x ∈ (["Part", "Rows"] : List Str), Fl K mg x "own_steps") (F_require_most : FnE P2 w K mg base 2 "require_most" 1 s_require_most) :
    GLSs (gcxD P2 w K mg base N_Part_words "Part.words" (defScope (cls 34 8)) f cd A outer s H E pn) (defBody (cls 34 8)) (w_Part_words s_require_most) := by
  have nd := nd_Part_words
  exact (gls_cons (gl_plain (ls_expr (le_callE F_require_most hr (by decide) (by rfl) (la_cons (sl_ 1) la_nil))))
    (gls_cons (gl_plain (ks_ 2 nd (le_lst (la_cons (le_tup (la_cons (le_tup la_nil) (la_cons le_int la_nil))) la_nil))))
    (gls_one (gl_for owns_gcx rfl (li_range1 (by rfl) g_range (la_cons (le_bin ol_add (sl_ 1) le_int) la_nil)) (gn_ 3 nd)
      (gls_cons (gl_from (le_lc rfl nd (li_lst (sl_ 2)) (blkOk_by (own := [("word", 5), ("state", 6)]) (by kernel_rfl)) (fun _ _ _ _ _ => (lo_tup rfl (los_cons (go_ 5 nd) (los_cons (go_ 6 nd) los_nil)))) (fun _ _ _ _ _ => lts_nil) (fun _ _ _ _ _ => (sl_ 5))) hr.hd)
    (gls_cons (gl_plain (ls_setLc (i := 4) rfl nd rfl rfl (sw_true rfl rfl rfl rfl) (li_lst (sl_ 2)) (blkOk_by (own := [("word", 5), ("state", 6)]) (by kernel_rfl)) (fun _ _ _ _ _ => (lo_tup rfl (los_cons (go_ 5 nd) (los_cons (go_ 6 nd) los_nil)))) (fun _ _ _ _ _ => lts_nil) (fun _ _ _ _ _ => (le_tup (la_cons (sl_ 5) (la_cons (le_ix hr (le_fld T_own_steps (sl_ 0) rfl) (sl_ 6) (fun _ _ => rfl)) la_nil))))))
    (gls_one (gl_plain (ls_setLc2 (i := 2) rfl nd rfl rfl (sw_true rfl rfl rfl rfl) (li_lst (sl_ 4)) (blkOk_by (own := [("word", 5), ("row", 7), ("action", 8), ("state", 6)]) (by kernel_rfl)) (by decide) (fun _ _ _ _ _ => (lo_tup rfl (los_cons (go_ 5 nd) (los_cons (go_ 7 nd) los_nil)))) (fun _ _ _ _ _ => lts_nil) (fun _ _ _ _ _ => (li_items (sl_ 7))) (fun _ _ _ _ _ => (lo_tup rfl (los_cons (go_ 8 nd) (los_cons (go_ 6 nd) los_nil)))) (fun _ _ _ _ _ => lts_nil) (fun _ _ _ _ _ => (le_tup (la_cons (le_tup (la_star (sl_ 5) (la_cons (sl_ 8) la_nil))) (la_cons (sl_ 6) la_nil)))))))))))))

/-! Part_contains -/
abbrev N_Part_contains : List Str := ["self", "value"]
abbrev P_Part_contains : List Str := ["self", "value"]
def w_Part_contains (s_state_after s_is_word : SpD) : WS := (wRet (wAndV (wCall s_is_word (wCons (wSlot 1) wNil)) (wBin (oIs true) (wCall s_state_after (wCons (wSlot 0) (wCons (wSlot 1) wNil))) (wC .non))))
theorem nd_Part_contains : N_Part_contains.Nodup := by decide +kernel
theorem l_Part_contains {s_state_after s_is_word : SpD} (hr : Room 2 (cxD P2 w K mg base N_Part_contains "Part.__contains__" (defScope (cls 34 14)) f cd A outer s H E).A) (hgd : (cxD P2 w K mg base N_Part_contains "Part.__contains__" (defScope (cls 34 14)) f cd A outer s H E).A.guards = some []) (F_state_after : FnD P2 w K mg base 2 "state_after" 2 s_state_after) (F_is_word : FnD P2 w K mg base 2 "is_word" 1 s_is_word) :
    LSs (cxD P2 w K mg base N_Part_contains "Part.__contains__" (defScope (cls 34 14)) f cd A outer s H E) (defBody (cls 34 14)) (w_Part_contains s_state_after s_is_word) := by
  have nd := nd_Part_contains
  exact (lss_one (ls_ret (le_and (le_call F_is_word hr (by decide) hgd (by rfl) (la_cons (sl_ 1) la_nil)) (le_one (le_cmp (ol_is true) (le_call F_state_after hr (by decide) hgd (by rfl) (la_cons (sl_ 0) (la_cons (sl_ 1) la_nil))) le_non (nomark _))))))

/-! Part_getitem -/
abbrev N_Part_getitem : List Str := ["self", "word"]
abbrev P_Part_getitem : List Str := ["self", "word"]
def w_Part_getitem (s_offer_at s_state_after s_Part_contains : SpD) : WS := (wSeq (wIfS (wBl (wBin (oOwnIn true "Part" s_Part_contains) (wSlot 1) (wSlot 0))) wNever wNext)
    (wRet (wCall s_offer_at (wCons (wSlot 0) (wCons (wCall s_state_after (wCons (wSlot 0) (wCons (wSlot 1) wNil))) wNil)))))
theorem nd_Part_getitem : N_Part_getitem.Nodup := by decide +kernel
theorem l_Part_getitem {s_offer_at s_state_after s_Part_contains : SpD} (hr : Room 3 (cxD P2 w K mg base N_Part_getitem "Part.__getitem__" (defScope (cls 34 15)) f cd A outer s H E).A) (hgd : (cxD P2 w K mg base N_Part_getitem "Part.__getitem__" (defScope (cls 34 15)) f cd A outer s H E).A.guards = some []) (F_offer_at : FnD P2 w K mg base 1 "offer_at" 2 s_offer_at) (F_state_after : FnD P2 w K mg base 2 "state_after" 2 s_state_after) (F_Part_contains : MtD P2 w K mg base 3 "Part" "__contains__" 2 s_Part_contains) :
    LSs (cxD P2 w K mg base N_Part_getitem "Part.__getitem__" (defScope (cls 34 15)) f cd A outer s H E) (defBody (cls 34 15)) (w_Part_getitem s_offer_at s_state_after s_Part_contains) := by
  have nd := nd_Part_getitem
  exact (lss_cons (ls_if (lt_cmp (ol_ownInA F_Part_contains hr (by decide) hgd true) (sl_ 1) (sl_ 0) (by with_unfolding_all rfl)) (lss_one ls_never) lss_nil)
    (lss_one (ls_ret (le_call F_offer_at hr (by decide) hgd (by rfl) (la_cons (sl_ 0) (la_cons (le_call F_state_after hr (by decide) hgd (by rfl) (la_cons (sl_ 0) (la_cons (sl_ 1) la_nil))) la_nil))))))

/-! Part_len -/
abbrev N_Part_len : List Str := ["self"]
abbrev P_Part_len : List Str := ["self"]
def w_Part_len : WS := (wRet (wCB cLen (wCons (wFld ["Part", "Rows"] "own_steps" (wSlot 0)) wNil)))
theorem nd_Part_len : N_Part_len.Nodup := by decide +kernel
theorem l_Part_len (hr : Room 0 (cxD P2 w K mg base N_Part_len "Part.__len__" (defScope (cls 34 17)) f cd A outer s H E).A) (hgd : (cxD P2 w K mg base N_Part_len "Part.__len__" (defScope (cls 34 17)) f cd A outer s H E).A.guards = some []) (g_len : mg "len" = none) (T_own_steps : ∀ x ∈ (["Part", "Rows"] : List Str), Fl K mg x "own_steps") :
    LSs (cxD P2 w K mg base N_Part_len "Part.__len__" (defScope (cls 34 17)) f cd A outer s H E) (defBody (cls 34 17)) (w_Part_len) := by
  have nd := nd_Part_len
  exact (lss_one (ls_ret (le_callB cl_len (by rfl) g_len boot_len (la_cons (le_fld T_own_steps (sl_ 0) rfl) la_nil))))

/-! Part_eq -/
abbrev N_Part_eq : List Str := ["self", "value"]
abbrev P_Part_eq : List Str := ["self", "value"]
def w_Part_eq : WS := (wRet (wAndV (wIsi tabPart (wSlot 1)) (wAndV (wBin oEqRows (wFld ["Part", "Rows"] "own_steps" (wSlot 0)) (wFld ["Part", "Rows"] "own_steps" (wSlot 1))) (wBin (oEq false) (wFld ["Part", "Rows"] "own_rests" (wSlot 0)) (wFld ["Part", "Rows"] "own_rests" (wSlot 1))))))
theorem nd_Part_eq : N_Part_eq.Nodup := by decide +kernel
theorem l_Part_eq (hr : Room 0 (cxD P2 w K mg base N_Part_eq "Part.__eq__" (defScope (cls 34 18)) f cd A outer s H E).A) (hgd : (cxD P2 w K mg base N_Part_eq "Part.__eq__" (defScope (cls 34 18)) f cd A outer s H E).A.guards = some []) (g_isinstance : mg "isinstance" = none) (T_own_rests : ∀ x ∈ (["Part", "Rows"] : List Str), Fl K mg x "own_rests") (T_own_steps : ∀ x ∈ (["Part", "Rows"] : List Str), Fl K mg x "own_steps") {C_Part : Addr} (m_Part : mg "Part" = some (.ref C_Part)) (t_Part : IsTab K mg (.ref C_Part) tabPart) :
    LSs (cxD P2 w K mg base N_Part_eq "Part.__eq__" (defScope (cls 34 18)) f cd A outer s H E) (defBody (cls 34 18)) (w_Part_eq) := by
  have nd := nd_Part_eq
  exact (lss_one (ls_ret (le_and (le_isi t_Part (by rfl) g_isinstance boot_isinstance (pe_glob (v := .ref C_Part) (by rfl) m_Part rfl) (.own _) (sl_ 1)) (le_and (le_cmp (ol_eqRows hr) (le_fld T_own_steps (sl_ 0) rfl) (le_fld T_own_steps (sl_ 1) rfl) (nomark _)) (le_one (le_cmp (ol_eqA hr false) (le_fld T_own_rests (sl_ 0) rfl) (le_fld T_own_rests (sl_ 1) rfl) (nomark _)))))))

/-! Part_str -/
abbrev N_Part_str : List Str := ["self"]
abbrev P_Part_str : List Str := ["self"]
def w_Part_str : WS := (wRet (wJoin [(wC (.str "part of ")), (wFmt (wCB cLen (wCons (wFld ["Part", "Rows"] "own_steps" (wSlot 0)) wNil))), (wC (.str " states, ")), (wFmt (wCB cLen (wCons (wFld ["Part"] "own_actions" (wSlot 0)) wNil))), (wC (.str " actions"))]))
theorem nd_Part_str : N_Part_str.Nodup := by decide +kernel
theorem l_Part_str (hr : Room 0 (cxD P2 w K mg base N_Part_str "Part.__str__" (defScope (cls 34 19)) f cd A outer s H E).A) (hgd : (cxD P2 w K mg base N_Part_str "Part.__str__" (defScope (cls 34 19)) f cd A outer s H E).A.guards = some []) (g_len : mg "len" = none) (T_own_actions : ∀ x ∈ (["Part"] : List Str), Fl K mg x "own_actions") (T_own_steps : ∀ x ∈ (["Part", "Rows"] : List Str), Fl K mg x "own_steps") :
    LSs (cxD P2 w K mg base N_Part_str "Part.__str__" (defScope (cls 34 19)) f cd A outer s H E) (defBody (cls 34 19)) (w_Part_str) := by
  have nd := nd_Part_str
  exact (lss_one (ls_ret (le_join (.cons le_str (.cons (le_fmt (le_callB cl_len (by rfl) g_len boot_len (la_cons (le_fld T_own_steps (sl_ 0) rfl) la_nil))) (.cons le_str (.cons (le_fmt (le_callB cl_len (by rfl) g_len boot_len (la_cons (le_fld T_own_actions (sl_ 0) rfl) la_nil))) (.cons le_str .nil))))))))

/-! _law_dice -/
abbrev N__law_dice : List Str := ["script", "at", "cell", "great", "left", "mixed"]
abbrev P__law_dice : List Str := ["script", "at"]
def w__law_dice : WS := (wSeq (wAsg (wBin oAdd (wBin oMul (wC (.int 47)) (wSlot 1)) (wC (.int 13))) (wNm 2))
    (wSeq (wIfS (wBl (wBin oLt (wSlot 1) (wCB cLen (wCons (wSlot 0) wNil)))) (wAsg (wBin oIx (wSlot 0) (wSlot 1)) (wNm 2)) wNext)
    (wSeq (wAsg (wBin oMod (wCB cInt (wCons (wCB cAbs (wCons (wSlot 2) wNil)) wNil)) (wBin oPow (wBin oPow (wC (.int 10)) (wC (.int 60))) (wC (.int 10)))) (wNm 3))
    (wSeq (wAsg (wBin oFdiv (wSlot 3) (wBin oPow (wC (.int 10)) (wC (.int 18)))) (wNm 4))
    (wSeq (wAsg (wBin oAdd (wBin oAdd (wBin oAdd (wBin oMul (wBin oMod (wSlot 3) (wC (.int 2147483477))) (wC (.int 50021))) (wBin oMul (wC (.int 3001)) (wSlot 1))) (wBin oMul (wC (.int 29)) (wCB cInt (wCons (wBin oLt (wSlot 2) (wC (.int 0))) wNil)))) (wC (.int 71))) (wNm 5))
    (wRet (wLst (wCons (wSlot 4) (wCons (wBin oMod (wSlot 5) (wC (.int 2147483399))) (wCons (wC (.int 0)) wNil))))))))))
theorem nd__law_dice : N__law_dice.Nodup := by decide +kernel
theorem l__law_dice (hr : Room 0 (cxD P2 w K mg base N__law_dice "_law_dice" (defScope (top 41)) f cd A outer s H E).A) (hgd : (cxD P2 w K mg base N__law_dice "_law_dice" (defScope (top 41)) f cd A outer s H E).A.guards = some []) (g_len : mg "len" = none) (g_int : mg "int" = none) (g_abs : mg "abs" = none) :
    LSs (cxD P2 w K mg base N__law_dice "_law_dice" (defScope (top 41)) f cd A outer s H E) (defBody (top 41)) (w__law_dice) := by
  have nd := nd__law_dice
  exact (lss_cons (ks_ 2 nd (le_bin ol_add (le_bin ol_mul le_int (sl_ 1)) le_int))
    (lss_cons (ls_if (lt_cmp ol_lt (sl_ 1) (le_callB cl_len (by rfl) g_len boot_len (la_cons (sl_ 0) la_nil)) (nomark _)) (lss_one (ks_ 2 nd (le_ix hr (sl_ 0) (sl_ 1) (fun _ _ => rfl)))) lss_nil)
    (lss_cons (ks_ 3 nd (le_bin ol_mod (le_callT cl_int (by rfl) g_int boot_int (la_cons (le_callB cl_abs (by rfl) g_abs boot_abs (la_cons (sl_ 2) la_nil)) la_nil)) (le_bin ol_pow (le_bin ol_pow le_int le_int) le_int)))
    (lss_cons (ks_ 4 nd (le_bin ol_fdiv (sl_ 3) (le_bin ol_pow le_int le_int)))
    (lss_cons (ks_ 5 nd (le_bin ol_add (le_bin ol_add (le_bin ol_add (le_bin ol_mul (le_bin ol_mod (sl_ 3) le_int) le_int) (le_bin ol_mul le_int (sl_ 1))) (le_bin ol_mul le_int (le_callT cl_int (by rfl) g_int boot_int (la_cons (le_cmp ol_lt (sl_ 2) le_int (nomark _)) la_nil)))) le_int))
    (lss_one (ls_ret (le_lst (la_cons (sl_ 4) (la_cons (le_bin ol_mod (sl_ 5) le_int) (la_cons le_int la_nil)))))))))))

/-! _law_roll -/
abbrev N__law_roll : List Str := ["dice", "total", "number", "one", "two", "drawn"]
abbrev P__law_roll : List Str := ["dice", "total"]
def w__law_roll : WS := (wSeq (wAsg (wCB cInt (wCons (wSlot 1) wNil)) (wNm 2))
    (wSeq (wIfS (wBl (wBin oGt (wBin oIx (wSlot 0) (wC (.int 0))) (wC (.int 0)))) (wSeq (wAsg (wBin oMod (wBin oIx (wSlot 0) (wC (.int 0))) (wSlot 2)) (wNm 5))
    (wSeq (wAsg (wBin oFdiv (wBin oIx (wSlot 0) (wC (.int 0))) (wSlot 2)) (wSub (wSlot 0) (wC (.int 0))))
    (wRet (wCB cInt (wCons (wSlot 5) wNil))))) wNext)
    (wSeq (wAsg (wBin oAdd (wBin oIx (wSlot 0) (wC (.int 2))) (wC (.int 1))) (wSub (wSlot 0) (wC (.int 2))))
    (wSeq (wAsg (wBin oMod (wBin oAdd (wBin oIx (wSlot 0) (wC (.int 1))) (wBin oMul (wC (.int 1000081)) (wBin oIx (wSlot 0) (wC (.int 2))))) (wC (.int 2305843009213693951))) (wNm 3))
    (wSeq (wAsg (wBin oAdd (wBin oMul (wBin oMod (wBin oMul (wSlot 3) (wSlot 3)) (wC (.int 2305843009213693921))) (wSlot 3)) (wBin oMul (wC (.int 8171)) (wBin oIx (wSlot 0) (wC (.int 2))))) (wNm 4))
    (wSeq (wAsg (wBin oMod (wSlot 4) (wC (.int 2305843009213693907))) (wNm 4))
    (wRet (wCB cInt (wCons (wBin oMod (wBin oFdiv (wSlot 4) (wC (.int 4096))) (wSlot 2)) wNil)))))))))
theorem nd__law_roll : N__law_roll.Nodup := by decide +kernel
theorem l__law_roll (hr : Room 0 (cxD P2 w K mg base N__law_roll "_law_roll" (defScope (top 42)) f cd A outer s H E).A) (hgd : (cxD P2 w K mg base N__law_roll "_law_roll" (defScope (top 42)) f cd A outer s H E).A.guards = some []) (g_int : mg "int" = none) :
    LSs (cxD P2 w K mg base N__law_roll "_law_roll" (defScope (top 42)) f cd A outer s H E) (defBody (top 42)) (w__law_roll) := by
  have nd := nd__law_roll
  exact (lss_cons (ks_ 2 nd (le_callT cl_int (by rfl) g_int boot_int (la_cons (sl_ 1) la_nil)))
    (lss_cons (ls_if (lt_cmp ol_gt (le_ix hr (sl_ 0) le_int (fun _ _ => rfl)) le_int (nomark _)) (lss_cons (ks_ 5 nd (le_bin ol_mod (le_ix hr (sl_ 0) le_int (fun _ _ => rfl)) (sl_ 2)))
    (lss_cons (ls_asg (le_bin ol_fdiv (le_ix hr (sl_ 0) le_int (fun _ _ => rfl)) (sl_ 2)) (lg_sub hr (sl_ 0) le_int))
    (lss_one (ls_ret (le_callT cl_int (by rfl) g_int boot_int (la_cons (sl_ 5) la_nil)))))) lss_nil)
    (lss_cons (ls_asg (le_bin ol_add (le_ix hr (sl_ 0) le_int (fun _ _ => rfl)) le_int) (lg_sub hr (sl_ 0) le_int))
    (lss_cons (ks_ 3 nd (le_bin ol_mod (le_bin ol_add (le_ix hr (sl_ 0) le_int (fun _ _ => rfl)) (le_bin ol_mul le_int (le_ix hr (sl_ 0) le_int (fun _ _ => rfl)))) le_int))
    (lss_cons (ks_ 4 nd (le_bin ol_add (le_bin ol_mul (le_bin ol_mod (le_bin ol_mul (sl_ 3) (sl_ 3)) le_int) (sl_ 3)) (le_bin ol_mul le_int (le_ix hr (sl_ 0) le_int (fun _ _ => rfl)))))
    (lss_cons (ks_ 4 nd (le_bin ol_mod (sl_ 4) le_int))
    (lss_one (ls_ret (le_callT cl_int (by rfl) g_int boot_int (la_cons (le_bin ol_mod (le_bin ol_fdiv (sl_ 4) le_int) (sl_ 2)) la_nil))))))))))

/-! _law_one_of -/
abbrev N__law_one_of : List Str := ["dice", "items"]
abbrev P__law_one_of : List Str := ["dice", "items"]
def w__law_one_of (s__law_roll : SpD) : WS := (wRet (wBin oIx (wSlot 1) (wCall s__law_roll (wCons (wSlot 0) (wCons (wCB cLen (wCons (wSlot 1) wNil)) wNil)))))
theorem nd__law_one_of : N__law_one_of.Nodup := by decide +kernel
theorem l__law_one_of {s__law_roll : SpD} (hr : Room 1 (cxD P2 w K mg base N__law_one_of "_law_one_of" (defScope (top 43)) f cd A outer s H E).A) (hgd : (cxD P2 w K mg base N__law_one_of "_law_one_of" (defScope (top 43)) f cd A outer s H E).A.guards = some []) (g_len : mg "len" = none) (F__law_roll : FnD P2 w K mg base 1 "_law_roll" 2 s__law_roll) :
    LSs (cxD P2 w K mg base N__law_one_of "_law_one_of" (defScope (top 43)) f cd A outer s H E) (defBody (top 43)) (w__law_one_of s__law_roll) := by
  have nd := nd__law_one_of
  exact (lss_one (ls_ret (le_ix hr (sl_ 1) (le_call F__law_roll hr (by decide) hgd (by rfl) (la_cons (sl_ 0) (la_cons (le_callB cl_len (by rfl) g_len boot_len (la_cons (sl_ 1) la_nil)) la_nil))) (fun _ _ => rfl))))

/-! _law_mixed -/
abbrev N__law_mixed : List Str := ["dice", "items", "left", "found"]
abbrev P__law_mixed : List Str := ["dice", "items"]
def w__law_mixed (s__law_roll : SpD) : WS := (wSeq (wPar 2 3 (wCons (wCB cList (wCons (wSlot 1) wNil)) (wCons (wLst wNil) wNil)))
    (wSeq (wWhile (wBl (wBin (oEq true) (wSlot 2) (wLst wNil))) (wExpr (wBM mAppend (wSlot 3) (wCons (wBM mPopAt (wSlot 2) (wCons (wCall s__law_roll (wCons (wSlot 0) (wCons (wCB cLen (wCons (wSlot 2) wNil)) wNil))) wNil)) wNil))))
    (wRet (wSlot 3))))
theorem nd__law_mixed : N__law_mixed.Nodup := by decide +kernel
theorem l__law_mixed {s__law_roll : SpD} (hr : Room 1 (cxD P2 w K mg base N__law_mixed "_law_mixed" (defScope (top 44)) f cd A outer s H E).A) (hgd : (cxD P2 w K mg base N__law_mixed "_law_mixed" (defScope (top 44)) f cd A outer s H E).A.guards = some []) (g_list : mg "list" = none) (g_len : mg "len" = none) (F__law_roll : FnD P2 w K mg base 1 "_law_roll" 2 s__law_roll) :
    LSs (cxD P2 w K mg base N__law_mixed "_law_mixed" (defScope (top 44)) f cd A outer s H E) (defBody (top 44)) (w__law_mixed s__law_roll) := by
  have nd := nd__law_mixed
  exact (lss_cons (ls_par (i := 2) (k := 3) rfl nd rfl rfl (by decide) rfl rfl (la_cons (le_callT (cl_list rfl) (by rfl) g_list boot_list (la_cons (sl_ 1) la_nil)) (la_cons (le_lst la_nil) la_nil)) rfl)
    (lss_cons (ls_while PassesOwn.never (lt_cmp (ol_eqA hr true) (sl_ 2) (le_lst la_nil) (nomark _)) (lss_one (ls_expr (le_bm F.plainAttrs_list F.slot_list_append F.type_list_append ml_append (sl_ 3) (la_cons (le_bm F.plainAttrs_list F.slot_list_pop F.type_list_pop ml_popAt (sl_ 2) (la_cons (le_call F__law_roll hr (by decide) hgd (by rfl) (la_cons (sl_ 0) (la_cons (le_callB cl_len (by rfl) g_len boot_len (la_cons (sl_ 2) la_nil)) la_nil))) la_nil)) la_nil)))))
    (lss_one (ls_ret (sl_ 3)))))

/-! _law_actions -/
abbrev N__law_actions : List Str := ["dice", "total"]
abbrev P__law_actions : List Str := ["dice", "total"]
def w__law_actions (s__law_mixed : SpD) : WS := (wRet (wCB cSorted (wCons (wSlice (wCall s__law_mixed (wCons (wSlot 0) (wCons (wLst (wCons (wC (.str "a")) (wCons (wC (.str "b")) (wCons (wC (.str "ab")) (wCons (wC (.str "go")) (wCons (wC (.str "put")) (wCons (wC (.str "take")) (wCons (wC (.str "x")) (wCons (wC (.str "zzzzzzzz")) wNil))))))))) wNil))) wNoPart (wPart (wSlot 1))) wNil)))
theorem nd__law_actions : N__law_actions.Nodup := by decide +kernel
theorem l__law_actions {s__law_mixed : SpD} (hr : Room 2 (cxD P2 w K mg base N__law_actions "_law_actions" (defScope (top 45)) f cd A outer s H E).A) (hgd : (cxD P2 w K mg base N__law_actions "_law_actions" (defScope (top 45)) f cd A outer s H E).A.guards = some []) (g_sorted : mg "sorted" = none) (F__law_mixed : FnD P2 w K mg base 2 "_law_mixed" 2 s__law_mixed) :
    LSs (cxD P2 w K mg base N__law_actions "_law_actions" (defScope (top 45)) f cd A outer s H E) (defBody (top 45)) (w__law_actions s__law_mixed) := by
  have nd := nd__law_actions
  exact (lss_one (ls_ret (le_callB (cl_sorted rfl) (by rfl) g_sorted boot_sorted (la_cons (le_slice (le_call F__law_mixed hr (by decide) hgd (by rfl) (la_cons (sl_ 0) (la_cons (le_lst (la_cons le_str (la_cons le_str (la_cons le_str (la_cons le_str (la_cons le_str (la_cons le_str (la_cons le_str (la_cons le_str la_nil))))))))) la_nil))) lo_none (lo_some (sl_ 1))) la_nil))))

/-! _law_part -/
abbrev N__law_part : List Str := ["dice", "names", "most", "state", "total", "found", "row", "name", "target"]
abbrev P__law_part : List Str := ["dice", "names", "most"]
def w__law_part (s__law_roll : SpD) : WS := (wSeq (wPar 4 5 (wCons (wBin oAdd (wC (.int 1)) (wCall s__law_roll (wCons (wSlot 0) (wCons (wSlot 2) wNil)))) (wCons (wLst wNil) wNil)))
    (wSeq (wFor (wRange1 (wCons (wSlot 4) wNil)) (wNm 3)
      (wSeq (wAsg (wDNew false) (wNm 6))
    (wSeq (wFor (wOver (wSlot 1) fLst) (wNm 7)
      (wSeq (wAsg (wCall s__law_roll (wCons (wSlot 0) (wCons (wBin oAdd (wSlot 4) (wC (.int 1))) wNil))) (wNm 8))
    (wIfS (wBl (wBin oLt (wSlot 8) (wSlot 4))) (wAsg (wSlot 8) (wSub (wSlot 6) (wSlot 7))) wNext)))
    (wExpr (wBM mAppend (wSlot 5) (wCons (wTup (wCons (wSlot 6) (wCons (wBin (oEq false) (wCall s__law_roll (wCons (wSlot 0) (wCons (wC (.int 2)) wNil))) (wC (.int 0))) wNil))) wNil))))))
    (wRet (wSlot 5))))
theorem nd__law_part : N__law_part.Nodup := by decide +kernel
theorem l__law_part {s__law_roll : SpD} (hr : Room 1 (cxD P2 w K mg base N__law_part "_law_part" (defScope (top 46)) f cd A outer s H E).A) (hgd : (cxD P2 w K mg base N__law_part "_law_part" (defScope (top 46)) f cd A outer s H E).A.guards = some []) (g_range : mg "range" = none) (F__law_roll : FnD P2 w K mg base 1 "_law_roll" 2 s__law_roll) :
    LSs (cxD P2 w K mg base N__law_part "_law_part" (defScope (top 46)) f cd A outer s H E) (defBody (top 46)) (w__law_part s__law_roll) := by
  have nd := nd__law_part
  exact (lss_cons (ls_par (i := 4) (k := 5) rfl nd rfl rfl (by decide) rfl rfl (la_cons (le_bin ol_add le_int (le_call F__law_roll hr (by decide) hgd (by rfl) (la_cons (sl_ 0) (la_cons (sl_ 2) la_nil)))) (la_cons (le_lst la_nil) la_nil)) rfl)
    (lss_cons (ls_for PassesOwn.never rfl (li_range1 (by rfl) g_range (la_cons (sl_ 4) la_nil)) (gn_ 3 nd)
      (lss_cons (ks_ 6 nd le_dnewK)
    (lss_cons (ls_for PassesOwn.never rfl (li_lst (sl_ 1)) (gn_ 7 nd)
      (lss_cons (ks_ 8 nd (le_call F__law_roll hr (by decide) hgd (by rfl) (la_cons (sl_ 0) (la_cons (le_bin ol_add (sl_ 4) le_int) la_nil))))
    (lss_one (ls_if (lt_cmp ol_lt (sl_ 8) (sl_ 4) (nomark _)) (lss_one (ls_asg (sl_ 8) (lg_sub hr (sl_ 6) (sl_ 7)))) lss_nil))))
    (lss_one (ls_expr (le_bm F.plainAttrs_list F.slot_list_append F.type_list_append ml_append (sl_ 5) (la_cons (le_tup (la_cons (sl_ 6) (la_cons (le_cmp (ol_eqA hr false) (le_call F__law_roll hr (by decide) hgd (by rfl) (la_cons (sl_ 0) (la_cons le_int la_nil))) le_int (nomark _)) la_nil))) la_nil)))))))
    (lss_one (ls_ret (sl_ 5)))))

/-! _law_made_part -/
abbrev N__law_made_part : List Str := ["plain", "rests", "at", "row"]
abbrev P__law_made_part : List Str := ["plain"]
def w__law_made_part (s_Part : SpD) : WS := (wSeq (wAsg (wCB cTuple (wCons (wLc (wEnum (wCons (wSlot 0) wNil)) (wGT 2 (wG1 (wNm 2) (wG1 (wNm 3) wG0))) (wTru (wBin oIx (wSlot 3) (wC (.int 1)))) (wSlot 2) [2, 3]) wNil)) (wNm 1))
    (wRet (wMake "Part" s_Part (wCons (wCB cTuple (wCons (wLc (wOver (wSlot 0) fLst) (wNm 3) wYes (wCB cDict (wCons (wListItemsR (wBin oIx (wSlot 3) (wC (.int 0)))) wNil)) [3]) wNil)) (wCons (wSlot 1) wNil)))))
theorem nd__law_made_part : N__law_made_part.Nodup := by decide +kernel
theorem l__law_made_part {s_Part : SpD} (hr : Room 6 (cxD P2 w K mg base N__law_made_part "_law_made_part" (defScope (top 47)) f cd A outer s H E).A) (hgd : (cxD P2 w K mg base N__law_made_part "_law_made_part" (defScope (top 47)) f cd A outer s H E).A.guards = some []) (g_tuple : mg "tuple" = none) (g_enumerate : mg "enumerate" = none) (g_dict : mg "dict" = none) (g_list : mg "list" = none) (F_Part : MkD P2 w K mg base 5 "Part" 3 s_Part) :
    LSs (cxD P2 w K mg base N__law_made_part "_law_made_part" (defScope (top 47)) f cd A outer s H E) (defBody (top 47)) (w__law_made_part s_Part) := by
  have nd := nd__law_made_part
  exact (lss_cons (ks_ 1 nd (le_callT cl_tuple (by rfl) g_tuple boot_tuple (la_cons (le_lc rfl nd (li_enum (by rfl) g_enumerate (la_cons (sl_ 0) la_nil)) (blkOk_by (own := [("at", 2), ("row", 3)]) (by kernel_rfl)) (fun _ _ _ _ _ => (lo_tup rfl (los_cons (go_ 2 nd) (los_cons (go_ 3 nd) los_nil)))) (fun _ _ _ _ _ => (lts_one (lt_val (le_ix hr (sl_ 3) le_int (fun _ _ => rfl)) (by intro _; rfl)))) (fun _ _ _ _ _ => (sl_ 2))) la_nil)))
    (lss_one (ls_ret (le_make F_Part hr (by decide) hgd (by rfl) (la_cons (le_callT cl_tuple (by rfl) g_tuple boot_tuple (la_cons (le_lc rfl nd (li_lst (sl_ 0)) (blkOk_by (own := [("row", 3)]) (by kernel_rfl)) (fun _ _ _ _ _ => (go_ 3 nd)) (fun _ _ _ _ _ => lts_nil) (fun _ _ _ _ _ => (le_callT (cl_dict rfl) (by rfl) g_dict boot_dict (la_cons (le_listItemsR rfl (le_ix hr (sl_ 3) le_int (fun _ _ => rfl)) (by rfl) g_list boot_list) la_nil)))) la_nil)) (la_cons (sl_ 1) la_nil))))))

/-! _law_offer -/
abbrev N__law_offer : List Str := ["plain", "state"]
abbrev P__law_offer : List Str := ["plain", "state"]
def w__law_offer : WS := (wRet (wTup (wCons (wCB cTuple (wCons (wCB cSorted (wCons (wBin oIx (wBin oIx (wSlot 0) (wSlot 1)) (wC (.int 0))) wNil)) wNil)) (wCons (wBin oIx (wBin oIx (wSlot 0) (wSlot 1)) (wC (.int 1))) wNil))))
theorem nd__law_offer : N__law_offer.Nodup := by decide +kernel
theorem l__law_offer (hr : Room 0 (cxD P2 w K mg base N__law_offer "_law_offer" (defScope (top 48)) f cd A outer s H E).A) (hgd : (cxD P2 w K mg base N__law_offer "_law_offer" (defScope (top 48)) f cd A outer s H E).A.guards = some []) (g_tuple : mg "tuple" = none) (g_sorted : mg "sorted" = none) :
    LSs (cxD P2 w K mg base N__law_offer "_law_offer" (defScope (top 48)) f cd A outer s H E) (defBody (top 48)) (w__law_offer) := by
  have nd := nd__law_offer
  exact (lss_one (ls_ret (le_tup (la_cons (le_callT cl_tuple (by rfl) g_tuple boot_tuple (la_cons (le_callB (cl_sorted rfl) (by rfl) g_sorted boot_sorted (la_cons (le_ix hr (le_ix hr (sl_ 0) (sl_ 1) (fun _ _ => rfl)) le_int (fun _ _ => rfl)) la_nil)) la_nil)) (la_cons (le_ix hr (le_ix hr (sl_ 0) (sl_ 1) (fun _ _ => rfl)) le_int (fun _ _ => rfl)) la_nil)))))

/-! _law_state -/
abbrev N__law_state : List Str := ["plain", "word", "state", "name"]
abbrev P__law_state : List Str := ["plain", "word"]
def w__law_state : WS := (wSeq (wAsg (wC (.int 0)) (wNm 2))
    (wSeq (wFor (wOver (wSlot 1) fTup) (wNm 3)
      (wAsg (wIf (wBl (wBin (oIs true) (wSlot 2) (wC .non))) (wGet1 (wBin oIx (wBin oIx (wSlot 0) (wSlot 2)) (wC (.int 0))) (wSlot 3)) (wC .non)) (wNm 2)))
    (wRet (wSlot 2))))
theorem nd__law_state : N__law_state.Nodup := by decide +kernel
theorem l__law_state (hr : Room 0 (cxD P2 w K mg base N__law_state "_law_state" (defScope (top 49)) f cd A outer s H E).A) (hgd : (cxD P2 w K mg base N__law_state "_law_state" (defScope (top 49)) f cd A outer s H E).A.guards = some []) :
    LSs (cxD P2 w K mg base N__law_state "_law_state" (defScope (top 49)) f cd A outer s H E) (defBody (top 49)) (w__law_state) := by
  have nd := nd__law_state
  exact (lss_cons (ks_ 2 nd le_int)
    (lss_cons (ls_for PassesOwn.never rfl (li_tup (sl_ 1)) (gn_ 3 nd)
      (lss_one (ks_ 2 nd (le_if (lt_cmp (ol_is true) (sl_ 2) le_non (nomark _)) (le_get1 hr (le_ix hr (le_ix hr (sl_ 0) (sl_ 2) (fun _ _ => rfl)) le_int (fun _ _ => rfl)) (sl_ 3) ⟨rfl, rfl, rfl, rfl⟩) le_non))))
    (lss_one (ls_ret (sl_ 2)))))

/-! _law_words -/
abbrev N__law_words : List Str := ["names", "most", "turn", "found", "layer", "longer", "word", "name"]
abbrev P__law_words : List Str := ["names", "most"]
def w__law_words : WS := (wSeq (wPar 3 4 (wCons (wLst (wCons (wTup wNil) wNil)) (wCons (wLst (wCons (wTup wNil) wNil)) wNil)))
    (wSeq (wFor (wRange1 (wCons (wSlot 1) wNil)) (wNm 2)
      (wSeq (wAsg (wLst wNil) (wNm 5))
    (wSeq (wFor (wOver (wSlot 4) fLst) (wNm 6)
      (wExpr (wBM mExtend (wSlot 5) (wCons (wLc (wOver (wSlot 0) fLst) (wNm 7) wYes (wBin oAdd (wSlot 6) (wTup (wCons (wSlot 7) wNil))) [7]) wNil))))
    (wPar 3 4 (wCons (wBin oAdd (wSlot 3) (wSlot 5)) (wCons (wSlot 5) wNil))))))
    (wRet (wSlot 3))))
theorem nd__law_words : N__law_words.Nodup := by decide +kernel
theorem l__law_words (hr : Room 0 (cxD P2 w K mg base N__law_words "_law_words" (defScope (top 50)) f cd A outer s H E).A) (hgd : (cxD P2 w K mg base N__law_words "_law_words" (defScope (top 50)) f cd A outer s H E).A.guards = some []) (g_range : mg "range" = none) :
    LSs (cxD P2 w K mg base N__law_words "_law_words" (defScope (top 50)) f cd A outer s H E) (defBody (top 50)) (w__law_words) := by
  have nd := nd__law_words
  exact (lss_cons (ls_par (i := 3) (k := 4) rfl nd rfl rfl (by decide) rfl rfl (la_cons (le_lst (la_cons (le_tup la_nil) la_nil)) (la_cons (le_lst (la_cons (le_tup la_nil) la_nil)) la_nil)) rfl)
    (lss_cons (ls_for PassesOwn.never rfl (li_range1 (by rfl) g_range (la_cons (sl_ 1) la_nil)) (gn_ 2 nd)
      (lss_cons (ks_ 5 nd (le_lst la_nil))
    (lss_cons (ls_for PassesOwn.never rfl (li_lst (sl_ 4)) (gn_ 6 nd)
      (lss_one (ls_expr (le_bm F.plainAttrs_list F.slot_list_extend F.type_list_extend ml_extend (sl_ 5) (la_cons (le_lc rfl nd (li_lst (sl_ 0)) (blkOk_by (own := [("name", 7)]) (by kernel_rfl)) (fun _ _ _ _ _ => (go_ 7 nd)) (fun _ _ _ _ _ => lts_nil) (fun _ _ _ _ _ => (le_bin ol_add (sl_ 6) (le_tup (la_cons (sl_ 7) la_nil))))) la_nil)))))
    (lss_one (ls_par (i := 3) (k := 4) rfl nd rfl rfl (by decide) rfl rfl (la_cons (le_bin ol_add (sl_ 3) (sl_ 5)) (la_cons (sl_ 5) la_nil)) rfl)))))
    (lss_one (ls_ret (sl_ 3)))))

/-! _law_long_words -/
abbrev N__law_long_words : List Str := ["dice", "plain", "names", "found", "turn", "spot", "word", "state", "some"]
abbrev P__law_long_words : List Str := ["dice", "plain", "names"]
def w__law_long_words (s__law_roll s__law_one_of : SpD) : WS := (wSeq (wAsg (wLst wNil) (wNm 3))
    (wSeq (wFor (wRange1 (wCons (wC (.int 4)) wNil)) (wNm 4)
      (wSeq (wAsg (wTup (wCons (wTup wNil) (wCons (wC (.int 0)) wNil))) (wGT 2 (wG1 (wNm 6) (wG1 (wNm 7) wG0))))
    (wSeq (wFor (wRange1 (wCons (wCall s__law_roll (wCons (wSlot 0) (wCons (wC (.int 13)) wNil))) wNil)) (wNm 5)
      (wSeq (wAsg (wIf (wAnd (wBl (wBin (oIs true) (wSlot 7) (wC .non))) (wBl (wBin oGt (wCall s__law_roll (wCons (wSlot 0) (wCons (wC (.int 8)) wNil))) (wC (.int 0))))) (wCB cSorted (wCons (wBin oIx (wBin oIx (wSlot 1) (wSlot 7)) (wC (.int 0))) wNil)) (wSlot 2)) (wNm 8))
    (wIfS (wBl (wBin (oEq true) (wSlot 8) (wLst wNil))) (wSeq (wAsg (wBin oAdd (wSlot 6) (wTup (wCons (wCall s__law_one_of (wCons (wSlot 0) (wCons (wSlot 8) wNil))) wNil))) (wNm 6))
    (wAsg (wIf (wBl (wBin (oIs true) (wSlot 7) (wC .non))) (wGet1 (wBin oIx (wBin oIx (wSlot 1) (wSlot 7)) (wC (.int 0))) (wBin oIx (wSlot 6) (wNegV (wC (.int 1))))) (wC .non)) (wNm 7))) wNext)))
    (wExpr (wBM mAppend (wSlot 3) (wCons (wSlot 6) wNil))))))
    (wRet (wSlot 3))))
theorem nd__law_long_words : N__law_long_words.Nodup := by decide +kernel
theorem l__law_long_words {s__law_roll s__law_one_of : SpD} (hr : Room 2 (cxD P2 w K mg base N__law_long_words "_law_long_words" (defScope (top 51)) f cd A outer s H E).A) (hgd : (cxD P2 w K mg base N__law_long_words "_law_long_words" (defScope (top 51)) f cd A outer s H E).A.guards = some []) (g_range : mg "range" = none) (g_sorted : mg "sorted" = none) (F__law_roll : FnD P2 w K mg base 1 "_law_roll" 2 s__law_roll) (F__law_one_of : FnD P2 w K mg base 2 "_law_one_of" 2 s__law_one_of) :
    LSs (cxD P2 w K mg base N__law_long_words "_law_long_words" (defScope (top 51)) f cd A outer s H E) (defBody (top 51)) (w__law_long_words s__law_roll s__law_one_of) := by
  have nd := nd__law_long_words
  exact (lss_cons (ks_ 3 nd (le_lst la_nil))
    (lss_cons (ls_for PassesOwn.never rfl (li_range1 (by rfl) g_range (la_cons le_int la_nil)) (gn_ 4 nd)
      (lss_cons (ls_asg (le_tup (la_cons (le_tup la_nil) (la_cons le_int la_nil))) (lg_tup rfl (lgs_cons (gn_ 6 nd) (lgs_cons (gn_ 7 nd) lgs_nil))))
    (lss_cons (ls_for PassesOwn.never rfl (li_range1 (by rfl) g_range (la_cons (le_call F__law_roll hr (by decide) hgd (by rfl) (la_cons (sl_ 0) (la_cons le_int la_nil))) la_nil)) (gn_ 5 nd)
      (lss_cons (ks_ 8 nd (le_if (lt_w (lw_and (lt_cmp (ol_is true) (sl_ 7) le_non (nomark _)) (lw_and1 (lt_cmp ol_gt (le_call F__law_roll hr (by decide) hgd (by rfl) (la_cons (sl_ 0) (la_cons le_int la_nil))) le_int (nomark _))))) (le_callB (cl_sorted rfl) (by rfl) g_sorted boot_sorted (la_cons (le_ix hr (le_ix hr (sl_ 1) (sl_ 7) (fun _ _ => rfl)) le_int (fun _ _ => rfl)) la_nil)) (sl_ 2)))
    (lss_one (ls_if (lt_cmp (ol_eqA hr true) (sl_ 8) (le_lst la_nil) (nomark _)) (lss_cons (ks_ 6 nd (le_bin ol_add (sl_ 6) (le_tup (la_cons (le_call F__law_one_of hr (by decide) hgd (by rfl) (la_cons (sl_ 0) (la_cons (sl_ 8) la_nil))) la_nil))))
    (lss_one (ks_ 7 nd (le_if (lt_cmp (ol_is true) (sl_ 7) le_non (nomark _)) (le_get1 hr (le_ix hr (le_ix hr (sl_ 1) (sl_ 7) (fun _ _ => rfl)) le_int (fun _ _ => rfl)) (le_ix hr (sl_ 6) (le_neg le_int) (fun _ _ => rfl)) ⟨rfl, rfl, rfl, rfl⟩) le_non)))) lss_nil))))
    (lss_one (ls_expr (le_bm F.plainAttrs_list F.slot_list_append F.type_list_append ml_append (sl_ 3) (la_cons (sl_ 6) la_nil)))))))
    (lss_one (ls_ret (sl_ 3)))))

/-! _law_word_right -/
abbrev N__law_word_right : List Str := ["plain", "part", "word", "state"]
abbrev P__law_word_right : List Str := ["plain", "part", "word"]
def w__law_word_right (s__law_state s__law_offer s_Part_after s_Part_contains s_Part_getitem : SpD) : WS := (wSeq (wAsg (wCall s__law_state (wCons (wSlot 0) (wCons (wSlot 2) wNil))) (wNm 3))
    (wSeq (wIfS (wBl (wBin (oEq true) (wCB cRepr (wCons (wLst (wCons (wMeth "Part" "after" s_Part_after (wSlot 1) (wCons (wSlot 2) wNil)) (wCons (wBin (oOwnIn false "Part" s_Part_contains) (wSlot 2) (wSlot 1)) wNil))) wNil)) (wCB cRepr (wCons (wLst (wCons (wSlot 3) (wCons (wBin (oIs true) (wSlot 3) (wC .non)) wNil))) wNil)))) (wRet (wC (.bl false))) wNext)
    (wRet (wOrV (wBin (oIs false) (wSlot 3) (wC .non)) (wBin (oEq false) (wCB cRepr (wCons (wBin (oOwnIx "Part" s_Part_getitem) (wSlot 1) (wSlot 2)) wNil)) (wCB cRepr (wCons (wCall s__law_offer (wCons (wSlot 0) (wCons (wSlot 3) wNil))) wNil)))))))
theorem nd__law_word_right : N__law_word_right.Nodup := by decide +kernel
theorem l__law_word_right {s__law_state s__law_offer s_Part_after s_Part_contains s_Part_getitem : SpD} (hr : Room 5 (cxD P2 w K mg base N__law_word_right "_law_word_right" (defScope (top 52)) f cd A outer s H E).A) (hgd : (cxD P2 w K mg base N__law_word_right "_law_word_right" (defScope (top 52)) f cd A outer s H E).A.guards = some []) (g_repr : mg "repr" = none) (IX_Part : FnIn K mg "Part" "__getitem__") (F__law_state : FnD P2 w K mg base 1 "_law_state" 2 s__law_state) (F__law_offer : FnD P2 w K mg base 1 "_law_offer" 2 s__law_offer) (F_Part_after : MtD P2 w K mg base 4 "Part" "after" 2 s_Part_after) (F_Part_contains : MtD P2 w K mg base 3 "Part" "__contains__" 2 s_Part_contains) (F_Part_getitem : MtD P2 w K mg base 4 "Part" "__getitem__" 2 s_Part_getitem) :
    LSs (cxD P2 w K mg base N__law_word_right "_law_word_right" (defScope (top 52)) f cd A outer s H E) (defBody (top 52)) (w__law_word_right s__law_state s__law_offer s_Part_after s_Part_contains s_Part_getitem) := by
  have nd := nd__law_word_right
  exact (lss_cons (ks_ 3 nd (le_call F__law_state hr (by decide) hgd (by rfl) (la_cons (sl_ 0) (la_cons (sl_ 2) la_nil))))
    (lss_cons (ls_if (lt_cmp (ol_eqA hr true) (le_callB (cl_repr hr hgd) (by rfl) g_repr boot_repr (la_cons (le_lst (la_cons (le_meth F_Part_after hr (by decide) hgd (sl_ 1) (la_cons (sl_ 2) la_nil)) (la_cons (le_cmp (ol_ownInA F_Part_contains hr (by decide) hgd false) (sl_ 2) (sl_ 1) (by with_unfolding_all rfl)) la_nil))) la_nil)) (le_callB (cl_repr hr hgd) (by rfl) g_repr boot_repr (la_cons (le_lst (la_cons (sl_ 3) (la_cons (le_cmp (ol_is true) (sl_ 3) le_non (nomark _)) la_nil))) la_nil)) (nomark _)) (lss_one (ls_ret le_bl)) lss_nil)
    (lss_one (ls_ret (le_or (le_cmp (ol_is false) (sl_ 3) le_non (nomark _)) (le_one (le_cmp (ol_eqA hr false) (le_callB (cl_repr hr hgd) (by rfl) g_repr boot_repr (la_cons (le_ownIx F_Part_getitem IX_Part hr (by decide) hgd (sl_ 1) (sl_ 2) (fun _ _ => rfl)) la_nil)) (le_callB (cl_repr hr hgd) (by rfl) g_repr boot_repr (la_cons (le_call F__law_offer hr (by decide) hgd (by rfl) (la_cons (sl_ 0) (la_cons (sl_ 3) la_nil))) la_nil)) (nomark _))))))))

/-! _law_words_right -/
abbrev N__law_words_right : List Str := ["dice", "plain", "part", "names", "most", "words", "some", "odd", "word", "value"]
abbrev P__law_words_right : List Str := ["dice", "plain", "part", "names"]
def w__law_words_right (s__law_roll s__law_words s__law_state s__law_long_words s__law_word_right s_Part_contains : SpD) (s_Part_words : SpGD) : WS := (wSeq (wAsg (wCall s__law_roll (wCons (wSlot 0) (wCons (wC (.int 4)) wNil))) (wNm 4))
    (wSeq (wAsg (wCall s__law_words (wCons (wSlot 3) (wCons (wSlot 4) wNil))) (wNm 5))
    (wSeq (wIfS (wBl (wBin (oEq true) (wCB cRepr (wCons (wListG "Part" "words" s_Part_words (wSlot 2) (wCons (wSlot 4) wNil)) wNil)) (wCB cRepr (wCons (wLc (wOver (wSlot 5) fLst) (wNm 8) (wBl (wBin (oIs true) (wCall s__law_state (wCons (wSlot 1) (wCons (wSlot 8) wNil))) (wC .non))) (wSlot 8) [8]) wNil)))) (wRet (wC (.bl false))) wNext)
    (wSeq (wAsg (wBin oAdd (wBin oAdd (wSlot 5) (wCall s__law_long_words (wCons (wSlot 0) (wCons (wSlot 1) (wCons (wSlot 3) wNil))))) (wLst (wCons (wTup (wCons (wC (.str "q")) wNil)) (wCons (wTup (wCons (wC (.str "q")) (wCons (wC (.str "q")) wNil))) (wCons (wBin oAdd (wCB cTuple (wCons (wSlot 3) wNil)) (wTup (wCons (wC (.str "qq")) wNil))) wNil))))) (wNm 6))
    (wSeq (wIfS (wBl (wBin (oEq true) (wLc (wOver (wSlot 6) fLst) (wNm 8) (wNot (wTru (wCall s__law_word_right (wCons (wSlot 1) (wCons (wSlot 2) (wCons (wSlot 8) wNil)))))) (wSlot 8) [8]) (wLst wNil))) (wRet (wC (.bl false))) wNext)
    (wSeq (wAsg (wLst (wCons (wC .non) (wCons (wC (.str "")) (wCons (wC (.str "a")) (wCons (wCB cList (wCons (wBin oIx (wSlot 6) (wNegV (wC (.int 1)))) wNil)) (wCons (wTup (wCons (wTup wNil) wNil)) (wCons (wTup (wCons (wC (.str "")) wNil)) (wCons (wTup (wCons (wC (.str "A")) wNil)) (wCons (wC (.int 0)) (wCons (wDNew false) (wCons (wTup (wCons (wC .non) wNil)) (wCons (wTup (wCons (wC (.str "a")) (wCons (wC (.int 1)) wNil))) (wCons (wLst (wCons (wTup wNil) wNil)) wNil))))))))))))) (wNm 7))
    (wRet (wBin (oEq false) (wLc (wOver (wSlot 7) fLst) (wNm 9) (wBl (wBin (oOwnIn false "Part" s_Part_contains) (wSlot 9) (wSlot 2))) (wSlot 9) [9]) (wLst wNil)))))))))
theorem nd__law_words_right : N__law_words_right.Nodup := by decide +kernel
theorem l__law_words_right {s__law_roll s__law_words s__law_state s__law_long_words s__law_word_right s_Part_contains : SpD} {s_Part_words : SpGD} (hr : Room 6 (cxD P2 w K mg base N__law_words_right "_law_words_right" (defScope (top 53)) f cd A outer s H E).A) (hgd : (cxD P2 w K mg base N__law_words_right "_law_words_right" (defScope (top 53)) f cd A outer s H E).A.guards = some []) (g_repr : mg "repr" = none) (g_list : mg "list" = none) (g_tuple : mg "tuple" = none) (F__law_roll : FnD P2 w K mg base 1 "_law_roll" 2 s__law_roll) (F__law_words : FnD P2 w K mg base 1 "_law_words" 2 s__law_words) (F__law_state : FnD P2 w K mg base 1 "_law_state" 2 s__law_state) (F__law_long_words : FnD P2 w K mg base 3 "_law_long_words" 3 s__law_long_words) (F__law_word_right : FnD P2 w K mg base 6 "_law_word_right" 3 s__law_word_right) (F_Part_contains : MtD P2 w K mg base 3 "Part" "__contains__" 2 s_Part_contains) (G_Part_words : GMtD P2 w K mg base 3 "Part" "words" 2 s_Part_words) :
    LSs (cxD P2 w K mg base N__law_words_right "_law_words_right" (defScope (top 53)) f cd A outer s H E) (defBody (top 53)) (w__law_words_right s__law_roll s__law_words s__law_state s__law_long_words s__law_word_right s_Part_contains s_Part_words) := by
  have nd := nd__law_words_right
  exact (lss_cons (ks_ 4 nd (le_call F__law_roll hr (by decide) hgd (by rfl) (la_cons (sl_ 0) (la_cons le_int la_nil))))
    (lss_cons (ks_ 5 nd (le_call F__law_words hr (by decide) hgd (by rfl) (la_cons (sl_ 3) (la_cons (sl_ 4) la_nil))))
    (lss_cons (ls_if (lt_cmp (ol_eqA hr true) (le_callB (cl_repr hr hgd) (by rfl) g_repr boot_repr (la_cons (le_listG G_Part_words hr (by decide) (sl_ 2) (la_cons (sl_ 4) la_nil) (by rfl) g_list) la_nil)) (le_callB (cl_repr hr hgd) (by rfl) g_repr boot_repr (la_cons (le_lc rfl nd (li_lst (sl_ 5)) (blkOk_by (own := [("word", 8)]) (by kernel_rfl)) (fun _ _ _ _ _ => (go_ 8 nd)) (fun _ _ _ _ _ => (lts_one (lt_cmp (ol_is true) (le_call F__law_state hr (by decide) hgd (by rfl) (la_cons (sl_ 1) (la_cons (sl_ 8) la_nil))) le_non (nomark _)))) (fun _ _ _ _ _ => (sl_ 8))) la_nil)) (nomark _)) (lss_one (ls_ret le_bl)) lss_nil)
    (lss_cons (ks_ 6 nd (le_bin ol_add (le_bin ol_add (sl_ 5) (le_call F__law_long_words hr (by decide) hgd (by rfl) (la_cons (sl_ 0) (la_cons (sl_ 1) (la_cons (sl_ 3) la_nil))))) (le_lst (la_cons (le_tup (la_cons le_str la_nil)) (la_cons (le_tup (la_cons le_str (la_cons le_str la_nil))) (la_cons (le_bin ol_add (le_callT cl_tuple (by rfl) g_tuple boot_tuple (la_cons (sl_ 3) la_nil)) (le_tup (la_cons le_str la_nil))) la_nil))))))
    (lss_cons (ls_if (lt_cmp (ol_eqA hr true) (le_lc rfl nd (li_lst (sl_ 6)) (blkOk_by (own := [("word", 8)]) (by kernel_rfl)) (fun _ _ _ _ _ => (go_ 8 nd)) (fun _ _ _ _ _ => (lts_one (lt_not (lt_val (le_call F__law_word_right hr (by decide) hgd (by rfl) (la_cons (sl_ 1) (la_cons (sl_ 2) (la_cons (sl_ 8) la_nil)))) (by intro _; rfl))))) (fun _ _ _ _ _ => (sl_ 8))) (le_lst la_nil) (nomark _)) (lss_one (ls_ret le_bl)) lss_nil)
    (lss_cons (ks_ 7 nd (le_lst (la_cons le_non (la_cons le_str (la_cons le_str (la_cons (le_callT (cl_list rfl) (by rfl) g_list boot_list (la_cons (le_ix hr (sl_ 6) (le_neg le_int) (fun _ _ => rfl)) la_nil)) (la_cons (le_tup (la_cons (le_tup la_nil) la_nil)) (la_cons (le_tup (la_cons le_str la_nil)) (la_cons (le_tup (la_cons le_str la_nil)) (la_cons le_int (la_cons le_dnewK (la_cons (le_tup (la_cons le_non la_nil)) (la_cons (le_tup (la_cons le_str (la_cons le_int la_nil))) (la_cons (le_lst (la_cons (le_tup la_nil) la_nil)) la_nil))))))))))))))
    (lss_one (ls_ret (le_cmp (ol_eqA hr false) (le_lc rfl nd (li_lst (sl_ 7)) (blkOk_by (own := [("value", 9)]) (by kernel_rfl)) (fun _ _ _ _ _ => (go_ 9 nd)) (fun _ _ _ _ _ => (lts_one (lt_cmp (ol_ownInA F_Part_contains hr (by decide) hgd false) (sl_ 9) (sl_ 2) (by with_unfolding_all rfl)))) (fun _ _ _ _ _ => (sl_ 9))) (le_lst la_nil) (nomark _))))))))))

/-! _law_right -/
abbrev N__law_right : List Str := ["dice", "names", "plain", "rests", "text", "due", "told", "part", "used", "row", "rest", "other", "at"]
abbrev P__law_right : List Str := ["dice"]
def w__law_right (s__law_actions s__law_roll s__law_part s__law_made_part s__law_offer s__law_words_right s_Part_offer s_Part_str s_Part_len s_Part_eq s_Part_actions s_Part_rests s_Part_steps : SpD) : WS := (wSeq (wAsg (wCall s__law_actions (wCons (wSlot 0) (wCons (wCall s__law_roll (wCons (wSlot 0) (wCons (wC (.int 5)) wNil))) wNil))) (wNm 1))
    (wSeq (wAsg (wCall s__law_part (wCons (wSlot 0) (wCons (wSlot 1) (wCons (wC (.int 8)) wNil)))) (wNm 2))
    (wSeq (wAsg (wTup (wCons (wCall s__law_made_part (wCons (wSlot 2) wNil)) (wCons (wLst wNil) wNil))) (wGT 2 (wG1 (wNm 7) (wG1 (wNm 8) wG0))))
    (wSeq (wFor (wOver (wSlot 2) fLst) (wGT 2 (wG1 (wNm 9) (wG1 (wNm 10) wG0)))
      (wAsg (wSortedSetS (wBin oAdd (wSlot 8) (wCB cList (wCons (wSlot 9) wNil)))) (wNm 8)))
    (wSeq (wAsg (wCB cTuple (wCons (wLc (wEnum (wCons (wSlot 2) wNil)) (wGT 2 (wG1 (wNm 12) (wG1 (wNm 9) wG0))) (wTru (wBin oIx (wSlot 9) (wC (.int 1)))) (wSlot 12) [12, 9]) wNil)) (wNm 3))
    (wSeq (wAsg (wBin oAdd (wBin oAdd (wBin oAdd (wBin oAdd (wC (.str "part of ")) (wCB cStrInt (wCons (wCB cLen (wCons (wSlot 2) wNil)) wNil))) (wC (.str " states, "))) (wCB cStrInt (wCons (wCB cLen (wCons (wSlot 8) wNil)) wNil))) (wC (.str " actions"))) (wNm 4))
    (wSeq (wAsg (wCB cReprX (wCons (wLst (wCons (wCB cTuple (wCons (wLc (wOver (wSlot 2) fLst) (wGT 2 (wG1 (wNm 9) (wG1 (wNm 10) wG0))) wYes (wSlot 9) [9, 10]) wNil)) (wCons (wSlot 3) (wCons (wCB cTuple (wCons (wSlot 8) wNil)) (wCons (wCB cLen (wCons (wSlot 2) wNil)) (wCons (wSlot 4) wNil)))))) wNil)) (wNm 5))
    (wSeq (wAsg (wLst (wCons (wProp "Part" s_Part_steps (wSlot 7)) (wCons (wProp "Part" s_Part_rests (wSlot 7)) (wCons (wProp "Part" s_Part_actions (wSlot 7)) (wCons (wCB (cOwnLen "Part" s_Part_len) (wCons (wSlot 7) wNil)) (wCons (wCB (cOwnStr "Part" s_Part_str) (wCons (wSlot 7) wNil)) wNil)))))) (wNm 6))
    (wSeq (wIfS (wBl (wBin (oEq true) (wCB cReprX (wCons (wSlot 6) wNil)) (wSlot 5))) (wRet (wC (.bl false))) wNext)
    (wSeq (wExpr (wClear (wBin oIx (wBin oIx (wSlot 6) (wC (.int 0))) (wC (.int 0)))))
    (wSeq (wIfS (wBl (wBin (oEq true) (wCB cReprX (wCons (wLst (wCons (wProp "Part" s_Part_steps (wSlot 7)) (wCons (wProp "Part" s_Part_rests (wSlot 7)) (wCons (wProp "Part" s_Part_actions (wSlot 7)) (wCons (wCB (cOwnLen "Part" s_Part_len) (wCons (wSlot 7) wNil)) (wCons (wCB (cOwnStr "Part" s_Part_str) (wCons (wSlot 7) wNil)) wNil)))))) wNil)) (wSlot 5))) (wRet (wC (.bl false))) wNext)
    (wSeq (wIfS (wBl (wBin (oEq true) (wCB cReprX (wCons (wLc (wRange1 (wCons (wCB cLen (wCons (wSlot 2) wNil)) wNil)) (wNm 12) wYes (wMeth "Part" "offer" s_Part_offer (wSlot 7) (wCons (wSlot 12) wNil)) [12]) wNil)) (wCB cReprX (wCons (wLc (wRange1 (wCons (wCB cLen (wCons (wSlot 2) wNil)) wNil)) (wNm 12) wYes (wCall s__law_offer (wCons (wSlot 2) (wCons (wSlot 12) wNil))) [12]) wNil)))) (wRet (wC (.bl false))) wNext)
    (wSeq (wPar 11 12 (wCons (wCB cList (wCons (wSlot 2) wNil)) (wCons (wCall s__law_roll (wCons (wSlot 0) (wCons (wCB cLen (wCons (wSlot 2) wNil)) wNil))) wNil)))
    (wSeq (wAsg (wTup (wCons (wBin oIx (wBin oIx (wSlot 2) (wSlot 12)) (wC (.int 0))) (wCons (wNotV (wBin oIx (wBin oIx (wSlot 2) (wSlot 12)) (wC (.int 1)))) wNil))) (wSub (wSlot 11) (wSlot 12)))
    (wSeq (wIfS (wOr (wBl (wBin (oOwnEq true "Part" ["str", "tuple"] s_Part_eq) (wSlot 7) (wCall s__law_made_part (wCons (wSlot 2) wNil)))) (wOr (wBl (wBin (oOwnEq false "Part" ["str", "tuple"] s_Part_eq) (wSlot 7) (wCall s__law_made_part (wCons (wSlot 11) wNil)))) (wOr (wBl (wBin (oOwnEq false "Part" ["str", "tuple"] s_Part_eq) (wSlot 7) (wSlot 5))) (wBl (wBin (oOwnEq false "Part" ["str", "tuple"] s_Part_eq) (wSlot 7) (wProp "Part" s_Part_steps (wSlot 7))))))) (wRet (wC (.bl false))) wNext)
    (wSeq (wIfS (wAnd (wBl (wBin oLt (wCB cLen (wCons (wSlot 2) wNil)) (wC (.int 8)))) (wBl (wBin (oOwnEq false "Part" ["str", "tuple"] s_Part_eq) (wSlot 7) (wCall s__law_made_part (wCons (wBin oAdd (wSlot 2) (wLst (wCons (wTup (wCons (wDNew false) (wCons (wC (.bl false)) wNil))) wNil))) wNil))))) (wRet (wC (.bl false))) wNext)
    (wRet (wCall s__law_words_right (wCons (wSlot 0) (wCons (wSlot 2) (wCons (wSlot 7) (wCons (wSlot 1) wNil))))))))))))))))))))))
theorem nd__law_right : N__law_right.Nodup := by decide +kernel
theorem l__law_right {s__law_actions s__law_roll s__law_part s__law_made_part s__law_offer s__law_words_right s_Part_offer s_Part_str s_Part_len s_Part_eq s_Part_actions s_Part_rests s_Part_steps : SpD} (hr : Room 7 (cxD P2 w K mg base N__law_right "_law_right" (defScope (top 54)) f cd A outer s H E).A) (hgd : (cxD P2 w K mg base N__law_right "_law_right" (defScope (top 54)) f cd A outer s H E).A.guards = some []) (g_sorted : mg "sorted" = none) (g_set : mg "set" = none) (g_list : mg "list" = none) (g_tuple : mg "tuple" = none) (g_enumerate : mg "enumerate" = none) (g_str : mg "str" = none) (g_len : mg "len" = none) (g_repr : mg "repr" = none) (g_range : mg "range" = none) (SM : SmOk K) (EQ_Part : EqOk K mg "Part" ["str", "tuple"]) (F__law_actions : FnD P2 w K mg base 3 "_law_actions" 2 s__law_actions) (F__law_roll : FnD P2 w K mg base 1 "_law_roll" 2 s__law_roll) (F__law_part : FnD P2 w K mg base 2 "_law_part" 3 s__law_part) (F__law_made_part : FnD P2 w K mg base 7 "_law_made_part" 1 s__law_made_part) (F__law_offer : FnD P2 w K mg base 1 "_law_offer" 2 s__law_offer) (F__law_words_right : FnD P2 w K mg base 7 "_law_words_right" 4 s__law_words_right) (F_Part_offer : MtD P2 w K mg base 2 "Part" "offer" 2 s_Part_offer) (F_Part_str : MtD P2 w K mg base 1 "Part" "__str__" 1 s_Part_str) (F_Part_len : MtD P2 w K mg base 1 "Part" "__len__" 1 s_Part_len) (F_Part_eq : MtD P2 w K mg base 1 "Part" "__eq__" 2 s_Part_eq) (F_Part_actions : PrD P2 w K mg base 1 "Part" "actions" s_Part_actions) (F_Part_rests : PrD P2 w K mg base 1 "Part" "rests" s_Part_rests) (F_Part_steps : PrD P2 w K mg base 2 "Part" "steps" s_Part_steps) :
    LSs (cxD P2 w K mg base N__law_right "_law_right" (defScope (top 54)) f cd A outer s H E) (defBody (top 54)) (w__law_right s__law_actions s__law_roll s__law_part s__law_made_part s__law_offer s__law_words_right s_Part_offer s_Part_str s_Part_len s_Part_eq s_Part_actions s_Part_rests s_Part_steps) := by
  have nd := nd__law_right
  exact (lss_cons (ks_ 1 nd (le_call F__law_actions hr (by decide) hgd (by rfl) (la_cons (sl_ 0) (la_cons (le_call F__law_roll hr (by decide) hgd (by rfl) (la_cons (sl_ 0) (la_cons le_int la_nil))) la_nil))))
    (lss_cons (ks_ 2 nd (le_call F__law_part hr (by decide) hgd (by rfl) (la_cons (sl_ 0) (la_cons (sl_ 1) (la_cons le_int la_nil)))))
    (lss_cons (ls_asg (le_tup (la_cons (le_call F__law_made_part hr (by decide) hgd (by rfl) (la_cons (sl_ 2) la_nil)) (la_cons (le_lst la_nil) la_nil))) (lg_tup rfl (lgs_cons (gn_ 7 nd) (lgs_cons (gn_ 8 nd) lgs_nil))))
    (lss_cons (ls_for PassesOwn.never rfl (li_lst (sl_ 2)) (lg_tup rfl (lgs_cons (gn_ 9 nd) (lgs_cons (gn_ 10 nd) lgs_nil)))
      (lss_one (ks_ 8 nd (le_sortedSetS rfl (by rfl) g_sorted (by rfl) g_set (le_bin ol_add (sl_ 8) (le_callT (cl_list rfl) (by rfl) g_list boot_list (la_cons (sl_ 9) la_nil)))))))
    (lss_cons (ks_ 3 nd (le_callT cl_tuple (by rfl) g_tuple boot_tuple (la_cons (le_lc rfl nd (li_enum (by rfl) g_enumerate (la_cons (sl_ 2) la_nil)) (blkOk_by (own := [("at", 12), ("row", 9)]) (by kernel_rfl)) (fun _ _ _ _ _ => (lo_tup rfl (los_cons (go_ 12 nd) (los_cons (go_ 9 nd) los_nil)))) (fun _ _ _ _ _ => (lts_one (lt_val (le_ix hr (sl_ 9) le_int (fun _ _ => rfl)) (by intro _; rfl)))) (fun _ _ _ _ _ => (sl_ 12))) la_nil)))
    (lss_cons (ks_ 4 nd (le_bin ol_add (le_bin ol_add (le_bin ol_add (le_bin ol_add le_str (le_callT cl_strInt (by rfl) g_str boot_str (la_cons (le_callB cl_len (by rfl) g_len boot_len (la_cons (sl_ 2) la_nil)) la_nil))) le_str) (le_callT cl_strInt (by rfl) g_str boot_str (la_cons (le_callB cl_len (by rfl) g_len boot_len (la_cons (sl_ 8) la_nil)) la_nil))) le_str))
    (lss_cons (ks_ 5 nd (le_callB (cl_reprX SM hr hgd) (by rfl) g_repr boot_repr (la_cons (le_lst (la_cons (le_callT cl_tuple (by rfl) g_tuple boot_tuple (la_cons (le_lc rfl nd (li_lst (sl_ 2)) (blkOk_by (own := [("row", 9), ("rest", 10)]) (by kernel_rfl)) (fun _ _ _ _ _ => (lo_tup rfl (los_cons (go_ 9 nd) (los_cons (go_ 10 nd) los_nil)))) (fun _ _ _ _ _ => lts_nil) (fun _ _ _ _ _ => (sl_ 9))) la_nil)) (la_cons (sl_ 3) (la_cons (le_callT cl_tuple (by rfl) g_tuple boot_tuple (la_cons (sl_ 8) la_nil)) (la_cons (le_callB cl_len (by rfl) g_len boot_len (la_cons (sl_ 2) la_nil)) (la_cons (sl_ 4) la_nil)))))) la_nil)))
    (lss_cons (ks_ 6 nd (le_lst (la_cons (le_prop F_Part_steps hr (by decide) hgd (sl_ 7)) (la_cons (le_prop F_Part_rests hr (by decide) hgd (sl_ 7)) (la_cons (le_prop F_Part_actions hr (by decide) hgd (sl_ 7)) (la_cons (le_callB (cl_ownLen F_Part_len hr (by decide) hgd) (by rfl) g_len boot_len (la_cons (sl_ 7) la_nil)) (la_cons (le_callT (cl_ownStr F_Part_str hr (by decide) hgd) (by rfl) g_str boot_str (la_cons (sl_ 7) la_nil)) la_nil)))))))
    (lss_cons (ls_if (lt_cmp (ol_eqA hr true) (le_callB (cl_reprX SM hr hgd) (by rfl) g_repr boot_repr (la_cons (sl_ 6) la_nil)) (sl_ 5) (nomark _)) (lss_one (ls_ret le_bl)) lss_nil)
    (lss_cons (ls_expr (le_clear (le_ix hr (le_ix hr (sl_ 6) le_int (fun _ _ => rfl)) le_int (fun _ _ => rfl))))
    (lss_cons (ls_if (lt_cmp (ol_eqA hr true) (le_callB (cl_reprX SM hr hgd) (by rfl) g_repr boot_repr (la_cons (le_lst (la_cons (le_prop F_Part_steps hr (by decide) hgd (sl_ 7)) (la_cons (le_prop F_Part_rests hr (by decide) hgd (sl_ 7)) (la_cons (le_prop F_Part_actions hr (by decide) hgd (sl_ 7)) (la_cons (le_callB (cl_ownLen F_Part_len hr (by decide) hgd) (by rfl) g_len boot_len (la_cons (sl_ 7) la_nil)) (la_cons (le_callT (cl_ownStr F_Part_str hr (by decide) hgd) (by rfl) g_str boot_str (la_cons (sl_ 7) la_nil)) la_nil)))))) la_nil)) (sl_ 5) (nomark _)) (lss_one (ls_ret le_bl)) lss_nil)
    (lss_cons (ls_if (lt_cmp (ol_eqA hr true) (le_callB (cl_reprX SM hr hgd) (by rfl) g_repr boot_repr (la_cons (le_lc rfl nd (li_range1 (by rfl) g_range (la_cons (le_callB cl_len (by rfl) g_len boot_len (la_cons (sl_ 2) la_nil)) la_nil)) (blkOk_by (own := [("at", 12)]) (by kernel_rfl)) (fun _ _ _ _ _ => (go_ 12 nd)) (fun _ _ _ _ _ => lts_nil) (fun _ _ _ _ _ => (le_meth F_Part_offer hr (by decide) hgd (sl_ 7) (la_cons (sl_ 12) la_nil)))) la_nil)) (le_callB (cl_reprX SM hr hgd) (by rfl) g_repr boot_repr (la_cons (le_lc rfl nd (li_range1 (by rfl) g_range (la_cons (le_callB cl_len (by rfl) g_len boot_len (la_cons (sl_ 2) la_nil)) la_nil)) (blkOk_by (own := [("at", 12)]) (by kernel_rfl)) (fun _ _ _ _ _ => (go_ 12 nd)) (fun _ _ _ _ _ => lts_nil) (fun _ _ _ _ _ => (le_call F__law_offer hr (by decide) hgd (by rfl) (la_cons (sl_ 2) (la_cons (sl_ 12) la_nil))))) la_nil)) (nomark _)) (lss_one (ls_ret le_bl)) lss_nil)
    (lss_cons (ls_par (i := 11) (k := 12) rfl nd rfl rfl (by decide) rfl rfl (la_cons (le_callT (cl_list rfl) (by rfl) g_list boot_list (la_cons (sl_ 2) la_nil)) (la_cons (le_call F__law_roll hr (by decide) hgd (by rfl) (la_cons (sl_ 0) (la_cons (le_callB cl_len (by rfl) g_len boot_len (la_cons (sl_ 2) la_nil)) la_nil))) la_nil)) rfl)
    (lss_cons (ls_asg (le_tup (la_cons (le_ix hr (le_ix hr (sl_ 2) (sl_ 12) (fun _ _ => rfl)) le_int (fun _ _ => rfl)) (la_cons (le_not (le_ix hr (le_ix hr (sl_ 2) (sl_ 12) (fun _ _ => rfl)) le_int (fun _ _ => rfl))) la_nil))) (lg_sub hr (sl_ 11) (sl_ 12)))
    (lss_cons (ls_if (lt_w (lw_or (lt_cmp (ol_ownEq F_Part_eq EQ_Part hr (by decide) hgd true) (sl_ 7) (le_call F__law_made_part hr (by decide) hgd (by rfl) (la_cons (sl_ 2) la_nil)) (nomark _)) (lw_or (lt_cmp (ol_ownEq F_Part_eq EQ_Part hr (by decide) hgd false) (sl_ 7) (le_call F__law_made_part hr (by decide) hgd (by rfl) (la_cons (sl_ 11) la_nil)) (nomark _)) (lw_or (lt_cmp (ol_ownEq F_Part_eq EQ_Part hr (by decide) hgd false) (sl_ 7) (sl_ 5) (nomark _)) (lw_or1 (lt_cmp (ol_ownEq F_Part_eq EQ_Part hr (by decide) hgd false) (sl_ 7) (le_prop F_Part_steps hr (by decide) hgd (sl_ 7)) (nomark _))))))) (lss_one (ls_ret le_bl)) lss_nil)
    (lss_cons (ls_if (lt_w (lw_and (lt_cmp ol_lt (le_callB cl_len (by rfl) g_len boot_len (la_cons (sl_ 2) la_nil)) le_int (nomark _)) (lw_and1 (lt_cmp (ol_ownEq F_Part_eq EQ_Part hr (by decide) hgd false) (sl_ 7) (le_call F__law_made_part hr (by decide) hgd (by rfl) (la_cons (le_bin ol_add (sl_ 2) (le_lst (la_cons (le_tup (la_cons le_dnewK (la_cons le_bl la_nil))) la_nil))) la_nil)) (nomark _))))) (lss_one (ls_ret le_bl)) lss_nil)
    (lss_one (ls_ret (le_call F__law_words_right hr (by decide) hgd (by rfl) (la_cons (sl_ 0) (la_cons (sl_ 2) (la_cons (sl_ 7) (la_cons (sl_ 1) la_nil)))))))))))))))))))))))

/-! law -/
abbrev N_law : List Str := ["script", "at", "ring", "told", "due", "dice", "turn"]
abbrev P_law : List Str := ["script"]
def w_law (s__law_dice s__law_right s_Part s_Part_after s_Part_offer s_Part_len s_Part_actions : SpD) (s_Part_words : SpGD) : WS := (wSeq (wFor (wRange1 (wCons (wCB cMax (wCons (wC (.int 1)) (wCons (wCB cMin (wCons (wC (.int 8)) (wCons (wCB cLen (wCons (wSlot 0) wNil)) wNil))) wNil))) wNil)) (wNm 1)
      (wSeq (wAsg (wCall s__law_dice (wCons (wSlot 0) (wCons (wSlot 1) wNil))) (wNm 5))
    (wFor (wRange1 (wCons (wC (.int 2)) wNil)) (wNm 6)
      (wIfS (wNot (wTru (wCall s__law_right (wCons (wSlot 5) wNil)))) (wRet (wC (.bl false))) wNext))))
    (wSeq (wAsg (wMake "Part" s_Part (wCons (wTup (wCons (wD2 (wC (.str "b")) (wC (.int 1)) (wC (.str "a")) (wC (.int 7))) (wCons (wD1 (wC (.str "a")) (wC (.int 2))) (wCons (wD1 (wC (.str "a")) (wC (.int 3))) (wCons (wD1 (wC (.str "a")) (wC (.int 4))) (wCons (wD1 (wC (.str "a")) (wC (.int 5))) (wCons (wD1 (wC (.str "a")) (wC (.int 6))) (wCons (wD1 (wC (.str "c")) (wC (.int 7))) (wCons (wD1 (wC (.str "d")) (wC (.int 0))) wNil))))))))) (wCons (wTup (wCons (wC (.int 0)) (wCons (wC (.int 7)) wNil))) wNil))) (wNm 2))
    (wSeq (wAsg (wLst (wCons (wC (.int 8)) (wCons (wCB (cOwnLen "Part" s_Part_len) (wCons (wSlot 2) wNil)) (wCons (wProp "Part" s_Part_actions (wSlot 2)) (wCons (wMeth "Part" "offer" s_Part_offer (wSlot 2) (wCons (wC (.int 0)) wNil)) (wCons (wMeth "Part" "after" s_Part_after (wSlot 2) (wCons (wBin oMul (wTup (wCons (wC (.str "a")) (wCons (wC (.str "d")) wNil))) (wC (.int 3))) wNil)) (wCons (wListG "Part" "words" s_Part_words (wSlot 2) (wCons (wC (.int 2)) wNil)) wNil))))))) (wNm 3))
    (wSeq (wExpr (wBM mAppend (wSlot 3) (wCons (wMeth "Part" "offer" s_Part_offer (wMakeE "Part" s_Part (wCons (wTup (wCons (wDNew false) wNil)) wNil)) (wCons (wC (.int 0)) wNil)) wNil)))
    (wSeq (wAsg (wLst (wCons (wC (.int 8)) (wCons (wC (.int 8)) (wCons (wTup (wCons (wC (.str "a")) (wCons (wC (.str "b")) (wCons (wC (.str "c")) (wCons (wC (.str "d")) wNil))))) (wCons (wTup (wCons (wTup (wCons (wC (.str "a")) (wCons (wC (.str "b")) wNil))) (wCons (wC (.bl true)) wNil))) (wCons (wC (.int 0)) (wCons (wLst (wCons (wTup wNil) (wCons (wTup (wCons (wC (.str "a")) wNil)) (wCons (wTup (wCons (wC (.str "b")) wNil)) (wCons (wTup (wCons (wC (.str "a")) (wCons (wC (.str "d")) wNil))) (wCons (wTup (wCons (wC (.str "b")) (wCons (wC (.str "a")) wNil))) wNil)))))) wNil))))))) (wNm 4))
    (wRet (wBin (oEq false) (wCB cRepr (wCons (wSlot 3) wNil)) (wCB cRepr (wCons (wBin oAdd (wSlot 4) (wLst (wCons (wTup (wCons (wTup wNil) (wCons (wC (.bl false)) wNil))) wNil))) wNil)))))))))
theorem nd_law : N_law.Nodup := by decide +kernel
theorem l_law {s__law_dice s__law_right s_Part s_Part_after s_Part_offer s_Part_len s_Part_actions : SpD} {s_Part_words : SpGD} (hr : Room 8 (cxD P2 w K mg base N_law "law" (defScope (top 55)) f cd A outer s H E).A) (hgd : (cxD P2 w K mg base N_law "law" (defScope (top 55)) f cd A outer s H E).A.guards = some []) (g_range : mg "range" = none) (g_max : mg "max" = none) (g_min : mg "min" = none) (g_len : mg "len" = none) (g_list : mg "list" = none) (g_repr : mg "repr" = none) {tk_MAX_STATES : Tok} (m_MAX_STATES : mg "MAX_STATES" = some (.int 8 tk_MAX_STATES)) (F__law_dice : FnD P2 w K mg base 1 "_law_dice" 2 s__law_dice) (F__law_right : FnD P2 w K mg base 8 "_law_right" 1 s__law_right) (F_Part : MkD P2 w K mg base 5 "Part" 3 s_Part) (E_Part : MkE P2 w K mg base 5 "Part" 3 s_Part) (F_Part_after : MtD P2 w K mg base 4 "Part" "after" 2 s_Part_after) (F_Part_offer : MtD P2 w K mg base 2 "Part" "offer" 2 s_Part_offer) (F_Part_len : MtD P2 w K mg base 1 "Part" "__len__" 1 s_Part_len) (F_Part_actions : PrD P2 w K mg base 1 "Part" "actions" s_Part_actions) (G_Part_words : GMtD P2 w K mg base 3 "Part" "words" 2 s_Part_words) :
    LSs (cxD P2 w K mg base N_law "law" (defScope (top 55)) f cd A outer s H E) (defBody (top 55)) (w_law s__law_dice s__law_right s_Part s_Part_after s_Part_offer s_Part_len s_Part_actions s_Part_words) := by
  have nd := nd_law
  exact (lss_cons (ls_for PassesOwn.never rfl (li_range1 (by rfl) g_range (la_cons (le_callB (cl_max rfl) (by rfl) g_max boot_max (la_cons le_int (la_cons (le_callB (cl_min rfl) (by rfl) g_min boot_min (la_cons le_int (la_cons (le_callB cl_len (by rfl) g_len boot_len (la_cons (sl_ 0) la_nil)) la_nil))) la_nil))) la_nil)) (gn_ 1 nd)
      (lss_cons (ks_ 5 nd (le_call F__law_dice hr (by decide) hgd (by rfl) (la_cons (sl_ 0) (la_cons (sl_ 1) la_nil))))
    (lss_one (ls_for PassesOwn.never rfl (li_range1 (by rfl) g_range (la_cons le_int la_nil)) (gn_ 6 nd)
      (lss_one (ls_if (lt_not (lt_val (le_call F__law_right hr (by decide) hgd (by rfl) (la_cons (sl_ 5) la_nil)) (by intro _; rfl))) (lss_one (ls_ret le_bl)) lss_nil))))))
    (lss_cons (ks_ 2 nd (le_make F_Part hr (by decide) hgd (by rfl) (la_cons (le_tup (la_cons (le_d2 le_str le_int le_str le_int) (la_cons (le_d1 le_str le_int) (la_cons (le_d1 le_str le_int) (la_cons (le_d1 le_str le_int) (la_cons (le_d1 le_str le_int) (la_cons (le_d1 le_str le_int) (la_cons (le_d1 le_str le_int) (la_cons (le_d1 le_str le_int) la_nil))))))))) (la_cons (le_tup (la_cons le_int (la_cons le_int la_nil))) la_nil))))
    (lss_cons (ks_ 3 nd (le_lst (la_cons (le_glob (d := .int 8) rfl (by rfl) m_MAX_STATES ⟨_, rfl⟩) (la_cons (le_callB (cl_ownLen F_Part_len hr (by decide) hgd) (by rfl) g_len boot_len (la_cons (sl_ 2) la_nil)) (la_cons (le_prop F_Part_actions hr (by decide) hgd (sl_ 2)) (la_cons (le_meth F_Part_offer hr (by decide) hgd (sl_ 2) (la_cons le_int la_nil)) (la_cons (le_meth F_Part_after hr (by decide) hgd (sl_ 2) (la_cons (le_bin ol_mul (le_tup (la_cons le_str (la_cons le_str la_nil))) le_int) la_nil)) (la_cons (le_listG G_Part_words hr (by decide) (sl_ 2) (la_cons le_int la_nil) (by rfl) g_list) la_nil))))))))
    (lss_cons (ls_expr (le_bm F.plainAttrs_list F.slot_list_append F.type_list_append ml_append (sl_ 3) (la_cons (le_meth F_Part_offer hr (by decide) hgd (le_makeE E_Part hr (by decide) hgd (by rfl) (la_cons (le_tup (la_cons le_dnewK la_nil)) la_nil)) (la_cons le_int la_nil)) la_nil)))
    (lss_cons (ks_ 4 nd (le_lst (la_cons le_int (la_cons le_int (la_cons (le_tup (la_cons le_str (la_cons le_str (la_cons le_str (la_cons le_str la_nil))))) (la_cons (le_tup (la_cons (le_tup (la_cons le_str (la_cons le_str la_nil))) (la_cons le_bl la_nil))) (la_cons le_int (la_cons (le_lst (la_cons (le_tup la_nil) (la_cons (le_tup (la_cons le_str la_nil)) (la_cons (le_tup (la_cons le_str la_nil)) (la_cons (le_tup (la_cons le_str (la_cons le_str la_nil))) (la_cons (le_tup (la_cons le_str (la_cons le_str la_nil))) la_nil)))))) la_nil))))))))
    (lss_one (ls_ret (le_cmp (ol_eqA hr false) (le_callB (cl_repr hr hgd) (by rfl) g_repr boot_repr (la_cons (sl_ 3) la_nil)) (le_callB (cl_repr hr hgd) (by rfl) g_repr boot_repr (la_cons (le_bin ol_add (sl_ 4) (le_lst (la_cons (le_tup (la_cons (le_tup la_nil) (la_cons le_bl la_nil))) la_nil))) la_nil)) (nomark _)))))))))

end
end K02

set_option Elab.async false
set_option linter.all false
set_option maxRecDepth 100000
set_option maxHeartbeats 2000000
/-! MpV2: the readings once more, as abbrevs (printed by mkv.py). -/
namespace MV
open PySem PySem.Spec
open PyProof.Rows hiding St
open L2
open MP hiding wSlot wC wBin wNil wCons wTup wLst wCall oAdd oInt2 oInt0 oSub oMod oFdiv oOrd oLt oLe oGt oGe oIn oIs oEq oIx oSl wNoPart wPart wSlice wFld wTru wBl wChain wAnd wOr wNot wAndV wOrV wNotV wNegV wIf wMeth wMake wNext wSeq wExpr wRet wIfS wNever wNm wG0 wG1 wGT oSet wSub wAsg wPar wPar3 wAug wFldS wWhile wLk wOver fTup fLst fStr wRange1 wRange2 wEnum wZip fDct wOverD wFor wYes wLc wLc2 wDc wCB cLen cAll cAny cSorted cList cTuple cAbs cMax cMin cInt cDict oMul oPow cRepr wIsi wListItems wGet1 wGet2 wBM wBM0 mAppend mExtend mPopAt wStar wDNew wD1 wDc2 wD1T wSortedSet wListItemsR oOwnIn cOwnLen oOwnEq oOwnIx wProp cReprX oEqRows cStrInt cOwnStr wFmt wJoin wClear wMakeE wGPlain wGNext wGSeq wGFrom wGFor wListG wSortedSetS wD2
abbrev wSlot (i : Nat) : WE := fun sl h Q => ∃ d, sl[i]? = some (some d) ∧ Q d h
abbrev wC (d : D) : WE := fun _ h Q => Q d h
abbrev wBin (g : O2) (wa wb : WE) : WE := fun sl h Q => wa sl h fun x h1 => wb sl h1 fun y h2 => g x y h2 Q
abbrev wNil : WA := fun _ h Q => Q [] h
abbrev wCons (w : WE) (wr : WA) : WA := fun sl h Q => w sl h fun d h1 => wr sl h1 fun ds h2 => Q (d :: ds) h2
abbrev wTup (wa : WA) : WE := fun sl h Q => wa sl h fun ds h1 => ds.length ≤ sizeLine ∧ Q (.tup ds) h1
abbrev wLst (wa : WA) : WE := fun sl h Q => wa sl h fun ds h1 => ds.length ≤ sizeLine ∧ Q (.ref h1.length) (h1 ++ [.lst ds])
abbrev wCall (sp : SpD) (wa : WA) : WE := fun sl h Q => wa sl h fun ds h1 => sp ds h1 Q
abbrev oAdd : O2 := fun x y h Q => match x, y with
  | .int a, .int b => Q (.int (a + b)) h
  | .str a, .str b => a.length + b.length ≤ sizeLine ∧ Q (.str (a ++ b)) h
  | .tup xs, .tup ys => xs.length + ys.length ≤ sizeLine ∧ Q (.tup (xs ++ ys)) h
  | .ref m, .ref n => ∃ xs ys, h[m]? = some (.lst xs) ∧ h[n]? = some (.lst ys) ∧ xs.length + ys.length ≤ sizeLine ∧ Q (.ref h.length) (h ++ [.lst (xs ++ ys)])
  | _, _ => False
abbrev oInt2 (C : Int → Int → Prop) (f : Int → Int → D) : O2 := fun x y h Q => match x, y with
  | .int a, .int b => C a b ∧ Q (f a b) h
  | _, _ => False
abbrev oInt0 (f : Int → Int → D) : O2 := fun x y h Q => match x, y with
  | .int a, .int b => Q (f a b) h
  | _, _ => False
abbrev oSub : O2 := oInt0 fun a b => .int (a - b)
abbrev oMod : O2 := oInt2 (fun _ b => 0 < b) fun a b => .int (a % b)
abbrev oFdiv : O2 := oInt2 CDivW fun a b => .int (a / b)
abbrev oOrd (f : Int → Int → Bool) (g : Str → Str → Bool) : O2 := fun x y h Q => match x, y with
  | .int a, .int b => Q (.bl (f a b)) h
  | .str a, .str b => Q (.bl (g a b)) h
  | _, _ => False
abbrev oLt : O2 := oOrd (fun a b => decide (a < b)) ltS
abbrev oLe : O2 := oOrd (fun a b => decide (a ≤ b)) fun a b => !ltS b a
abbrev oGt : O2 := oOrd (fun a b => decide (b < a)) fun a b => ltS b a
abbrev oGe : O2 := oOrd (fun a b => decide (b ≤ a)) fun a b => !ltS a b
abbrev oIn (neg : Bool) : O2 := fun x y h Q => ∃ b, inDat h x y = some b ∧ Q (.bl (if neg then !b else b)) h
abbrev oIs (neg : Bool) : O2 := fun x y h Q => match y with
  | .non => Q (.bl (if neg then !decide (x = .non) else decide (x = .non))) h
  | .bl b => match x with
    | .bl a => Q (.bl (if neg then !decide (a = b) else decide (a = b))) h
    | _ => False
  | _ => False
abbrev oEq (neg : Bool) : O2 := fun x y h Q => match x, y with
  | .int a, .int b => Q (.bl (if neg then !decide (a = b) else decide (a = b))) h
  | .str a, .str b => Q (.bl (if neg then !decide (a = b) else decide (a = b))) h
  | .bl a, .bl b => Q (.bl (if neg then !decide (a = b) else decide (a = b))) h
  | .non, .non => Q (.bl (!neg)) h
  | .non, .int _ => Q (.bl neg) h
  | .int _, .non => Q (.bl neg) h
  | x, y => ∃ d e, PyR h x d ∧ PyR h y e ∧ SeqAt.shaped d = true ∧ SeqAt.shaped e = true ∧ Q (.bl (if neg then !PyData.eqv d e else PyData.eqv d e)) h
abbrev oIx : O2 := fun x y h Q => match x with
  | .ref n => match h[n]? with
    | some (.lst xs) => ∃ i d, y = .int i ∧ atI xs i = some d ∧ Q d h
    | some (.scr xs) => ∃ i d, y = .int i ∧ atI xs i = some d ∧ Q d h
    | some (.dct t _ kvs) => keyOk t y = true ∧ ∃ d, getD kvs y = some d ∧ Q d h
    | _ => False
  | .tup xs => ∃ i d, y = .int i ∧ atI xs i = some d ∧ Q d h
  | _ => False
abbrev oSl (x : D) (lo hi : Option Int) (h : Hd) (Q : D → Hd → Prop) : Prop := match x with
  | .ref n => ∃ xs, items h n = some xs ∧ Q (.ref h.length) (h ++ [.lst (cutD xs lo hi)])
  | .tup xs => Q (.tup (cutD xs lo hi)) h
  | .str z => z.length ≤ sizeLine ∧ Q (.str (cutS z lo hi)) h
  | _ => False
abbrev wNoPart : WO := fun _ h Q => Q none h
abbrev wPart (w : WE) : WO := fun sl h Q => w sl h fun d h1 => ∃ i, d = .int i ∧ Q (some i) h1
abbrev wSlice (w : WE) (wl wh : WO) : WE := fun sl h Q => w sl h fun x h1 => wl sl h1 fun lo h2 => wh sl h2 fun hi h3 => oSl x lo hi h3 Q
abbrev wFld (cs : List Str) (f : Str) (w : WE) : WE := fun sl h Q => w sl h fun x h1 => ∃ n c fs d, x = .ref n ∧ h1[n]? = some (.ins c fs) ∧ hasF cs c = true ∧ fs.lookup f = some d ∧ Q d h1
abbrev wTru (w : WE) : WT := fun sl h Q => w sl h fun d h1 => ∃ b, truD h1 d = some b ∧ Q b h1
abbrev wBl (w : WE) : WT := fun sl h Q => w sl h fun d h1 => ∃ b, d = .bl b ∧ Q b h1
abbrev wChain (g g' : O2) (wa wb wc : WE) : WE := fun sl h Q => wa sl h fun x h1 => wb sl h1 fun y h2 => g x y h2 fun z h3 => ∃ b, z = .bl b ∧ (if b = true then wc sl h3 fun w h4 => g' y w h4 Q else Q (.bl false) h3)
abbrev wAnd (wa wb : WT) : WT := fun sl h Q => wa sl h fun c h1 => if c = true then wb sl h1 Q else Q false h1
abbrev wOr (wa wb : WT) : WT := fun sl h Q => wa sl h fun c h1 => if c = true then Q true h1 else wb sl h1 Q
abbrev wNot (wa : WT) : WT := fun sl h Q => wa sl h fun c h1 => Q (!c) h1
abbrev wAndV (wa wb : WE) : WE := fun sl h Q => wa sl h fun x h1 => ∃ b, truD h1 x = some b ∧ if b = true then wb sl h1 Q else Q x h1
abbrev wOrV (wa wb : WE) : WE := fun sl h Q => wa sl h fun x h1 => ∃ b, truD h1 x = some b ∧ if b = true then Q x h1 else wb sl h1 Q
abbrev wNotV (wa : WE) : WE := fun sl h Q => wa sl h fun x h1 => ∃ b, truD h1 x = some b ∧ Q (.bl (!b)) h1
abbrev wNegV (wa : WE) : WE := fun sl h Q => wa sl h fun x h1 => ∃ i, x = .int i ∧ Q (.int (-i)) h1
abbrev wIf (wc : WT) (wa wb : WE) : WE := fun sl h Q => wc sl h fun c h1 => if c = true then wa sl h1 Q else wb sl h1 Q
abbrev wMeth (cn m : Str) (sp : SpD) (wo : WE) (wa : WA) : WE := fun sl h Q => wo sl h fun x h1 => (∃ n fs, x = .ref n ∧ h1[n]? = some (.ins cn fs) ∧ fs.lookup m = none) ∧ wa sl h1 fun ds h2 => sp (x :: ds) h2 Q
abbrev wMake (cn : Str) (sp : SpD) (wa : WA) : WE := fun sl h Q => wa sl h fun ds h1 => sp (.ref h1.length :: ds) (h1 ++ [.ins cn []]) fun v h2 => v = .non ∧ Q (.ref h1.length) h2
abbrev wNext : WS := fun E sl h => E.nx sl h
abbrev wSeq (u v : WS) : WS := fun E sl h => u { E with nx := v E } sl h
abbrev wExpr (w : WE) : WS := fun E sl h => w sl h fun _ h1 => E.nx sl h1
abbrev wRet (w : WE) : WS := fun E sl h => w sl h E.rt
abbrev wIfS (wc : WT) (u v : WS) : WS := fun E sl h => wc sl h fun c h1 => if c = true then u E sl h1 else v E sl h1
abbrev wNever : WS := fun _ _ _ => False
abbrev wNm (i : Nat) : WG := fun d sl h Q => Q (sl.set i (some d)) h
abbrev wG0 : WGs := fun ds sl h Q => ds = [] ∧ Q sl h
abbrev wG1 (w : WG) (u : WGs) : WGs := fun ds sl h Q => ∃ d r, ds = d :: r ∧ w d sl h fun sl1 h1 => u r sl1 h1 Q
abbrev wGT (n : Nat) (u : WGs) : WG := fun d sl h Q => ∃ ds, d = .tup ds ∧ ds.length = n ∧ u ds sl h Q
abbrev oSet (o i v : D) (h : Hd) (Q : Hd → Prop) : Prop := match o with
  | .ref n => match h[n]? with
    | some (.lst xs) => ∃ k j, i = .int k ∧ ixN xs.length k = some j ∧ Q (h.set n (.lst (xs.set j v)))
    | some (.dct t false kvs) => keyOk t i = true ∧ kvs.length < sizeLine ∧ Q (h.set n (.dct t false (putD kvs i v)))
    | _ => False
  | _ => False
abbrev wSub (wo wi : WE) : WG := fun d sl h Q => wo sl h fun o h1 => wi sl h1 fun i h2 => oSet o i d h2 fun h3 => Q sl h3
abbrev wAsg (w : WE) (g : WG) : WS := fun E sl h => w sl h fun d h1 => g d sl h1 E.nx
abbrev wPar (i k : Nat) (wa : WA) : WS := fun E sl h => wa sl h fun ds h1 => ∃ d e, ds = [d, e] ∧ E.nx ((sl.set i (some d)).set k (some e)) h1
abbrev wPar3 (i k l : Nat) (wa : WA) : WS := fun E sl h => wa sl h fun ds h1 => ∃ d e f, ds = [d, e, f] ∧ E.nx (((sl.set i (some d)).set k (some e)).set l (some f)) h1
abbrev wAug (i : Nat) (w : WE) : WS := fun E sl h => ∃ m, sl[i]? = some (some (.int m)) ∧ w sl h fun d h1 => ∃ n, d = .int n ∧ E.nx (sl.set i (some (.int (m + n)))) h1
abbrev wFldS (cs : List Str) (f : Str) (wo wv : WE) : WS := fun E sl h => wv sl h fun d h1 => wo sl h1 fun o h2 => ∃ n c fs, o = .ref n ∧ h2[n]? = some (.ins c fs) ∧ hasF cs c = true ∧ fs.length < 1000 ∧ E.nx sl (h2.set n (.ins c (putFD f d fs)))
abbrev wWhile (wc : WT) (wb : WS) : WS := fun E sl h => ∃ W : Nat → Sd → Hd → Prop, (∃ m, W m sl h) ∧ ∀ m sl h, W m sl h →
  wc sl h fun b h1 => if b = true then ∃ N : Sd → Hd → Prop, (∀ sl' h', N sl' h' → ∃ m', m' < m ∧ W m' sl' h') ∧ wb { E with nx := N, ct := N, bk := E.nx } sl h1 else E.nx sl h1
abbrev wLk (w : WE) : WE := fun sl h Q => w sl h fun x h1 => ∃ n t lk kvs, x = .ref n ∧ h1[n]? = some (.dct t lk kvs) ∧ Q x (h1.set n (.dct t true kvs))
abbrev wOver (w : WE) (f : D → Hd → (ItD → Prop)  → Prop) : WI := fun sl h R => w sl h fun x h1 => f x h1 fun t => R t h1
abbrev fTup : D → Hd → (ItD → Prop) → Prop := fun x _ R => ∃ xs, x = .tup xs ∧ R (itSeq xs)
abbrev fLst : D → Hd → (ItD → Prop) → Prop := fun x h R => ∃ n xs, x = .ref n ∧ items h n = some xs ∧ R (itLst n)
abbrev fStr : D → Hd → (ItD → Prop) → Prop := fun x _ R => ∃ s, x = .str s ∧ R (itSeq (s.cps.toList.map fun c => .str ⟨#[c]⟩))
abbrev wRange1 (wa : WA) : WI := fun sl h R => wa sl h fun ds h1 => ∃ j : Int, ds = [.int j] ∧ -(2 ^ 62) ≤ j ∧ j < 2 ^ 62 ∧ R (itSeq (rngD 0 j.toNat)) h1
abbrev wRange2 (wa : WA) : WI := fun sl h R => wa sl h fun ds h1 => ∃ i j : Int, ds = [.int i, .int j] ∧ (-(2 ^ 62) ≤ i ∧ i < 2 ^ 62 ∧ -(2 ^ 62) ≤ j ∧ j < 2 ^ 62) ∧ R (itSeq (rngD i (j - i).toNat)) h1
abbrev wEnum (wa : WA) : WI := fun sl h R => wa sl h fun ds h1 => ∃ n xs, ds = [.ref n] ∧ items h1 n = some xs ∧ R (itEnum n) h1
abbrev wZip (wa : WA) : WI := fun sl h R => wa sl h fun ds h1 => match ds with
  | [.ref a, .ref b] => ∃ xs ys, items h1 a = some xs ∧ items h1 b = some ys ∧ R (itZip a b) h1
  | [.tup xs, .tup ys] => R (itSeq ((xs.zip ys).map fun p => .tup [p.1, p.2])) h1
  | _ => False
abbrev fDct (tk : Bool → Prop) (it : Nat → ItD) : D → Hd → (ItD → Hd → Prop) → Prop := fun x h R => ∃ n t lk kvs, x = .ref n ∧ h[n]? = some (.dct t lk kvs) ∧ tk t ∧ R (it n) (h.set n (.dct t true kvs))
abbrev wOverD (w : WE) (f : D → Hd → (ItD → Hd → Prop) → Prop) : WI := fun sl h R => w sl h fun x h1 => f x h1 R
abbrev wFor (wi : WI) (g : WG) (wb : WS) : WS := fun E sl h => wi sl h fun t h1 => ∃ W : Nat → Nat → Sd → Hd → Prop, (∃ m, W 0 m sl h1) ∧ ∀ i m sl h, W i m sl h →
  (t i h = some none ∧ E.nx sl h) ∨ ∃ d, t i h = some (some d) ∧ ∃ N : Sd → Hd → Prop, (∀ sl' h', N sl' h' → ∃ m', m' < m ∧ W (i + 1) m' sl' h') ∧ g d sl h fun sl2 h2 => wb { E with nx := N, ct := N, bk := E.nx } sl2 h2
abbrev wYes : WT := fun _ h Q => Q true h
abbrev wLc (wi : WI) (g : WG) (tt : WT) (te : WE) (vs : List Nat) : WE := fun sl h Q => wi sl h fun t h1 => ∃ W : Nat → Nat → List D → Hd → Prop, (∃ m, W 0 m [] h1) ∧ ∀ i m acc h, W i m acc h →
  (t i h = some none ∧ Q (.ref h.length) (h ++ [.lst acc])) ∨ ∃ d, t i h = some (some d) ∧ ∃ N : List D → Hd → Prop, (∀ acc' h', N acc' h' → ∃ m', m' < m ∧ W (i + 1) m' acc' h') ∧ g d (wipeD sl vs) h fun sl2 h2 => tt sl2 h2 fun b h3 =>
    if b = true then te sl2 h3 fun y h4 => acc.length < sizeLine ∧ N (acc ++ [y]) h4 else N acc h3
abbrev wLc2 (wi : WI) (g : WG) (tt : WT) (wi1 : WI) (g1 : WG) (tt1 : WT) (te : WE) (vs vs1 : List Nat) : WE := fun sl h Q => wi sl h fun t h1 => ∃ W : Nat → Nat → List D → Hd → Prop, (∃ m, W 0 m [] h1) ∧ ∀ i m acc h, W i m acc h →
  (t i h = some none ∧ Q (.ref h.length) (h ++ [.lst acc])) ∨ ∃ d, t i h = some (some d) ∧ ∃ N : List D → Hd → Prop, (∀ acc' h', N acc' h' → ∃ m', m' < m ∧ W (i + 1) m' acc' h') ∧ g d (wipeD sl vs) h fun sl2 h2 => tt sl2 h2 fun b h3 =>
    if b = true then wi1 sl2 h3 fun t1 h4 => ∃ W1 : Nat → Nat → List D → Hd → Prop, (∃ m, W1 0 m acc h4) ∧ ∀ j k acc h, W1 j k acc h →
      (t1 j h = some none ∧ N acc h) ∨ ∃ d, t1 j h = some (some d) ∧ ∃ N1 : List D → Hd → Prop, (∀ acc' h', N1 acc' h' → ∃ k', k' < k ∧ W1 (j + 1) k' acc' h') ∧ g1 d (wipeD sl2 vs1) h fun sl3 h5 => tt1 sl3 h5 fun b h6 =>
        if b = true then te sl3 h6 fun y h7 => acc.length < sizeLine ∧ N1 (acc ++ [y]) h7 else N1 acc h6
    else N acc h3
abbrev wDc (wi : WI) (g : WG) (tt : WT) (tk tv : WE) (vs : List Nat) : WE := fun sl h Q => wi sl h fun t h1 => ∃ W : Nat → Nat → List (D × D) → Hd → Prop, (∃ m, W 0 m [] h1) ∧ ∀ i m acc h, W i m acc h →
  (t i h = some none ∧ Q (.ref h.length) (h ++ [.dct false false acc])) ∨ ∃ d, t i h = some (some d) ∧ ∃ N : List (D × D) → Hd → Prop, (∀ acc' h', N acc' h' → ∃ m', m' < m ∧ W (i + 1) m' acc' h') ∧ g d (wipeD sl vs) h fun sl2 h2 => tt sl2 h2 fun b h3 =>
    if b = true then tk sl2 h3 fun x h4 => tv sl2 h4 fun y h5 => keyOk false x = true ∧ acc.length < sizeLine ∧ N (putD acc x y) h5 else N acc h3
abbrev wCB (g : CD) (wa : WA) : WE := fun sl h Q => wa sl h fun ds h1 => g ds h1 Q
abbrev cLen : CD := fun ds h Q => ∃ x n, ds = [x] ∧ lenD h x = some n ∧ Q (.int n) h
abbrev cAll : CD := fun ds h Q => ∃ (n : Nat) (bs : List Bool), ds = [.ref n] ∧ items h n = some (bs.map D.bl) ∧ Q (.bl (bs.all (fun b => b))) h
abbrev cAny : CD := fun ds h Q => ∃ (n : Nat) (bs : List Bool), ds = [.ref n] ∧ items h n = some (bs.map D.bl) ∧ Q (.bl (bs.any (fun b => b))) h
abbrev cSorted : CD := fun ds h Q => ∃ n xs, ds = [.ref n] ∧ textsD h n xs ∧ xs.length < 64 ∧ Q (.ref h.length) (h ++ [.lst ((sortS xs).map D.str)])
abbrev cList : CD := fun ds h Q => match ds with
  | [.tup xs] => Q (.ref h.length) (h ++ [.lst xs])
  | [.ref n] => match h[n]? with
    | some (.dct false _ kvs) => Q (.ref h.length) (h ++ [.lst (kvs.map (·.1))])
    | _ => ∃ xs, items h n = some xs ∧ Q (.ref h.length) (h ++ [.lst xs])
  | _ => False
abbrev cTuple : CD := fun ds h Q => match ds with
  | [.tup xs] => Q (.tup xs) h
  | [.ref n] => ∃ xs, items h n = some xs ∧ Q (.tup xs) h
  | _ => False
abbrev cAbs : CD := fun ds h Q => ∃ i, ds = [.int i] ∧ Q (.int (if i < 0 then -i else i)) h
abbrev cMax : CD := fun ds h Q => ∃ i j, ds = [.int i, .int j] ∧ Q (.int (if j > i then j else i)) h
abbrev cMin : CD := fun ds h Q => ∃ i j, ds = [.int i, .int j] ∧ Q (.int (if j < i then j else i)) h
abbrev cInt : CD := fun ds h Q => (∃ i, ds = [.int i] ∧ Q (.int i) h) ∨ ∃ b, ds = [.bl b] ∧ Q (.int (if b then 1 else 0)) h
abbrev cDict : CD := fun ds h Q => ∃ n kvs, ds = [.ref n] ∧ items h n = some (kvs.map fun p => .tup [p.1, p.2]) ∧ (kvs.all fun p => keyOk false p.1) = true ∧ Q (.ref h.length) (h ++ [.dct false false (dictOfPairs kvs)])
abbrev oMul : O2 := fun x y h Q => match x, y with
  | .int a, .int b => CMulW a b ∧ Q (.int (a * b)) h
  | .tup xs, .int k => xs ≠ [] ∧ 2 ≤ k ∧ k ≤ 1000 ∧ xs.length ≤ 1000 ∧ Q (.tup (repD k.toNat xs)) h
  | .ref n, .int k => ∃ xs, h[n]? = some (.lst xs) ∧ -(2 ^ 63) ≤ k ∧ k < 2 ^ 63 ∧ xs.length * k.toNat ≤ sizeLine ∧ Q (.ref h.length) (h ++ [.lst (repD k.toNat xs)])
  | _, _ => False
abbrev oPow : O2 := oInt2 CPowW fun a b => .int (a ^ b.toNat)
abbrev cRepr : CD := fun ds h Q => ∃ x d, ds = [x] ∧ PyR h x d ∧ PyData.showable d = true ∧ PyData.hasDict d = false ∧ d.shown.length ≤ sizeLine ∧ d.depth ≤ 60 ∧ Q (.str d.shown) h
abbrev wIsi (tab : TyN → Option Bool) (w : WE) : WE := fun sl h Q => w sl h fun x h1 => ∃ t b, tyD h1 x = some t ∧ tab t = some b ∧ Q (.bl b) h1
abbrev wListItems (w : WE) : WE := fun sl h Q => w sl h fun x h1 => ∃ n kvs, x = .ref n ∧ h1[n]? = some (.dct false false kvs) ∧ Q (.ref h1.length) (h1 ++ [.lst (kvs.map fun p => .tup [p.1, p.2])])
abbrev wGet1 (wd wy : WE) : WE := fun sl h Q => wd sl h fun x h1 => (∃ n t lk kvs, x = .ref n ∧ h1[n]? = some (.dct t lk kvs)) ∧ wy sl h1 fun y h2 => ∃ n kvs, x = .ref n ∧ isDct h2 n y kvs ∧ Q ((getD kvs y).getD .non) h2
abbrev wGet2 (wd wy wz : WE) : WE := fun sl h Q => wd sl h fun x h1 => (∃ n t lk kvs, x = .ref n ∧ h1[n]? = some (.dct t lk kvs)) ∧ wy sl h1 fun y h2 => wz sl h2 fun z h3 => ∃ n kvs, x = .ref n ∧ isDct h3 n y kvs ∧ Q ((getD kvs y).getD z) h3
abbrev wBM (g : MD) (wo : WE) (wa : WA) : WE := fun sl h Q => wo sl h fun x h1 => isLst h1 x ∧ wa sl h1 fun ds h2 => g x ds h2 Q
abbrev wBM0 (g : MD) (wo : WE) : WE := fun sl h Q => wo sl h fun x h1 => isLst h1 x ∧ g x [] h1 Q
abbrev mAppend : MD := fun x ds h Q => ∃ n xs y, x = .ref n ∧ ds = [y] ∧ h[n]? = some (.lst xs) ∧ xs.length < sizeLine ∧ Q .non (h.set n (.lst (xs ++ [y])))
abbrev mExtend : MD := fun x ds h Q => ∃ n m xs ys, x = .ref n ∧ ds = [.ref m] ∧ h[n]? = some (.lst xs) ∧ h[m]? = some (.lst ys) ∧ xs.length + ys.length ≤ sizeLine ∧ Q .non (h.set n (.lst (xs ++ ys)))
abbrev mPopAt : MD := fun x ds h Q => ∃ n xs i k y, x = .ref n ∧ ds = [.int i] ∧ h[n]? = some (.lst xs) ∧ -(2 ^ 63) ≤ i ∧ i < 2 ^ 63 ∧ seqIndex? i xs.length = some k ∧ xs[k]? = some y ∧ Q y (h.set n (.lst (xs.eraseIdx k)))
abbrev wStar (w : WE) (wr : WA) : WA := fun sl h Q => w sl h fun x h1 => (∃ xs, (x = .tup xs ∨ ∃ n, x = .ref n ∧ items h1 n = some xs) ∧ wr sl h1 fun ys h2 => Q (xs ++ ys) h2)
abbrev wDNew (t : Bool) : WE := fun _ h Q => Q (.ref h.length) (h ++ [.dct t false []])
abbrev wD1 (wk wv : WE) : WE := fun sl h Q => wk sl h fun x h1 => wv sl h1 fun y h2 => keyOk false x = true ∧ Q (.ref h2.length) (h2 ++ [.dct false false [(x, y)]])
abbrev wDc2 (wi : WI) (g : WG) (tt : WT) (wi1 : WI) (g1 : WG) (tt1 : WT) (tk tv : WE) (vs vs1 : List Nat) : WE := fun sl h Q => wi sl h fun t h1 => ∃ W : Nat → Nat → List (D × D) → Hd → Prop, (∃ m, W 0 m [] h1) ∧ ∀ i m acc h, W i m acc h →
  (t i h = some none ∧ Q (.ref h.length) (h ++ [.dct false false acc])) ∨ ∃ d, t i h = some (some d) ∧ ∃ N : List (D × D) → Hd → Prop, (∀ acc' h', N acc' h' → ∃ m', m' < m ∧ W (i + 1) m' acc' h') ∧ g d (wipeD sl vs) h fun sl2 h2 => tt sl2 h2 fun b h3 =>
    if b = true then wi1 sl2 h3 fun t1 h4 => ∃ W1 : Nat → Nat → List (D × D) → Hd → Prop, (∃ m, W1 0 m acc h4) ∧ ∀ j k acc h, W1 j k acc h →
      (t1 j h = some none ∧ N acc h) ∨ ∃ d, t1 j h = some (some d) ∧ ∃ N1 : List (D × D) → Hd → Prop, (∀ acc' h', N1 acc' h' → ∃ k', k' < k ∧ W1 (j + 1) k' acc' h') ∧ g1 d (wipeD sl2 vs1) h fun sl3 h5 => tt1 sl3 h5 fun b h6 =>
        if b = true then tk sl3 h6 fun x h7 => tv sl3 h7 fun y h8 => keyOk false x = true ∧ acc.length < sizeLine ∧ N1 (putD acc x y) h8 else N1 acc h6
    else N acc h3
abbrev wD1T (wk wv : WE) : WE := fun sl h Q => wk sl h fun x h1 => wv sl h1 fun y h2 => keyOk true x = true ∧ Q (.ref h2.length) (h2 ++ [.dct true false [(x, y)]])
abbrev wSortedSet (w : WE) : WE := fun sl h Q => w sl h fun x h1 => ∃ ns : List Int, x = .tup (ns.map .int) ∧ ns.length < 64 ∧ ∀ out : List Int, out.Pairwise (· < ·) → (∀ k, k ∈ out ↔ k ∈ ns) → Q (.ref h1.length) (h1 ++ [.lst (out.map .int)])
abbrev wListItemsR (w : WE) : WE := fun sl h Q => w sl h fun x h1 => ∃ n lk kvs, x = .ref n ∧ h1[n]? = some (.dct false lk kvs) ∧ Q (.ref h1.length) (h1 ++ [.lst (kvs.map fun p => .tup [p.1, p.2])])
abbrev oOwnIn (neg : Bool) (cn : Str) (sp : SpD) : O2 := fun x y h Q => (∃ i fs, y = .ref i ∧ h[i]? = some (.ins cn fs)) ∧ sp [y, x] h fun r h1 => ∃ b, r = .bl b ∧ Q (.bl (if neg then !b else b)) h1
abbrev cOwnLen (cn : Str) (sp : SpD) : CD := fun ds h Q => ∃ i fs, ds = [.ref i] ∧ h[i]? = some (.ins cn fs) ∧ sp [.ref i] h fun r h1 => ∃ k : Nat, r = .int (k : Int) ∧ k < 2 ^ 62 ∧ Q (.int (k : Int)) h1
abbrev oOwnEq (neg : Bool) (cn : Str) (tys : List String) (sp : SpD) : O2 := fun x y h Q => (∃ i fs, x = .ref i ∧ h[i]? = some (.ins cn fs)) ∧ (∃ t, tyD h y = some t ∧ (t = .inr cn ∨ ∃ T ∈ tys, t = .inl T)) ∧ sp [x, y] h fun r h1 => ∃ b, r = .bl b ∧ Q (.bl (if neg then !b else b)) h1
abbrev oOwnIx (cn : Str) (sp : SpD) : O2 := fun x y h Q => (∃ i fs, x = .ref i ∧ h[i]? = some (.ins cn fs)) ∧ sp [x, y] h Q
abbrev wProp (cn : Str) (sp : SpD) (wo : WE) : WE := fun sl h Q => wo sl h fun x h1 => (∃ i fs, x = .ref i ∧ h1[i]? = some (.ins cn fs)) ∧ sp [x] h1 Q
abbrev cReprX : CD := fun ds h Q => ∃ x d, ds = [x] ∧ PyX h x d ∧ PyData.showable d = true ∧ d.shown.length ≤ sizeLine ∧ d.depth ≤ 60 ∧ Q (.str d.shown) h
abbrev oEqRows : O2 := fun x y h Q => ∃ xs ys, x = .tup xs ∧ y = .tup ys ∧ intRows h xs ∧ intRows h ys ∧ Q (.bl (rowsD h xs ys)) h
abbrev cStrInt : CD := fun ds h Q => ∃ i : Int, ds = [.int i] ∧ i.natAbs.log2 < 1920 ∧ Q (.str (toString i)) h
abbrev cOwnStr (cn : Str) (sp : SpD) : CD := fun ds h Q => ∃ i fs, ds = [.ref i] ∧ h[i]? = some (.ins cn fs) ∧ sp [.ref i] h fun r h1 => ∃ x : Str, r = .str x ∧ Q (.str x) h1
abbrev wFmt (w : WE) : WE := fun sl h Q => w sl h fun x h1 => (∃ y : Str, x = .str y ∧ y.length ≤ sizeLine ∧ Q (.str y) h1) ∨ ∃ i : Int, x = .int i ∧ i.natAbs.log2 < 1920 ∧ Q (.str (toString i)) h1
abbrev wJoin (ws : List WE) : WE := fun sl h Q => wJs ws Str.empty sl h fun out h1 => Q (.str out) h1
abbrev wClear (wo : WE) : WE := fun sl h Q => wo sl h fun x h1 => ∃ i kvs, x = .ref i ∧ h1[i]? = some (.dct false false kvs) ∧ Q .non (h1.set i (.dct false false []))
abbrev wMakeE (cn : Str) (sp : SpD) (wa : WA) : WE := fun sl h Q => wa sl h fun ds h1 => (∃ i : Nat, h1[i]? = some (Cell.dfl cn)) ∧ sp (.ref h1.length :: (ds ++ [.tup []])) (h1 ++ [.ins cn []]) fun v h2 => v = .non ∧ Q (.ref h1.length) h2
abbrev wGPlain (w : WS) : WGn := fun q yd sl h => w { nx := q.nx yd, rt := fun _ _ => False, bk := q.bk yd, ct := q.ct yd } sl h
abbrev wGNext : WGn := fun q yd sl h => q.nx yd sl h
abbrev wGSeq (w v : WGn) : WGn := fun q yd sl h => w { q with nx := fun yd' sl' h' => v q yd' sl' h' } yd sl h
abbrev wGFrom (w : WE) : WGn := fun q yd sl h => w sl h fun x h1 => ∃ n xs, x = .ref n ∧ h1[n]? = some (.lst xs) ∧ yd.length + xs.length ≤ sizeLine ∧ q.nx (yd ++ xs) sl h1
abbrev wGFor (wi : WI) (g : WG) (wb : WGn) : WGn := fun E yd sl h => wi sl h fun t h1 => ∃ W : Nat → Nat → List D → Sd → Hd → Prop, (∃ m, W 0 m yd sl h1) ∧ ∀ i m yd sl h, W i m yd sl h →
  (t i h = some none ∧ E.nx yd sl h) ∨ ∃ d, t i h = some (some d) ∧ ∃ N : List D → Sd → Hd → Prop, (∀ yd' sl' h', N yd' sl' h' → ∃ m', m' < m ∧ W (i + 1) m' yd' sl' h') ∧ g d sl h fun sl2 h2 => wb { E with nx := N, ct := N, bk := E.nx } yd sl2 h2
abbrev wListG (c m : Str) (sp : SpGD) (wo : WE) (wa : WA) : WE := fun sl h Q => wo sl h fun x h1 => ∃ n fs, x = .ref n ∧ h1[n]? = some (.ins c fs) ∧ fs.lookup m = none ∧ wa sl h1 fun ds h2 => sp (x :: ds) h2 fun out h3 => Q (.ref h3.length) (h3 ++ [.lst out])
abbrev wSortedSetS (w : WE) : WE := fun sl h Q => w sl h fun x h1 => ∃ (n : Nat) (xs : List Str), x = .ref n ∧ items h1 n = some (xs.map .str) ∧ xs.length < 64 ∧ Q (.ref h1.length) (h1 ++ [.lst ((sortS xs.eraseDups).map .str)])
abbrev wD2 (wk wv wk2 wv2 : WE) : WE := fun sl h Q => wk sl h fun x h1 => wv sl h1 fun y h2 => wk2 sl h2 fun x2 h3 => wv2 sl h3 fun y2 h4 => keyOk false x = true ∧ keyOk false x2 = true ∧ Q (.ref h4.length) (h4 ++ [.dct false false (putD [(x, y)] x2 y2)])
end MV

set_option Elab.async false
set_option linter.all false
set_option maxRecDepth 100000
set_option maxHeartbeats 2000000
/-! K02V: the readings as abbrevs (printed by k02v.py). -/
namespace K02V
open PySem PySem.Spec
open PyProof.Rows hiding St
open L2
open MP hiding wSlot wC wBin wNil wCons wTup wLst wCall oAdd oInt2 oInt0 oSub oMod oFdiv oOrd oLt oLe oGt oGe oIn oIs oEq oIx oSl wNoPart wPart wSlice wFld wTru wBl wChain wAnd wOr wNot wAndV wOrV wNotV wNegV wIf wMeth wMake wNext wSeq wExpr wRet wIfS wNever wNm wG0 wG1 wGT oSet wSub wAsg wPar wPar3 wAug wFldS wWhile wLk wOver fTup fLst fStr wRange1 wRange2 wEnum wZip fDct wOverD wFor wYes wLc wLc2 wDc wCB cLen cAll cAny cSorted cList cTuple cAbs cMax cMin cInt cDict oMul oPow cRepr wIsi wListItems wGet1 wGet2 wBM wBM0 mAppend mExtend mPopAt wStar wDNew wD1 wDc2 wD1T wSortedSet wListItemsR oOwnIn cOwnLen oOwnEq oOwnIx wProp cReprX oEqRows cStrInt cOwnStr wFmt wJoin wClear wMakeE wGPlain wGNext wGSeq wGFrom wGFor wListG wSortedSetS wD2
open MV
open K02 (tabStr tabInt tabBool tabTuple tabDict tabRows tabPart)

abbrev v_is_name : WS := (wSeq (wIfS (wOr (wNot (wTru (wIsi tabStr (wSlot 0)))) (wNot (wBl (wChain oLe oLe (wC (.int 1)) (wCB cLen (wCons (wSlot 0) wNil)) (wC (.int 8)))))) (wRet (wC (.bl false))) wNext)
    (wRet (wCB cAll (wCons (wLc (wOver (wSlot 0) fStr) (wNm 1) wYes (wChain oLe oLe (wC (.str "a")) (wSlot 1) (wC (.str "z"))) [1]) wNil))))
theorem e_is_name : K02.w_is_name = v_is_name := by kernel_rfl
abbrev v_is_ascending : WS := (wRet (wCB cAll (wCons (wLc (wZip (wCons (wSlot 0) (wCons (wSlice (wSlot 0) (wPart (wC (.int 1))) wNoPart) wNil))) (wGT 2 (wG1 (wNm 1) (wG1 (wNm 2) wG0))) wYes (wBin oLt (wSlot 1) (wSlot 2)) [1, 2]) wNil)))
theorem e_is_ascending : K02.w_is_ascending = v_is_ascending := by kernel_rfl
abbrev v_is_index : WS := (wRet (wAndV (wIsi tabInt (wSlot 0)) (wAndV (wNotV (wIsi tabBool (wSlot 0))) (wChain oLe oLt (wC (.int 0)) (wSlot 0) (wSlot 1)))))
theorem e_is_index : K02.w_is_index = v_is_index := by kernel_rfl
abbrev v_is_word (s_is_name : SpD) : WS := (wRet (wAndV (wIsi tabTuple (wSlot 0)) (wCB cAll (wCons (wLc (wOver (wSlot 0) fTup) (wNm 1) wYes (wCall s_is_name (wCons (wSlot 1) wNil)) [1]) wNil))))
theorem e_is_word (s_is_name : SpD) : K02.w_is_word s_is_name = v_is_word s_is_name := by kernel_rfl
abbrev v_require_word (s_is_word : SpD) : WS := (wIfS (wNot (wTru (wCall s_is_word (wCons (wSlot 0) wNil)))) wNever wNext)
theorem e_require_word (s_is_word : SpD) : K02.w_require_word s_is_word = v_require_word s_is_word := by kernel_rfl
abbrev v_require_most (s_is_index : SpD) : WS := (wIfS (wNot (wTru (wCall s_is_index (wCons (wSlot 0) (wCons (wBin oAdd (wC (.int 6)) (wC (.int 1))) wNil))))) wNever wNext)
theorem e_require_most (s_is_index : SpD) : K02.w_require_most s_is_index = v_require_most s_is_index := by kernel_rfl
abbrev v_actions_in : WS := (wSeq (wAsg (wDc2 (wOver (wSlot 0) fTup) (wNm 2) wYes (wOverD (wSlot 2) (fDct (fun _ => True) itKeys)) (wNm 3) wYes (wSlot 3) (wC (.bl true)) [2, 3] [3]) (wNm 1))
    (wRet (wCB cTuple (wCons (wCB cSorted (wCons (wCB cList (wCons (wSlot 1) wNil)) wNil)) wNil))))
theorem e_actions_in : K02.w_actions_in = v_actions_in := by kernel_rfl
abbrev v_are_rows (s_is_index s_is_name : SpD) : WS := (wSeq (wIfS (wOr (wNot (wTru (wIsi tabTuple (wSlot 0)))) (wNot (wBl (wChain oLe oLe (wC (.int 1)) (wCB cLen (wCons (wSlot 0) wNil)) (wC (.int 8)))))) (wRet (wC (.bl false))) wNext)
    (wSeq (wIfS (wNot (wTru (wCB cAll (wCons (wLc (wOver (wSlot 0) fTup) (wNm 3) wYes (wIsi tabDict (wSlot 3)) [3]) wNil)))) (wRet (wC (.bl false))) wNext)
    (wSeq (wAsg (wLc2 (wOver (wSlot 0) fTup) (wNm 3) wYes (wOverD (wSlot 3) (fDct (fun _ => True) itKeys)) (wNm 4) wYes (wSlot 4) [3, 4] [4]) (wNm 1))
    (wSeq (wAsg (wLc2 (wOver (wSlot 0) fTup) (wNm 3) wYes (wOverD (wSlot 3) (fDct (· = false) itVals)) (wNm 5) wYes (wSlot 5) [3, 5] [5]) (wNm 2))
    (wRet (wAndV (wCB cAll (wCons (wLc (wOver (wSlot 1) fLst) (wNm 4) wYes (wCall s_is_name (wCons (wSlot 4) wNil)) [4]) wNil)) (wCB cAll (wCons (wLc (wOver (wSlot 2) fLst) (wNm 5) wYes (wCall s_is_index (wCons (wSlot 5) (wCons (wCB cLen (wCons (wSlot 0) wNil)) wNil))) [5]) wNil))))))))
theorem e_are_rows (s_is_index s_is_name : SpD) : K02.w_are_rows s_is_index s_is_name = v_are_rows s_is_index s_is_name := by kernel_rfl
abbrev v_is_rests (s_is_index s_is_ascending : SpD) : WS := (wSeq (wIfS (wOr (wNot (wTru (wIsi tabTuple (wSlot 0)))) (wNot (wTru (wCB cAll (wCons (wLc (wOver (wSlot 0) fTup) (wNm 2) wYes (wCall s_is_index (wCons (wSlot 2) (wCons (wSlot 1) wNil))) [2]) wNil))))) (wRet (wC (.bl false))) wNext)
    (wRet (wCall s_is_ascending (wCons (wSlot 0) wNil))))
theorem e_is_rests (s_is_index s_is_ascending : SpD) : K02.w_is_rests s_is_index s_is_ascending = v_is_rests s_is_index s_is_ascending := by kernel_rfl
abbrev v_sorted_rows : WS := (wRet (wCB cTuple (wCons (wLc (wOver (wSlot 0) fTup) (wNm 1) wYes (wDc (wOver (wCB cSorted (wCons (wCB cList (wCons (wSlot 1) wNil)) wNil)) fLst) (wNm 2) wYes (wSlot 2) (wBin oIx (wSlot 1) (wSlot 2)) [2]) [1]) wNil)))
theorem e_sorted_rows : K02.w_sorted_rows = v_sorted_rows := by kernel_rfl
abbrev v_next_state : WS := (wRet (wIf (wBl (wBin (oIs false) (wSlot 1) (wC .non))) (wC .non) (wGet2 (wBin oIx (wFld ["Part", "Rows"] "own_steps" (wSlot 0)) (wSlot 1)) (wSlot 2) (wC .non))))
theorem e_next_state : K02.w_next_state = v_next_state := by kernel_rfl
abbrev v_Rows_init (s_sorted_rows : SpD) : WS := (wSeq (wFldS ["Part", "Rows"] "own_steps" (wSlot 0) (wCall s_sorted_rows (wCons (wSlot 1) wNil)))
    (wFldS ["Part", "Rows"] "own_rests" (wSlot 0) (wCB cTuple (wCons (wSortedSet (wSlot 2)) wNil))))
theorem e_Rows_init (s_sorted_rows : SpD) : K02.w_Rows_init s_sorted_rows = v_Rows_init s_sorted_rows := by kernel_rfl
abbrev v_checked_rows (s_actions_in s_are_rows s_is_rests s_Rows : SpD) : WS := (wSeq (wIfS (wOr (wNot (wTru (wCall s_are_rows (wCons (wSlot 0) wNil)))) (wBl (wBin oGt (wCB cLen (wCons (wCall s_actions_in (wCons (wSlot 0) wNil)) wNil)) (wC (.int 4))))) wNever wNext)
    (wSeq (wIfS (wNot (wTru (wCall s_is_rests (wCons (wSlot 1) (wCons (wCB cLen (wCons (wSlot 0) wNil)) wNil))))) wNever wNext)
    (wRet (wMake "Rows" s_Rows (wCons (wSlot 0) (wCons (wSlot 1) wNil))))))
theorem e_checked_rows (s_actions_in s_are_rows s_is_rests s_Rows : SpD) : K02.w_checked_rows s_actions_in s_are_rows s_is_rests s_Rows = v_checked_rows s_actions_in s_are_rows s_is_rests s_Rows := by kernel_rfl
abbrev v_Part_init (s_checked_rows s_actions_in : SpD) : WS := (wSeq (wAsg (wIf (wTru (wIsi tabRows (wSlot 1))) (wSlot 1) (wCall s_checked_rows (wCons (wSlot 1) (wCons (wSlot 2) wNil)))) (wNm 3))
    (wSeq (wFldS ["Part", "Rows"] "own_steps" (wSlot 0) (wFld ["Part", "Rows"] "own_steps" (wSlot 3)))
    (wSeq (wFldS ["Part", "Rows"] "own_rests" (wSlot 0) (wFld ["Part", "Rows"] "own_rests" (wSlot 3)))
    (wFldS ["Part"] "own_actions" (wSlot 0) (wCall s_actions_in (wCons (wFld ["Part", "Rows"] "own_steps" (wSlot 3)) wNil))))))
theorem e_Part_init (s_checked_rows s_actions_in : SpD) : K02.w_Part_init s_checked_rows s_actions_in = v_Part_init s_checked_rows s_actions_in := by kernel_rfl
abbrev v_offer_at : WS := (wRet (wTup (wCons (wCB cTuple (wCons (wCB cList (wCons (wBin oIx (wFld ["Part", "Rows"] "own_steps" (wSlot 0)) (wSlot 1)) wNil)) wNil)) (wCons (wBin (oIn false) (wSlot 1) (wFld ["Part", "Rows"] "own_rests" (wSlot 0))) wNil))))
theorem e_offer_at : K02.w_offer_at = v_offer_at := by kernel_rfl
abbrev v_state_after (s_next_state : SpD) : WS := (wSeq (wAsg (wC (.int 0)) (wNm 2))
    (wSeq (wFor (wOver (wSlot 1) fTup) (wNm 3)
      (wAsg (wCall s_next_state (wCons (wSlot 0) (wCons (wSlot 2) (wCons (wSlot 3) wNil)))) (wNm 2)))
    (wRet (wSlot 2))))
theorem e_state_after (s_next_state : SpD) : K02.w_state_after s_next_state = v_state_after s_next_state := by kernel_rfl
abbrev v_Part_steps (s_sorted_rows : SpD) : WS := (wRet (wCall s_sorted_rows (wCons (wFld ["Part", "Rows"] "own_steps" (wSlot 0)) wNil)))
theorem e_Part_steps (s_sorted_rows : SpD) : K02.w_Part_steps s_sorted_rows = v_Part_steps s_sorted_rows := by kernel_rfl
abbrev v_Part_rests : WS := (wRet (wFld ["Part", "Rows"] "own_rests" (wSlot 0)))
theorem e_Part_rests : K02.w_Part_rests = v_Part_rests := by kernel_rfl
abbrev v_Part_actions : WS := (wRet (wFld ["Part"] "own_actions" (wSlot 0)))
theorem e_Part_actions : K02.w_Part_actions = v_Part_actions := by kernel_rfl
abbrev v_Part_offer (s_is_index s_offer_at : SpD) : WS := (wSeq (wIfS (wNot (wTru (wCall s_is_index (wCons (wSlot 1) (wCons (wCB cLen (wCons (wFld ["Part", "Rows"] "own_steps" (wSlot 0)) wNil)) wNil))))) wNever wNext)
    (wRet (wCall s_offer_at (wCons (wSlot 0) (wCons (wSlot 1) wNil)))))
theorem e_Part_offer (s_is_index s_offer_at : SpD) : K02.w_Part_offer s_is_index s_offer_at = v_Part_offer s_is_index s_offer_at := by kernel_rfl
abbrev v_Part_after (s_require_word s_state_after : SpD) : WS := (wSeq (wExpr (wCall s_require_word (wCons (wSlot 1) wNil)))
    (wRet (wCall s_state_after (wCons (wSlot 0) (wCons (wSlot 1) wNil)))))
theorem e_Part_after (s_require_word s_state_after : SpD) : K02.w_Part_after s_require_word s_state_after = v_Part_after s_require_word s_state_after := by kernel_rfl
abbrev v_Part_words (s_require_most : SpD) : WGn := (wGSeq (wGPlain (wExpr (wCall s_require_most (wCons (wSlot 1) wNil))))
    (wGSeq (wGPlain (wAsg (wLst (wCons (wTup (wCons (wTup wNil) (wCons (wC (.int 0)) wNil))) wNil)) (wNm 2)))
    (wGFor (wRange1 (wCons (wBin oAdd (wSlot 1) (wC (.int 1))) wNil)) (wNm 3)
      (wGSeq (wGFrom (wLc (wOver (wSlot 2) fLst) (wGT 2 (wG1 (wNm 5) (wG1 (wNm 6) wG0))) wYes (wSlot 5) [5, 6]))
    (wGSeq (wGPlain (wAsg (wLc (wOver (wSlot 2) fLst) (wGT 2 (wG1 (wNm 5) (wG1 (wNm 6) wG0))) wYes (wTup (wCons (wSlot 5) (wCons (wBin oIx (wFld ["Part", "Rows"] "own_steps" (wSlot 0)) (wSlot 6)) wNil))) [5, 6]) (wNm 4)))
    (wGPlain (wAsg (wLc2 (wOver (wSlot 4) fLst) (wGT 2 (wG1 (wNm 5) (wG1 (wNm 7) wG0))) wYes (wOverD (wSlot 7) (fDct (· = false) itItems)) (wGT 2 (wG1 (wNm 8) (wG1 (wNm 6) wG0))) wYes (wTup (wCons (wTup (wStar (wSlot 5) (wCons (wSlot 8) wNil))) (wCons (wSlot 6) wNil))) [5, 7, 8, 6] [8, 6]) (wNm 2))))))))
theorem e_Part_words (s_require_most : SpD) : K02.w_Part_words s_require_most = v_Part_words s_require_most := by kernel_rfl
abbrev v_Part_contains (s_state_after s_is_word : SpD) : WS := (wRet (wAndV (wCall s_is_word (wCons (wSlot 1) wNil)) (wBin (oIs true) (wCall s_state_after (wCons (wSlot 0) (wCons (wSlot 1) wNil))) (wC .non))))
theorem e_Part_contains (s_state_after s_is_word : SpD) : K02.w_Part_contains s_state_after s_is_word = v_Part_contains s_state_after s_is_word := by kernel_rfl
abbrev v_Part_getitem (s_offer_at s_state_after s_Part_contains : SpD) : WS := (wSeq (wIfS (wBl (wBin (oOwnIn true "Part" s_Part_contains) (wSlot 1) (wSlot 0))) wNever wNext)
    (wRet (wCall s_offer_at (wCons (wSlot 0) (wCons (wCall s_state_after (wCons (wSlot 0) (wCons (wSlot 1) wNil))) wNil)))))
theorem e_Part_getitem (s_offer_at s_state_after s_Part_contains : SpD) : K02.w_Part_getitem s_offer_at s_state_after s_Part_contains = v_Part_getitem s_offer_at s_state_after s_Part_contains := by kernel_rfl
abbrev v_Part_len : WS := (wRet (wCB cLen (wCons (wFld ["Part", "Rows"] "own_steps" (wSlot 0)) wNil)))
theorem e_Part_len : K02.w_Part_len = v_Part_len := by kernel_rfl
abbrev v_Part_eq : WS := (wRet (wAndV (wIsi tabPart (wSlot 1)) (wAndV (wBin oEqRows (wFld ["Part", "Rows"] "own_steps" (wSlot 0)) (wFld ["Part", "Rows"] "own_steps" (wSlot 1))) (wBin (oEq false) (wFld ["Part", "Rows"] "own_rests" (wSlot 0)) (wFld ["Part", "Rows"] "own_rests" (wSlot 1))))))
theorem e_Part_eq : K02.w_Part_eq = v_Part_eq := by kernel_rfl
abbrev v_Part_str : WS := (wRet (wJoin [(wC (.str "part of ")), (wFmt (wCB cLen (wCons (wFld ["Part", "Rows"] "own_steps" (wSlot 0)) wNil))), (wC (.str " states, ")), (wFmt (wCB cLen (wCons (wFld ["Part"] "own_actions" (wSlot 0)) wNil))), (wC (.str " actions"))]))
theorem e_Part_str : K02.w_Part_str = v_Part_str := by kernel_rfl
abbrev v__law_dice : WS := (wSeq (wAsg (wBin oAdd (wBin oMul (wC (.int 47)) (wSlot 1)) (wC (.int 13))) (wNm 2))
    (wSeq (wIfS (wBl (wBin oLt (wSlot 1) (wCB cLen (wCons (wSlot 0) wNil)))) (wAsg (wBin oIx (wSlot 0) (wSlot 1)) (wNm 2)) wNext)
    (wSeq (wAsg (wBin oMod (wCB cInt (wCons (wCB cAbs (wCons (wSlot 2) wNil)) wNil)) (wBin oPow (wBin oPow (wC (.int 10)) (wC (.int 60))) (wC (.int 10)))) (wNm 3))
    (wSeq (wAsg (wBin oFdiv (wSlot 3) (wBin oPow (wC (.int 10)) (wC (.int 18)))) (wNm 4))
    (wSeq (wAsg (wBin oAdd (wBin oAdd (wBin oAdd (wBin oMul (wBin oMod (wSlot 3) (wC (.int 2147483477))) (wC (.int 50021))) (wBin oMul (wC (.int 3001)) (wSlot 1))) (wBin oMul (wC (.int 29)) (wCB cInt (wCons (wBin oLt (wSlot 2) (wC (.int 0))) wNil)))) (wC (.int 71))) (wNm 5))
    (wRet (wLst (wCons (wSlot 4) (wCons (wBin oMod (wSlot 5) (wC (.int 2147483399))) (wCons (wC (.int 0)) wNil))))))))))
theorem e__law_dice : K02.w__law_dice = v__law_dice := by kernel_rfl
abbrev v__law_roll : WS := (wSeq (wAsg (wCB cInt (wCons (wSlot 1) wNil)) (wNm 2))
    (wSeq (wIfS (wBl (wBin oGt (wBin oIx (wSlot 0) (wC (.int 0))) (wC (.int 0)))) (wSeq (wAsg (wBin oMod (wBin oIx (wSlot 0) (wC (.int 0))) (wSlot 2)) (wNm 5))
    (wSeq (wAsg (wBin oFdiv (wBin oIx (wSlot 0) (wC (.int 0))) (wSlot 2)) (wSub (wSlot 0) (wC (.int 0))))
    (wRet (wCB cInt (wCons (wSlot 5) wNil))))) wNext)
    (wSeq (wAsg (wBin oAdd (wBin oIx (wSlot 0) (wC (.int 2))) (wC (.int 1))) (wSub (wSlot 0) (wC (.int 2))))
    (wSeq (wAsg (wBin oMod (wBin oAdd (wBin oIx (wSlot 0) (wC (.int 1))) (wBin oMul (wC (.int 1000081)) (wBin oIx (wSlot 0) (wC (.int 2))))) (wC (.int 2305843009213693951))) (wNm 3))
    (wSeq (wAsg (wBin oAdd (wBin oMul (wBin oMod (wBin oMul (wSlot 3) (wSlot 3)) (wC (.int 2305843009213693921))) (wSlot 3)) (wBin oMul (wC (.int 8171)) (wBin oIx (wSlot 0) (wC (.int 2))))) (wNm 4))
    (wSeq (wAsg (wBin oMod (wSlot 4) (wC (.int 2305843009213693907))) (wNm 4))
    (wRet (wCB cInt (wCons (wBin oMod (wBin oFdiv (wSlot 4) (wC (.int 4096))) (wSlot 2)) wNil)))))))))
theorem e__law_roll : K02.w__law_roll = v__law_roll := by kernel_rfl
abbrev v__law_one_of (s__law_roll : SpD) : WS := (wRet (wBin oIx (wSlot 1) (wCall s__law_roll (wCons (wSlot 0) (wCons (wCB cLen (wCons (wSlot 1) wNil)) wNil)))))
theorem e__law_one_of (s__law_roll : SpD) : K02.w__law_one_of s__law_roll = v__law_one_of s__law_roll := by kernel_rfl
abbrev v__law_mixed (s__law_roll : SpD) : WS := (wSeq (wPar 2 3 (wCons (wCB cList (wCons (wSlot 1) wNil)) (wCons (wLst wNil) wNil)))
    (wSeq (wWhile (wBl (wBin (oEq true) (wSlot 2) (wLst wNil))) (wExpr (wBM mAppend (wSlot 3) (wCons (wBM mPopAt (wSlot 2) (wCons (wCall s__law_roll (wCons (wSlot 0) (wCons (wCB cLen (wCons (wSlot 2) wNil)) wNil))) wNil)) wNil))))
    (wRet (wSlot 3))))
theorem e__law_mixed (s__law_roll : SpD) : K02.w__law_mixed s__law_roll = v__law_mixed s__law_roll := by kernel_rfl
abbrev v__law_actions (s__law_mixed : SpD) : WS := (wRet (wCB cSorted (wCons (wSlice (wCall s__law_mixed (wCons (wSlot 0) (wCons (wLst (wCons (wC (.str "a")) (wCons (wC (.str "b")) (wCons (wC (.str "ab")) (wCons (wC (.str "go")) (wCons (wC (.str "put")) (wCons (wC (.str "take")) (wCons (wC (.str "x")) (wCons (wC (.str "zzzzzzzz")) wNil))))))))) wNil))) wNoPart (wPart (wSlot 1))) wNil)))
theorem e__law_actions (s__law_mixed : SpD) : K02.w__law_actions s__law_mixed = v__law_actions s__law_mixed := by kernel_rfl
abbrev v__law_part (s__law_roll : SpD) : WS := (wSeq (wPar 4 5 (wCons (wBin oAdd (wC (.int 1)) (wCall s__law_roll (wCons (wSlot 0) (wCons (wSlot 2) wNil)))) (wCons (wLst wNil) wNil)))
    (wSeq (wFor (wRange1 (wCons (wSlot 4) wNil)) (wNm 3)
      (wSeq (wAsg (wDNew false) (wNm 6))
    (wSeq (wFor (wOver (wSlot 1) fLst) (wNm 7)
      (wSeq (wAsg (wCall s__law_roll (wCons (wSlot 0) (wCons (wBin oAdd (wSlot 4) (wC (.int 1))) wNil))) (wNm 8))
    (wIfS (wBl (wBin oLt (wSlot 8) (wSlot 4))) (wAsg (wSlot 8) (wSub (wSlot 6) (wSlot 7))) wNext)))
    (wExpr (wBM mAppend (wSlot 5) (wCons (wTup (wCons (wSlot 6) (wCons (wBin (oEq false) (wCall s__law_roll (wCons (wSlot 0) (wCons (wC (.int 2)) wNil))) (wC (.int 0))) wNil))) wNil))))))
    (wRet (wSlot 5))))
theorem e__law_part (s__law_roll : SpD) : K02.w__law_part s__law_roll = v__law_part s__law_roll := by kernel_rfl
abbrev v__law_made_part (s_Part : SpD) : WS := (wSeq (wAsg (wCB cTuple (wCons (wLc (wEnum (wCons (wSlot 0) wNil)) (wGT 2 (wG1 (wNm 2) (wG1 (wNm 3) wG0))) (wTru (wBin oIx (wSlot 3) (wC (.int 1)))) (wSlot 2) [2, 3]) wNil)) (wNm 1))
    (wRet (wMake "Part" s_Part (wCons (wCB cTuple (wCons (wLc (wOver (wSlot 0) fLst) (wNm 3) wYes (wCB cDict (wCons (wListItemsR (wBin oIx (wSlot 3) (wC (.int 0)))) wNil)) [3]) wNil)) (wCons (wSlot 1) wNil)))))
theorem e__law_made_part (s_Part : SpD) : K02.w__law_made_part s_Part = v__law_made_part s_Part := by kernel_rfl
abbrev v__law_offer : WS := (wRet (wTup (wCons (wCB cTuple (wCons (wCB cSorted (wCons (wBin oIx (wBin oIx (wSlot 0) (wSlot 1)) (wC (.int 0))) wNil)) wNil)) (wCons (wBin oIx (wBin oIx (wSlot 0) (wSlot 1)) (wC (.int 1))) wNil))))
theorem e__law_offer : K02.w__law_offer = v__law_offer := by kernel_rfl
abbrev v__law_state : WS := (wSeq (wAsg (wC (.int 0)) (wNm 2))
    (wSeq (wFor (wOver (wSlot 1) fTup) (wNm 3)
      (wAsg (wIf (wBl (wBin (oIs true) (wSlot 2) (wC .non))) (wGet1 (wBin oIx (wBin oIx (wSlot 0) (wSlot 2)) (wC (.int 0))) (wSlot 3)) (wC .non)) (wNm 2)))
    (wRet (wSlot 2))))
theorem e__law_state : K02.w__law_state = v__law_state := by kernel_rfl
abbrev v__law_words : WS := (wSeq (wPar 3 4 (wCons (wLst (wCons (wTup wNil) wNil)) (wCons (wLst (wCons (wTup wNil) wNil)) wNil)))
    (wSeq (wFor (wRange1 (wCons (wSlot 1) wNil)) (wNm 2)
      (wSeq (wAsg (wLst wNil) (wNm 5))
    (wSeq (wFor (wOver (wSlot 4) fLst) (wNm 6)
      (wExpr (wBM mExtend (wSlot 5) (wCons (wLc (wOver (wSlot 0) fLst) (wNm 7) wYes (wBin oAdd (wSlot 6) (wTup (wCons (wSlot 7) wNil))) [7]) wNil))))
    (wPar 3 4 (wCons (wBin oAdd (wSlot 3) (wSlot 5)) (wCons (wSlot 5) wNil))))))
    (wRet (wSlot 3))))
theorem e__law_words : K02.w__law_words = v__law_words := by kernel_rfl
abbrev v__law_long_words (s__law_roll s__law_one_of : SpD) : WS := (wSeq (wAsg (wLst wNil) (wNm 3))
    (wSeq (wFor (wRange1 (wCons (wC (.int 4)) wNil)) (wNm 4)
      (wSeq (wAsg (wTup (wCons (wTup wNil) (wCons (wC (.int 0)) wNil))) (wGT 2 (wG1 (wNm 6) (wG1 (wNm 7) wG0))))
    (wSeq (wFor (wRange1 (wCons (wCall s__law_roll (wCons (wSlot 0) (wCons (wC (.int 13)) wNil))) wNil)) (wNm 5)
      (wSeq (wAsg (wIf (wAnd (wBl (wBin (oIs true) (wSlot 7) (wC .non))) (wBl (wBin oGt (wCall s__law_roll (wCons (wSlot 0) (wCons (wC (.int 8)) wNil))) (wC (.int 0))))) (wCB cSorted (wCons (wBin oIx (wBin oIx (wSlot 1) (wSlot 7)) (wC (.int 0))) wNil)) (wSlot 2)) (wNm 8))
    (wIfS (wBl (wBin (oEq true) (wSlot 8) (wLst wNil))) (wSeq (wAsg (wBin oAdd (wSlot 6) (wTup (wCons (wCall s__law_one_of (wCons (wSlot 0) (wCons (wSlot 8) wNil))) wNil))) (wNm 6))
    (wAsg (wIf (wBl (wBin (oIs true) (wSlot 7) (wC .non))) (wGet1 (wBin oIx (wBin oIx (wSlot 1) (wSlot 7)) (wC (.int 0))) (wBin oIx (wSlot 6) (wNegV (wC (.int 1))))) (wC .non)) (wNm 7))) wNext)))
    (wExpr (wBM mAppend (wSlot 3) (wCons (wSlot 6) wNil))))))
    (wRet (wSlot 3))))
theorem e__law_long_words (s__law_roll s__law_one_of : SpD) : K02.w__law_long_words s__law_roll s__law_one_of = v__law_long_words s__law_roll s__law_one_of := by kernel_rfl
abbrev v__law_word_right (s__law_state s__law_offer s_Part_after s_Part_contains s_Part_getitem : SpD) : WS := (wSeq (wAsg (wCall s__law_state (wCons (wSlot 0) (wCons (wSlot 2) wNil))) (wNm 3))
    (wSeq (wIfS (wBl (wBin (oEq true) (wCB cRepr (wCons (wLst (wCons (wMeth "Part" "after" s_Part_after (wSlot 1) (wCons (wSlot 2) wNil)) (wCons (wBin (oOwnIn false "Part" s_Part_contains) (wSlot 2) (wSlot 1)) wNil))) wNil)) (wCB cRepr (wCons (wLst (wCons (wSlot 3) (wCons (wBin (oIs true) (wSlot 3) (wC .non)) wNil))) wNil)))) (wRet (wC (.bl false))) wNext)
    (wRet (wOrV (wBin (oIs false) (wSlot 3) (wC .non)) (wBin (oEq false) (wCB cRepr (wCons (wBin (oOwnIx "Part" s_Part_getitem) (wSlot 1) (wSlot 2)) wNil)) (wCB cRepr (wCons (wCall s__law_offer (wCons (wSlot 0) (wCons (wSlot 3) wNil))) wNil)))))))
theorem e__law_word_right (s__law_state s__law_offer s_Part_after s_Part_contains s_Part_getitem : SpD) : K02.w__law_word_right s__law_state s__law_offer s_Part_after s_Part_contains s_Part_getitem = v__law_word_right s__law_state s__law_offer s_Part_after s_Part_contains s_Part_getitem := by kernel_rfl
abbrev v__law_words_right (s__law_roll s__law_words s__law_state s__law_long_words s__law_word_right s_Part_contains : SpD) (s_Part_words : SpGD) : WS := (wSeq (wAsg (wCall s__law_roll (wCons (wSlot 0) (wCons (wC (.int 4)) wNil))) (wNm 4))
    (wSeq (wAsg (wCall s__law_words (wCons (wSlot 3) (wCons (wSlot 4) wNil))) (wNm 5))
    (wSeq (wIfS (wBl (wBin (oEq true) (wCB cRepr (wCons (wListG "Part" "words" s_Part_words (wSlot 2) (wCons (wSlot 4) wNil)) wNil)) (wCB cRepr (wCons (wLc (wOver (wSlot 5) fLst) (wNm 8) (wBl (wBin (oIs true) (wCall s__law_state (wCons (wSlot 1) (wCons (wSlot 8) wNil))) (wC .non))) (wSlot 8) [8]) wNil)))) (wRet (wC (.bl false))) wNext)
    (wSeq (wAsg (wBin oAdd (wBin oAdd (wSlot 5) (wCall s__law_long_words (wCons (wSlot 0) (wCons (wSlot 1) (wCons (wSlot 3) wNil))))) (wLst (wCons (wTup (wCons (wC (.str "q")) wNil)) (wCons (wTup (wCons (wC (.str "q")) (wCons (wC (.str "q")) wNil))) (wCons (wBin oAdd (wCB cTuple (wCons (wSlot 3) wNil)) (wTup (wCons (wC (.str "qq")) wNil))) wNil))))) (wNm 6))
    (wSeq (wIfS (wBl (wBin (oEq true) (wLc (wOver (wSlot 6) fLst) (wNm 8) (wNot (wTru (wCall s__law_word_right (wCons (wSlot 1) (wCons (wSlot 2) (wCons (wSlot 8) wNil)))))) (wSlot 8) [8]) (wLst wNil))) (wRet (wC (.bl false))) wNext)
    (wSeq (wAsg (wLst (wCons (wC .non) (wCons (wC (.str "")) (wCons (wC (.str "a")) (wCons (wCB cList (wCons (wBin oIx (wSlot 6) (wNegV (wC (.int 1)))) wNil)) (wCons (wTup (wCons (wTup wNil) wNil)) (wCons (wTup (wCons (wC (.str "")) wNil)) (wCons (wTup (wCons (wC (.str "A")) wNil)) (wCons (wC (.int 0)) (wCons (wDNew false) (wCons (wTup (wCons (wC .non) wNil)) (wCons (wTup (wCons (wC (.str "a")) (wCons (wC (.int 1)) wNil))) (wCons (wLst (wCons (wTup wNil) wNil)) wNil))))))))))))) (wNm 7))
    (wRet (wBin (oEq false) (wLc (wOver (wSlot 7) fLst) (wNm 9) (wBl (wBin (oOwnIn false "Part" s_Part_contains) (wSlot 9) (wSlot 2))) (wSlot 9) [9]) (wLst wNil)))))))))
theorem e__law_words_right (s__law_roll s__law_words s__law_state s__law_long_words s__law_word_right s_Part_contains : SpD) (s_Part_words : SpGD) : K02.w__law_words_right s__law_roll s__law_words s__law_state s__law_long_words s__law_word_right s_Part_contains s_Part_words = v__law_words_right s__law_roll s__law_words s__law_state s__law_long_words s__law_word_right s_Part_contains s_Part_words := by kernel_rfl
abbrev v__law_right (s__law_actions s__law_roll s__law_part s__law_made_part s__law_offer s__law_words_right s_Part_offer s_Part_str s_Part_len s_Part_eq s_Part_actions s_Part_rests s_Part_steps : SpD) : WS := (wSeq (wAsg (wCall s__law_actions (wCons (wSlot 0) (wCons (wCall s__law_roll (wCons (wSlot 0) (wCons (wC (.int 5)) wNil))) wNil))) (wNm 1))
    (wSeq (wAsg (wCall s__law_part (wCons (wSlot 0) (wCons (wSlot 1) (wCons (wC (.int 8)) wNil)))) (wNm 2))
    (wSeq (wAsg (wTup (wCons (wCall s__law_made_part (wCons (wSlot 2) wNil)) (wCons (wLst wNil) wNil))) (wGT 2 (wG1 (wNm 7) (wG1 (wNm 8) wG0))))
    (wSeq (wFor (wOver (wSlot 2) fLst) (wGT 2 (wG1 (wNm 9) (wG1 (wNm 10) wG0)))
      (wAsg (wSortedSetS (wBin oAdd (wSlot 8) (wCB cList (wCons (wSlot 9) wNil)))) (wNm 8)))
    (wSeq (wAsg (wCB cTuple (wCons (wLc (wEnum (wCons (wSlot 2) wNil)) (wGT 2 (wG1 (wNm 12) (wG1 (wNm 9) wG0))) (wTru (wBin oIx (wSlot 9) (wC (.int 1)))) (wSlot 12) [12, 9]) wNil)) (wNm 3))
    (wSeq (wAsg (wBin oAdd (wBin oAdd (wBin oAdd (wBin oAdd (wC (.str "part of ")) (wCB cStrInt (wCons (wCB cLen (wCons (wSlot 2) wNil)) wNil))) (wC (.str " states, "))) (wCB cStrInt (wCons (wCB cLen (wCons (wSlot 8) wNil)) wNil))) (wC (.str " actions"))) (wNm 4))
    (wSeq (wAsg (wCB cReprX (wCons (wLst (wCons (wCB cTuple (wCons (wLc (wOver (wSlot 2) fLst) (wGT 2 (wG1 (wNm 9) (wG1 (wNm 10) wG0))) wYes (wSlot 9) [9, 10]) wNil)) (wCons (wSlot 3) (wCons (wCB cTuple (wCons (wSlot 8) wNil)) (wCons (wCB cLen (wCons (wSlot 2) wNil)) (wCons (wSlot 4) wNil)))))) wNil)) (wNm 5))
    (wSeq (wAsg (wLst (wCons (wProp "Part" s_Part_steps (wSlot 7)) (wCons (wProp "Part" s_Part_rests (wSlot 7)) (wCons (wProp "Part" s_Part_actions (wSlot 7)) (wCons (wCB (cOwnLen "Part" s_Part_len) (wCons (wSlot 7) wNil)) (wCons (wCB (cOwnStr "Part" s_Part_str) (wCons (wSlot 7) wNil)) wNil)))))) (wNm 6))
    (wSeq (wIfS (wBl (wBin (oEq true) (wCB cReprX (wCons (wSlot 6) wNil)) (wSlot 5))) (wRet (wC (.bl false))) wNext)
    (wSeq (wExpr (wClear (wBin oIx (wBin oIx (wSlot 6) (wC (.int 0))) (wC (.int 0)))))
    (wSeq (wIfS (wBl (wBin (oEq true) (wCB cReprX (wCons (wLst (wCons (wProp "Part" s_Part_steps (wSlot 7)) (wCons (wProp "Part" s_Part_rests (wSlot 7)) (wCons (wProp "Part" s_Part_actions (wSlot 7)) (wCons (wCB (cOwnLen "Part" s_Part_len) (wCons (wSlot 7) wNil)) (wCons (wCB (cOwnStr "Part" s_Part_str) (wCons (wSlot 7) wNil)) wNil)))))) wNil)) (wSlot 5))) (wRet (wC (.bl false))) wNext)
    (wSeq (wIfS (wBl (wBin (oEq true) (wCB cReprX (wCons (wLc (wRange1 (wCons (wCB cLen (wCons (wSlot 2) wNil)) wNil)) (wNm 12) wYes (wMeth "Part" "offer" s_Part_offer (wSlot 7) (wCons (wSlot 12) wNil)) [12]) wNil)) (wCB cReprX (wCons (wLc (wRange1 (wCons (wCB cLen (wCons (wSlot 2) wNil)) wNil)) (wNm 12) wYes (wCall s__law_offer (wCons (wSlot 2) (wCons (wSlot 12) wNil))) [12]) wNil)))) (wRet (wC (.bl false))) wNext)
    (wSeq (wPar 11 12 (wCons (wCB cList (wCons (wSlot 2) wNil)) (wCons (wCall s__law_roll (wCons (wSlot 0) (wCons (wCB cLen (wCons (wSlot 2) wNil)) wNil))) wNil)))
    (wSeq (wAsg (wTup (wCons (wBin oIx (wBin oIx (wSlot 2) (wSlot 12)) (wC (.int 0))) (wCons (wNotV (wBin oIx (wBin oIx (wSlot 2) (wSlot 12)) (wC (.int 1)))) wNil))) (wSub (wSlot 11) (wSlot 12)))
    (wSeq (wIfS (wOr (wBl (wBin (oOwnEq true "Part" ["str", "tuple"] s_Part_eq) (wSlot 7) (wCall s__law_made_part (wCons (wSlot 2) wNil)))) (wOr (wBl (wBin (oOwnEq false "Part" ["str", "tuple"] s_Part_eq) (wSlot 7) (wCall s__law_made_part (wCons (wSlot 11) wNil)))) (wOr (wBl (wBin (oOwnEq false "Part" ["str", "tuple"] s_Part_eq) (wSlot 7) (wSlot 5))) (wBl (wBin (oOwnEq false "Part" ["str", "tuple"] s_Part_eq) (wSlot 7) (wProp "Part" s_Part_steps (wSlot 7))))))) (wRet (wC (.bl false))) wNext)
    (wSeq (wIfS (wAnd (wBl (wBin oLt (wCB cLen (wCons (wSlot 2) wNil)) (wC (.int 8)))) (wBl (wBin (oOwnEq false "Part" ["str", "tuple"] s_Part_eq) (wSlot 7) (wCall s__law_made_part (wCons (wBin oAdd (wSlot 2) (wLst (wCons (wTup (wCons (wDNew false) (wCons (wC (.bl false)) wNil))) wNil))) wNil))))) (wRet (wC (.bl false))) wNext)
    (wRet (wCall s__law_words_right (wCons (wSlot 0) (wCons (wSlot 2) (wCons (wSlot 7) (wCons (wSlot 1) wNil))))))))))))))))))))))
theorem e__law_right (s__law_actions s__law_roll s__law_part s__law_made_part s__law_offer s__law_words_right s_Part_offer s_Part_str s_Part_len s_Part_eq s_Part_actions s_Part_rests s_Part_steps : SpD) : K02.w__law_right s__law_actions s__law_roll s__law_part s__law_made_part s__law_offer s__law_words_right s_Part_offer s_Part_str s_Part_len s_Part_eq s_Part_actions s_Part_rests s_Part_steps = v__law_right s__law_actions s__law_roll s__law_part s__law_made_part s__law_offer s__law_words_right s_Part_offer s_Part_str s_Part_len s_Part_eq s_Part_actions s_Part_rests s_Part_steps := by kernel_rfl
abbrev v_law (s__law_dice s__law_right s_Part s_Part_after s_Part_offer s_Part_len s_Part_actions : SpD) (s_Part_words : SpGD) : WS := (wSeq (wFor (wRange1 (wCons (wCB cMax (wCons (wC (.int 1)) (wCons (wCB cMin (wCons (wC (.int 8)) (wCons (wCB cLen (wCons (wSlot 0) wNil)) wNil))) wNil))) wNil)) (wNm 1)
      (wSeq (wAsg (wCall s__law_dice (wCons (wSlot 0) (wCons (wSlot 1) wNil))) (wNm 5))
    (wFor (wRange1 (wCons (wC (.int 2)) wNil)) (wNm 6)
      (wIfS (wNot (wTru (wCall s__law_right (wCons (wSlot 5) wNil)))) (wRet (wC (.bl false))) wNext))))
    (wSeq (wAsg (wMake "Part" s_Part (wCons (wTup (wCons (wD2 (wC (.str "b")) (wC (.int 1)) (wC (.str "a")) (wC (.int 7))) (wCons (wD1 (wC (.str "a")) (wC (.int 2))) (wCons (wD1 (wC (.str "a")) (wC (.int 3))) (wCons (wD1 (wC (.str "a")) (wC (.int 4))) (wCons (wD1 (wC (.str "a")) (wC (.int 5))) (wCons (wD1 (wC (.str "a")) (wC (.int 6))) (wCons (wD1 (wC (.str "c")) (wC (.int 7))) (wCons (wD1 (wC (.str "d")) (wC (.int 0))) wNil))))))))) (wCons (wTup (wCons (wC (.int 0)) (wCons (wC (.int 7)) wNil))) wNil))) (wNm 2))
    (wSeq (wAsg (wLst (wCons (wC (.int 8)) (wCons (wCB (cOwnLen "Part" s_Part_len) (wCons (wSlot 2) wNil)) (wCons (wProp "Part" s_Part_actions (wSlot 2)) (wCons (wMeth "Part" "offer" s_Part_offer (wSlot 2) (wCons (wC (.int 0)) wNil)) (wCons (wMeth "Part" "after" s_Part_after (wSlot 2) (wCons (wBin oMul (wTup (wCons (wC (.str "a")) (wCons (wC (.str "d")) wNil))) (wC (.int 3))) wNil)) (wCons (wListG "Part" "words" s_Part_words (wSlot 2) (wCons (wC (.int 2)) wNil)) wNil))))))) (wNm 3))
    (wSeq (wExpr (wBM mAppend (wSlot 3) (wCons (wMeth "Part" "offer" s_Part_offer (wMakeE "Part" s_Part (wCons (wTup (wCons (wDNew false) wNil)) wNil)) (wCons (wC (.int 0)) wNil)) wNil)))
    (wSeq (wAsg (wLst (wCons (wC (.int 8)) (wCons (wC (.int 8)) (wCons (wTup (wCons (wC (.str "a")) (wCons (wC (.str "b")) (wCons (wC (.str "c")) (wCons (wC (.str "d")) wNil))))) (wCons (wTup (wCons (wTup (wCons (wC (.str "a")) (wCons (wC (.str "b")) wNil))) (wCons (wC (.bl true)) wNil))) (wCons (wC (.int 0)) (wCons (wLst (wCons (wTup wNil) (wCons (wTup (wCons (wC (.str "a")) wNil)) (wCons (wTup (wCons (wC (.str "b")) wNil)) (wCons (wTup (wCons (wC (.str "a")) (wCons (wC (.str "d")) wNil))) (wCons (wTup (wCons (wC (.str "b")) (wCons (wC (.str "a")) wNil))) wNil)))))) wNil))))))) (wNm 4))
    (wRet (wBin (oEq false) (wCB cRepr (wCons (wSlot 3) wNil)) (wCB cRepr (wCons (wBin oAdd (wSlot 4) (wLst (wCons (wTup (wCons (wTup wNil) (wCons (wC (.bl false)) wNil))) wNil))) wNil)))))))))
theorem e_law (s__law_dice s__law_right s_Part s_Part_after s_Part_offer s_Part_len s_Part_actions : SpD) (s_Part_words : SpGD) : K02.w_law s__law_dice s__law_right s_Part s_Part_after s_Part_offer s_Part_len s_Part_actions s_Part_words = v_law s__law_dice s__law_right s_Part s_Part_after s_Part_offer s_Part_len s_Part_actions s_Part_words := by kernel_rfl
end K02V

set_option Elab.async false
set_option linter.all false
set_option maxRecDepth 100000
set_option maxHeartbeats 2000000
/-! K02S: helpers of the plain proofs. -/
namespace MV
open PySem PySem.Spec
open PyProof.Rows hiding St
open L2
open MP (D Cell Hd Sd WE WT WA WS WG WI EndsD ItD SpD endR startD itSeq items tyD truD getD putD keyOk wipeD lenD sortS ltS leS)
theorem ift {c : Bool} {A B : Prop} (h : c = true) (a : A) : if c = true then A else B := by rw [if_pos h]; exact a
theorem iff_ {c : Bool} {A B : Prop} (h : c = false) (b : B) : if c = true then A else B := by rw [if_neg (by rw [h]; decide)]; exact b
/-- a list comprehension, by what holds at turn i with the items so far -/
theorem lc_by {t : ItD} {g : WG} {tt : WT} {te : WE} {sl : Sd} {h1 : Hd} {Qf : List D → Hd → Prop} (xs : List D) (Pv : Nat → List D → Hd → Prop) (h0 : Pv 0 [] h1) (ht : ∀ i acc h, i ≤ xs.length → Pv i acc h → t i h = some xs[i]?)
    (hs : ∀ i x acc h, xs[i]? = some x → Pv i acc h → g x sl h fun sl2 h2 => tt sl2 h2 fun b h3 => if b = true then te sl2 h3 fun y h4 => acc.length < sizeLine ∧ Pv (i + 1) (acc ++ [y]) h4 else Pv (i + 1) acc h3)
    (hd : ∀ acc h, Pv xs.length acc h → Qf acc h) :
    ∃ W : Nat → Nat → List D → Hd → Prop, (∃ m, W 0 m [] h1) ∧ ∀ i m acc h, W i m acc h →
      (t i h = some none ∧ Qf acc h) ∨ ∃ d, t i h = some (some d) ∧ ∃ N : List D → Hd → Prop, (∀ acc' h', N acc' h' → ∃ m', m' < m ∧ W (i + 1) m' acc' h') ∧ g d sl h fun sl2 h2 => tt sl2 h2 fun b h3 =>
        if b = true then te sl2 h3 fun y h4 => acc.length < sizeLine ∧ N (acc ++ [y]) h4 else N acc h3 := by
  refine ⟨fun i m acc h => m = xs.length - i ∧ i ≤ xs.length ∧ Pv i acc h, ⟨xs.length, by simp, Nat.zero_le _, h0⟩, ?_⟩
  rintro i m acc h ⟨rfl, hi, p⟩
  have q := ht i acc h hi p
  by_cases hlt : i < xs.length
  · have e : xs[i]? = some xs[i] := List.getElem?_eq_getElem hlt
    exact .inr ⟨xs[i], by rw [q, e], Pv (i + 1), fun acc' h' p' => ⟨xs.length - (i + 1), by omega, rfl, hlt, p'⟩, hs i _ acc h e p⟩
  · have e : i = xs.length := by omega
    subst e
    exact .inl ⟨by rw [q, List.getElem?_eq_none (Nat.le_refl _)], hd acc h p⟩
/-- .. of pure items: y := f x, the heap stays -/
theorem lc_map {t : ItD} {g : WG} {tt : WT} {te : WE} {sl : Sd} {h1 : Hd} {Qf : List D → Hd → Prop} (xs : List D) (f : D → D) (hl : xs.length ≤ sizeLine) (ht : ∀ i, t i h1 = some xs[i]?)
    (hs : ∀ x, x ∈ xs → ∀ R : List D → Hd → Prop, ∀ acc : List D, acc.length < sizeLine → R (acc ++ [f x]) h1 → g x sl h1 fun sl2 h2 => tt sl2 h2 fun b h3 => if b = true then te sl2 h3 fun y h4 => acc.length < sizeLine ∧ R (acc ++ [y]) h4 else R acc h3)
    (hd : Qf (xs.map f) h1) :
    ∃ W : Nat → Nat → List D → Hd → Prop, (∃ m, W 0 m [] h1) ∧ ∀ i m acc h, W i m acc h →
      (t i h = some none ∧ Qf acc h) ∨ ∃ d, t i h = some (some d) ∧ ∃ N : List D → Hd → Prop, (∀ acc' h', N acc' h' → ∃ m', m' < m ∧ W (i + 1) m' acc' h') ∧ g d sl h fun sl2 h2 => tt sl2 h2 fun b h3 =>
        if b = true then te sl2 h3 fun y h4 => acc.length < sizeLine ∧ N (acc ++ [y]) h4 else N acc h3 := by
  refine lc_by xs (fun i acc h => h = h1 ∧ acc = (xs.take i).map f ∧ i ≤ xs.length) ⟨rfl, rfl, Nat.zero_le _⟩ (fun i acc h _ p => by rw [p.1]; exact ht i) (fun i x acc h e p => ?_) (fun acc h p => ?_)
  · obtain ⟨rfl, rfl, hi⟩ := p
    have hlt := (List.getElem?_eq_some_iff.mp e).1
    refine hs x (List.mem_of_getElem? e) (fun acc h' => h' = h ∧ acc = (xs.take (i + 1)).map f ∧ i + 1 ≤ xs.length) _ (by simp; omega) ⟨rfl, ?_, hlt⟩
    rw [List.take_add_one, e]; simp
  · obtain ⟨rfl, rfl, _⟩ := p
    rw [List.take_length]; exact hd
end MV
namespace K02S
open PySem PySem.Spec
open PyProof.Rows hiding St
open L2
open MP (D Cell Hd Sd WE WT WA WS WG WI EndsD ItD SpD endR startD itSeq items tyD truD getD putD keyOk wipeD lenD sortS ltS leS)
open MV K02V

def isL (c : Nat) : Bool := 97 ≤ c && c ≤ 122
def nameS (x : Str) : Bool := 1 ≤ x.length && x.length ≤ 8 && x.cps.toList.all isL
def nameD : D → Bool
  | .str x => nameS x
  | _ => false
/-- a heap grew; what stood stays, but dicts may have been locked -/
def lkEq (c c' : Cell) : Prop := c' = c ∨ ∃ t kvs lk, c = .dct t lk kvs ∧ c' = .dct t true kvs
def Gr (h h' : Hd) : Prop := h.length ≤ h'.length ∧ ∀ (n : Nat) (c : Cell), h[n]? = some c → ∃ c', h'[n]? = some c' ∧ lkEq c c'
theorem Gr.refl {h : Hd} : Gr h h := ⟨Nat.le_refl _, fun n c e => ⟨c, e, .inl rfl⟩⟩
theorem Gr.trans {a b c : Hd} (x : Gr a b) (y : Gr b c) : Gr a c := ⟨Nat.le_trans x.1 y.1, fun n u e => by
  obtain ⟨u1, e1, l1⟩ := x.2 n u e
  obtain ⟨u2, e2, l2⟩ := y.2 n u1 e1
  refine ⟨u2, e2, ?_⟩
  rcases l1 with rfl | ⟨t, k, l, rfl, rfl⟩
  · exact l2
  · rcases l2 with rfl | ⟨t2, k2, l2, e3, rfl⟩
    · exact .inr ⟨t, k, l, rfl, rfl⟩
    · cases e3; exact .inr ⟨t, k, l, rfl, rfl⟩⟩
theorem Gr.app {h : Hd} (x : Hd) : Gr h (h ++ x) := ⟨by simp, fun n c e => ⟨c, by rw [List.getElem?_append_left (List.getElem?_eq_some_iff.mp e).1]; exact e, .inl rfl⟩⟩
theorem Gr.lock {h : Hd} {n : Nat} {t lk : Bool} {kvs : List (D × D)} (e : h[n]? = some (.dct t lk kvs)) : Gr h (h.set n (.dct t true kvs)) := ⟨by simp, fun m c f => by
  by_cases z : n = m
  · subst z
    rw [e] at f; cases f
    exact ⟨_, List.getElem?_set_self (List.getElem?_eq_some_iff.mp e).1, .inr ⟨t, kvs, lk, rfl, rfl⟩⟩
  · exact ⟨c, by rw [List.getElem?_set_ne z]; exact f, .inl rfl⟩⟩
theorem Gr.lst {h h' : Hd} (g : Gr h h') {n : Nat} {xs : List D} (e : h[n]? = some (.lst xs)) : h'[n]? = some (.lst xs) := by
  obtain ⟨c', e', l⟩ := g.2 n _ e
  rcases l with rfl | ⟨_, _, _, q, _⟩
  · exact e'
  · cases q
theorem Gr.ins {h h' : Hd} (g : Gr h h') {n : Nat} {c : Str} {fs : List (Str × D)} (e : h[n]? = some (.ins c fs)) : h'[n]? = some (.ins c fs) := by
  obtain ⟨c', e', l⟩ := g.2 n _ e
  rcases l with rfl | ⟨_, _, _, q, _⟩
  · exact e'
  · cases q
theorem Gr.scr {h h' : Hd} (g : Gr h h') {n : Nat} {xs : List D} (e : h[n]? = some (.scr xs)) : h'[n]? = some (.scr xs) := by
  obtain ⟨c', e', l⟩ := g.2 n _ e
  rcases l with rfl | ⟨_, _, _, q, _⟩
  · exact e'
  · cases q
theorem Gr.dct {h h' : Hd} (g : Gr h h') {n : Nat} {t lk : Bool} {kvs : List (D × D)} (e : h[n]? = some (.dct t lk kvs)) : ∃ lk', h'[n]? = some (.dct t lk' kvs) := by
  obtain ⟨c', e', l⟩ := g.2 n _ e
  rcases l with rfl | ⟨_, _, _, q, rfl⟩
  · exact ⟨lk, e'⟩
  · cases q; exact ⟨true, e'⟩
/-- a value of a known kind -/
def isTd : Cell → Bool
  | .dct true _ _ => true
  | .dfl _ => true
  | .ins c _ => !decide (c = "Part")
  | _ => false
def okD (h : Hd) : D → Prop
  | .ref n => ∃ c, h[n]? = some c ∧ isTd c = false
  | .str x => x.length ≤ sizeLine
  | _ => True
theorem okD.ty {h : Hd} {d : D} (k : okD h d) : ∃ t, tyD h d = some t := by
  cases d with
  | ref n =>
    obtain ⟨c, e, f⟩ := k
    cases c with
    | dct t lk kvs =>
      cases t with
      | true => cases f
      | false => exact ⟨.inl "dict", by simp only [tyD, e]⟩
    | lst _ => exact ⟨.inl "list", by simp only [tyD, e]⟩
    | scr _ => exact ⟨.inl "list", by simp only [tyD, e]⟩
    | ins c _ => exact ⟨.inr c, by simp only [tyD, e]⟩
    | dfl _ => cases f
  | _ => exact ⟨_, rfl⟩
theorem okD.pt {h : Hd} {d : D} {t : MP.TyN} (k : okD h d) (e : tyD h d = some t) : ∀ c, t = .inr c → c = "Part" := by
  rintro c rfl
  cases d with
  | ref n =>
    obtain ⟨c', e', f⟩ := k
    cases c' with
    | ins c2 fs =>
      simp only [tyD, e', Option.some.injEq, Sum.inr.injEq] at e
      subst e
      unfold isTd at f
      simpa using f
    | dct t lk kvs => cases t <;> cases lk <;> simp [tyD, e'] at e
    | _ => simp [tyD, e'] at e
  | _ => simp [tyD] at e
theorem isTd_part {fs : List (Str × D)} : isTd (.ins "Part" fs) = false := by unfold isTd; simp
theorem okD.gr {h h' : Hd} {d : D} (k : okD h d) (g : Gr h h') : okD h' d := by
  cases d with
  | ref n =>
    obtain ⟨c, e, f⟩ := k
    obtain ⟨c', e', l⟩ := g.2 n c e
    refine ⟨c', e', ?_⟩
    rcases l with rfl | ⟨t, kvs, lk, rfl, rfl⟩
    · exact f
    · cases t with
      | true => cases f
      | false => rfl
  | _ => exact k
def s_is_name : SpD := fun ds h q => ∃ d, ds = [d] ∧ okD h d ∧ ∀ h', Gr h h' → q (.bl (nameD d)) h'
theorem kb : (["NoneType", "bool", "int", "str", "tuple", "list", "dict"].all fun n => decide (L2.kitB n "str" = some (n == "str")) && decide (L2.kitB n "int" = some (n == "int" || n == "bool")) && decide (L2.kitB n "bool" = some (n == "bool")) && decide (L2.kitB n "tuple" = some (n == "tuple")) && decide (L2.kitB n "dict" = some (n == "dict"))) = true := by decide +kernel
theorem kbS {n : String} (hn : n ∈ ["NoneType", "bool", "int", "str", "tuple", "list", "dict"]) : L2.kitB n "str" = some (n == "str") ∧ L2.kitB n "int" = some (n == "int" || n == "bool") ∧ L2.kitB n "bool" = some (n == "bool") ∧ L2.kitB n "tuple" = some (n == "tuple") ∧ L2.kitB n "dict" = some (n == "dict") := by
  have := List.all_eq_true.mp kb n hn
  simp only [Bool.and_eq_true, decide_eq_true_eq] at this
  exact ⟨this.1.1.1.1, this.1.1.1.2, this.1.1.2, this.1.2, this.2⟩
def isStr : D → Bool
  | .str _ => true
  | _ => false
def isTup : D → Bool
  | .tup _ => true
  | _ => false
def isInt : D → Bool
  | .int _ => true
  | .bl _ => true
  | _ => false
def isBl : D → Bool
  | .bl _ => true
  | _ => false
def tyN : MP.TyN → String
  | .inl n => n
  | .inr _ => "own"
theorem tyD_mem {h : Hd} {d : D} {n : String} (e : tyD h d = some (.inl n)) : n ∈ ["NoneType", "bool", "int", "str", "tuple", "list", "dict"] := by
  cases d <;> simp only [tyD] at e <;> first | (cases e; decide) | skip
  split at e <;> first | (cases e; decide) | cases e
/-- what isinstance answers -/
theorem tab_eq {h : Hd} {d : D} {t : MP.TyN} (hp : ∀ c, t = .inr c → c = "Part") (e : tyD h d = some t) : K02.tabStr t = some (tyN t == "str") ∧ K02.tabInt t = some (tyN t == "int" || tyN t == "bool") ∧ K02.tabBool t = some (tyN t == "bool") ∧ K02.tabTuple t = some (tyN t == "tuple") ∧ K02.tabDict t = some (tyN t == "dict") := by
  cases t with
  | inl n => exact kbS (tyD_mem e)
  | inr c =>
    obtain rfl := hp c rfl
    decide +kernel
theorem ty_str {h : Hd} {d : D} {t : MP.TyN} (e : tyD h d = some t) : (tyN t == "str") = isStr d := by
  cases d <;> simp only [tyD] at e <;> first | (cases e; rfl) | skip
  split at e <;> first | (cases e; rfl) | cases e
theorem ty_tup {h : Hd} {d : D} {t : MP.TyN} (e : tyD h d = some t) : (tyN t == "tuple") = isTup d := by
  cases d <;> simp only [tyD] at e <;> first | (cases e; rfl) | skip
  split at e <;> first | (cases e; rfl) | cases e
theorem ty_int {h : Hd} {d : D} {t : MP.TyN} (e : tyD h d = some t) : (tyN t == "int" || tyN t == "bool") = isInt d := by
  cases d <;> simp only [tyD] at e <;> first | (cases e; rfl) | skip
  split at e <;> first | (cases e; rfl) | cases e
theorem ty_bool {h : Hd} {d : D} {t : MP.TyN} (e : tyD h d = some t) : (tyN t == "bool") = isBl d := by
  cases d <;> simp only [tyD] at e <;> first | (cases e; rfl) | skip
  split at e <;> first | (cases e; rfl) | cases e
theorem isL_eq (c : Nat) : (!ltS (⟨#[c]⟩ : Str) ("a" : Str) && !ltS ("z" : Str) (⟨#[c]⟩ : Str)) = isL c := by
  have e1 : ("a" : Str).cps.toList = [97] := by decide +kernel
  have e2 : ("z" : Str).cps.toList = [122] := by decide +kernel
  unfold ltS isL
  rw [e1, e2]
  simp only [List.cons_lt_cons_iff, List.not_lt_nil, and_false, or_false]
  by_cases h1 : 97 ≤ c <;> by_cases h2 : c ≤ 122 <;> simp [h1, h2] <;> omega
theorem it_seq {xs : List D} {h : Hd} (i : Nat) : itSeq xs i h = some xs[i]? := rfl
theorem p_is_name {ds : List D} {h : Hd} {q : D → Hd → Prop} (z : s_is_name ds h q) : v_is_name (endR q) (startD K02.N_is_name ds) h := by
  obtain ⟨d, rfl, hok, z⟩ := z
  obtain ⟨t, ht⟩ := hok.ty
  refine ⟨_, rfl, t, _, ht, (tab_eq (hok.pt ht) ht).1, _, rfl, ?_⟩
  rw [ty_str ht]
  by_cases hd : ∃ x, d = .str x
  · obtain ⟨x, rfl⟩ := hd
    have hx : x.length ≤ sizeLine := hok
    refine iff_ rfl ?_
    refine ⟨_, rfl, _, x.length, rfl, by simp [lenD, hx], ?_⟩
    refine ⟨_, rfl, ?_⟩
    have bad : (1 ≤ x.length && x.length ≤ 8) = false → q (.bl false) h := fun e => by
      have := z h .refl
      simp only [nameD, nameS, e, Bool.false_and] at this
      exact this
    by_cases h1 : 1 ≤ x.length
    · refine ift (by simp; omega) ?_
      refine ⟨_, rfl, ?_⟩
      by_cases h8 : x.length ≤ 8
      · refine iff_ (by simp; omega) ?_
        refine ⟨_, rfl, x, rfl, ?_⟩
        dsimp only
        refine lc_map _ (fun y => match y with | .str w => .bl (isL (w.cps.toList.getD 0 0)) | _ => .non) ?_ it_seq ?_ ?_
        · simp only [List.length_map, Array.length_toList]
          show x.length ≤ sizeLine
          exact hx
        · intro y hy R acc hacc hR
          obtain ⟨c, hc, rfl⟩ := List.mem_map.mp hy
          refine ⟨_, rfl, _, rfl, ?_⟩
          have e := isL_eq c
          by_cases ha : ltS (⟨#[c]⟩ : Str) ("a" : Str) = true
          · refine iff_ (by show (!ltS _ _) = false; rw [ha]; rfl) ⟨hacc, ?_⟩
            rw [ha] at e
            have : isL c = false := by rw [← e]; rfl
            simp only [List.getD_cons_zero, this] at hR
            exact hR
          · have ha' : ltS (⟨#[c]⟩ : Str) ("a" : Str) = false := by simpa using ha
            refine ift (by show (!ltS _ _) = true; rw [ha']; rfl) ⟨hacc, ?_⟩
            rw [ha'] at e
            simp only [List.getD_cons_zero, ← e] at hR
            exact hR
        · refine ⟨h.length, x.cps.toList.map isL, rfl, ?_, ?_⟩
          · simp [items, List.map_map, Function.comp_def]
          · have := z (h ++ [.lst ((x.cps.toList.map fun c => D.str ⟨#[c]⟩).map fun y => match y with | .str w => D.bl (isL (w.cps.toList.getD 0 0)) | _ => .non)]) (Gr.app _)
            have e : nameD (.str x) = (x.cps.toList.map isL).all fun b => b := by
              simp [nameD, nameS, h1, h8, List.all_map, Function.comp_def]
            rw [e] at this
            exact this
      · refine ift (by simp; omega) ?_
        exact bad (by simp [h8])
    · refine iff_ (by simp; omega) ?_
      refine ⟨_, rfl, ?_⟩
      refine ift rfl ?_
      exact bad (by simp [h1])
  · have e0 : isStr d = false := by cases d <;> first | exact absurd ⟨_, rfl⟩ hd | rfl
    have e1 : nameD d = false := by cases d <;> first | exact absurd ⟨_, rfl⟩ hd | rfl
    rw [e0]
    refine ift rfl ?_
    have := z h .refl
    rw [e1] at this
    exact this

/-! ### is_index, is_word, is_ascending, the requirements -/
def indexD (total : Int) : D → Bool
  | .int i => decide (0 ≤ i) && decide (i < total)
  | _ => false
def s_is_index : SpD := fun ds h q => ∃ d n, ds = [d, .int n] ∧ okD h d ∧ ∀ h', Gr h h' → q (.bl (indexD n d)) h'
theorem p_is_index {ds : List D} {h : Hd} {q : D → Hd → Prop} (z : s_is_index ds h q) : v_is_index (endR q) (startD K02.N_is_index ds) h := by
  obtain ⟨d, n, rfl, hok, z⟩ := z
  obtain ⟨t, ht⟩ := hok.ty
  have z := z h .refl
  refine ⟨_, rfl, t, _, ht, (tab_eq (hok.pt ht) ht).2.1, _, rfl, ?_⟩
  rw [ty_int ht]
  cases d with
  | int i =>
    refine ift rfl ?_
    refine ⟨_, rfl, t, _, ht, (tab_eq (hok.pt ht) ht).2.2.1, _, rfl, _, rfl, ?_⟩
    rw [ty_bool ht]
    refine ift rfl ?_
    refine ⟨_, rfl, _, rfl, ?_⟩
    by_cases h0 : 0 ≤ i
    · refine ift (by simpa using h0) ?_
      refine ⟨_, rfl, ?_⟩
      simp only [indexD, h0, decide_true, Bool.true_and] at z
      exact z
    · refine iff_ (by simpa using h0) ?_
      simp only [indexD, h0, decide_false, Bool.false_and] at z
      exact z
  | bl b =>
    refine ift rfl ?_
    refine ⟨_, rfl, t, _, ht, (tab_eq (hok.pt ht) ht).2.2.1, _, rfl, _, rfl, ?_⟩
    rw [ty_bool ht]
    exact iff_ rfl z
  | _ => exact iff_ rfl z
def wordD : D → Bool
  | .tup xs => xs.all nameD
  | _ => false
def okW (h : Hd) : D → Prop
  | .tup xs => xs.length < sizeLine ∧ ∀ x ∈ xs, okD h x
  | d => okD h d
def s_is_word : SpD := fun ds h q => ∃ d, ds = [d] ∧ okW h d ∧ ∀ h', Gr h h' → q (.bl (wordD d)) h'
theorem okW.ok {h : Hd} {d : D} (k : okW h d) : okD h d := by
  cases d <;> first | exact k | trivial
theorem okD.all_gr {h h' : Hd} {xs : List D} (k : ∀ x ∈ xs, okD h x) (g : Gr h h') : ∀ x ∈ xs, okD h' x := fun x hx => (k x hx).gr g
theorem okW.gr {h h' : Hd} {d : D} (k : okW h d) (g : Gr h h') : okW h' d := by
  cases d with
  | tup xs => exact ⟨k.1, okD.all_gr k.2 g⟩
  | ref n => exact okD.gr (d := .ref n) k g
  | _ => exact k
theorem p_is_word {ds : List D} {h : Hd} {q : D → Hd → Prop} (z : s_is_word ds h q) : v_is_word s_is_name (endR q) (startD K02.N_is_word ds) h := by
  obtain ⟨d, rfl, hok, z⟩ := z
  obtain ⟨t, ht⟩ := hok.ok.ty
  refine ⟨_, rfl, t, _, ht, (tab_eq (hok.ok.pt ht) ht).2.2.2.1, _, rfl, ?_⟩
  rw [ty_tup ht]
  cases d with
  | tup xs =>
    refine ift rfl ?_
    refine ⟨_, rfl, xs, rfl, ?_⟩
    dsimp only
    refine lc_by xs (fun i acc h' => Gr h h' ∧ acc = (xs.take i).map (fun x => .bl (nameD x))) ⟨.refl, rfl⟩ (fun i acc h' _ _ => rfl) (fun i x acc h' e p => ?_) (fun acc h' p => ?_)
    · obtain ⟨g, rfl⟩ := p
      have hlt := (List.getElem?_eq_some_iff.mp e).1
      refine ⟨_, rfl, x, rfl, (hok.2 x (List.mem_of_getElem? e)).gr g, fun h2 g2 => ⟨by have := hok.1; simp; omega, g.trans g2, ?_⟩⟩
      rw [List.take_add_one, e]; simp
    · obtain ⟨g, rfl⟩ := p
      rw [List.take_length]
      refine ⟨h'.length, xs.map nameD, rfl, by simp [items, List.map_map, Function.comp_def], ?_⟩
      have := z _ (g.trans (.app [.lst ((xs.take xs.length).map fun x => D.bl (nameD x))]))
      rw [List.take_length] at this
      have e : wordD (.tup xs) = (xs.map nameD).all fun b => b := by simp [wordD, List.all_map, Function.comp_def]
      rw [e] at this
      exact this
  | _ => exact iff_ rfl (z h .refl)
def s_require_word : SpD := fun ds h q => ∃ d, ds = [d] ∧ okW h d ∧ wordD d = true ∧ ∀ h', Gr h h' → q .non h'
theorem p_require_word {ds : List D} {h : Hd} {q : D → Hd → Prop} (z : s_require_word ds h q) : v_require_word s_is_word (endR q) (startD K02.N_require_word ds) h := by
  obtain ⟨d, rfl, hok, hw, z⟩ := z
  refine ⟨_, rfl, d, rfl, hok, fun h' g => ⟨_, rfl, ?_⟩⟩
  rw [hw]
  exact iff_ rfl (z _ g)
end K02S

set_option Elab.async false
set_option linter.all false
set_option maxRecDepth 100000
set_option maxHeartbeats 2000000
/-! K02T: rows and parts; the plain proofs of the parts' making. -/
namespace K02S
open PySem PySem.Spec
open PyProof.Rows hiding St
open L2
open MP (D Cell Hd Sd WE WT WA WS WG WI EndsD ItD SpD endR startD itSeq items tyD truD getD putD keyOk wipeD lenD sortS ltS leS dctOf itKeys itVals)
open MV K02V

theorem cList_dct {h : Hd} {n : Nat} {lk : Bool} {kvs : List (D × D)} {Q : D → Hd → Prop} (e : h[n]? = some (.dct false lk kvs)) (z : Q (.ref h.length) (h ++ [.lst (kvs.map (·.1))])) : MV.cList [.ref n] h Q := by
  show (match h[n]? with | some (.dct false _ kvs) => Q (.ref h.length) (h ++ [.lst (kvs.map (·.1))]) | _ => ∃ xs, items h n = some xs ∧ Q (.ref h.length) (h ++ [.lst xs]))
  rw [e]; exact z
theorem cList_lst {h : Hd} {n : Nat} {xs : List D} {Q : D → Hd → Prop} (e : h[n]? = some (.lst xs)) (z : Q (.ref h.length) (h ++ [.lst xs])) : MV.cList [.ref n] h Q := by
  show (match h[n]? with | some (.dct false _ kvs) => Q (.ref h.length) (h ++ [.lst (kvs.map (·.1))]) | _ => ∃ xs, items h n = some xs ∧ Q (.ref h.length) (h ++ [.lst xs]))
  rw [e]; exact ⟨xs, by simp [items, e], z⟩
theorem oIx_dct {h : Hd} {n : Nat} {t lk : Bool} {kvs : List (D × D)} {y d : D} {Q : D → Hd → Prop} (e : h[n]? = some (.dct t lk kvs)) (hk : keyOk t y = true) (hg : getD kvs y = some d) (z : Q d h) : MV.oIx (.ref n) y h Q := by
  show (match h[n]? with
    | some (.lst xs) => ∃ i d, y = .int i ∧ L2.atI xs i = some d ∧ Q d h
    | some (.scr xs) => ∃ i d, y = .int i ∧ L2.atI xs i = some d ∧ Q d h
    | some (.dct t _ kvs) => keyOk t y = true ∧ ∃ d, getD kvs y = some d ∧ Q d h
    | _ => False)
  rw [e]; exact ⟨hk, d, hg, z⟩
theorem oIx_lst {h : Hd} {n : Nat} {xs : List D} {i : Int} {d : D} {Q : D → Hd → Prop} (e : h[n]? = some (.lst xs)) (hg : L2.atI xs i = some d) (z : Q d h) : MV.oIx (.ref n) (.int i) h Q := by
  show (match h[n]? with
    | some (.lst xs) => ∃ i' d, D.int i = .int i' ∧ L2.atI xs i' = some d ∧ Q d h
    | some (.scr xs) => ∃ i' d, D.int i = .int i' ∧ L2.atI xs i' = some d ∧ Q d h
    | some (.dct t _ kvs) => keyOk t (.int i) = true ∧ ∃ d, getD kvs (.int i) = some d ∧ Q d h
    | _ => False)
  rw [e]; exact ⟨i, d, rfl, hg, z⟩
theorem oIx_tup {h : Hd} {xs : List D} {i : Int} {d : D} {Q : D → Hd → Prop} (hg : L2.atI xs i = some d) (z : Q d h) : MV.oIx (.tup xs) (.int i) h Q := ⟨i, d, rfl, hg, z⟩
theorem nodup_le {α : Type} [DecidableEq α] : ∀ {xs ys : List α}, xs.Nodup → (∀ x ∈ xs, x ∈ ys) → xs.length ≤ ys.length
  | [], _, _, _ => Nat.zero_le _
  | x :: xs, ys, h, s => by
    have hx : x ∈ ys := s x List.mem_cons_self
    have h' := List.nodup_cons.mp h
    have := nodup_le (xs := xs) (ys := ys.erase x) h'.2 fun y hy => (List.mem_erase_of_ne (fun e => h'.1 (by rw [← e]; exact hy))).mpr (s y (List.mem_cons_of_mem _ hy))
    rw [List.length_erase_of_mem hx] at this
    have := List.length_pos_of_mem hx
    simp only [List.length_cons]; omega
theorem Gr.set {h0 h1 : Hd} (g : Gr h0 h1) {n : Nat} (c : Cell) (hn : h0.length ≤ n) : Gr h0 (h1.set n c) := ⟨by simpa using g.1, fun m u e => by
  obtain ⟨u', e', l⟩ := g.2 m u e
  have : m < h0.length := (List.getElem?_eq_some_iff.mp e).1
  exact ⟨u', by rw [List.getElem?_set_ne (by omega)]; exact e', l⟩⟩

/-! ### rows -/
abbrev Row := List (Str × Nat)
def rowK (r : Row) : List (D × D) := r.map fun p => (.str p.1, .int p.2)
def keysR (r : Row) : List Str := r.map (·.1)
def IsRow (h : Hd) (d : D) (r : Row) : Prop := ∃ n lk, d = .ref n ∧ h[n]? = some (.dct false lk (rowK r))
theorem IsRow.gr {h h' : Hd} {d : D} {r : Row} (k : IsRow h d r) (g : Gr h h') : IsRow h' d r := by
  obtain ⟨n, lk, rfl, e⟩ := k
  obtain ⟨lk', e'⟩ := g.dct e
  exact ⟨n, lk', rfl, e'⟩
def IsRows (h : Hd) (ds : List D) (rs : List Row) : Prop := ds.length = rs.length ∧ ∀ (i : Nat) d r, ds[i]? = some d → rs[i]? = some r → IsRow h d r
theorem IsRows.gr {h h' : Hd} {ds : List D} {rs : List Row} (k : IsRows h ds rs) (g : Gr h h') : IsRows h' ds rs := ⟨k.1, fun i d r a b => (k.2 i d r a b).gr g⟩
theorem IsRows.at {h : Hd} {ds : List D} {rs : List Row} (k : IsRows h ds rs) {i : Nat} {d : D} (e : ds[i]? = some d) : ∃ r, rs[i]? = some r ∧ IsRow h d r := by
  have hi : i < rs.length := by rw [← k.1]; exact (List.getElem?_eq_some_iff.mp e).1
  exact ⟨rs[i], List.getElem?_eq_getElem hi, k.2 i d _ e (List.getElem?_eq_getElem hi)⟩
theorem IsRows.at' {h : Hd} {ds : List D} {rs : List Row} (k : IsRows h ds rs) {i : Nat} {r : Row} (e : rs[i]? = some r) : ∃ d, ds[i]? = some d ∧ IsRow h d r := by
  have hi : i < ds.length := by rw [k.1]; exact (List.getElem?_eq_some_iff.mp e).1
  exact ⟨ds[i], List.getElem?_eq_getElem hi, k.2 i _ r (List.getElem?_eq_getElem hi) e⟩
theorem IsRows.snoc {h : Hd} {ds : List D} {rs : List Row} {d : D} {r : Row} (k : IsRows h ds rs) (x : IsRow h d r) : IsRows h (ds ++ [d]) (rs ++ [r]) := by
  refine ⟨by simp [k.1], fun i d' r' a b => ?_⟩
  by_cases hi : i < ds.length
  · rw [List.getElem?_append_left hi] at a
    rw [List.getElem?_append_left (by rw [← k.1]; exact hi)] at b
    exact k.2 i d' r' a b
  · rw [List.getElem?_append_right (by omega)] at a
    rw [List.getElem?_append_right (by rw [← k.1]; omega)] at b
    have e1 : d' = d := by
      cases z : i - ds.length with
      | zero => rw [z] at a; simpa using a.symm
      | succ m => rw [z] at a; simp at a
    have e2 : r' = r := by
      rw [← k.1] at b
      cases z : i - ds.length with
      | zero => rw [z] at b; simpa using b.symm
      | succ m => rw [z] at b; simp at b
    rw [e1, e2]; exact x
def lk (r : Row) (a : Str) : Option Nat := r.lookup a
theorem getD_rowK (a : Str) : ∀ r : Row, getD (rowK r) (.str a) = (lk r a).map fun (n : Nat) => D.int (n : Int)
  | [] => rfl
  | (b, n) :: r => by
    have ih := getD_rowK a r
    unfold getD rowK lk at *
    by_cases e : b = a
    · subst e
      simp [List.find?_cons, List.lookup_cons]
    · have e' : (a == b) = false := by simp [Ne.symm e]
      have e2 : ¬ (D.str b = D.str a) := fun q => e (by injection q)
      simp only [List.map_cons, List.find?_cons, e2, decide_false, List.lookup_cons, e']
      exact ih
theorem lk_mem {a : Str} : ∀ {r : Row}, a ∈ keysR r → ∃ n, lk r a = some n
  | [], h => by cases h
  | (b, n) :: r, h => by
    unfold lk
    rw [List.lookup_cons]
    by_cases e : a = b
    · subst e; exact ⟨n, by simp⟩
    · have e' : (a == b) = false := by simp [e]
      simp only [e']
      have : a ∈ keysR r := by
        rcases List.mem_cons.mp (show a ∈ b :: keysR r from h) with q | q
        · exact absurd q e
        · exact q
      exact lk_mem this
theorem lk_none {a : Str} : ∀ {r : Row}, a ∉ keysR r → lk r a = none
  | [], _ => rfl
  | (b, n) :: r, h => by
    unfold lk
    rw [List.lookup_cons]
    have h' : a ≠ b ∧ a ∉ keysR r := by
      have : a ∉ b :: keysR r := h
      simpa using this
    have e' : (a == b) = false := by simp [h'.1]
    simp only [e']
    exact lk_none h'.2
theorem lk_val {a : Str} {n : Nat} : ∀ {r : Row}, lk r a = some n → (a, n) ∈ r
  | [], h => by cases h
  | (b, m) :: r, h => by
    unfold lk at h
    rw [List.lookup_cons] at h
    by_cases e : a = b
    · subst e
      simp at h; subst h; exact List.mem_cons_self
    · have e' : (a == b) = false := by simp [e]
      simp only [e'] at h
      exact List.mem_cons_of_mem _ (lk_val h)
/-- the row with ascending keys -/
def srt (r : Row) : Row := (sortS (keysR r)).map fun a => (a, (lk r a).getD 0)
theorem keys_srt (r : Row) : keysR (srt r) = sortS (keysR r) := by
  unfold srt keysR; rw [List.map_map]; simp [Function.comp_def]
theorem lk_map {f : Str → Nat} {a : Str} : ∀ {ks : List Str}, a ∈ ks → lk (ks.map fun a => (a, f a)) a = some (f a)
  | [], h => by cases h
  | k :: ks, h => by
    unfold lk
    rw [List.map_cons, List.lookup_cons]
    by_cases e : a = k
    · subst e; simp
    · have e' : (a == k) = false := by simp [e]
      simp only [e']
      rcases List.mem_cons.mp h with q | q
      · exact absurd q e
      · exact lk_map q
theorem lk_srt (r : Row) (a : Str) : lk (srt r) a = lk r a := by
  by_cases h : a ∈ keysR r
  · obtain ⟨n, e⟩ := lk_mem h
    have : lk (srt r) a = some ((lk r a).getD 0) := lk_map (MP.mem_sortS.mpr h)
    rw [this, e]; rfl
  · rw [lk_none h, lk_none]
    rw [keys_srt]
    exact fun q => h (MP.mem_sortS.mp q)
theorem rowK_keys (r : Row) : (rowK r).map (·.1) = (keysR r).map D.str := by unfold rowK keysR; simp [List.map_map, Function.comp_def]
/-- a sane row -/
structure RowOk (r : Row) : Prop where
  nd : (keysR r).Nodup
  sm : r.length ≤ 7
theorem RowOk.srt {r : Row} (k : RowOk r) : RowOk (srt r) := ⟨by rw [keys_srt]; exact (MP.sortS_perm _).nodup_iff.mpr k.nd, by
  have : (K02S.srt r).length = r.length := by unfold K02S.srt; rw [List.length_map, MP.sortS_length]; unfold keysR; simp
  rw [this]; exact k.sm⟩
/-! a dict comprehension over a fixed row -/
theorem dc_by {t : ItD} {g : WG} {tt : WT} {tk tv : WE} {sl : Sd} {h1 : Hd} {Qf : List (D × D) → Hd → Prop} (xs : List D) (Pv : Nat → List (D × D) → Hd → Prop) (h0 : Pv 0 [] h1) (ht : ∀ i acc h, i ≤ xs.length → Pv i acc h → t i h = some xs[i]?)
    (hs : ∀ i x acc h, xs[i]? = some x → Pv i acc h → g x sl h fun sl2 h2 => tt sl2 h2 fun b h3 => if b = true then tk sl2 h3 fun x h4 => tv sl2 h4 fun y h5 => keyOk false x = true ∧ acc.length < sizeLine ∧ Pv (i + 1) (putD acc x y) h5 else Pv (i + 1) acc h3)
    (hd : ∀ acc h, Pv xs.length acc h → Qf acc h) :
    ∃ W : Nat → Nat → List (D × D) → Hd → Prop, (∃ m, W 0 m [] h1) ∧ ∀ i m acc h, W i m acc h →
      (t i h = some none ∧ Qf acc h) ∨ ∃ d, t i h = some (some d) ∧ ∃ N : List (D × D) → Hd → Prop, (∀ acc' h', N acc' h' → ∃ m', m' < m ∧ W (i + 1) m' acc' h') ∧ g d sl h fun sl2 h2 => tt sl2 h2 fun b h3 =>
        if b = true then tk sl2 h3 fun x h4 => tv sl2 h4 fun y h5 => keyOk false x = true ∧ acc.length < sizeLine ∧ N (putD acc x y) h5 else N acc h3 := by
  refine ⟨fun i m acc h => m = xs.length - i ∧ i ≤ xs.length ∧ Pv i acc h, ⟨xs.length, by simp, Nat.zero_le _, h0⟩, ?_⟩
  rintro i m acc h ⟨rfl, hi, p⟩
  have q := ht i acc h hi p
  by_cases hlt : i < xs.length
  · have e : xs[i]? = some xs[i] := List.getElem?_eq_getElem hlt
    exact .inr ⟨xs[i], by rw [q, e], Pv (i + 1), fun acc' h' p' => ⟨xs.length - (i + 1), by omega, rfl, hlt, p'⟩, hs i _ acc h e p⟩
  · have e : i = xs.length := by omega
    subst e
    exact .inl ⟨by rw [q, List.getElem?_eq_none (Nat.le_refl _)], hd acc h p⟩
theorem putD_new {acc : List (D × D)} {k v : D} (h : ∀ p ∈ acc, p.1 ≠ k) : putD acc k v = acc ++ [(k, v)] := by
  unfold putD
  rw [if_neg]
  simp only [List.any_eq_true, decide_eq_true_eq, not_exists, not_and]
  exact h

/-- dicts that are new and not walked -/
def FrD (h h' : Hd) (ds : List D) : Prop := ∀ d ∈ ds, ∃ n kvs, d = .ref n ∧ h.length ≤ n ∧ h'[n]? = some (.dct false false kvs)
theorem FrD.app {h h' : Hd} {ds : List D} (x : Hd) (k : FrD h h' ds) : FrD h (h' ++ x) ds := fun d hd => by
  obtain ⟨n, kvs, e1, e2, e3⟩ := k d hd
  exact ⟨n, kvs, e1, e2, by rw [List.getElem?_append_left (List.getElem?_eq_some_iff.mp e3).1]; exact e3⟩
def s_sorted_rows : SpD := fun ds h q => ∃ refs rs, ds = [.tup refs] ∧ IsRows h refs rs ∧ (∀ r ∈ rs, RowOk r) ∧ rs.length ≤ 8 ∧ ∀ h' refs', Gr h h' → IsRows h' refs' (rs.map srt) → FrD h h' refs' → q (.tup refs') h'
theorem p_sorted_rows {ds : List D} {h : Hd} {q : D → Hd → Prop} (z : s_sorted_rows ds h q) : v_sorted_rows (endR q) (startD K02.N_sorted_rows ds) h := by
  obtain ⟨refs, rs, rfl, hr, ok, h8, z⟩ := z
  refine ⟨_, rfl, refs, rfl, ?_⟩
  dsimp only
  refine lc_by refs (fun i acc h' => Gr h h' ∧ IsRows h' acc ((rs.take i).map srt) ∧ FrD h h' acc) ⟨.refl, ⟨rfl, fun i d r a => by simp at a⟩, fun _ z => (nomatch z)⟩ (fun i acc h' _ _ => rfl) (fun i x acc h' e p => ?_) (fun acc h' p => ?_)
  · obtain ⟨g, hacc, hfr⟩ := p
    obtain ⟨r, er, hx⟩ := hr.at e
    have okr := ok r (List.mem_of_getElem? er)
    have hi : i < rs.length := (List.getElem?_eq_some_iff.mp er).1
    obtain ⟨n, lk', rfl, en⟩ := hx.gr g
    have hk : (keysR r).length ≤ 7 := by unfold keysR; simpa using okr.sm
    -- list(row), sorted
    refine ⟨_, rfl, ?_⟩
    dsimp only [MV.wNil]
    refine cList_dct en ?_
    refine ⟨_, keysR r, rfl, .inl (by simp [items, rowK_keys]), by omega, ?_⟩
    refine ⟨_, (sortS (keysR r)).map D.str, rfl, by simp [items], ?_⟩
    have g2 : Gr h' (h' ++ [.lst ((rowK r).map (·.1))] ++ [.lst ((sortS (keysR r)).map D.str)]) := (Gr.app _).trans (.app _)
    generalize hh2 : h' ++ [Cell.lst ((rowK r).map (·.1))] ++ [.lst ((sortS (keysR r)).map D.str)] = h2 at g2 ⊢
    have it2 : items h2 (h' ++ [Cell.lst ((rowK r).map (·.1))]).length = some ((sortS (keysR r)).map D.str) := by
      rw [← hh2]; unfold items; rw [List.getElem?_append_right (Nat.le_refl _)]; simp
    refine dc_by ((sortS (keysR r)).map D.str) (fun j acc2 h3 => h3 = h2 ∧ acc2 = rowK (((sortS (keysR r)).take j).map fun a => (a, (lk r a).getD 0))) ⟨rfl, rfl⟩ (fun j acc2 h3 _ p3 => by
      rw [p3.1]; unfold MP.itLst; rw [it2]; rfl) (fun j y acc2 h3 e3 p3 => ?_) (fun acc2 h3 p3 => ?_)
    · obtain ⟨rfl, rfl⟩ := p3
      rw [List.getElem?_map] at e3
      obtain ⟨a, ea, rfl⟩ := Option.map_eq_some_iff.mp e3
      have ha : a ∈ keysR r := MP.mem_sortS.mp (List.mem_of_getElem? ea)
      obtain ⟨m, em⟩ := lk_mem ha
      obtain ⟨lk3, en3⟩ := g2.dct en
      refine ⟨_, rfl, _, rfl, _, rfl, ?_⟩
      dsimp only
      refine oIx_dct en3 rfl (d := .int m) (by rw [getD_rowK, em]; rfl) ⟨rfl, ?_, ?_⟩
      · unfold rowK
        simp only [List.length_map, List.length_take]
        have : sizeLine = 16777216 := sizeLine_eq
        have : (sortS (keysR r)).length ≤ 7 := by rw [MP.sortS_length]; exact hk
        omega
      · rw [putD_new]
        · rw [List.take_add_one, ea]
          unfold rowK
          simp [em]
        · intro p hp
          unfold rowK at hp
          simp only [List.map_map, List.mem_map, Function.comp_def] at hp
          obtain ⟨b, hb, rfl⟩ := hp
          intro q
          have q : b = a := by injection q
          subst q
          have nd : (sortS (keysR r)).Nodup := (MP.sortS_perm _).nodup_iff.mpr okr.nd
          obtain ⟨k, hk1, hk2⟩ := List.getElem_of_mem hb
          have hk1' : k < j := by simp at hk1; omega
          rw [List.getElem_take] at hk2
          have hj := List.getElem?_eq_some_iff.mp ea
          have := (List.getElem_inj nd).mp (hk2.trans hj.2.symm)
          omega
    · obtain ⟨rfl, rfl⟩ := p3
      refine ⟨?_, ?_, ?_, ?_⟩
      · have := hacc.1
        simp only [List.length_map, List.length_take] at this
        have : sizeLine = 16777216 := sizeLine_eq
        omega
      · exact (g.trans g2).trans (.app _)
      · rw [List.take_add_one, er]
        simp only [Option.toList_some, List.map_append, List.map_cons, List.map_nil]
        refine (hacc.gr (g2.trans (.app _))).snoc ⟨_, false, rfl, ?_⟩
        rw [List.getElem?_append_right (Nat.le_refl _)]
        simp only [Nat.sub_self, List.getElem?_cons_zero, List.length_map, List.take_length]
        rfl
      · intro d hd
        have hlen : h.length ≤ h3.length := Nat.le_trans g.1 g2.1
        rcases List.mem_append.mp hd with q | q
        · have k2 : FrD h h3 acc := by
            rw [← hh2]
            exact (hfr.app _).app _
          exact k2.app _ d q
        · exact ⟨_, _, List.mem_singleton.mp q, hlen, by rw [List.getElem?_append_right (Nat.le_refl _), Nat.sub_self]; rfl⟩
  · obtain ⟨g, hacc, hfr⟩ := p
    refine ⟨acc, by simp [items], ?_⟩
    rw [hr.1, List.take_length] at hacc
    exact z _ _ (g.trans (.app _)) (hacc.gr (.app _)) (hfr.app _)
end K02S

set_option Elab.async false
set_option linter.all false
set_option maxRecDepth 100000
set_option maxHeartbeats 2000000
/-! K02U: the plain proofs of what a part asks of its rows. -/
namespace K02S
open PySem PySem.Spec
open PyProof.Rows hiding St
open L2
open MP (D Cell Hd Sd WE WT WA WS WG WI EndsD ItD SpD endR startD itSeq items tyD truD getD putD keyOk wipeD lenD sortS ltS leS dctOf itKeys itVals cutD)
open MV K02V
theorem cut1 (xs : List D) : cutD xs (some 1) none = xs.drop 1 := by
  cases xs with
  | nil => rfl
  | cons x xs =>
    have e1 : HT.sIx (x :: xs).length 0 (some 1) = 1 := by unfold HT.sIx; simp; try omega
    have e2 : HT.sIx (x :: xs).length (x :: xs).length none = (x :: xs).length := by unfold HT.sIx; simp
    unfold MP.cutD
    rw [e1, e2]
    simp
def natsD (ns : List Nat) : List D := ns.map fun (n : Nat) => .int (n : Int)
theorem asc_all : ∀ {ns : List Nat}, ns.Pairwise (· < ·) → ∀ y ∈ ((natsD ns).zip ((natsD ns).drop 1)), ∃ a b : Int, y = (.int a, .int b) ∧ a < b
  | [], _, y, hy => by simp [natsD] at hy
  | [a], _, y, hy => by simp [natsD] at hy
  | a :: b :: r, h, y, hy => by
    have h1 := (List.pairwise_cons.mp h).1 b List.mem_cons_self
    have h2 := (List.pairwise_cons.mp h).2
    rcases List.mem_cons.mp (show y ∈ (D.int a, D.int b) :: ((natsD (b :: r)).zip ((natsD (b :: r)).drop 1)) from hy) with rfl | q
    · exact ⟨a, b, rfl, by omega⟩
    · exact asc_all h2 y q
def s_is_ascending : SpD := fun ds h q => ∃ ns, ds = [.tup (natsD ns)] ∧ ns.Pairwise (· < ·) ∧ ns.length ≤ 8 ∧ ∀ h', Gr h h' → q (.bl true) h'
theorem p_is_ascending {ds : List D} {h : Hd} {q : D → Hd → Prop} (z : s_is_ascending ds h q) : v_is_ascending (endR q) (startD K02.N_is_ascending ds) h := by
  obtain ⟨ns, rfl, pw, h8, z⟩ := z
  refine ⟨_, rfl, _, rfl, 1, rfl, ?_⟩
  dsimp only [MV.wNoPart, MV.oSl, MV.wNil]
  rw [cut1]
  have hl : (((natsD ns).zip ((natsD ns).drop 1)).map fun p => D.tup [p.1, p.2]).length ≤ 8 := by
    simp only [List.length_map, List.length_zip, natsD, List.length_drop]; omega
  refine lc_map _ (fun _ => .bl true) (Nat.le_trans hl (by decide)) it_seq (fun y hy R acc hacc hR => ?_) ?_
  · obtain ⟨⟨a0, b0⟩, hp, rfl⟩ := List.mem_map.mp hy
    obtain ⟨a, b, e, hab⟩ := asc_all pw _ hp
    cases e
    refine ⟨_, rfl, rfl, _, _, rfl, _, _, rfl, rfl, ?_⟩
    refine ⟨_, rfl, _, rfl, hacc, ?_⟩
    have : decide (a < b) = true := decide_eq_true hab
    show R (acc ++ [.bl (decide (a < b))]) h
    rw [this]; exact hR
  · refine ⟨h.length, (((natsD ns).zip ((natsD ns).drop 1)).map fun _ => true), rfl, ?_, ?_⟩
    · simp [items, List.map_map, Function.comp_def]
    · have e : ((((natsD ns).zip ((natsD ns).drop 1)).map fun _ => true).all fun b => b) = true := by simp
      rw [e]
      exact z _ (.app _)
def s_is_rests : SpD := fun ds h q => ∃ ns n, ds = [.tup (natsD ns), .int (n : Nat)] ∧ ns.Pairwise (· < ·) ∧ (∀ x ∈ ns, x < n) ∧ n ≤ 8 ∧ ∀ h', Gr h h' → q (.bl true) h'
theorem len_lt {ns : List Nat} {n : Nat} (pw : ns.Pairwise (· < ·)) (h : ∀ x ∈ ns, x < n) : ns.length ≤ n := by
  have := nodup_le (xs := ns) (ys := List.range n) (pw.imp fun h => Nat.ne_of_lt h) fun x hx => List.mem_range.mpr (h x hx)
  simpa using this
theorem p_is_rests {ds : List D} {h : Hd} {q : D → Hd → Prop} (z : s_is_rests ds h q) : v_is_rests s_is_index s_is_ascending (endR q) (startD K02.N_is_rests ds) h := by
  obtain ⟨ns, n, rfl, pw, hn, h8, z⟩ := z
  have hl := len_lt pw hn
  refine ⟨_, rfl, .inl "tuple", true, rfl, (tab_eq (fun _ z => by cases z) (d := .tup (natsD ns)) (h := h) rfl).2.2.2.1, true, rfl, ?_⟩
  refine iff_ rfl ?_
  refine ⟨_, rfl, _, rfl, ?_⟩
  dsimp only
  refine lc_by (natsD ns) (fun i acc h' => Gr h h' ∧ acc = ((natsD ns).take i).map fun _ => D.bl true) ⟨.refl, rfl⟩ (fun i acc h' _ _ => rfl) (fun i x acc h' e p => ?_) (fun acc h' p => ?_)
  · obtain ⟨g, rfl⟩ := p
    have hi := (List.getElem?_eq_some_iff.mp e).1
    have hx : ∃ m : Nat, x = .int m ∧ m < n := by
      obtain ⟨m, hm, rfl⟩ := List.mem_map.mp (List.mem_of_getElem? e)
      exact ⟨m, rfl, hn m hm⟩
    obtain ⟨m, rfl, hm⟩ := hx
    refine ⟨_, rfl, _, rfl, .int m, n, rfl, trivial, fun h2 g2 => ⟨?_, g.trans g2, ?_⟩⟩
    · have : sizeLine = 16777216 := sizeLine_eq
      simp [natsD]; omega
    · rw [List.take_add_one, e]
      have : indexD n (.int m) = true := by simp [indexD]; omega
      simp [this]
  · obtain ⟨g, rfl⟩ := p
    rw [List.take_length]
    refine ⟨h'.length, ns.map fun _ => true, rfl, by simp [items, natsD, List.map_map, Function.comp_def], ?_⟩
    refine ⟨_, rfl, ?_⟩
    have e : ((ns.map fun _ => true).all fun b => b) = true := by simp
    rw [e]
    refine iff_ rfl ?_
    refine ⟨_, rfl, ns, rfl, pw, by omega, fun h2 g2 => z _ ((g.trans (.app _)).trans g2)⟩
end K02S

set_option Elab.async false
set_option linter.all false
set_option maxRecDepth 100000
set_option maxHeartbeats 2000000
/-! K02X: walks in general; actions_in, are_rows. -/
namespace MV
open PySem PySem.Spec
open PyProof.Rows hiding St
open L2
open MP (D Cell Hd Sd WE WT WA WS WG WI EndsD ItD SpD)
/-- any walk (a loop's or a comprehension's): xs stay what is walked, Pv holds at each turn -/
theorem it_by {α : Type} {t : ItD} {B : D → α → Hd → (α → Hd → Prop) → Prop} {Qf : α → Hd → Prop} {a0 : α} {h1 : Hd} (xs : List D) (Pv : Nat → α → Hd → Prop) (h0 : Pv 0 a0 h1) (ht : ∀ i a h, i ≤ xs.length → Pv i a h → t i h = some xs[i]?)
    (hs : ∀ i x a h, xs[i]? = some x → Pv i a h → B x a h (Pv (i + 1))) (hd : ∀ a h, Pv xs.length a h → Qf a h) :
    ∃ W : Nat → Nat → α → Hd → Prop, (∃ m, W 0 m a0 h1) ∧ ∀ i m a h, W i m a h →
      (t i h = some none ∧ Qf a h) ∨ ∃ d, t i h = some (some d) ∧ ∃ N : α → Hd → Prop, (∀ a' h', N a' h' → ∃ m', m' < m ∧ W (i + 1) m' a' h') ∧ B d a h N := by
  refine ⟨fun i m a h => m = xs.length - i ∧ i ≤ xs.length ∧ Pv i a h, ⟨xs.length, by simp, Nat.zero_le _, h0⟩, ?_⟩
  rintro i m a h ⟨rfl, hi, p⟩
  have q := ht i a h hi p
  by_cases hlt : i < xs.length
  · have e : xs[i]? = some xs[i] := List.getElem?_eq_getElem hlt
    exact .inr ⟨xs[i], by rw [q, e], Pv (i + 1), fun a' h' p' => ⟨xs.length - (i + 1), by omega, rfl, hlt, p'⟩, hs i _ a h e p⟩
  · have e : i = xs.length := by omega
    subst e
    exact .inl ⟨by rw [q, List.getElem?_eq_none (Nat.le_refl _)], hd a h p⟩
end MV
namespace K02S
open PySem PySem.Spec
open PyProof.Rows hiding St
open L2
open MP (D Cell Hd Sd WE WT WA WS WG WI EndsD ItD SpD endR startD itSeq items tyD truD getD putD keyOk wipeD lenD sortS ltS leS dctOf itKeys itVals)
open MV K02V
theorem itKeys_at {h : Hd} {n : Nat} {t : Bool} {kvs : List (D × D)} (e : h[n]? = some (.dct t true kvs)) (i : Nat) : itKeys n i h = some ((kvs.map (·.1))[i]?) := by
  unfold MP.itKeys MP.dctOf; rw [e]; simp
theorem itVals_at {h : Hd} {n : Nat} {t : Bool} {kvs : List (D × D)} (e : h[n]? = some (.dct t true kvs)) (i : Nat) : itVals n i h = some ((kvs.map (·.2))[i]?) := by
  unfold MP.itVals MP.dctOf; rw [e]; simp
theorem set_at {h : Hd} {n : Nat} {c c' : Cell} (e : h[n]? = some c) : (h.set n c')[n]? = some c' := List.getElem?_set_self (List.getElem?_eq_some_iff.mp e).1
abbrev allK (rs : List Row) : List Str := rs.flatMap keysR
theorem len_allK {rs : List Row} (ok : ∀ r ∈ rs, RowOk r) (h8 : rs.length ≤ 8) : (allK rs).length ≤ 56 := by
  have : ∀ rs : List Row, (∀ r ∈ rs, RowOk r) → (allK rs).length ≤ 7 * rs.length := by
    intro rs
    induction rs with
    | nil => intro _; exact Nat.zero_le _
    | cons r rs ih =>
      intro ok
      have h1 := (ok r List.mem_cons_self).sm
      have h2 := ih fun r hr => ok r (List.mem_cons_of_mem _ hr)
      simp only [allK, List.flatMap_cons, List.length_append, keysR, List.length_map, List.length_cons] at *
      omega
  have := this rs ok
  omega
/-- a dict of texts with distinct keys, one more -/
theorem putT {xs : List Str} (a : Str) : putD (xs.map fun x => (D.str x, D.bl true)) (.str a) (.bl true) = (if a ∈ xs then xs else xs ++ [a]).map fun x => (D.str x, D.bl true) := by
  by_cases h : a ∈ xs
  · rw [if_pos h]
    unfold MP.putD
    rw [if_pos]
    · rw [List.map_map]
      refine List.map_congr_left fun x hx => ?_
      simp only [Function.comp_def]
      split <;> rfl
    · simp only [List.any_eq_true, decide_eq_true_eq]
      exact ⟨_, List.mem_map.mpr ⟨a, h, rfl⟩, rfl⟩
  · rw [if_neg h, putD_new]
    · simp
    · intro p hp e
      obtain ⟨x, hx, rfl⟩ := List.mem_map.mp hp
      have : x = a := by injection e
      rw [this] at hx
      exact h hx
theorem mem_eraseDups (k : Str) : ∀ (n : Nat) (xs : List Str), xs.length ≤ n → (k ∈ xs.eraseDups ↔ k ∈ xs) := MP.mem_eraseDupsS k
theorem mem_ed {k : Str} {xs : List Str} : k ∈ xs.eraseDups ↔ k ∈ xs := MP.mem_eraseDupsS k _ xs (Nat.le_refl _)
theorem nd_ed (xs : List Str) : xs.eraseDups.Nodup := MP.nodup_eraseDupsS _ xs (Nat.le_refl _)
theorem sortS_perm_eq {xs ys : List Str} (p : xs.Perm ys) : sortS xs = sortS ys := MP.sortS_uniq ((MP.sortS_perm xs).trans p) (MP.sortS_pw xs)
/-- the names that rows use, each once, ascending -/
def actS (rs : List Row) : List Str := sortS (allK rs).eraseDups
theorem actS_of {xs : List Str} {rs : List Row} (nd : xs.Nodup) (h : ∀ x, x ∈ xs ↔ x ∈ allK rs) : sortS xs = actS rs :=
  sortS_perm_eq ((List.perm_ext_iff_of_nodup nd (nd_ed _)).mpr fun x => (h x).trans mem_ed.symm)
theorem mem_actS {x : Str} {rs : List Row} : x ∈ actS rs ↔ x ∈ allK rs := MP.mem_sortS.trans mem_ed
theorem nd_actS (rs : List Row) : (actS rs).Nodup := (MP.sortS_perm _).nodup_iff.mpr (nd_ed _)
theorem mem_take_succ {rs : List Row} {i : Nat} {r : Row} (e : rs[i]? = some r) {x : Str} : x ∈ allK (rs.take (i + 1)) ↔ x ∈ allK (rs.take i) ∨ x ∈ keysR r := by
  rw [List.take_add_one, e]; simp [allK]
def s_actions_in : SpD := fun ds h q => ∃ refs rs, ds = [.tup refs] ∧ IsRows h refs rs ∧ (∀ r ∈ rs, RowOk r) ∧ rs.length ≤ 8 ∧ ∀ (h' : Hd) (xs : List Str), Gr h h' → xs.Nodup → (∀ x ∈ xs, x ∈ allK rs) → xs = actS rs → q (.tup (xs.map .str)) h'
theorem p_actions_in {ds : List D} {h : Hd} {q : D → Hd → Prop} (z : s_actions_in ds h q) : v_actions_in (endR q) (startD K02.N_actions_in ds) h := by
  obtain ⟨refs, rs, rfl, hr, ok, h8, z⟩ := z
  have hall := len_allK ok h8
  refine ⟨_, rfl, refs, rfl, ?_⟩
  dsimp only
  refine it_by refs (fun i acc h' => Gr h h' ∧ ∃ xs : List Str, acc = xs.map (fun x => (D.str x, D.bl true)) ∧ xs.Nodup ∧ (∀ x ∈ xs, x ∈ allK rs) ∧ ∀ x, x ∈ xs ↔ x ∈ allK (rs.take i)) ⟨.refl, [], rfl, List.nodup_nil, (fun _ z => nomatch z), fun _ => ⟨fun z => (nomatch z), fun z => (nomatch z)⟩⟩ (fun i acc h' _ _ => rfl) (fun i x acc h' e p => ?_) (fun acc h' p => ?_)
  · obtain ⟨g, hx⟩ := p
    obtain ⟨r, er, hx0⟩ := hr.at e
    obtain ⟨n, lk0, rfl, en⟩ := hx0.gr g
    refine ⟨_, rfl, n, false, lk0, _, rfl, en, trivial, ?_⟩
    dsimp only
    have e2 := set_at (c' := .dct false true (rowK r)) en
    have g2 : Gr h (h'.set n (.dct false true (rowK r))) := g.trans (.lock en)
    generalize h'.set n (.dct false true (rowK r)) = h2 at e2 g2
    refine it_by ((rowK r).map (·.1)) (fun j acc h3 => h3 = h2 ∧ ∃ xs : List Str, acc = xs.map (fun x => (D.str x, D.bl true)) ∧ xs.Nodup ∧ (∀ x ∈ xs, x ∈ allK rs) ∧ ∀ x, x ∈ xs ↔ x ∈ allK (rs.take i) ∨ x ∈ (keysR r).take j) ⟨rfl, by
      obtain ⟨xs, a1, a2, a3, a4⟩ := hx
      exact ⟨xs, a1, a2, a3, fun x => by rw [a4 x]; simp⟩⟩ (fun j acc h3 _ p3 => by rw [p3.1]; exact itKeys_at e2 j) (fun j y acc h3 e3 p3 => ?_) (fun acc h3 p3 => ?_)
    · obtain ⟨rfl, xs, rfl, nd, sub, mm⟩ := p3
      rw [rowK_keys, List.getElem?_map] at e3
      obtain ⟨a, ea, rfl⟩ := Option.map_eq_some_iff.mp e3
      have ha : a ∈ allK rs := List.mem_flatMap.mpr ⟨r, List.mem_of_getElem? er, List.mem_of_getElem? ea⟩
      refine ⟨_, rfl, rfl, ?_, rfl, _, putT a, ?_, ?_, ?_⟩
      · have := nodup_le nd sub
        have : sizeLine = 16777216 := sizeLine_eq
        rw [List.length_map]; omega
      · split
        · exact nd
        · rename_i hn
          exact List.nodup_append.mpr ⟨nd, by simp, fun x hx y hy => by rw [List.mem_singleton] at hy; rw [hy]; exact fun q => hn (by rw [← q]; exact hx)⟩
      · split
        · exact sub
        · intro x hx
          rcases List.mem_append.mp hx with q | q
          · exact sub x q
          · rw [List.mem_singleton.mp q]; exact ha
      · intro x
        have et : x ∈ (keysR r).take (j + 1) ↔ x ∈ (keysR r).take j ∨ x = a := by
          rw [List.take_add_one, ea]; simp
        rw [et, ← or_assoc, ← mm x]
        split
        · rename_i hn
          exact ⟨.inl, fun q => q.elim id fun e => by rw [e]; exact hn⟩
        · simp
    · obtain ⟨rfl, xs, a1, a2, a3, a4⟩ := p3
      refine ⟨g2, xs, a1, a2, a3, fun x => ?_⟩
      have hl : (keysR r).take ((rowK r).map (·.1)).length = keysR r := List.take_of_length_le (by unfold rowK keysR; simp)
      rw [a4 x, hl, mem_take_succ er]
  · obtain ⟨g, xs, rfl, nd, sub, mm⟩ := p
    have hlen : xs.length ≤ 56 := Nat.le_trans (nodup_le nd sub) hall
    have ek : ((xs.map fun x => (D.str x, D.bl true)).map (·.1)) = xs.map D.str := by rw [List.map_map]; rfl
    refine ⟨_, rfl, ?_⟩
    dsimp only [MV.wNil]
    have eD : (h' ++ [Cell.dct false false (xs.map fun x => (D.str x, D.bl true))])[h'.length]? = some (.dct false false (xs.map fun x => (D.str x, D.bl true))) := by
      rw [List.getElem?_append_right (Nat.le_refl _)]; simp
    refine cList_dct eD ?_
    refine ⟨_, xs, rfl, .inl (by simp [items, ek]), by omega, ?_⟩
    refine ⟨(sortS xs).map D.str, by simp [items], ?_⟩
    refine z _ (sortS xs) (((g.trans (.app _)).trans (.app _)).trans (.app _)) ((MP.sortS_perm _).nodup_iff.mpr nd) (fun x hx => sub x (MP.mem_sortS.mp hx)) (actS_of nd fun x => by rw [mm x, hr.1, List.take_length])
end K02S

set_option Elab.async false
set_option linter.all false
set_option maxRecDepth 100000
set_option maxHeartbeats 2000000
/-! K02Y: are_rows, the makings. -/
namespace K02S
open PySem PySem.Spec
open PyProof.Rows hiding St
open L2
open MP (D Cell Hd Sd WE WT WA WS WG WI EndsD ItD SpD endR startD itSeq items tyD truD getD putD keyOk wipeD lenD sortS ltS leS dctOf itKeys itVals putFD)
open MV K02V
structure RowsOk (rs : List Row) : Prop where
  ok : ∀ r ∈ rs, RowOk r
  one : 1 ≤ rs.length
  le : rs.length ≤ 8
  nm : ∀ r ∈ rs, ∀ p ∈ r, nameS p.1 = true ∧ p.2 < rs.length
theorem nameS_len {x : Str} (h : nameS x = true) : x.length ≤ sizeLine := by
  unfold nameS at h
  simp only [Bool.and_eq_true, decide_eq_true_eq] at h
  have : sizeLine = 16777216 := sizeLine_eq
  omega
def s_are_rows : SpD := fun ds h q => ∃ refs rs, ds = [.tup refs] ∧ IsRows h refs rs ∧ RowsOk rs ∧ ∀ h', Gr h h' → q (.bl true) h'
theorem items_last {h : Hd} {xs : List D} : items (h ++ [.lst xs]) h.length = some xs := by
  unfold items; rw [List.getElem?_append_right (Nat.le_refl _)]; simp
theorem allK_take (rs : List Row) (k : Nat) : (allK (rs.take k)).length ≤ (allK rs).length := by
  have : (allK rs).length = (allK (rs.take k)).length + (allK (rs.drop k)).length := by
    unfold allK
    rw [← List.length_append, ← List.flatMap_append, List.take_append_drop]
  omega
theorem take_rows {rs : List Row} {i : Nat} {r : Row} (e : rs[i]? = some r) : rs.take (i + 1) = rs.take i ++ [r] := by rw [List.take_add_one, e]; rfl
theorem p_are_rows {ds : List D} {h : Hd} {q : D → Hd → Prop} (z : s_are_rows ds h q) : v_are_rows s_is_index s_is_name (endR q) (startD K02.N_are_rows ds) h := by
  obtain ⟨refs, rs, rfl, hr, ok, z⟩ := z
  have hsz : sizeLine = 16777216 := sizeLine_eq
  have hlen := hr.1
  have h1 := ok.one
  have h8 := ok.le
  have hall := len_allK ok.ok ok.le
  refine ⟨_, rfl, .inl "tuple", true, rfl, (tab_eq (fun _ z => by cases z) (d := .tup refs) (h := h) rfl).2.2.2.1, true, rfl, ?_⟩
  refine iff_ rfl ?_
  refine ⟨_, rfl, _, refs.length, rfl, rfl, ?_⟩
  refine ⟨_, rfl, ?_⟩
  refine ift (by simp; omega) ?_
  refine ⟨_, rfl, ?_⟩
  refine iff_ (by simp; omega) ?_
  -- all([isinstance(row, dict) for row in value])
  refine ⟨_, rfl, _, rfl, ?_⟩
  dsimp only
  refine it_by refs (fun i acc h' => h' = h ∧ acc = (refs.take i).map fun _ => D.bl true) ⟨rfl, rfl⟩ (fun i acc h' _ _ => rfl) (fun i x acc h' e p => ?_) (fun acc h' p => ?_)
  · obtain ⟨rfl, rfl⟩ := p
    obtain ⟨r, er, n, lk0, rfl, en⟩ := hr.at e
    refine ⟨_, rfl, .inl "dict", true, by simp only [tyD, en], (tab_eq (fun _ z => by cases z) (d := .ref n) (h := h') (t := .inl "dict") (by simp only [tyD, en])).2.2.2.2, by simp; omega, rfl, ?_⟩
    rw [List.take_add_one, e]; simp
  obtain ⟨rfl, rfl⟩ := p
  refine ⟨_, refs.map fun _ => true, rfl, by simp [items], ?_⟩
  refine ⟨_, rfl, ?_⟩
  rw [show ((refs.map fun _ => true).all fun b => b) = true by simp]
  refine iff_ rfl ?_
  have g0 : Gr h' (h' ++ [Cell.lst (List.map (fun _ => D.bl true) (List.take refs.length refs))]) := .app _
  generalize h' ++ [Cell.lst (List.map (fun _ => D.bl true) (List.take refs.length refs))] = ha at g0
  -- keys
  refine ⟨_, rfl, refs, rfl, ?_⟩
  dsimp only
  refine it_by refs (fun i acc h2 => Gr h' h2 ∧ acc = (allK (rs.take i)).map D.str) ⟨g0, rfl⟩ (fun i acc h2 _ _ => rfl) (fun i x acc h2 e p => ?_) (fun acc h2 p => ?_)
  · obtain ⟨g, rfl⟩ := p
    obtain ⟨r, er, hx0⟩ := hr.at e
    obtain ⟨n, lk0, rfl, en⟩ := hx0.gr g
    refine ⟨_, rfl, n, false, lk0, _, rfl, en, trivial, ?_⟩
    dsimp only
    have e2 := set_at (c' := .dct false true (rowK r)) en
    have g2 : Gr h' (h2.set n (.dct false true (rowK r))) := g.trans (.lock en)
    generalize h2.set n (.dct false true (rowK r)) = h3 at e2 g2
    have hsub : (allK (rs.take (i + 1))).length ≤ 56 := Nat.le_trans (allK_take rs (i + 1)) hall
    rw [take_rows er] at hsub ⊢
    simp only [allK, List.flatMap_append, List.flatMap_cons, List.flatMap_nil, List.append_nil, List.map_append, List.length_append] at hsub ⊢
    refine it_by ((rowK r).map (·.1)) (fun j acc h4 => h4 = h3 ∧ acc = ((rs.take i).flatMap keysR).map D.str ++ ((keysR r).take j).map D.str) ⟨rfl, by simp⟩ (fun j acc h4 _ p4 => by rw [p4.1]; exact itKeys_at e2 j) (fun j y acc h4 e3 p4 => ?_) (fun acc h4 p4 => ?_)
    · obtain ⟨rfl, rfl⟩ := p4
      rw [rowK_keys, List.getElem?_map] at e3
      obtain ⟨a, ea, rfl⟩ := Option.map_eq_some_iff.mp e3
      refine ⟨_, rfl, ?_, rfl, ?_⟩
      · have : (List.take j (keysR r)).length ≤ (keysR r).length := by simp; omega
        simp only [List.length_append, List.length_map]
        omega
      · rw [List.take_add_one, ea]; simp
    · obtain ⟨rfl, rfl⟩ := p4
      have et : (keysR r).take ((rowK r).map (·.1)).length = keysR r := List.take_of_length_le (by rw [rowK_keys, List.length_map]; exact Nat.le_refl _)
      rw [et]
      exact ⟨g2, rfl⟩
  obtain ⟨gk, rfl⟩ := p
  rw [hlen, List.take_length]
  have ekeys : (h2 ++ [Cell.lst ((allK rs).map D.str)])[h2.length]? = some (.lst ((allK rs).map D.str)) := by simp
  have gk2 : Gr h' (h2 ++ [Cell.lst ((allK rs).map D.str)]) := gk.trans (.app _)
  generalize hk : h2.length = kn at ekeys
  generalize h2 ++ [Cell.lst ((allK rs).map D.str)] = hb at ekeys gk2
  -- targets
  refine ⟨_, rfl, refs, rfl, ?_⟩
  dsimp only
  refine it_by refs (fun i acc h3 => Gr hb h3 ∧ acc = natsD ((rs.take i).flatMap fun r => r.map (·.2))) ⟨.refl, rfl⟩ (fun i acc h3 _ _ => rfl) (fun i x acc h3 e p => ?_) (fun acc h3 p => ?_)
  · obtain ⟨g, rfl⟩ := p
    obtain ⟨r, er, hx0⟩ := hr.at e
    obtain ⟨n, lk0, rfl, en⟩ := hx0.gr (gk2.trans g)
    refine ⟨_, rfl, n, false, lk0, _, rfl, en, rfl, ?_⟩
    dsimp only
    have e2 := set_at (c' := .dct false true (rowK r)) en
    have g2 : Gr hb (h3.set n (.dct false true (rowK r))) := g.trans (.lock en)
    generalize h3.set n (.dct false true (rowK r)) = h4 at e2 g2
    have hsub : ((rs.take (i + 1)).flatMap fun r => r.map (·.2)).length ≤ 56 := by
      have e1 : ((rs.take (i + 1)).flatMap fun r => r.map (·.2)).length = (allK (rs.take (i + 1))).length := by
        simp only [allK, List.length_flatMap, keysR, List.length_map]
      have := allK_take rs (i + 1)
      omega
    rw [take_rows er] at hsub ⊢
    simp only [List.flatMap_append, List.flatMap_cons, List.flatMap_nil, List.append_nil, List.length_append] at hsub ⊢
    refine it_by ((rowK r).map (·.2)) (fun j acc h5 => h5 = h4 ∧ acc = natsD ((rs.take i).flatMap fun r => r.map (·.2)) ++ natsD ((r.map (·.2)).take j)) ⟨rfl, by simp [natsD]⟩ (fun j acc h5 _ p5 => by rw [p5.1]; exact itVals_at e2 j) (fun j y acc h5 e3 p5 => ?_) (fun acc h5 p5 => ?_)
    · obtain ⟨rfl, rfl⟩ := p5
      have ev : (rowK r).map (·.2) = natsD (r.map (·.2)) := by unfold rowK natsD; simp [List.map_map, Function.comp_def]
      rw [ev] at e3
      unfold natsD at e3
      rw [List.getElem?_map] at e3
      obtain ⟨a, ea, rfl⟩ := Option.map_eq_some_iff.mp e3
      refine ⟨_, rfl, ?_, rfl, ?_⟩
      · have : (List.take j (r.map (·.2))).length ≤ (r.map (·.2)).length := by simp; omega
        simp only [natsD, List.length_append, List.length_map] at *
        omega
      · rw [List.take_add_one, ea]; simp [natsD]
    · obtain ⟨rfl, rfl⟩ := p5
      have et : (r.map (·.2)).take ((rowK r).map (·.2)).length = r.map (·.2) := List.take_of_length_le (by unfold rowK; simp)
      rw [et]
      refine ⟨g2, ?_⟩
      unfold natsD; simp
  obtain ⟨gt, rfl⟩ := p
  rw [hlen, List.take_length]
  have etar : (h3 ++ [Cell.lst (natsD (rs.flatMap fun r => r.map (·.2)))])[h3.length]? = some (.lst (natsD (rs.flatMap fun r => r.map (·.2)))) := by simp
  have gt2 : Gr hb (h3 ++ [Cell.lst (natsD (rs.flatMap fun r => r.map (·.2)))]) := gt.trans (.app _)
  generalize ht : h3.length = tn at etar
  generalize h3 ++ [Cell.lst (natsD (rs.flatMap fun r => r.map (·.2)))] = hc at etar gt2
  -- all names
  have ekeys2 := gt2.lst ekeys
  refine ⟨_, rfl, _, _, rfl, by simp only [items, ekeys2]; rfl, ?_⟩
  dsimp only
  refine it_by ((allK rs).map D.str) (fun i acc h4 => Gr hc h4 ∧ acc = ((allK rs).take i).map fun _ => D.bl true) ⟨.refl, rfl⟩ (fun i acc h4 _ p => by
    unfold MP.itLst items; rw [p.1.lst ekeys2]; rfl) (fun i x acc h4 e p => ?_) (fun acc h4 p => ?_)
  · obtain ⟨g, rfl⟩ := p
    rw [List.getElem?_map] at e
    obtain ⟨a, ea, rfl⟩ := Option.map_eq_some_iff.mp e
    have hn : nameS a = true := by
      obtain ⟨r, hr1, hr2⟩ := List.mem_flatMap.mp (List.mem_of_getElem? ea)
      obtain ⟨p, hp, rfl⟩ := List.mem_map.mp hr2
      exact (ok.nm r hr1 p hp).1
    refine ⟨_, rfl, .str a, rfl, nameS_len hn, fun h5 g5 => ⟨by rw [List.length_map, List.length_take]; omega, g.trans g5, ?_⟩⟩
    rw [List.take_add_one, ea]
    simp only [Option.toList_some, List.map_append, List.map_cons, List.map_nil, nameD, hn]
  obtain ⟨gn, rfl⟩ := p
  have et : (allK rs).take ((allK rs).map D.str).length = allK rs := by rw [List.length_map, List.take_length]
  rw [et]
  refine ⟨_, (allK rs).map fun _ => true, rfl, by rw [items_last, List.map_map]; rfl, ?_⟩
  refine ⟨_, rfl, ?_⟩
  rw [show (((allK rs).map fun _ => true).all fun b => b) = true from List.all_eq_true.mpr fun x hx => by obtain ⟨_, _, rfl⟩ := List.mem_map.mp hx; rfl]
  refine ift rfl ?_
  have gn2 : Gr hc (h4 ++ [Cell.lst (List.map (fun _ => D.bl true) (allK rs))]) := gn.trans (.app _)
  generalize h4 ++ [Cell.lst (List.map (fun _ => D.bl true) (allK rs))] = hd at gn2
  have etar2 := gn2.lst etar
  refine ⟨_, rfl, _, _, rfl, by simp only [items, etar2]; rfl, ?_⟩
  dsimp only
  generalize hts : (rs.flatMap fun r => r.map (·.2)) = ts at *
  have hts2 : ∀ x ∈ ts, x < rs.length := fun x hx => by
    rw [← hts] at hx
    obtain ⟨r, hr1, hr2⟩ := List.mem_flatMap.mp hx
    obtain ⟨p, hp, rfl⟩ := List.mem_map.mp hr2
    exact (ok.nm r hr1 p hp).2
  have htl : ts.length ≤ 56 := by
    rw [← hts]
    have e1 : (rs.flatMap fun r => r.map (·.2)).length = (allK rs).length := by simp only [allK, List.length_flatMap, keysR, List.length_map]
    omega
  refine it_by (natsD ts) (fun i acc h5 => Gr hd h5 ∧ acc = (ts.take i).map fun _ => D.bl true) ⟨.refl, rfl⟩ (fun i acc h5 _ p => by
    unfold MP.itLst items; rw [p.1.lst etar2]; rfl) (fun i x acc h5 e p => ?_) (fun acc h5 p => ?_)
  · obtain ⟨g, rfl⟩ := p
    unfold natsD at e
    rw [List.getElem?_map] at e
    obtain ⟨a, ea, rfl⟩ := Option.map_eq_some_iff.mp e
    have ha := hts2 a (List.mem_of_getElem? ea)
    refine ⟨_, rfl, _, rfl, _, refs.length, rfl, rfl, .int a, refs.length, rfl, trivial, fun h6 g6 => ⟨by simp; omega, g.trans g6, ?_⟩⟩
    have : indexD (refs.length : Int) (.int (a : Int)) = true := by simp [indexD]; omega
    rw [List.take_add_one, ea, this]; simp
  obtain ⟨gf, rfl⟩ := p
  refine ⟨_, ts.map fun _ => true, rfl, by simp [items, natsD], ?_⟩
  rw [show ((ts.map fun _ => true).all fun b => b) = true by simp]
  exact z _ ((gk2.trans (gt2.trans (gn2.trans gf))).trans (.app _))
end K02S

set_option Elab.async false
set_option linter.all false
set_option maxRecDepth 100000
set_option maxHeartbeats 2000000
/-! K02Z: the makings of Rows and Part, a part's look-ups. -/
namespace K02S
open PySem PySem.Spec
open PyProof.Rows hiding St
open L2
open MP (D Cell Hd Sd WE WT WA WS WG WI EndsD ItD SpD endR startD itSeq items tyD truD getD putD keyOk wipeD lenD sortS ltS leS dctOf itKeys itVals putFD hasF)
open MV K02V
theorem putFD_len (f : Str) (d : D) : ∀ fs : List (Str × D), (putFD f d fs).length ≤ fs.length + 1
  | [] => Nat.le_refl _
  | (g, x) :: r => by
    unfold MP.putFD
    split
    · simp
    · have := putFD_len f d r
      simp only [List.length_cons]; omega
theorem putFD_1 {f : Str} {d : D} : (putFD f d []).length < 1000 := Nat.lt_of_le_of_lt (putFD_len _ _ _) (by show 0 + 1 < 1000; decide)
theorem putFD_2 {f f2 : Str} {d d2 : D} : (putFD f d (putFD f2 d2 [])).length < 1000 := by
  have h1 := putFD_len f d (putFD f2 d2 [])
  have h2 := putFD_len f2 d2 []
  have h3 : ([] : List (Str × D)).length = 0 := rfl
  omega
theorem app_at {h : Hd} {c : Cell} : (h ++ [c])[h.length]? = some c := by rw [List.getElem?_append_right (Nat.le_refl _)]; simp
abbrev rowsF (refs : List D) (ns : List Nat) : List (Str × D) := [("own_steps", .tup refs), ("own_rests", .tup (natsD ns))]
abbrev partF (refs : List D) (ns : List Nat) (acts : D) : List (Str × D) := [("own_steps", .tup refs), ("own_rests", .tup (natsD ns)), ("own_actions", acts)]
/-- h: the heap ahead of the new instance -/
def s_Rows : SpD := fun ds h q => ∃ h0 refs rs ns, ds = [.ref h0.length, .tup refs, .tup (natsD ns)] ∧ h = h0 ++ [.ins "Rows" []] ∧ IsRows h0 refs rs ∧ (∀ r ∈ rs, RowOk r) ∧ rs.length ≤ 8 ∧ ns.Pairwise (· < ·) ∧ ns.length ≤ 8 ∧
  ∀ h' refs', Gr h0 h' → h'[h0.length]? = some (.ins "Rows" (rowsF refs' ns)) → IsRows h' refs' (rs.map srt) → q .non h'
theorem ints_uniq {ns : List Nat} {out : List Int} (pw : ns.Pairwise (· < ·)) (h1 : out.Pairwise (· < ·)) (h2 : ∀ k, k ∈ out ↔ k ∈ ns.map fun (n : Nat) => (n : Int)) : out = ns.map fun (n : Nat) => (n : Int) := by
  have pw2 : (ns.map fun (n : Nat) => (n : Int)).Pairwise (· < ·) := List.pairwise_map.mpr (pw.imp fun h => by omega)
  have nd1 : out.Nodup := h1.imp fun h => by omega
  have nd2 : (ns.map fun (n : Nat) => (n : Int)).Nodup := pw2.imp fun h => by omega
  have perm : out.Perm (ns.map fun (n : Nat) => (n : Int)) := (List.perm_ext_iff_of_nodup nd1 nd2).mpr h2
  exact perm.eq_of_pairwise (fun a b _ _ h1 h2 => by omega) h1 pw2
theorem p_Rows_init {ds : List D} {h : Hd} {q : D → Hd → Prop} (z : s_Rows ds h q) : v_Rows_init s_sorted_rows (endR q) (startD K02.N_Rows_init ds) h := by
  obtain ⟨h0, refs, rs, ns, rfl, rfl, hr, ok, h8, pw, n8, z⟩ := z
  have ha : Gr h0 (h0 ++ [Cell.ins "Rows" []]) := .app _
  refine ⟨_, rfl, refs, rs, rfl, hr.gr ha, ok, h8, fun h1 refs' g1 hr1 _ => ?_⟩
  have e1 : h1[h0.length]? = some (.ins "Rows" []) := g1.ins app_at
  refine ⟨_, rfl, _, _, _, rfl, e1, by decide +kernel, by decide, ?_⟩
  dsimp only
  have g2 : Gr h0 (h1.set h0.length (.ins "Rows" (putFD "own_steps" (.tup refs') []))) := (ha.trans g1).set _ (Nat.le_refl _)
  have e2 : (h1.set h0.length (.ins "Rows" (putFD "own_steps" (.tup refs') [])))[h0.length]? = some (.ins "Rows" (putFD "own_steps" (.tup refs') [])) := set_at e1
  have hr2 : IsRows (h1.set h0.length (.ins "Rows" (putFD "own_steps" (.tup refs') []))) refs' (rs.map srt) := ⟨hr1.1, fun i d r a b => by
    obtain ⟨n, lk0, rfl, en⟩ := hr1.2 i d r a b
    refine ⟨n, lk0, rfl, ?_⟩
    rw [List.getElem?_set_ne (fun e => by rw [← e, e1] at en; cases en)]
    exact en⟩
  generalize h1.set h0.length (.ins "Rows" (putFD "own_steps" (.tup refs') [])) = h2 at g2 e2 hr2
  refine ⟨_, rfl, ns.map (fun (n : Nat) => (n : Int)), by unfold natsD; rw [List.map_map]; rfl, by rw [List.length_map]; omega, fun out o1 o2 => ?_⟩
  have eo := ints_uniq pw o1 o2
  subst eo
  refine ⟨natsD ns, by rw [items_last]; unfold natsD; rw [List.map_map]; rfl, ?_⟩
  refine ⟨_, rfl, _, _, _, rfl, by rw [List.getElem?_append_left (List.getElem?_eq_some_iff.mp e2).1]; exact e2, by decide +kernel, putFD_1, ?_⟩
  dsimp only
  have e3 : (h2 ++ [Cell.lst ((ns.map fun (n : Nat) => (n : Int)).map D.int)])[h0.length]? = some (.ins "Rows" (putFD "own_steps" (.tup refs') [])) := by rw [List.getElem?_append_left (List.getElem?_eq_some_iff.mp e2).1]; exact e2
  have g3 : Gr h2 (h2 ++ [Cell.lst ((ns.map fun (n : Nat) => (n : Int)).map D.int)]) := .app _
  have hr3 := hr2.gr g3
  generalize h2 ++ [Cell.lst ((ns.map fun (n : Nat) => (n : Int)).map D.int)] = h3 at e3 g3 hr3
  refine z _ refs' ((g2.trans g3).set _ (Nat.le_refl _)) (set_at e3) ⟨hr3.1, fun i d r a b => ?_⟩
  obtain ⟨n, lk0, rfl, en⟩ := hr3.2 i d r a b
  refine ⟨n, lk0, rfl, ?_⟩
  rw [List.getElem?_set_ne (fun e => by rw [← e, e3] at en; cases en)]
  exact en
/-- the names that the rows use: at most four -/
def s_checked_rows : SpD := fun ds h q => ∃ refs rs ns, ds = [.tup refs, .tup (natsD ns)] ∧ IsRows h refs rs ∧ RowsOk rs ∧ (∃ names : List Str, names.length ≤ 4 ∧ ∀ x ∈ allK rs, x ∈ names) ∧ ns.Pairwise (· < ·) ∧ (∀ x ∈ ns, x < rs.length) ∧
  ∀ h' n refs', Gr h h' → h'[n]? = some (.ins "Rows" (rowsF refs' ns)) → IsRows h' refs' (rs.map srt) → q (.ref n) h'
theorem p_checked_rows {ds : List D} {h : Hd} {q : D → Hd → Prop} (z : s_checked_rows ds h q) : v_checked_rows s_actions_in s_are_rows s_is_rests s_Rows (endR q) (startD K02.N_checked_rows ds) h := by
  obtain ⟨refs, rs, ns, rfl, hr, ok, ⟨names, n4, sub⟩, pw, hn, z⟩ := z
  have n8 := len_lt pw hn
  have h8 := ok.le
  refine ⟨_, rfl, refs, rs, rfl, hr, ok, fun h1 g1 => ⟨true, rfl, ?_⟩⟩
  refine iff_ rfl ?_
  refine ⟨_, rfl, refs, rs, rfl, hr.gr g1, ok.ok, ok.le, fun h2 xs g2 nd hxs _ => ?_⟩
  have hx : xs.length ≤ 4 := Nat.le_trans (nodup_le nd fun x hx => sub x (hxs x hx)) n4
  refine ⟨_, xs.length, rfl, by simp [lenD], ?_⟩
  refine ⟨_, rfl, ?_⟩
  refine iff_ (by simp; omega) ?_
  refine ⟨_, rfl, _, rfl, _, refs.length, rfl, rfl, ns, rs.length, by rw [hr.1], pw, hn, ok.le, fun h3 g3 => ⟨true, rfl, ?_⟩⟩
  refine iff_ rfl ?_
  have g13 := (g1.trans g2).trans g3
  refine ⟨_, rfl, _, rfl, h3, refs, rs, ns, rfl, rfl, hr.gr g13, ok.ok, ok.le, pw, by omega, fun h4 refs' g4 e4 hr4 => ⟨rfl, z h4 _ refs' (g13.trans g4) e4 hr4⟩⟩
def s_Part : SpD := fun ds h q => ∃ h0 refs rs ns, ds = [.ref h0.length, .tup refs, .tup (natsD ns)] ∧ h = h0 ++ [.ins "Part" []] ∧ IsRows h0 refs rs ∧ RowsOk rs ∧ (∃ names : List Str, names.length ≤ 4 ∧ ∀ x ∈ allK rs, x ∈ names) ∧ ns.Pairwise (· < ·) ∧ (∀ x ∈ ns, x < rs.length) ∧
  ∀ h' refs' acts, Gr h0 h' → h'[h0.length]? = some (.ins "Part" (partF refs' ns acts)) → IsRows h' refs' (rs.map srt) → acts = .tup ((actS rs).map .str) → q .non h'
theorem rows_set {h : Hd} {refs : List D} {rs : List Row} {n : Nat} {c : Str} {fs fs' : List (Str × D)} (k : IsRows h refs rs) (e : h[n]? = some (.ins c fs)) : IsRows (h.set n (.ins c fs')) refs rs := ⟨k.1, fun i d r a b => by
  obtain ⟨m, lk0, rfl, en⟩ := k.2 i d r a b
  refine ⟨m, lk0, rfl, ?_⟩
  rw [List.getElem?_set_ne (fun z => by rw [← z, e] at en; cases en)]
  exact en⟩
theorem allK_srt {rs : List Row} {x : Str} (h : x ∈ allK (rs.map srt)) : x ∈ allK rs := by
  obtain ⟨r, hr, hx⟩ := List.mem_flatMap.mp h
  obtain ⟨r0, h0, rfl⟩ := List.mem_map.mp hr
  rw [keys_srt] at hx
  exact List.mem_flatMap.mpr ⟨r0, h0, MP.mem_sortS.mp hx⟩
theorem actS_srt (rs : List Row) : actS (rs.map srt) = actS rs := by
  unfold actS
  refine sortS_perm_eq ((List.perm_ext_iff_of_nodup (nd_ed _) (nd_ed _)).mpr fun x => ?_)
  rw [mem_ed, mem_ed]
  refine ⟨allK_srt, fun h => ?_⟩
  obtain ⟨r, hr, hx⟩ := List.mem_flatMap.mp h
  exact List.mem_flatMap.mpr ⟨srt r, List.mem_map.mpr ⟨r, hr, rfl⟩, by rw [keys_srt]; exact MP.mem_sortS.mpr hx⟩
theorem p_Part_init {ds : List D} {h : Hd} {q : D → Hd → Prop} (z : s_Part ds h q) : v_Part_init s_checked_rows s_actions_in (endR q) (startD K02.N_Part_init ds) h := by
  obtain ⟨h0, refs, rs, ns, rfl, rfl, hr, ok, hnm, pw, hn, z⟩ := z
  have ha : Gr h0 (h0 ++ [Cell.ins "Part" []]) := .app _
  refine ⟨_, rfl, .inl "tuple", false, rfl, rfl, false, rfl, ?_⟩
  refine iff_ rfl ?_
  refine ⟨_, rfl, _, rfl, refs, rs, ns, rfl, hr.gr ha, ok, hnm, pw, hn, fun h1 n refs' g1 e1 hr1 => ?_⟩
  have s1 : h1[h0.length]? = some (.ins "Part" []) := g1.ins app_at
  have ne : n ≠ h0.length := fun e => by rw [e, s1] at e1; cases e1
  refine ⟨_, rfl, n, "Rows", _, .tup refs', rfl, e1, by decide +kernel, rfl, ?_⟩
  refine ⟨_, rfl, _, _, _, rfl, s1, by decide +kernel, by decide, ?_⟩
  dsimp only
  have g2 : Gr h0 (h1.set h0.length (.ins "Part" (putFD "own_steps" (.tup refs') []))) := (ha.trans g1).set _ (Nat.le_refl _)
  have s2 : (h1.set h0.length (.ins "Part" (putFD "own_steps" (.tup refs') [])))[h0.length]? = some (.ins "Part" (putFD "own_steps" (.tup refs') [])) := set_at s1
  have e2 : (h1.set h0.length (.ins "Part" (putFD "own_steps" (.tup refs') [])))[n]? = some (.ins "Rows" (rowsF refs' ns)) := by rw [List.getElem?_set_ne (Ne.symm ne)]; exact e1
  have hr2 := rows_set (fs' := putFD "own_steps" (.tup refs') []) hr1 s1
  generalize h1.set h0.length (.ins "Part" (putFD "own_steps" (.tup refs') [])) = h2 at g2 s2 e2 hr2
  refine ⟨_, rfl, n, "Rows", _, .tup (natsD ns), rfl, e2, by decide +kernel, rfl, ?_⟩
  refine ⟨_, rfl, _, _, _, rfl, s2, by decide +kernel, putFD_1, ?_⟩
  dsimp only
  have g3 := g2.set (.ins "Part" (putFD "own_rests" (.tup (natsD ns)) (putFD "own_steps" (.tup refs') []))) (Nat.le_refl h0.length)
  have s3 := set_at (c' := .ins "Part" (putFD "own_rests" (.tup (natsD ns)) (putFD "own_steps" (.tup refs') []))) s2
  have e3 : (h2.set h0.length (.ins "Part" (putFD "own_rests" (.tup (natsD ns)) (putFD "own_steps" (.tup refs') []))))[n]? = some (.ins "Rows" (rowsF refs' ns)) := by rw [List.getElem?_set_ne (Ne.symm ne)]; exact e2
  have hr3 := rows_set (fs' := putFD "own_rests" (.tup (natsD ns)) (putFD "own_steps" (.tup refs') [])) hr2 s2
  generalize h2.set h0.length (.ins "Part" (putFD "own_rests" (.tup (natsD ns)) (putFD "own_steps" (.tup refs') []))) = h3 at g3 s3 e3 hr3
  refine ⟨_, rfl, n, "Rows", _, .tup refs', rfl, e3, by decide +kernel, rfl, ?_⟩
  refine ⟨refs', rs.map srt, rfl, hr3, fun r hr' => by obtain ⟨r0, h0', rfl⟩ := List.mem_map.mp hr'; exact (ok.ok r0 h0').srt, by rw [List.length_map]; exact ok.le, fun h4 xs g4 nd hxs exs => ?_⟩
  have s4 := g4.ins s3
  refine ⟨_, rfl, _, _, _, rfl, s4, by decide +kernel, putFD_2, ?_⟩
  dsimp only
  exact z _ refs' _ ((g3.trans g4).set _ (Nat.le_refl _)) (set_at s4) (rows_set (hr3.gr g4) s4) (by rw [exs, actS_srt])
end K02S

set_option Elab.async false
set_option linter.all false
set_option maxRecDepth 100000
set_option maxHeartbeats 2000000
/-! K02P: a part's look-ups. -/
namespace K02S
open PySem PySem.Spec
open PyProof.Rows hiding St
open L2
open MP (D Cell Hd Sd WE WT WA WS WG WI EndsD ItD SpD endR startD itSeq items tyD truD getD putD keyOk wipeD lenD sortS ltS leS dctOf itKeys itVals putFD hasF)
open MV K02V
abbrev Pl := List (Row × Bool)
def rowsOf (pl : Pl) : List Row := pl.map (·.1)
def restS (pl : Pl) (s : Nat) : Bool := ((pl[s]?).map (·.2)).getD false
def idx (pl : Pl) : List Nat := (List.range pl.length).filter (restS pl)
def step (pl : Pl) (s : Nat) (a : Str) : Option Nat := (pl[s]?).bind fun p => lk p.1 a
def offK (pl : Pl) (s : Nat) : List Str := ((pl[s]?).map fun p => sortS (keysR p.1)).getD []
def offD (pl : Pl) (s : Nat) : D := .tup [.tup ((offK pl s).map .str), .bl (restS pl s)]
def IsPart (h : Hd) (d : D) (pl : Pl) : Prop := ∃ n refs acts, d = .ref n ∧ h[n]? = some (.ins "Part" (partF refs (idx pl) acts)) ∧ IsRows h refs ((rowsOf pl).map srt)
theorem IsPart.gr {h h' : Hd} {d : D} {pl : Pl} (k : IsPart h d pl) (g : Gr h h') : IsPart h' d pl := by
  obtain ⟨n, refs, acts, rfl, e, r⟩ := k
  exact ⟨n, refs, acts, rfl, g.ins e, r.gr g⟩
def actD (pl : Pl) : D := .tup ((actS (rowsOf pl)).map .str)
/-- the same, with the part's names told -/
def IsPartA (h : Hd) (d : D) (pl : Pl) : Prop := ∃ n refs, d = .ref n ∧ h[n]? = some (.ins "Part" (partF refs (idx pl) (actD pl))) ∧ IsRows h refs ((rowsOf pl).map srt)
theorem IsPartA.gr {h h' : Hd} {d : D} {pl : Pl} (k : IsPartA h d pl) (g : Gr h h') : IsPartA h' d pl := by
  obtain ⟨n, refs, rfl, e, r⟩ := k
  exact ⟨n, refs, rfl, g.ins e, r.gr g⟩
theorem IsPartA.p {h : Hd} {d : D} {pl : Pl} (k : IsPartA h d pl) : IsPart h d pl := by
  obtain ⟨n, refs, rfl, e, r⟩ := k
  exact ⟨n, refs, _, rfl, e, r⟩
theorem IsPart.row {h : Hd} {n : Nat} {refs : List D} {acts : D} {pl : Pl} (r : IsRows h refs ((rowsOf pl).map srt)) {s : Nat} (hs : s < pl.length) : ∃ d p, refs[s]? = some d ∧ pl[s]? = some p ∧ IsRow h d (srt p.1) := by
  have e : pl[s]? = some pl[s] := List.getElem?_eq_getElem hs
  obtain ⟨d, e1, e2⟩ := r.at' (i := s) (r := srt pl[s].1) (by simp [rowsOf, e])
  exact ⟨d, _, e1, e, e2⟩
def optD : Option Nat → D
  | none => .non
  | some n => .int n
theorem hasPart : hasF ["Part", "Rows"] "Part" = true := by decide +kernel
theorem atI_natI {α : Type} {xs : List α} {j : Nat} {v : α} (h : xs[j]? = some v) : L2.atI xs (j : Int) = some v := L2.atI_nat h
def s_next_state : SpD := fun ds h q => ∃ dp pl so a, ds = [dp, optD so, .str a] ∧ IsPart h dp pl ∧ (∀ s, so = some s → s < pl.length) ∧ q (optD (so.bind fun s => step pl s a)) h
theorem p_next_state {ds : List D} {h : Hd} {q : D → Hd → Prop} (z : s_next_state ds h q) : v_next_state (endR q) (startD K02.N_next_state ds) h := by
  obtain ⟨dp, pl, so, a, rfl, ⟨n, refs, acts, rfl, e, hr⟩, hs, z⟩ := z
  cases so with
  | none =>
    refine ⟨_, rfl, true, rfl, ?_⟩
    exact ift rfl z
  | some s =>
    refine ⟨_, rfl, false, rfl, ?_⟩
    refine iff_ rfl ?_
    obtain ⟨d, p, e1, e2, m, lk0, rfl, e3⟩ := IsPart.row (n := n) (acts := acts) hr (hs s rfl)
    refine ⟨_, rfl, n, "Part", _, .tup refs, rfl, e, hasPart, rfl, _, rfl, ?_⟩
    dsimp only
    refine oIx_tup (atI_natI e1) ⟨⟨m, false, lk0, _, rfl, e3⟩, _, rfl, ?_⟩
    refine ⟨m, _, rfl, ⟨false, lk0, e3, rfl⟩, ?_⟩
    rw [getD_rowK, lk_srt]
    have : (Option.map (fun (n : Nat) => D.int n) (lk p.1 a)).getD .non = optD ((some s).bind fun s => step pl s a) := by
      simp only [Option.bind_some, step, e2]
      cases lk p.1 a <;> rfl
    rw [this]
    exact z
/-- where a word leads -/
def after (pl : Pl) (w : List Str) : Option Nat := w.foldl (fun so a => so.bind fun s => step pl s a) (some 0)
def Closed (pl : Pl) : Prop := 0 < pl.length ∧ ∀ s a t, step pl s a = some t → t < pl.length
def s_state_after : SpD := fun ds h q => ∃ dp pl w, ds = [dp, .tup (w.map .str)] ∧ IsPart h dp pl ∧ Closed pl ∧ q (optD (after pl w)) h
theorem p_state_after {ds : List D} {h : Hd} {q : D → Hd → Prop} (z : s_state_after ds h q) : v_state_after s_next_state (endR q) (startD K02.N_state_after ds) h := by
  obtain ⟨dp, pl, w, rfl, hp, cl, z⟩ := z
  refine ⟨_, rfl, _, rfl, ?_⟩
  dsimp only
  refine it_by (w.map .str) (fun i sl h' => h' = h ∧ sl.length = 4 ∧ sl[0]? = some (some dp) ∧ sl[2]? = some (some (optD (after pl (w.take i))))) ⟨rfl, rfl, rfl, rfl⟩ (fun i sl h' _ _ => rfl) (fun i x sl h' e p => ?_) (fun sl h' p => ?_)
  · obtain ⟨rfl, l4, p0, p2⟩ := p
    rw [List.getElem?_map] at e
    obtain ⟨a, ea, rfl⟩ := Option.map_eq_some_iff.mp e
    have bound : ∀ i s, after pl (w.take i) = some s → s < pl.length := by
      intro i
      induction i with
      | zero => intro s hs; simp [after] at hs; rw [← hs]; exact cl.1
      | succ i ih =>
        intro s hs
        rw [List.take_add_one] at hs
        cases ea' : w[i]? with
        | none => rw [ea'] at hs; simp at hs; exact ih s hs
        | some b =>
          rw [ea'] at hs
          simp only [after, Option.toList_some, List.foldl_append, List.foldl_cons, List.foldl_nil] at hs
          obtain ⟨s0, h0, h1⟩ := Option.bind_eq_some_iff.mp hs
          exact cl.2 _ _ _ h1
    refine ⟨_, by rw [List.getElem?_set_ne (by decide)]; exact p0, _, by rw [List.getElem?_set_ne (by decide)]; exact p2, _, List.getElem?_set_self (by omega), ?_⟩
    refine ⟨dp, pl, after pl (w.take i), a, rfl, hp, bound i, ?_⟩
    refine ⟨rfl, by simp [l4], by rw [List.getElem?_set_ne (by decide), List.getElem?_set_ne (by decide)]; exact p0, ?_⟩
    rw [List.getElem?_set_self (by simp [l4])]
    rw [List.take_add_one, ea]
    simp only [after, Option.toList_some, List.foldl_append, List.foldl_cons, List.foldl_nil]
  · obtain ⟨rfl, l4, p0, p2⟩ := p
    rw [List.length_map, List.take_length] at p2
    exact ⟨_, p2, z⟩
def s_Part_after : SpD := fun ds h q => ∃ dp pl w, ds = [dp, .tup (w.map .str)] ∧ IsPart h dp pl ∧ Closed pl ∧ (∀ x ∈ w, nameS x = true) ∧ w.length < sizeLine ∧ ∀ h', Gr h h' → q (optD (after pl w)) h'
theorem word_ok {h : Hd} {w : List Str} (hw : ∀ x ∈ w, nameS x = true) (hl : w.length < sizeLine) : okW h (.tup (w.map .str)) ∧ wordD (.tup (w.map .str)) = true := by
  refine ⟨⟨by simpa using hl, fun x hx => ?_⟩, ?_⟩
  · obtain ⟨a, ha, rfl⟩ := List.mem_map.mp hx
    exact nameS_len (hw a ha)
  · simp only [wordD, List.all_map, List.all_eq_true, Function.comp_def, nameD]
    exact hw
theorem p_Part_after {ds : List D} {h : Hd} {q : D → Hd → Prop} (z : s_Part_after ds h q) : v_Part_after s_require_word s_state_after (endR q) (startD K02.N_Part_after ds) h := by
  obtain ⟨dp, pl, w, rfl, hp, cl, hw, hl, z⟩ := z
  obtain ⟨w1, w2⟩ := word_ok (h := h) hw hl
  refine ⟨_, rfl, _, rfl, w1, w2, fun h1 g1 => ?_⟩
  exact ⟨_, rfl, _, rfl, dp, pl, w, rfl, hp.gr g1, cl, z _ g1⟩
def s_offer_at : SpD := fun ds h q => ∃ dp pl s, ds = [dp, .int (s : Nat)] ∧ IsPart h dp pl ∧ s < pl.length ∧ pl.length ≤ 8 ∧ (∀ p ∈ pl, p.1.length ≤ 7) ∧ ∀ h', Gr h h' → q (offD pl s) h'
theorem idx_in {pl : Pl} {s : Nat} (hs : s < pl.length) : ((natsD (idx pl)).any fun z => MP.eqF z (.int (s : Nat))) = restS pl s := by
  have : ((natsD (idx pl)).any fun z => MP.eqF z (.int (s : Nat))) = decide (s ∈ idx pl) := by
    unfold natsD
    rw [List.any_map]
    rw [Bool.eq_iff_iff, List.any_eq_true, decide_eq_true_eq]
    constructor
    · rintro ⟨x, hx, e⟩
      have : x = s := by
        have e : ((x : Int) == (s : Int)) = true := e
        have := eq_of_beq e
        omega
      rw [← this]; exact hx
    · intro hx
      exact ⟨s, hx, by simp [MP.eqF]⟩
  rw [this]
  unfold idx
  simp only [List.mem_filter, List.mem_range]
  cases restS pl s <;> simp [hs]
theorem p_offer_at {ds : List D} {h : Hd} {q : D → Hd → Prop} (z : s_offer_at ds h q) : v_offer_at (endR q) (startD K02.N_offer_at ds) h := by
  obtain ⟨dp, pl, s, rfl, ⟨n, refs, acts, rfl, e, hr⟩, hs, h8, h7, z⟩ := z
  obtain ⟨d, p, e1, e2, m, lk0, rfl, e3⟩ := IsPart.row (n := n) (acts := acts) hr hs
  refine ⟨_, rfl, n, "Part", _, .tup refs, rfl, e, hasPart, rfl, _, rfl, ?_⟩
  dsimp only
  refine oIx_tup (atI_natI e1) ?_
  dsimp only [MV.wNil]
  refine cList_dct e3 ?_
  refine ⟨_, items_last, ?_⟩
  have g1 : Gr h (h ++ [Cell.lst ((rowK (srt p.1)).map (·.1))]) := .app _
  refine ⟨_, rfl, _, rfl, n, "Part", _, .tup (natsD (idx pl)), rfl, g1.ins e, hasPart, rfl, restS pl s, ?_, ?_⟩
  · show MP.inList (.int (s : Nat)) (natsD (idx pl)) = some (restS pl s)
    unfold MP.inList
    rw [if_pos (by simp [MP.D.flat, natsD]), idx_in hs]
  refine ⟨by show 2 ≤ sizeLine; decide, ?_⟩
  have : D.tup [.tup ((rowK (srt p.1)).map (·.1)), .bl (restS pl s)] = offD pl s := by
    unfold offD offK
    rw [e2, rowK_keys, keys_srt]; rfl
  show q (D.tup [.tup ((rowK (srt p.1)).map (·.1)), .bl (restS pl s)]) _
  rw [this]
  exact z _ g1
end K02S

set_option Elab.async false
set_option linter.all false
set_option maxRecDepth 100000
set_option maxHeartbeats 2000000
/-! K02Q: the walk through two parts at once: both_walked. -/
namespace K02S
open PySem PySem.Spec
open PyProof.Rows hiding St
open L2
open MP (D Cell Hd Sd WE WT WA WS WG WI EndsD ItD SpD endR startD itSeq items tyD truD getD putD keyOk wipeD lenD sortS ltS leS dctOf itKeys itVals putFD hasF)
open MV K02V
structure PlOk (pl : Pl) : Prop where
  cl : Closed pl
  le : pl.length ≤ 8
  sm : ∀ p ∈ pl, RowOk p.1
  nm : ∀ p ∈ pl, ∀ a ∈ keysR p.1, nameS a = true
theorem offK_len {pl : Pl} (k : PlOk pl) (s : Nat) : (offK pl s).length ≤ 7 := by
  unfold offK
  cases e : pl[s]? with
  | none => simp
  | some p =>
    simp only [Option.map_some, Option.getD_some, MP.sortS_length, keysR, List.length_map]
    exact (k.sm p (List.mem_of_getElem? e)).sm
theorem IsPart.get {h : Hd} {n : Nat} {refs : List D} {acts : D} {pl : Pl} (r : IsRows h refs ((rowsOf pl).map srt)) {s : Nat} (hs : s < pl.length) : ∃ m lk0 p, refs[s]? = some (.ref m) ∧ pl[s]? = some p ∧ h[m]? = some (.dct false lk0 (rowK (srt p.1))) := by
  obtain ⟨d, p, e1, e2, m, lk0, rfl, e3⟩ := IsPart.row (n := n) (acts := acts) r hs
  exact ⟨m, lk0, p, e1, e2, e3⟩
theorem getD_step {pl : Pl} {s : Nat} {p : Row × Bool} (e : pl[s]? = some p) (a : Str) : getD (rowK (srt p.1)) (.str a) = (step pl s a).map fun (n : Nat) => D.int (n : Int) := by
  rw [getD_rowK, lk_srt]; unfold step; rw [e]; rfl
theorem step_off {pl : Pl} {s : Nat} {a : Str} (h : a ∈ offK pl s) : ∃ t, step pl s a = some t := by
  unfold offK at h
  unfold step
  cases e : pl[s]? with
  | none => rw [e] at h; simp at h
  | some p =>
    rw [e] at h
    exact lk_mem (MP.mem_sortS.mp h)

/-! ### both_walked -/
theorem oSet_dct {h : Hd} {n : Nat} {t : Bool} {kvs : List (D × D)} {i v : D} {Q : Hd → Prop} (e : h[n]? = some (.dct t false kvs)) (hk : keyOk t i = true) (hl : kvs.length < sizeLine) (z : Q (h.set n (.dct t false (putD kvs i v)))) : MV.oSet (.ref n) i v h Q := by
  show (match h[n]? with
    | some (.lst xs) => ∃ k j, i = .int k ∧ ixN xs.length k = some j ∧ Q (h.set n (.lst (xs.set j v)))
    | some (.dct t false kvs) => keyOk t i = true ∧ kvs.length < sizeLine ∧ Q (h.set n (.dct t false (putD kvs i v)))
    | _ => False)
  rw [e]; exact ⟨hk, hl, z⟩
theorem size_small {n : Nat} (h : n ≤ 1000) : n < sizeLine := by have : sizeLine = 16777216 := sizeLine_eq; omega
end K02S

set_option Elab.async false
set_option linter.all false
set_option maxRecDepth 100000
set_option maxHeartbeats 2000000
/-! K02R: are_unlike, difference, are_alike, is_difference. -/
namespace K02S
open PySem PySem.Spec
open PyProof.Rows hiding St
open L2
open MP (D Cell Hd Sd WE WT WA WS WG WI EndsD ItD SpD endR startD itSeq items tyD truD getD putD keyOk wipeD lenD sortS ltS leS dctOf itKeys itVals itItems putFD hasF PyR PyRs)
open MV K02V
def strsP (xs : List Str) : List PyData := xs.map .str
theorem pyRs_str (h : Hd) : ∀ xs : List Str, PyRs h (xs.map D.str) (strsP xs)
  | [] => .nil
  | x :: xs => .cons (.str x) (pyRs_str h xs)
theorem eqv_strs : ∀ xs ys : List Str, PyData.eqvAll (strsP xs) (strsP ys) = decide (xs = ys)
  | [], [] => rfl
  | [], y :: ys => by simp [strsP, PyData.eqvAll]
  | x :: xs, [] => by simp [strsP, PyData.eqvAll]
  | x :: xs, y :: ys => by
    have ih := eqv_strs xs ys
    unfold strsP at *
    rw [List.map_cons, List.map_cons, PyData.eqvAll, PyData.eqv, ih]
    by_cases e : x = y
    · subst e; simp
    · simp [e]
theorem nameS_ok {x : Str} (h : nameS x = true) : PyData.strOk x = true := by
  unfold nameS at h
  simp only [Bool.and_eq_true, List.all_eq_true] at h
  unfold PyData.strOk
  rw [← Array.all_toList, List.all_eq_true]
  intro c hc
  have := h.2 c hc
  unfold isL at this
  simp only [Bool.and_eq_true, decide_eq_true_eq] at this
  simp only [decide_eq_true_eq]; omega
theorem can_strs : ∀ {xs : List Str}, (∀ x ∈ xs, nameS x = true) → PyData.canLayAll0 (strsP xs) = true ∧ PyData.depthAll (strsP xs) = 0
  | [], _ => ⟨rfl, rfl⟩
  | x :: xs, h => by
    obtain ⟨h1, h2⟩ := can_strs (xs := xs) fun y hy => h y (List.mem_cons_of_mem _ hy)
    have h0 := nameS_ok (h x List.mem_cons_self)
    unfold strsP at *
    rw [List.map_cons]
    exact ⟨by rw [PyData.canLayAll0, PyData.canLay0, h0, h1]; rfl, by rw [PyData.depthAll, PyData.depth, h2]; rfl⟩
def offP (pl : Pl) (s : Nat) : PyData := .tuple [.tuple (strsP (offK pl s)), .bool (restS pl s)]
theorem offK_name {pl : Pl} (k : PlOk pl) {s : Nat} : ∀ x ∈ offK pl s, nameS x = true := by
  intro x hx
  unfold offK at hx
  cases e : pl[s]? with
  | none => rw [e] at hx; simp at hx
  | some p =>
    rw [e] at hx
    exact k.nm p (List.mem_of_getElem? e) x (MP.mem_sortS.mp hx)
theorem off_shaped {pl : Pl} (k : PlOk pl) (s : Nat) : SeqAt.shaped (offP pl s) = true := by
  obtain ⟨h1, h2⟩ := can_strs (offK_name k (s := s))
  unfold SeqAt.shaped offP
  simp only [PyData.canLay0, PyData.canLayAll0, h1, PyData.depth, PyData.depthAll, h2]
  decide
theorem off_pyR (h : Hd) (pl : Pl) (s : Nat) : PyR h (offD pl s) (offP pl s) := .tup (.cons (.tup (pyRs_str h _)) (.cons (.bl _) .nil))
theorem after_lt {pl : Pl} (cl : Closed pl) {w : List Str} {s : Nat} (h : after pl w = some s) : s < pl.length := by
  have : ∀ (w : List Str) (so : Option Nat), (∀ s, so = some s → s < pl.length) → ∀ s, w.foldl (fun so a => so.bind fun s => step pl s a) so = some s → s < pl.length := by
    intro w
    induction w with
    | nil => intro so h s e; exact h s e
    | cons a w ih =>
      intro so h s e
      refine ih _ (fun t ht => ?_) s e
      obtain ⟨s0, _, h1⟩ := Option.bind_eq_some_iff.mp ht
      exact cl.2 _ _ _ h1
  exact this w (some 0) (fun s e => by cases e; exact cl.1) s h
end K02S

set_option Elab.async false
set_option linter.all false
set_option maxRecDepth 100000
set_option maxHeartbeats 2000000
/-! K02D: the law's dice. -/
namespace K02S
open PySem PySem.Spec
open PyProof.Rows hiding St
open L2
open MP (D Cell Hd Sd WE WT WA WS WG WI EndsD ItD SpD endR startD itSeq items tyD truD getD putD keyOk wipeD lenD sortS ltS leS dctOf itKeys itVals)
open MV K02V
def Dice (c : Nat) (h : Hd) (n : Nat) : Prop := ∃ a b e : Int, h[n]? = some (.lst [.int a, .int b, .int e]) ∧ 0 ≤ a ∧ 0 ≤ b ∧ b < 2147483399 ∧ 0 ≤ e ∧ e ≤ (c : Int)
theorem Dice.mono {c c' : Nat} {h : Hd} {n : Nat} (k : Dice c h n) (hc : c ≤ c') : Dice c' h n := by
  obtain ⟨a, b, e, h1, h2, h3, h4, h5, h6⟩ := k
  exact ⟨a, b, e, h1, h2, h3, h4, h5, by omega⟩
theorem Dice.gr {c : Nat} {h h' : Hd} {n : Nat} (k : Dice c h n) (g : Gr h h') : Dice c h' n := by
  obtain ⟨a, b, e, h1, r⟩ := k
  exact ⟨a, b, e, g.lst h1, r⟩
def Gx (m : Nat) (h h' : Hd) : Prop := h.length ≤ h'.length ∧ ∀ (n : Nat) (c : Cell), n ≠ m → h[n]? = some c → ∃ c', h'[n]? = some c' ∧ lkEq c c'
theorem Gx.refl {m : Nat} {h : Hd} : Gx m h h := ⟨Nat.le_refl _, fun n c _ e => ⟨c, e, .inl rfl⟩⟩
theorem Gr.x {m : Nat} {h h' : Hd} (g : Gr h h') : Gx m h h' := ⟨g.1, fun n c _ e => g.2 n c e⟩
theorem Gx.trans {m : Nat} {a b c : Hd} (x : Gx m a b) (y : Gx m b c) : Gx m a c := ⟨Nat.le_trans x.1 y.1, fun n u hn e => by
  obtain ⟨u1, e1, l1⟩ := x.2 n u hn e
  obtain ⟨u2, e2, l2⟩ := y.2 n u1 hn e1
  refine ⟨u2, e2, ?_⟩
  rcases l1 with rfl | ⟨t, k, l, rfl, rfl⟩
  · exact l2
  · rcases l2 with rfl | ⟨t2, k2, l2, e3, rfl⟩
    · exact .inr ⟨t, k, l, rfl, rfl⟩
    · cases e3; exact .inr ⟨t, k, l, rfl, rfl⟩⟩
theorem Gx.set {m : Nat} {h : Hd} (c : Cell) : Gx m h (h.set m c) := ⟨by simp, fun n u hn e => ⟨u, by rw [List.getElem?_set_ne (Ne.symm hn)]; exact e, .inl rfl⟩⟩
theorem Gx.lst {m : Nat} {h h' : Hd} (g : Gx m h h') {n : Nat} {xs : List D} (hn : n ≠ m) (e : h[n]? = some (.lst xs)) : h'[n]? = some (.lst xs) := by
  obtain ⟨c', e', l⟩ := g.2 n _ hn e
  rcases l with rfl | ⟨_, _, _, q, _⟩
  · exact e'
  · cases q
theorem Gx.dct {m : Nat} {h h' : Hd} (g : Gx m h h') {n : Nat} {t lk : Bool} {kvs : List (D × D)} (hn : n ≠ m) (e : h[n]? = some (.dct t lk kvs)) : ∃ lk', h'[n]? = some (.dct t lk' kvs) := by
  obtain ⟨c', e', l⟩ := g.2 n _ hn e
  rcases l with rfl | ⟨_, _, _, q, rfl⟩
  · exact ⟨lk, e'⟩
  · cases q; exact ⟨true, e'⟩
def Gs (n : Nat) (h h' : Hd) : Prop := h'.length = h.length ∧ ∀ m, m ≠ n → h'[m]? = h[m]?
theorem Gs.refl {n : Nat} {h : Hd} : Gs n h h := ⟨rfl, fun _ _ => rfl⟩
theorem Gs.trans {n : Nat} {a b c : Hd} (x : Gs n a b) (y : Gs n b c) : Gs n a c := ⟨by rw [y.1, x.1], fun m hm => by rw [y.2 m hm, x.2 m hm]⟩
theorem Gs.set {n : Nat} {h : Hd} (c : Cell) : Gs n h (h.set n c) := ⟨by simp, fun m hm => by rw [List.getElem?_set_ne (Ne.symm hm)]⟩
theorem Gs.x {n : Nat} {h h' : Hd} (g : Gs n h h') : Gx n h h' := ⟨by rw [g.1]; exact Nat.le_refl _, fun m c hm e => ⟨c, by rw [g.2 m hm]; exact e, .inl rfl⟩⟩
theorem Gs.lst {n : Nat} {h h' : Hd} (g : Gs n h h') {m : Nat} {xs : List D} (hn : m ≠ n) (e : h[m]? = some (.lst xs)) : h'[m]? = some (.lst xs) := by rw [g.2 m hn]; exact e
def s__law_roll : SpD := fun ds h q => ∃ n c t, ds = [.ref n, .int (t : Nat)] ∧ Dice c h n ∧ c ≤ 1000000 ∧ 0 < t ∧ t ≤ 1000 ∧ ∀ h' (r : Nat), Gs n h h' → Dice (c + 1) h' n → r < t → q (.int r) h'
theorem natOf {a b : Int} (h0 : 0 ≤ a) (hb : 0 < b) : ∃ r : Nat, a % b = r ∧ (r : Int) < b := ⟨(a % b).toNat, by have := Int.emod_nonneg a (by omega : b ≠ 0); omega, by have := Int.emod_nonneg a (by omega : b ≠ 0); have := Int.emod_lt_of_pos a hb; omega⟩
theorem mulOk {a b : Int} (h1 : a.natAbs < 2 ^ 200) (h2 : b.natAbs < 2 ^ 200) : L2.CMulW a b := wide_mul (a := 200) (b := 200) h1 h2 (by decide) (by decide) (by decide)
theorem divOk {b : Int} (h0 : 0 < b) (h : b.natAbs < 2 ^ 200) (a : Int) : L2.CDivW a b := wide_div (b := 200) h0 h (by decide) (by decide)
theorem oSet_lst {h : Hd} {n : Nat} {xs : List D} {k : Int} {j : Nat} {v : D} {Q : Hd → Prop} (e : h[n]? = some (.lst xs)) (hj : ixN xs.length k = some j) (z : Q (h.set n (.lst (xs.set j v)))) : MV.oSet (.ref n) (.int k) v h Q := by
  show (match h[n]? with
    | some (.lst xs) => ∃ k' j, D.int k = .int k' ∧ ixN xs.length k' = some j ∧ Q (h.set n (.lst (xs.set j v)))
    | some (.dct t false kvs) => keyOk t (.int k) = true ∧ kvs.length < sizeLine ∧ Q (h.set n (.dct t false (putD kvs (.int k) v)))
    | _ => False)
  rw [e]; exact ⟨k, j, rfl, hj, z⟩
theorem p_roll {ds : List D} {h : Hd} {q : D → Hd → Prop} (z : s__law_roll ds h q) : v__law_roll (endR q) (startD K02.N__law_roll ds) h := by
  obtain ⟨n, c, t, rfl, ⟨a, b, e, e0, ha, hb0, hb1, he0, hec⟩, hc, ht, ht2, z⟩ := z
  refine ⟨_, rfl, .inl ⟨_, rfl, ?_⟩⟩
  refine ⟨_, rfl, ?_⟩
  dsimp only [MV.wC]
  refine oIx_lst (i := 0) (d := .int a) e0 rfl ?_
  refine ⟨_, rfl, ?_⟩
  by_cases h0 : 0 < a
  · refine ift (by simpa using h0) ?_
    refine ⟨_, rfl, ?_⟩
    dsimp only [MV.wC]
    refine oIx_lst (i := 0) (d := .int a) e0 rfl ?_
    refine ⟨_, rfl, by omega, ?_⟩
    refine ⟨_, rfl, ?_⟩
    dsimp only [MV.wC]
    refine oIx_lst (i := 0) (d := .int a) e0 rfl ?_
    refine ⟨_, rfl, divOk (by omega) (by omega) _, _, rfl, ?_⟩
    dsimp only [MV.wC]
    refine oSet_lst (k := 0) (j := 0) e0 rfl ?_
    refine ⟨_, rfl, .inl ⟨_, rfl, ?_⟩⟩
    obtain ⟨r, er, hr⟩ := natOf (a := a) (b := t) ha (by omega)
    rw [er]
    refine z _ r (.set _) ⟨a / t, b, e, set_at e0, Int.ediv_nonneg ha (by omega), hb0, hb1, he0, by omega⟩ (by omega)
  · refine iff_ (by simpa using h0) ?_
    have a0 : a = 0 := by omega
    subst a0
    -- dice[2] = dice[2] + 1
    refine ⟨_, rfl, ?_⟩
    dsimp only [MV.wC]
    refine oIx_lst (i := 2) (d := .int e) e0 rfl ?_
    refine ⟨_, rfl, ?_⟩
    dsimp only [MV.wC]
    refine oSet_lst (k := 2) (j := 2) e0 rfl ?_
    have e1 := set_at (c' := .lst ([D.int 0, .int b, .int e].set 2 (.int (e + 1)))) e0
    have g1 : Gs n h (h.set n (.lst ([D.int 0, .int b, .int e].set 2 (.int (e + 1))))) := .set _
    generalize h.set n (.lst ([D.int 0, .int b, .int e].set 2 (.int (e + 1)))) = h1 at e1 g1
    have e1 : h1[n]? = some (.lst [.int 0, .int b, .int (e + 1)]) := e1
    -- one
    refine ⟨_, rfl, ?_⟩
    dsimp only [MV.wC]
    refine oIx_lst (i := 1) (d := .int b) e1 rfl ?_
    refine ⟨_, rfl, ?_⟩
    dsimp only [MV.wC]
    refine oIx_lst (i := 2) (d := .int (e + 1)) e1 rfl ?_
    refine ⟨mulOk (by decide) (by omega), ?_⟩
    refine ⟨show (0 : Int) < 2305843009213693951 by decide, ?_⟩
    dsimp only
    obtain ⟨x, ex, hx⟩ := natOf (a := b + 1000081 * (e + 1)) (b := 2305843009213693951) (by omega) (by decide)
    rw [ex]
    -- two
    refine ⟨_, rfl, _, rfl, mulOk (by omega) (by omega), ?_⟩
    refine ⟨show (0 : Int) < 2305843009213693921 by decide, ?_⟩
    dsimp only
    obtain ⟨y, ey, hy⟩ := natOf (a := (x : Int) * x) (b := 2305843009213693921) (Int.mul_nonneg (by omega) (by omega)) (by decide)
    rw [ey]
    refine ⟨_, rfl, mulOk (by omega) (by omega), ?_⟩
    refine ⟨_, rfl, ?_⟩
    dsimp only [MV.wC]
    refine oIx_lst (i := 2) (d := .int (e + 1)) e1 rfl ?_
    refine ⟨mulOk (by decide) (by omega), ?_⟩
    have hyx : 0 ≤ (y : Int) * x := Int.mul_nonneg (by omega) (by omega)
    refine ⟨_, rfl, show (0 : Int) < 2305843009213693907 by decide, ?_⟩
    dsimp only
    obtain ⟨u, eu, hu⟩ := natOf (a := (y : Int) * x + 8171 * (e + 1)) (b := 2305843009213693907) (by omega) (by decide)
    rw [eu]
    refine ⟨_, rfl, divOk (by decide) (by decide) _, ?_⟩
    refine ⟨_, rfl, ?_⟩
    refine ⟨by omega, .inl ⟨_, rfl, ?_⟩⟩
    obtain ⟨r, er, hr⟩ := natOf (a := (u : Int) / 4096) (b := t) (Int.ediv_nonneg (by omega) (by decide)) (by omega)
    rw [er]
    exact z _ r g1 ⟨0, b, e + 1, e1, by decide, hb0, hb1, by omega, by omega⟩ (by omega)
end K02S

set_option Elab.async false
set_option linter.all false
set_option maxRecDepth 100000
set_option maxHeartbeats 2000000
/-! K02E: the law's plain parts: offers, words, due. -/
namespace K02S
open PySem PySem.Spec
open PyProof.Rows hiding St
open L2
open MP (D Cell Hd Sd WE WT WA WS WG WI EndsD ItD SpD endR startD itSeq items tyD truD getD putD keyOk wipeD lenD sortS ltS leS dctOf itKeys itVals PyR PyRs)
open MV K02V
def PlIts (h : Hd) (xs : List D) (pl : Pl) : Prop := xs.length = pl.length ∧ ∀ (i : Nat) p, pl[i]? = some p → ∃ m lk0, xs[i]? = some (.tup [.ref m, .bl p.2]) ∧ h[m]? = some (.dct false lk0 (rowK p.1))
def IsPlain (h : Hd) (d : D) (pl : Pl) : Prop := ∃ n xs, d = .ref n ∧ h[n]? = some (.lst xs) ∧ PlIts h xs pl
theorem PlIts.gr {h h' : Hd} {xs : List D} {pl : Pl} (k : PlIts h xs pl) (g : Gr h h') : PlIts h' xs pl := ⟨k.1, fun i p e => by
  obtain ⟨m, lk0, e1, e2⟩ := k.2 i p e
  obtain ⟨lk1, e3⟩ := g.dct e2
  exact ⟨m, lk1, e1, e3⟩⟩
theorem IsPlain.gr {h h' : Hd} {d : D} {pl : Pl} (k : IsPlain h d pl) (g : Gr h h') : IsPlain h' d pl := by
  obtain ⟨n, xs, rfl, e, r⟩ := k
  exact ⟨n, xs, rfl, g.lst e, r.gr g⟩
theorem PlIts.gx {c n : Nat} {h h' : Hd} {xs : List D} {pl : Pl} (k : PlIts h xs pl) (dc : Dice c h n) (g : Gx n h h') : PlIts h' xs pl := ⟨k.1, fun i p e => by
  obtain ⟨m, lk0, e1, e2⟩ := k.2 i p e
  obtain ⟨a, b, e0, hd, _⟩ := dc
  have hm : m ≠ n := fun z => by rw [z, hd] at e2; cases e2
  obtain ⟨lk1, e3⟩ := g.dct hm e2
  exact ⟨m, lk1, e1, e3⟩⟩
theorem PlIts.one {h : Hd} {xs : List D} {pl : Pl} (k : PlIts h xs pl) {s : Nat} (hs : s < pl.length) : ∃ p m lk0, pl[s]? = some p ∧ xs[s]? = some (.tup [.ref m, .bl p.2]) ∧ h[m]? = some (.dct false lk0 (rowK p.1)) := by
  have e : pl[s]? = some pl[s] := List.getElem?_eq_getElem hs
  obtain ⟨m, lk0, e1, e2⟩ := k.2 s _ e
  exact ⟨_, m, lk0, e, e1, e2⟩
theorem getD_step' {pl : Pl} {s : Nat} {p : Row × Bool} (e : pl[s]? = some p) (a : Str) : getD (rowK p.1) (.str a) = (step pl s a).map fun (n : Nat) => D.int (n : Int) := by
  rw [getD_rowK]; unfold step; rw [e]; rfl
def s__law_offer : SpD := fun ds h q => ∃ dp pl s, ds = [dp, .int (s : Nat)] ∧ IsPlain h dp pl ∧ s < pl.length ∧ (∀ p ∈ pl, RowOk p.1) ∧ ∀ h', Gr h h' → q (offD pl s) h'
theorem p_offer {ds : List D} {h : Hd} {q : D → Hd → Prop} (z : s__law_offer ds h q) : v__law_offer (endR q) (startD K02.N__law_offer ds) h := by
  obtain ⟨dp, pl, s, rfl, ⟨n, xs, rfl, e, k⟩, hs, ok, z⟩ := z
  obtain ⟨p, m, lk0, ep, e1, e2⟩ := k.one hs
  have hk : (keysR p.1).length ≤ 7 := by unfold keysR; rw [List.length_map]; exact (ok p (List.mem_of_getElem? ep)).sm
  refine ⟨_, rfl, _, rfl, ?_⟩
  dsimp only [MV.wC]
  refine oIx_lst e (atI_natI e1) ?_
  refine oIx_tup (i := 0) (d := .ref m) rfl ?_
  refine ⟨m, keysR p.1, rfl, .inr ⟨lk0, _, e2, rowK_keys _⟩, by omega, ?_⟩
  refine ⟨_, items_last, ?_⟩
  have g1 : Gr h (h ++ [Cell.lst ((sortS (keysR p.1)).map D.str)]) := .app _
  refine ⟨_, rfl, _, rfl, ?_⟩
  dsimp only [MV.wC]
  refine oIx_lst (g1.lst e) (atI_natI e1) ?_
  refine oIx_tup (i := 1) (d := .bl p.2) rfl ?_
  refine ⟨by show 2 ≤ sizeLine; decide, ?_⟩
  have : D.tup [.tup ((sortS (keysR p.1)).map D.str), .bl p.2] = offD pl s := by
    unfold offD offK restS; rw [ep]; rfl
  show q (D.tup [.tup ((sortS (keysR p.1)).map D.str), .bl p.2]) _
  rw [this]
  exact z _ g1
theorem after_take {pl : Pl} {w : List Str} {i : Nat} {a : Str} (e : w[i]? = some a) : after pl (w.take (i + 1)) = (after pl (w.take i)).bind fun s => step pl s a := by
  rw [List.take_add_one, e]
  simp only [after, Option.toList_some, List.foldl_append, List.foldl_cons, List.foldl_nil]
end K02S

set_option Elab.async false
set_option linter.all false
set_option maxRecDepth 100000
set_option maxHeartbeats 2000000
/-! K02H: the law's own dice, drawn items, orders, actions and parts. -/
namespace K02S
open PySem PySem.Spec
open PyProof.Rows hiding St
open L2
open MP (D Cell Hd Sd WE WT WA WS WG WI EndsD ItD SpD endR startD itSeq items tyD truD getD putD keyOk wipeD lenD sortS ltS leS dctOf itKeys itVals PyR PyRs)
open MV K02V
theorem oIx_scr {h : Hd} {n : Nat} {xs : List D} {i : Int} {d : D} {Q : D → Hd → Prop} (e : h[n]? = some (.scr xs)) (hg : L2.atI xs i = some d) (z : Q d h) : MV.oIx (.ref n) (.int i) h Q := by
  show (match h[n]? with
    | some (.lst xs) => ∃ i' d, D.int i = .int i' ∧ L2.atI xs i' = some d ∧ Q d h
    | some (.scr xs) => ∃ i' d, D.int i = .int i' ∧ L2.atI xs i' = some d ∧ Q d h
    | some (.dct t _ kvs) => keyOk t (.int i) = true ∧ ∃ d, getD kvs (.int i) = some d ∧ Q d h
    | _ => False)
  rw [e]; exact ⟨i, d, rfl, hg, z⟩
theorem oAdd_int {a b : Int} {h : Hd} {Q : D → Hd → Prop} (z : Q (.int (a + b)) h) : MV.oAdd (.int a) (.int b) h Q := z
def s__law_dice : SpD := fun ds h q => ∃ n xs at_, ds = [.ref n, .int (at_ : Nat)] ∧ h[n]? = some (.scr xs) ∧ (∀ x ∈ xs, ∃ i : Int, x = .int i) ∧ at_ ≤ 1000 ∧ ∀ h' m, Gr h h' → h.length ≤ m → Dice 0 h' m → q (.ref m) h'
theorem dice_end {n : Nat} {h : Hd} {q : D → Hd → Prop} {at_ : Nat} {cell : Int} {sl : Sd} (l6 : sl.length = 6) (s0 : sl[0]? = some (some (.ref n))) (s1 : sl[1]? = some (some (.int (at_ : Nat)))) (s2 : sl[2]? = some (some (.int cell))) (hat : at_ ≤ 1000)
    (z : ∀ h' m, Gr h h' → h.length ≤ m → Dice 0 h' m → q (.ref m) h') :
    (MV.wSeq (wAsg (wBin oMod (wCB cInt (wCons (wCB cAbs (wCons (wSlot 2) wNil)) wNil)) (wBin oPow (wBin oPow (wC (.int 10)) (wC (.int 60))) (wC (.int 10)))) (wNm 3))
    (wSeq (wAsg (wBin oFdiv (wSlot 3) (wBin oPow (wC (.int 10)) (wC (.int 18)))) (wNm 4))
    (wSeq (wAsg (wBin oAdd (wBin oAdd (wBin oAdd (wBin oMul (wBin oMod (wSlot 3) (wC (.int 2147483477))) (wC (.int 50021))) (wBin oMul (wC (.int 3001)) (wSlot 1))) (wBin oMul (wC (.int 29)) (wCB cInt (wCons (wBin oLt (wSlot 2) (wC (.int 0))) wNil)))) (wC (.int 71))) (wNm 5))
    (wRet (wLst (wCons (wSlot 4) (wCons (wBin oMod (wSlot 5) (wC (.int 2147483399))) (wCons (wC (.int 0)) wNil)))))))) (endR q) sl h := by
  refine ⟨_, s2, _, rfl, .inl ⟨_, rfl, ?_⟩⟩
  dsimp only [MV.wC, MV.wNil]
  have pos : (0 : Int) < (10 ^ (60 : Int).toNat) ^ (10 : Int).toNat := by decide +kernel
  refine ⟨⟨by decide, by decide⟩, ⟨by decide, by decide +kernel⟩, pos, ?_⟩
  dsimp only
  have h0 : 0 ≤ (if cell < 0 then -cell else cell) % (10 ^ (60 : Int).toNat) ^ (10 : Int).toNat := Int.emod_nonneg _ (by omega)
  generalize (if cell < 0 then -cell else cell) % (10 ^ (60 : Int).toNat) ^ (10 : Int).toNat = great at h0 ⊢
  have a1 : (sl.set 3 (some (D.int great)))[1]? = some (some (.int (at_ : Nat))) := by rw [List.getElem?_set_ne (by decide)]; exact s1
  have a2 : (sl.set 3 (some (D.int great)))[2]? = some (some (.int cell)) := by rw [List.getElem?_set_ne (by decide)]; exact s2
  have a3 : (sl.set 3 (some (D.int great)))[3]? = some (some (.int great)) := List.getElem?_set_self (by omega)
  have a4 : (sl.set 3 (some (D.int great))).length = 6 := by simp [l6]
  show MV.wSeq _ _ _ (sl.set 3 (some (D.int great))) h
  generalize sl.set 3 (some (D.int great)) = sl1 at a1 a2 a3 a4 ⊢
  refine ⟨_, a3, ?_⟩
  dsimp only [MV.wC]
  refine ⟨⟨by decide, by decide⟩, divOk (by decide) (by decide) _, ?_⟩
  dsimp only
  have h1 : 0 ≤ great / 10 ^ (18 : Int).toNat := Int.ediv_nonneg h0 (by decide)
  generalize great / 10 ^ (18 : Int).toNat = left at h1 ⊢
  have b1 : (sl1.set 4 (some (D.int left)))[1]? = some (some (.int (at_ : Nat))) := by rw [List.getElem?_set_ne (by decide)]; exact a1
  have b2 : (sl1.set 4 (some (D.int left)))[2]? = some (some (.int cell)) := by rw [List.getElem?_set_ne (by decide)]; exact a2
  have b3 : (sl1.set 4 (some (D.int left)))[3]? = some (some (.int great)) := by rw [List.getElem?_set_ne (by decide)]; exact a3
  have b4 : (sl1.set 4 (some (D.int left)))[4]? = some (some (.int left)) := List.getElem?_set_self (by omega)
  have b5 : (sl1.set 4 (some (D.int left))).length = 6 := by simp [a4]
  show MV.wSeq _ _ _ (sl1.set 4 (some (D.int left))) h
  generalize sl1.set 4 (some (D.int left)) = sl2 at b1 b2 b3 b4 b5 ⊢
  refine ⟨_, b3, ?_⟩
  dsimp only [MV.wC]
  have m0 := Int.emod_nonneg great (by decide : (2147483477 : Int) ≠ 0)
  have m1 := Int.emod_lt_of_pos great (by decide : (0 : Int) < 2147483477)
  refine ⟨show (0 : Int) < 2147483477 by decide, ?_⟩
  dsimp only
  generalize great % 2147483477 = g at m0 m1 ⊢
  refine ⟨mulOk (by omega) (by decide), ?_⟩
  refine ⟨_, b1, mulOk (by decide) (by omega), ?_⟩
  dsimp only
  refine ⟨_, b2, .inr ⟨_, rfl, ?_⟩⟩
  dsimp only
  refine ⟨mulOk (by decide) (by split <;> decide), ?_⟩
  dsimp only
  refine oAdd_int ?_
  refine oAdd_int ?_
  generalize g * 50021 + 3001 * (at_ : Int) + 29 * (if decide (cell < 0) = true then 1 else 0) + 71 = mix
  have c4 : (sl2.set 5 (some (D.int mix)))[4]? = some (some (.int left)) := by rw [List.getElem?_set_ne (by decide)]; exact b4
  have c5 : (sl2.set 5 (some (D.int mix)))[5]? = some (some (.int mix)) := List.getElem?_set_self (by omega)
  show MV.wRet _ _ (sl2.set 5 (some (D.int mix))) h
  generalize sl2.set 5 (some (D.int mix)) = sl3 at c4 c5 ⊢
  refine ⟨_, c4, _, c5, show (0 : Int) < 2147483399 by decide, ?_⟩
  refine ⟨by show 3 ≤ sizeLine; decide, ?_⟩
  refine z _ _ (.app _) (Nat.le_refl _) ⟨left, mix % 2147483399, 0, ?_, h1, Int.emod_nonneg _ (by decide), Int.emod_lt_of_pos _ (by decide), by decide, by decide⟩
  rw [List.getElem?_append_right (Nat.le_refl _)]; simp
theorem p_dice {ds : List D} {h : Hd} {q : D → Hd → Prop} (z : s__law_dice ds h q) : v__law_dice (endR q) (startD K02.N__law_dice ds) h := by
  obtain ⟨n, xs, at_, rfl, en, hx, hat, z⟩ := z
  refine ⟨_, rfl, mulOk (by decide) (by omega), ?_⟩
  dsimp only [MV.wC]
  refine ⟨_, rfl, _, rfl, _, xs.length, rfl, by simp only [lenD, en], ?_⟩
  by_cases hl : at_ < xs.length
  · refine ⟨decide ((at_ : Int) < (xs.length : Int)), rfl, ?_⟩
    refine ift (by simpa using hl) ?_
    obtain ⟨i, ei⟩ := hx xs[at_] (List.getElem_mem hl)
    refine ⟨_, rfl, _, rfl, ?_⟩
    dsimp only
    refine oIx_scr en (atI_natI (by rw [List.getElem?_eq_getElem hl])) ?_
    rw [ei]
    exact dice_end rfl rfl rfl rfl hat z
  · refine ⟨decide ((at_ : Int) < (xs.length : Int)), rfl, ?_⟩
    refine iff_ (by simpa using hl) ?_
    exact dice_end rfl rfl rfl rfl hat z
end K02S

set_option Elab.async false
set_option linter.all false
set_option maxRecDepth 100000
set_option maxHeartbeats 2000000
/-! K02I: the law's own drawn items and orders. -/
namespace K02S
open PySem PySem.Spec
open PyProof.Rows hiding St
open L2
open MP (D Cell Hd Sd WE WT WA WS WG WI EndsD ItD SpD endR startD itSeq items tyD truD getD putD keyOk wipeD lenD sortS ltS leS dctOf itKeys itVals PyR PyRs)
open MV K02V
theorem Gx.setN {m : Nat} {h0 h : Hd} (g : Gx m h0 h) {k : Nat} (c : Cell) (hk : h0.length ≤ k) : Gx m h0 (h.set k c) := ⟨by simpa using g.1, fun n u hn e => by
  obtain ⟨u', e', l⟩ := g.2 n u hn e
  have : n < h0.length := (List.getElem?_eq_some_iff.mp e).1
  exact ⟨u', by rw [List.getElem?_set_ne (by omega)]; exact e', l⟩⟩
theorem Gx.app {m : Nat} {h0 h : Hd} (g : Gx m h0 h) (c : Hd) : Gx m h0 (h ++ c) := g.trans (Gr.app c).x
theorem Dice.app {c n : Nat} {h : Hd} (k : Dice c h n) (x : Hd) : Dice c (h ++ x) n := k.gr (.app x)
theorem Dice.setN {c n : Nat} {h : Hd} (k : Dice c h n) {m : Nat} (u : Cell) (hm : m ≠ n) : Dice c (h.set m u) n := by
  obtain ⟨a, b, e, h1, r⟩ := k
  exact ⟨a, b, e, by rw [List.getElem?_set_ne hm]; exact h1, r⟩
theorem Dice.lt {c n : Nat} {h : Hd} (k : Dice c h n) : n < h.length := by
  obtain ⟨a, b, e, h1, _⟩ := k
  exact (List.getElem?_eq_some_iff.mp h1).1
def s__law_one_of : SpD := fun ds h q => ∃ n c m xs, ds = [.ref n, .ref m] ∧ n ≠ m ∧ Dice c h n ∧ c ≤ 1000000 ∧ h[m]? = some (.lst xs) ∧ 0 < xs.length ∧ xs.length ≤ 1000 ∧ ∀ h' x, Gx n h h' → Dice (c + 1) h' n → x ∈ xs → q x h'
theorem p_one_of {ds : List D} {h : Hd} {q : D → Hd → Prop} (z : s__law_one_of ds h q) : v__law_one_of s__law_roll (endR q) (startD K02.N__law_one_of ds) h := by
  obtain ⟨n, c, m, xs, rfl, nm, dc, hc, em, h0, hl, z⟩ := z
  refine ⟨_, rfl, _, rfl, _, rfl, _, xs.length, rfl, by simp only [lenD, em], ?_⟩
  refine ⟨n, c, xs.length, rfl, dc, hc, h0, hl, fun h1 r g1 d1 hr => ?_⟩
  have e1 := g1.lst (Ne.symm nm) em
  refine oIx_lst e1 (atI_natI (List.getElem?_eq_getElem hr)) ?_
  exact z _ _ g1.x d1 (List.getElem_mem hr)
theorem eq_nil (xs : List Str) : PyData.eqv (.list (strsP xs)) (.list []) = xs.isEmpty := by
  cases xs with
  | nil => rfl
  | cons x xs => simp [strsP, PyData.eqv, PyData.eqvAll]
theorem list_shaped {xs : List Str} (h : ∀ x ∈ xs, nameS x = true) : SeqAt.shaped (.list (strsP xs)) = true := by
  obtain ⟨h1, h2⟩ := can_strs h
  unfold SeqAt.shaped
  simp only [PyData.canLay0, h1, PyData.depth, h2]
  decide
theorem seqIx {r n : Nat} (h : r < n) : seqIndex? (r : Int) n = some r := by
  unfold seqIndex?
  have : ¬ ((r : Int) < 0) := by omega
  simp [this]; omega
theorem map_erase {α β : Type} {f : α → β} : ∀ (r : Nat) (xs : List α), (xs.map f).eraseIdx r = (xs.eraseIdx r).map f
  | _, [] => rfl
  | 0, _ :: _ => rfl
  | r + 1, x :: xs => by
    show f x :: (xs.map f).eraseIdx r = f x :: (xs.eraseIdx r).map f
    rw [map_erase r xs]
theorem erase_perm {α : Type} : ∀ {r : Nat} {xs : List α} (h : r < xs.length), (xs[r] :: xs.eraseIdx r).Perm xs
  | _, [], h => absurd h (Nat.not_lt_zero _)
  | 0, _ :: _, _ => .refl _
  | r + 1, x :: xs, h => (List.Perm.swap x _ _).trans (.cons x (erase_perm (xs := xs) (Nat.lt_of_succ_lt_succ h)))
structure Mx (n c : Nat) (xs : List Str) (h0 : Hd) (lv fv : List Str) (sl : Sd) (h : Hd) : Prop where
  len : sl.length = 4
  s0 : sl[0]? = some (some (.ref n))
  s2 : sl[2]? = some (some (.ref h0.length))
  s3 : sl[3]? = some (some (.ref (h0.length + 1)))
  le : h[h0.length]? = some (.lst (lv.map .str))
  fe : h[h0.length + 1]? = some (.lst (fv.map .str))
  pm : (fv ++ lv).Perm xs
  dc : Dice (c + fv.length) h n
  gx : Gx n h0 h
def s__law_mixed : SpD := fun ds h q => ∃ (n c m : Nat) (xs : List Str), ds = [.ref n, .ref m] ∧ n ≠ m ∧ Dice c h n ∧ c + 100 ≤ 1000000 ∧ h[m]? = some (.lst (xs.map .str)) ∧ xs.length ≤ 100 ∧ (∀ x ∈ xs, nameS x = true) ∧
  ∀ h' k (ys : List Str), Gx n h h' → h.length ≤ k → Dice (c + xs.length) h' n → h'[k]? = some (.lst (ys.map .str)) → ys.Perm xs → q (.ref k) h'
theorem p_mixed {ds : List D} {h : Hd} {q : D → Hd → Prop} (z : s__law_mixed ds h q) : v__law_mixed s__law_roll (endR q) (startD K02.N__law_mixed ds) h := by
  obtain ⟨n, c, m, xs, rfl, nm, dc, hc, em, hl, hn, z⟩ := z
  have nlt := dc.lt
  refine ⟨_, rfl, ?_⟩
  dsimp only [MV.wNil]
  refine cList_lst em ?_
  refine ⟨by show 0 ≤ sizeLine; decide, _, _, rfl, ?_⟩
  refine ⟨fun k sl h1 => ∃ lv fv, Mx n c xs h lv fv sl h1 ∧ k = lv.length, ⟨_, xs, [], ⟨rfl, rfl, rfl, by rw [List.length_append, List.length_singleton]; rfl, ?_, ?_, by simp, (dc.app _).app _, (Gx.refl.app _).app _⟩, rfl⟩, ?_⟩
  · rw [List.append_assoc, List.getElem?_append_right (Nat.le_refl _)]; simp
  · rw [List.append_assoc, List.getElem?_append_right (Nat.le_succ _)]; simp
  rintro k sl h1 ⟨lv, fv, M, rfl⟩
  have hlen : fv.length + lv.length = xs.length := by have := M.pm.length_eq; simpa using this
  have hlv : ∀ x ∈ lv, nameS x = true := fun x hx => hn x (M.pm.mem_iff.mp (List.mem_append_right _ hx))
  refine ⟨_, M.s2, ?_⟩
  dsimp only [MV.wNil]
  refine ⟨by show 0 ≤ sizeLine; decide, ?_⟩
  have gl : (h1 ++ [Cell.lst []])[h.length]? = some (.lst (lv.map .str)) := by rw [List.getElem?_append_left (List.getElem?_eq_some_iff.mp M.le).1]; exact M.le
  have gf : (h1 ++ [Cell.lst []])[h.length + 1]? = some (.lst (fv.map .str)) := by rw [List.getElem?_append_left (List.getElem?_eq_some_iff.mp M.fe).1]; exact M.fe
  have gd := M.dc.app [Cell.lst []]
  have gg := M.gx.app [Cell.lst []]
  have ge : items (h1 ++ [Cell.lst []]) h1.length = some [] := items_last
  refine ⟨.list (strsP lv), .list [], .lst (by unfold MP.items; rw [gl]) (pyRs_str _ _), .lst ge .nil, list_shaped hlv, by decide, ?_⟩
  rw [eq_nil]
  refine ⟨_, rfl, ?_⟩
  generalize h1 ++ [Cell.lst []] = h2 at gl gf gd gg
  cases lv with
  | nil =>
    refine iff_ rfl ?_
    refine ⟨_, M.s3, ?_⟩
    have := M.pm
    rw [List.append_nil] at this
    simp only [List.length_nil, Nat.add_zero] at hlen
    refine z h2 _ fv gg (by omega) (by rw [← hlen]; exact gd) gf this
  | cons y lv =>
    refine ift rfl ?_
    refine ⟨fun sl' h' => ∃ lv' fv', Mx n c xs h lv' fv' sl' h' ∧ lv'.length = lv.length, fun sl' h' ⟨lv', fv', M', e'⟩ => ⟨lv.length, by simp, lv', fv', M', e'.symm⟩, ?_⟩
    refine ⟨_, M.s3, ⟨_, _, rfl, gf⟩, ?_⟩
    refine ⟨_, M.s2, ⟨_, _, rfl, gl⟩, ?_⟩
    refine ⟨_, M.s0, _, M.s2, _, (y :: lv).length, rfl, by simp only [lenD, gl, List.length_map], ?_⟩
    refine ⟨n, c + fv.length, (y :: lv).length, rfl, gd, by omega, by simp, by simp only [List.length_cons] at hlen ⊢; omega, fun h3 r g3 d3 hr => ?_⟩
    have ne1 : h.length ≠ n := by omega
    have ne2 : h.length + 1 ≠ n := by omega
    have fl := g3.lst ne1 gl
    have ff := g3.lst ne2 gf
    have hr' : r < ((y :: lv).map D.str).length := by simpa using hr
    refine ⟨h.length, (y :: lv).map .str, (r : Int), r, .str (y :: lv)[r], rfl, rfl, fl, by omega, ?_, ?_, ?_, ?_⟩
    · simp only [List.length_cons] at hlen hr; omega
    · exact seqIx hr'
    · rw [List.getElem?_map, List.getElem?_eq_getElem hr]; rfl
    have hx : h.length + 1 ≠ h.length := by omega
    have ff2 : (h3.set h.length (.lst (((y :: lv).map D.str).eraseIdx r)))[h.length + 1]? = some (.lst (fv.map .str)) := by rw [List.getElem?_set_ne (Ne.symm hx)]; exact ff
    refine ⟨h.length + 1, fv.map .str, .str (y :: lv)[r], rfl, rfl, ff2, by rw [List.length_map]; exact size_small (by omega), ?_⟩
    refine ⟨(y :: lv).eraseIdx r, fv ++ [(y :: lv)[r]], ⟨M.len, M.s0, M.s2, M.s3, ?_, ?_, ?_, ?_, ?_⟩, ?_⟩
    · rw [List.getElem?_set_ne hx]
      have : ((y :: lv).eraseIdx r).map D.str = ((y :: lv).map D.str).eraseIdx r := (map_erase r _).symm
      rw [this]; exact set_at fl
    · rw [List.map_append]; exact set_at ff2
    · have p1 : ((y :: lv)[r] :: (y :: lv).eraseIdx r).Perm (y :: lv) := erase_perm hr
      refine List.Perm.trans ?_ M.pm
      rw [List.append_assoc]
      exact (List.Perm.append_left fv p1)
    · have := (d3.setN (.lst (((y :: lv).map D.str).eraseIdx r)) ne1).setN (.lst (fv.map D.str ++ [D.str (y :: lv)[r]])) ne2
      rw [List.length_append, List.length_singleton]
      exact this
    · exact ((gg.trans g3.x).setN _ (Nat.le_refl _)).setN _ (by omega)
    · rw [List.length_eraseIdx_of_lt hr]; simp
end K02S

set_option Elab.async false
set_option linter.all false
set_option maxRecDepth 100000
set_option maxHeartbeats 2000000
/-! K02J: the law's own drawn actions. -/
namespace K02S
open PySem PySem.Spec
open PyProof.Rows hiding St
open L2
open MP (D Cell Hd Sd WE WT WA WS WG WI EndsD ItD SpD endR startD itSeq items tyD truD getD putD keyOk wipeD lenD sortS ltS leS dctOf itKeys itVals PyR PyRs)
open MV K02V
def eight : List Str := ["a", "b", "ab", "go", "put", "take", "x", "zzzzzzzz"]
theorem eight_ok : ∀ x ∈ eight, nameS x = true := by decide +kernel
theorem eight_nd : eight.Nodup := by decide +kernel
theorem cut_to (xs : List D) (t : Nat) (h : t ≤ xs.length) : MP.cutD xs none (some (t : Int)) = xs.take t := by
  unfold MP.cutD
  have e1 : HT.sIx xs.length 0 none = 0 := rfl
  have e2 : HT.sIx xs.length xs.length (some (t : Int)) = t := by rw [HT.sIx_nat]; omega
  rw [e1, e2]; simp
def s__law_actions : SpD := fun ds h q => ∃ (n c t : Nat), ds = [.ref n, .int (t : Nat)] ∧ Dice c h n ∧ c + 100 ≤ 1000000 ∧ t ≤ 8 ∧
  ∀ h' k (ns : List Str), Gx n h h' → h.length ≤ k → Dice (c + 8) h' n → h'[k]? = some (.lst (ns.map .str)) → ns.length = t → (∀ x ∈ ns, nameS x = true) → ns.Pairwise (fun a b => leS a b = true) → ns.Nodup → q (.ref k) h'
theorem p_actions {ds : List D} {h : Hd} {q : D → Hd → Prop} (z : s__law_actions ds h q) : v__law_actions s__law_mixed (endR q) (startD K02.N__law_actions ds) h := by
  obtain ⟨n, c, t, rfl, dc, hc, ht, z⟩ := z
  have nlt := dc.lt
  refine ⟨_, rfl, ?_⟩
  dsimp only [MV.wC, MV.wNil]
  refine ⟨by show 8 ≤ sizeLine; decide, n, c, h.length, eight, rfl, by omega, dc.app _, hc, app_at, by decide, eight_ok, fun h1 k ys g1 hk d1 e1 pm => ?_⟩
  refine ⟨_, rfl, _, rfl, ?_⟩
  refine ⟨ys.map .str, by unfold MP.items; rw [e1], ?_⟩
  have l8 : ys.length = 8 := pm.length_eq
  rw [cut_to _ _ (by rw [List.length_map, l8]; exact ht)]
  refine ⟨h1.length, ys.take t, rfl, .inl (by rw [items_last, List.map_take]), by rw [List.length_take]; omega, ?_⟩
  have hg : Gx n h (h1 ++ [Cell.lst ((ys.map D.str).take t)] ++ [.lst ((sortS (ys.take t)).map .str)]) := (((Gr.app _).x.trans g1).app _).app _
  have hl := (Gr.app (h := h) [Cell.lst (eight.map .str)]).1
  refine z _ _ (sortS (ys.take t)) hg ?_ ((d1.app _).app _) app_at (by rw [MP.sortS_length, List.length_take]; omega) (fun x hx => ?_) (MP.sortS_pw _) ((MP.sortS_perm _).nodup_iff.mpr ((pm.nodup_iff.mpr eight_nd).sublist (List.take_sublist _ _)))
  · have := g1.1; simp only [List.length_append] at this ⊢; omega
  · exact eight_ok x (pm.mem_iff.mp (List.mem_of_mem_take ((MP.sortS_perm _).mem_iff.mp hx)))
end K02S

set_option Elab.async false
set_option linter.all false
set_option maxRecDepth 100000
set_option maxHeartbeats 2000000
/-! K02K: the law's own drawn parts. -/
namespace K02S
open PySem PySem.Spec
open PyProof.Rows hiding St
open L2
open MP (D Cell Hd Sd WE WT WA WS WG WI EndsD ItD SpD endR startD itSeq items tyD truD getD putD keyOk wipeD lenD sortS ltS leS dctOf itKeys itVals PyR PyRs)
open MV K02V
def putR (r : Row) (a : Str) (t : Nat) : Row := if a ∈ keysR r then r.map (fun p => if p.1 = a then (p.1, t) else p) else r ++ [(a, t)]
theorem putD_row (r : Row) (a : Str) (t : Nat) : putD (rowK r) (.str a) (.int (t : Nat)) = rowK (putR r a t) := by
  unfold MP.putD
  have e : ((rowK r).any fun p => decide (p.1 = .str a)) = decide (a ∈ keysR r) := by
    rw [Bool.eq_iff_iff, List.any_eq_true, decide_eq_true_eq]
    unfold rowK keysR
    constructor
    · rintro ⟨x, hx, e⟩
      obtain ⟨y, hy, rfl⟩ := List.mem_map.mp hx
      have := of_decide_eq_true e
      injection this with this
      exact List.mem_map.mpr ⟨y, hy, this⟩
    · intro h
      obtain ⟨y, hy, rfl⟩ := List.mem_map.mp h
      exact ⟨_, List.mem_map.mpr ⟨y, hy, rfl⟩, decide_eq_true rfl⟩
  rw [e]
  unfold putR
  by_cases h : a ∈ keysR r
  · rw [if_pos (decide_eq_true h), if_pos h]
    unfold rowK
    rw [List.map_map, List.map_map]
    refine List.map_congr_left fun p _ => ?_
    simp only [Function.comp_def]
    by_cases e2 : p.1 = a
    · rw [if_pos e2, if_pos (by rw [e2])]
    · rw [if_neg e2, if_neg (fun z => e2 (by injection z))]
  · rw [if_neg (by simpa using h), if_neg h]
    unfold rowK; simp
theorem keys_putR (r : Row) (a : Str) (t : Nat) : keysR (putR r a t) = if a ∈ keysR r then keysR r else keysR r ++ [a] := by
  unfold putR
  by_cases h : a ∈ keysR r
  · rw [if_pos h, if_pos h]
    unfold keysR
    rw [List.map_map]
    refine List.map_congr_left fun p _ => ?_
    simp only [Function.comp_def]
    split <;> rfl
  · rw [if_neg h, if_neg h]
    unfold keysR; simp
theorem lk_nodup {r : Row} {p : Str × Nat} (nd : (keysR r).Nodup) (hp : p ∈ r) : lk r p.1 = some p.2 := by
  obtain ⟨n, e⟩ := lk_mem (a := p.1) (r := r) (List.mem_map.mpr ⟨p, hp, rfl⟩)
  have h1 := lk_val e
  have : ∀ r : Row, (keysR r).Nodup → p ∈ r → (p.1, n) ∈ r → n = p.2 := by
    intro r
    induction r with
    | nil => intro _ h; cases h
    | cons y r ih =>
      intro nd a b
      have nd' := List.nodup_cons.mp (show (y.1 :: keysR r).Nodup from nd)
      rcases List.mem_cons.mp a with q | q <;> rcases List.mem_cons.mp b with q2 | q2
      · rw [← q] at q2; exact congrArg Prod.snd q2
      · exact absurd (List.mem_map.mpr ⟨_, q2, by rw [← q]⟩) nd'.1
      · exact absurd (List.mem_map.mpr ⟨_, q, by rw [← q2]⟩) nd'.1
      · exact ih nd'.2 q q2
  rw [e, this r nd hp h1]
structure GR (ns : List Str) (b : Nat) (r : Row) : Prop where
  nd : (keysR r).Nodup
  sub : ∀ x ∈ keysR r, x ∈ ns
  lt : ∀ p ∈ r, p.2 < b
theorem GR.nil {ns : List Str} {b : Nat} : GR ns b [] := ⟨List.nodup_nil, fun x h => (by cases h), fun x h => (by cases h)⟩
theorem GR.mono {ns : List Str} {b b' : Nat} {r : Row} (k : GR ns b r) (h : b ≤ b') : GR ns b' r := ⟨k.nd, k.sub, fun p hp => Nat.lt_of_lt_of_le (k.lt p hp) h⟩
theorem GR.put {ns : List Str} {b : Nat} {r : Row} {a : Str} {t : Nat} (k : GR ns b r) (ha : a ∈ ns) (ht : t < b) : GR ns b (putR r a t) := by
  refine ⟨?_, ?_, ?_⟩
  · rw [keys_putR]
    by_cases h : a ∈ keysR r
    · rw [if_pos h]; exact k.nd
    · rw [if_neg h]
      exact List.nodup_append.mpr ⟨k.nd, by simp, fun x hx y hy e => by
        rw [List.mem_singleton] at hy; exact h (by rw [← hy, ← e]; exact hx)⟩
  · intro x hx
    rw [keys_putR] at hx
    by_cases h : a ∈ keysR r
    · rw [if_pos h] at hx; exact k.sub x hx
    · rw [if_neg h] at hx
      rcases List.mem_append.mp hx with q | q
      · exact k.sub x q
      · rw [List.mem_singleton] at q; rw [q]; exact ha
  · intro p hp
    unfold putR at hp
    by_cases h : a ∈ keysR r
    · rw [if_pos h] at hp
      obtain ⟨y, hy, rfl⟩ := List.mem_map.mp hp
      split
      · exact ht
      · exact k.lt y hy
    · rw [if_neg h] at hp
      rcases List.mem_append.mp hp with q | q
      · exact k.lt p q
      · rw [List.mem_singleton] at q; rw [q]; exact ht
theorem GR.len {ns : List Str} {b : Nat} {r : Row} (k : GR ns b r) : r.length ≤ ns.length := by
  have := nodup_le k.nd k.sub
  unfold keysR at this
  rwa [List.length_map] at this
structure NS (ns : List Str) : Prop where
  le : ns.length ≤ 4
  nm : ∀ x ∈ ns, nameS x = true
  pw : ns.Pairwise fun a b => leS a b = true
  nd : ns.Nodup
structure GP (ns : List Str) (pl : Pl) : Prop where
  pos : 0 < pl.length
  le : pl.length ≤ 8
  row : ∀ p ∈ pl, GR ns pl.length p.1
  ord : ∀ p ∈ pl, (keysR p.1).Sublist ns
theorem ord_put {ns : List Str} {j : Nat} {a : Str} {r : Row} {t : Nat} (nd : ns.Nodup) (e : ns[j]? = some a) (k : (keysR r).Sublist (ns.take j)) : (keysR (putR r a t)).Sublist (ns.take (j + 1)) := by
  have hn : a ∉ keysR r := fun h => by
    obtain ⟨i, hi, ei⟩ := List.getElem_of_mem (k.subset h)
    rw [List.getElem_take] at ei
    have hj := List.getElem?_eq_some_iff.mp e
    have := (List.getElem_inj nd).mp (ei.trans hj.2.symm)
    rw [List.length_take] at hi
    omega
  rw [keys_putR, if_neg hn, List.take_add_one, e]
  exact k.append (List.Sublist.refl _)
theorem ord_skip {ns : List Str} {j : Nat} {r : Row} (k : (keysR r).Sublist (ns.take j)) : (keysR r).Sublist (ns.take (j + 1)) := k.trans (List.take_sublist_take_left (Nat.le_succ j))
theorem sort_sub {ns xs : List Str} (pw : ns.Pairwise fun a b => leS a b = true) (k : xs.Sublist ns) : sortS xs = xs := (MP.sortS_uniq (.refl _) (pw.sublist k)).symm
theorem srt_id {r : Row} (e : sortS (keysR r) = keysR r) (nd : (keysR r).Nodup) : srt r = r := by
  unfold srt
  rw [e]
  unfold keysR
  rw [List.map_map]
  refine (List.map_congr_left fun p hp => ?_).trans (List.map_id r)
  have : lk r p.1 = some p.2 := lk_nodup nd hp
  simp [this]
theorem GP.ok {ns : List Str} {pl : Pl} (k : GP ns pl) (s : NS ns) : PlOk pl := ⟨⟨k.pos, fun i a t e => by
    unfold step at e
    obtain ⟨p, ep, e2⟩ := Option.bind_eq_some_iff.mp e
    exact (k.row p (List.mem_of_getElem? ep)).lt (a, t) (lk_val e2)⟩, k.le,
  fun p hp => ⟨(k.row p hp).nd, Nat.le_trans (k.row p hp).len (Nat.le_trans s.le (by decide))⟩, fun p hp a ha => s.nm a ((k.row p hp).sub a ha)⟩
theorem PlIts.setL {h : Hd} {xs : List D} {pl : Pl} (k : PlIts h xs pl) {F : Nat} {ys : List D} (e : h[F]? = some (.lst ys)) (c : Cell) : PlIts (h.set F c) xs pl := ⟨k.1, fun i p ep => by
  obtain ⟨m, lk0, e1, e2⟩ := k.2 i p ep
  refine ⟨m, lk0, e1, ?_⟩
  rw [List.getElem?_set_ne (fun z => by rw [← z, e] at e2; cases e2)]
  exact e2⟩
theorem PlIts.gd {c n : Nat} {h h' : Hd} {xs : List D} {pl : Pl} (k : PlIts h xs pl) (d : Dice c h n) (g : Gx n h h') : PlIts h' xs pl := ⟨k.1, fun i p ep => by
  obtain ⟨m, lk0, e1, e2⟩ := k.2 i p ep
  obtain ⟨a, b, e, ed, _⟩ := d
  obtain ⟨lk1, e3⟩ := g.dct (fun z => by rw [z, ed] at e2; cases e2) e2
  exact ⟨m, lk1, e1, e3⟩⟩
theorem PlIts.snoc {h : Hd} {xs : List D} {pl : Pl} (k : PlIts h xs pl) {R : Nat} {lk0 : Bool} {r : Row} (b : Bool) (e : h[R]? = some (.dct false lk0 (rowK r))) : PlIts h (xs ++ [.tup [.ref R, .bl b]]) (pl ++ [(r, b)]) := ⟨by simp [k.1], fun i p ep => by
  by_cases hi : i < pl.length
  · rw [List.getElem?_append_left hi] at ep
    obtain ⟨m, lk1, e1, e2⟩ := k.2 i p ep
    exact ⟨m, lk1, by rw [List.getElem?_append_left (by rw [k.1]; exact hi)]; exact e1, e2⟩
  · have : i = pl.length := by
      have := (List.getElem?_eq_some_iff.mp ep).1
      simp only [List.length_append, List.length_singleton] at this
      omega
    subst this
    rw [List.getElem?_append_right (Nat.le_refl _)] at ep
    simp at ep
    subst ep
    exact ⟨R, lk0, by rw [List.getElem?_append_right (by rw [k.1]; exact Nat.le_refl _), k.1]; simp, e⟩⟩
end K02S

set_option Elab.async false
set_option linter.all false
set_option maxRecDepth 100000
set_option maxHeartbeats 2000000
/-! K02L: the law's own drawn part. -/
namespace K02S
open PySem PySem.Spec
open PyProof.Rows hiding St
open L2
open MP (D Cell Hd Sd WE WT WA WS WG WI EndsD ItD SpD endR startD itSeq items tyD truD getD putD keyOk wipeD lenD sortS ltS leS dctOf itKeys itVals PyR PyRs)
open MV K02V
def s__law_part : SpD := fun ds h q => ∃ (n c m t : Nat) (ns : List Str), ds = [.ref n, .ref m, .int (t : Nat)] ∧ n ≠ m ∧ Dice c h n ∧ c + 100 ≤ 1000000 ∧ h[m]? = some (.lst (ns.map .str)) ∧ NS ns ∧ 0 < t ∧ t ≤ 8 ∧
  ∀ h' F xs pl, Gx n h h' → h.length ≤ F → Dice (c + 50) h' n → h'[F]? = some (.lst xs) → PlIts h' xs pl → GP ns pl → pl.length ≤ t → q (.ref F) h'
structure LP (n m c F T : Nat) (ns : List Str) (h0 : Hd) (i : Nat) (xs : List D) (pl : Pl) (sl : Sd) (h : Hd) : Prop where
  len : sl.length = 9
  s0 : sl[0]? = some (some (.ref n))
  s1 : sl[1]? = some (some (.ref m))
  s4 : sl[4]? = some (some (.int (T : Nat)))
  s5 : sl[5]? = some (some (.ref F))
  gx : Gx n h0 h
  dc : Dice (c + 1 + 5 * i) h n
  ls : h[F]? = some (.lst xs)
  it : PlIts h xs pl
  pn : pl.length = i
  gr : ∀ p ∈ pl, GR ns T p.1
  od : ∀ p ∈ pl, (keysR p.1).Sublist ns
theorem LP.slot {n m c F T : Nat} {ns : List Str} {h0 : Hd} {i : Nat} {xs : List D} {pl : Pl} {sl : Sd} {h : Hd} (b : LP n m c F T ns h0 i xs pl sl h) (k : Nat) (d : Option D) (hk : 6 ≤ k ∨ k = 3 := by decide) : LP n m c F T ns h0 i xs pl (sl.set k d) h :=
  { b with len := by rw [List.length_set]; exact b.len, s0 := by rw [List.getElem?_set_ne (by omega)]; exact b.s0, s1 := by rw [List.getElem?_set_ne (by omega)]; exact b.s1, s4 := by rw [List.getElem?_set_ne (by omega)]; exact b.s4, s5 := by rw [List.getElem?_set_ne (by omega)]; exact b.s5 }
structure LQ (n m F T R : Nat) (ns : List Str) (hB : Hd) (cc j : Nat) (r : Row) (sl : Sd) (h : Hd) : Prop where
  len : sl.length = 9
  s0 : sl[0]? = some (some (.ref n))
  s1 : sl[1]? = some (some (.ref m))
  s4 : sl[4]? = some (some (.int (T : Nat)))
  s5 : sl[5]? = some (some (.ref F))
  s6 : sl[6]? = some (some (.ref R))
  gx : Gx n hB h
  dc : Dice cc h n
  rw' : h[R]? = some (.dct false false (rowK r))
  gr : GR ns T r
  od : (keysR r).Sublist (ns.take j)
theorem LQ.slot {n m F T R : Nat} {ns : List Str} {hB : Hd} {cc j : Nat} {r : Row} {sl : Sd} {h : Hd} (b : LQ n m F T R ns hB cc j r sl h) (k : Nat) (d : Option D) (hk : 7 ≤ k) : LQ n m F T R ns hB cc j r (sl.set k d) h :=
  { b with len := by rw [List.length_set]; exact b.len, s0 := by rw [List.getElem?_set_ne (by omega)]; exact b.s0, s1 := by rw [List.getElem?_set_ne (by omega)]; exact b.s1, s4 := by rw [List.getElem?_set_ne (by omega)]; exact b.s4, s5 := by rw [List.getElem?_set_ne (by omega)]; exact b.s5, s6 := by rw [List.getElem?_set_ne (by omega)]; exact b.s6 }
theorem p_part {ds : List D} {h : Hd} {q : D → Hd → Prop} (z : s__law_part ds h q) : v__law_part s__law_roll (endR q) (startD K02.N__law_part ds) h := by
  obtain ⟨n, c, m, t, ns, rfl, nm, dc, hc, em, kn, ht0, ht6, z⟩ := z
  have nlt := dc.lt
  have mlt := (List.getElem?_eq_some_iff.mp em).1
  have nsl := kn.le
  refine ⟨_, rfl, _, rfl, n, c, t, rfl, dc, by omega, ht0, by omega, fun h1 r0 g1 d1 hr0 => ?_⟩
  have eT : (1 : Int) + (r0 : Int) = ((r0 + 1 : Nat) : Int) := by omega
  have l1 := g1.1
  refine oAdd_int ?_
  rw [eT]
  dsimp only [MV.wNil]
  refine ⟨by show 0 ≤ sizeLine; decide, _, _, rfl, ?_⟩
  have b0 : LP n m c h1.length (r0 + 1) ns h 0 [] [] (((startD K02.N__law_part [.ref n, .ref m, .int (t : Nat)]).set 4 (some (.int ((r0 + 1 : Nat) : Int)))).set 5 (some (.ref h1.length))) (h1 ++ [Cell.lst []]) :=
    ⟨rfl, rfl, rfl, rfl, rfl, g1.x.app _, d1.app _, app_at, ⟨rfl, fun i p e => by simp at e⟩, rfl, (fun p hp => by cases hp), fun p hp => by cases hp⟩
  have hF : h.length ≤ h1.length := by omega
  generalize ((startD K02.N__law_part [.ref n, .ref m, .int (t : Nat)]).set 4 (some (.int ((r0 + 1 : Nat) : Int)))).set 5 (some (.ref h1.length)) = sl0 at b0 ⊢
  generalize h1.length = F at b0 hF ⊢
  generalize h1 ++ [Cell.lst []] = h2 at b0 ⊢
  have hT : r0 + 1 ≤ 8 := by omega
  generalize hTT : r0 + 1 = T at b0 hT ⊢
  have nF : F ≠ n := by omega
  have mF : m ≠ F := by omega
  refine ⟨_, b0.s4, (T : Int), rfl, by omega, by omega, ?_⟩
  dsimp only
  have lenR : (MP.rngD 0 (T : Int).toNat).length = T := by unfold MP.rngD; simp
  refine it_by (MP.rngD 0 (T : Int).toNat) (fun i sl h' => ∃ xs pl, LP n m c F T ns h i xs pl sl h') ⟨_, _, b0⟩ (fun i sl h' _ _ => rfl) (fun i x sl h' e p => ?_) (fun sl h' p => ?_)
  · obtain ⟨xs, pl, b⟩ := p
    have hi : i < T := by rw [← lenR]; exact (List.getElem?_eq_some_iff.mp e).1
    have b1 := b.slot 3 (some x)
    show MV.wSeq _ _ _ (sl.set 3 (some x)) h'
    generalize sl.set 3 (some x) = sl1 at b1 ⊢
    -- row = {}
    have hB := h'
    have q0 : LQ n m F T h'.length ns h' (c + 1 + 5 * i) 0 [] (sl1.set 6 (some (.ref h'.length))) (h' ++ [Cell.dct false false []]) :=
      ⟨by rw [List.length_set]; exact b1.len, by rw [List.getElem?_set_ne (by decide)]; exact b1.s0, by rw [List.getElem?_set_ne (by decide)]; exact b1.s1, by rw [List.getElem?_set_ne (by decide)]; exact b1.s4, by rw [List.getElem?_set_ne (by decide)]; exact b1.s5,
        List.getElem?_set_self (by rw [b1.len]; decide), Gx.refl.app _, b1.dc.app _, app_at, .nil, List.nil_sublist _⟩
    show MV.wSeq _ _ _ (sl1.set 6 (some (.ref h'.length))) (h' ++ [Cell.dct false false []])
    generalize sl1.set 6 (some (.ref h'.length)) = sl2 at q0 ⊢
    generalize h' ++ [Cell.dct false false []] = h3 at q0 ⊢
    have hR : h.length ≤ h'.length := b1.gx.1
    have Flt := (List.getElem?_eq_some_iff.mp b1.ls).1
    have em' := b1.gx.lst (Ne.symm nm) em
    have nlt' := b1.dc.lt
    refine ⟨_, q0.s1, m, ns.map .str, rfl, by unfold MP.items; rw [q0.gx.lst (Ne.symm nm) em'], ?_⟩
    refine it_by (ns.map .str) (fun j sl' h4 => ∃ r, LQ n m F T h'.length ns h' (c + 1 + 5 * i + j) j r sl' h4) ⟨_, q0⟩ (fun j sl' h4 _ p => by obtain ⟨r, p⟩ := p; unfold MP.itLst MP.items; rw [p.gx.lst (Ne.symm nm) em']; rfl) (fun j x sl' h4 e4 p => ?_) (fun sl' h4 p => ?_)
    · obtain ⟨r, p⟩ := p
      rw [List.getElem?_map] at e4
      obtain ⟨a, ea, rfl⟩ := Option.map_eq_some_iff.mp e4
      have hj : j < 4 := Nat.lt_of_lt_of_le (List.getElem?_eq_some_iff.mp ea).1 nsl
      have p1 := p.slot 7 (some (.str a)) (by decide)
      have t7 : (sl'.set 7 (some (D.str a)))[7]? = some (some (.str a)) := List.getElem?_set_self (by rw [p.len]; decide)
      show MV.wSeq _ _ _ (sl'.set 7 (some (D.str a))) h4
      generalize sl'.set 7 (some (D.str a)) = sl3 at p1 t7 ⊢
      refine ⟨_, p1.s0, _, p1.s4, ?_⟩
      dsimp only [MV.wC]
      refine oAdd_int ?_
      refine ⟨n, _, T + 1, rfl, p1.dc, by omega, by omega, by omega, fun h5 tg g5 d5 htg => ?_⟩
      have nR : h'.length ≠ n := by omega
      have p2 : LQ n m F T h'.length ns h' (c + 1 + 5 * i + (j + 1)) j r (sl3.set 8 (some (.int (tg : Nat)))) h5 :=
        let pp := p1.slot 8 (some (.int (tg : Nat))) (by decide)
        { pp with gx := p1.gx.trans g5.x, dc := d5, rw' := by rw [g5.2 _ nR]; exact p1.rw' }
      have u7 : (sl3.set 8 (some (D.int (tg : Nat))))[7]? = some (some (.str a)) := by rw [List.getElem?_set_ne (by decide)]; exact t7
      have u8 : (sl3.set 8 (some (D.int (tg : Nat))))[8]? = some (some (.int (tg : Nat))) := List.getElem?_set_self (by rw [p1.len]; decide)
      show MV.wIfS _ _ _ _ (sl3.set 8 (some (D.int (tg : Nat)))) h5
      generalize sl3.set 8 (some (D.int (tg : Nat))) = sl4 at p2 u7 u8 ⊢
      refine ⟨_, u8, _, p2.s4, _, rfl, ?_⟩
      by_cases hlt : tg < T
      · refine ift (by simpa using hlt) ?_
        refine ⟨_, u8, _, p2.s6, _, u7, ?_⟩
        refine oSet_dct p2.rw' rfl (by unfold rowK; rw [List.length_map]; exact size_small (Nat.le_trans p2.gr.len (by omega))) ?_
        rw [putD_row]
        exact ⟨putR r a tg, { p2 with gx := p2.gx.setN _ (Nat.le_refl _), dc := p2.dc.setN _ nR, rw' := set_at p2.rw', gr := p2.gr.put (List.mem_of_getElem? ea) hlt, od := ord_put kn.nd ea p2.od }⟩
      · refine iff_ (by simpa using hlt) ?_
        exact ⟨r, { p2 with od := ord_skip p2.od }⟩
    · obtain ⟨r, p⟩ := p
      rw [List.length_map] at p
      have lsF := p.gx.lst nF b1.ls
      refine ⟨_, p.s5, ⟨_, _, rfl, lsF⟩, ?_⟩
      refine ⟨_, p.s6, _, p.s0, ?_⟩
      dsimp only [MV.wC]
      refine ⟨n, _, 2, rfl, p.dc, by omega, by decide, by decide, fun h5 r2 g5 d5 hr2 => ?_⟩
      dsimp only [MV.wC, MV.wNil]
      have lsF5 := g5.lst nF lsF
      have nR : h'.length ≠ n := by omega
      have rw5 : h5[h'.length]? = some (.dct false false (rowK r)) := by rw [g5.2 _ nR]; exact p.rw'
      have it5 := (b1.it.gx b1.dc (p.gx.trans g5.x))
      have lx : xs.length = i := by rw [b1.it.1, b1.pn]
      refine ⟨by show 2 ≤ sizeLine; decide, F, xs, _, rfl, rfl, lsF5, by rw [lx]; exact size_small (by omega), ?_⟩
      have st := (it5.setL lsF5 (.lst (xs ++ [.tup [.ref h'.length, .bl (decide ((r2 : Int) = 0))]]))).snoc (decide ((r2 : Int) = 0)) (lk0 := false) (r := r) (R := h'.length) (by rw [List.getElem?_set_ne (by omega)]; exact rw5)
      refine ⟨_, _, p.len, p.s0, p.s1, p.s4, p.s5, ((b1.gx.trans p.gx).trans g5.x).setN _ hF, ?_, set_at lsF5, st, by simp [b1.pn], fun y hy => ?_, fun y hy => ?_⟩
      · obtain ⟨x1, x2, x3⟩ : ∃ cc, cc ≤ c + 1 + 5 * (i + 1) ∧ Dice cc h5 n := ⟨_, by omega, d5⟩
        exact (x3.mono x2).setN _ nF
      · rcases List.mem_append.mp hy with k | k
        · exact b1.gr y k
        · rw [List.mem_singleton] at k; rw [k]; exact p.gr
      · rcases List.mem_append.mp hy with k | k
        · exact b1.od y k
        · rw [List.mem_singleton] at k; rw [k]; exact p.od.trans (List.take_sublist _ _)
  · obtain ⟨xs, pl, b⟩ := p
    rw [lenR] at b
    refine ⟨_, b.s5, ?_⟩
    refine z h' F xs pl b.gx hF (b.dc.mono (by omega)) b.ls b.it ⟨by rw [b.pn]; omega, by rw [b.pn]; omega, (fun p hp => by rw [b.pn]; exact b.gr p hp), b.od⟩ (by rw [b.pn]; omega)
end K02S

set_option Elab.async false
set_option linter.all false
set_option maxRecDepth 100000
set_option maxHeartbeats 2000000
/-! K02M: the part of a plain one. -/
namespace K02S
open PySem PySem.Spec
open PyProof.Rows hiding St
open L2
open MP (D Cell Hd Sd WE WT WA WS WG WI EndsD ItD SpD endR startD itSeq items tyD truD getD putD keyOk wipeD lenD sortS ltS leS dctOf itKeys itVals PyR PyRs dictOfPairs)
open MV K02V
theorem dop : ∀ (kvs acc : List (D × D)), ((acc ++ kvs).map (·.1)).Nodup → kvs.foldl (fun acc p => putD acc p.1 p.2) acc = acc ++ kvs
  | [], acc, _ => by simp
  | p :: kvs, acc, nd => by
    rw [List.foldl_cons, putD_new]
    · rw [dop kvs (acc ++ [(p.1, p.2)]) (by simpa using nd)]; simp
    · intro x hx e
      rw [List.map_append, List.nodup_append] at nd
      exact nd.2.2 x.1 (List.mem_map.mpr ⟨x, hx, rfl⟩) p.1 (by simp) e
theorem dict_row {r : Row} (nd : (keysR r).Nodup) : dictOfPairs (rowK r) = rowK r := by
  unfold MP.dictOfPairs
  rw [dop _ _ (by
    rw [List.nil_append, rowK_keys]
    exact List.pairwise_map.mpr (nd.imp fun h z => h (by injection z)))]
  simp
theorem IsRows.push {h : Hd} {ds : List D} {rs : List Row} {d : D} {r : Row} (k : IsRows h ds rs) (e : IsRow h d r) : IsRows h (ds ++ [d]) (rs ++ [r]) := ⟨by simp [k.1], fun i d' r' a b => by
  by_cases hi : i < ds.length
  · rw [List.getElem?_append_left hi] at a
    rw [List.getElem?_append_left (by rw [← k.1]; exact hi)] at b
    exact k.2 i d' r' a b
  · rw [List.getElem?_append_right (by omega)] at a
    rw [List.getElem?_append_right (by rw [← k.1]; omega), ← k.1] at b
    have : i - ds.length = 0 := by
      have := (List.getElem?_eq_some_iff.mp a).1
      simp at this; omega
    rw [this] at a b
    simp at a b
    rw [← a, ← b]; exact e⟩
theorem rows_ok {ns : List Str} {pl : Pl} (k : GP ns pl) (s : NS ns) : RowsOk (rowsOf pl) := by
  have ln : (rowsOf pl).length = pl.length := by unfold rowsOf; simp
  refine ⟨fun r hr => ?_, by rw [ln]; exact k.pos, by rw [ln]; exact k.le, fun r hr p hp => ?_⟩
  · obtain ⟨y, hy, rfl⟩ := List.mem_map.mp hr
    exact (k.ok s).sm y hy
  · obtain ⟨y, hy, rfl⟩ := List.mem_map.mp hr
    refine ⟨(k.ok s).nm y hy p.1 (List.mem_map.mpr ⟨p, hp, rfl⟩), by rw [ln]; exact (k.row y hy).lt p hp⟩
def s__law_made_part : SpD := fun ds h q => ∃ F xs pl ns, ds = [.ref F] ∧ h[F]? = some (.lst xs) ∧ PlIts h xs pl ∧ GP ns pl ∧ NS ns ∧ ∀ h' d, Gr h h' → IsPartA h' d pl → q d h'
theorem p_made_part {ds : List D} {h : Hd} {q : D → Hd → Prop} (z : s__law_made_part ds h q) : v__law_made_part s_Part (endR q) (startD K02.N__law_made_part ds) h := by
  obtain ⟨F, xs, pl, ns, rfl, eF, hp, k, s, z⟩ := z
  have lx := hp.1
  have l8 := k.le
  refine ⟨_, rfl, F, xs, rfl, by unfold MP.items; rw [eF], ?_⟩
  refine lc_by ((xs.zipIdx).map fun p => D.tup [.int (p.2 : Nat), p.1]) (fun i acc h' => h' = h ∧ acc = natsD ((List.range i).filter (restS pl))) ⟨rfl, rfl⟩ (fun i acc h' _ p => by rw [p.1]; unfold MP.itEnum MP.items; rw [eF]; simp [List.getElem?_zipIdx]; rfl) (fun i x acc h' e p => ?_) (fun acc h' p => ?_)
  · obtain ⟨rfl, rfl⟩ := p
    rw [List.getElem?_map, List.getElem?_zipIdx] at e
    obtain ⟨y, ey, rfl⟩ := Option.map_eq_some_iff.mp e
    obtain ⟨x, ex, rfl⟩ := Option.map_eq_some_iff.mp ey
    have hi : i < pl.length := by rw [← lx]; exact (List.getElem?_eq_some_iff.mp ex).1
    obtain ⟨m, lk0, e1, e2⟩ := hp.2 i _ (List.getElem?_eq_getElem hi)
    rw [ex] at e1
    obtain rfl := Option.some.inj e1
    refine ⟨_, rfl, rfl, _, _, rfl, _, _, rfl, rfl, ?_⟩
    refine ⟨_, rfl, ?_⟩
    dsimp only [MV.wC]
    refine oIx_tup (i := 1) (d := .bl pl[i].2) rfl ?_
    refine ⟨pl[i].2, rfl, ?_⟩
    have rs : restS pl i = pl[i].2 := by unfold restS; rw [List.getElem?_eq_getElem hi]; rfl
    have fl : (List.range (i + 1)).filter (restS pl) = (List.range i).filter (restS pl) ++ if pl[i].2 = true then [i] else [] := by
      rw [List.range_succ, List.filter_append, ← rs]
      by_cases h : restS pl i = true
      · rw [if_pos h]; simp [h]
      · rw [if_neg h]; simp at h; simp [h]
    have ll : ((List.range i).filter (restS pl)).length ≤ i := by
      have := List.length_filter_le (restS pl) (List.range i)
      simpa using this
    cases eb : pl[i].2 with
    | true =>
      refine ift rfl ?_
      refine ⟨_, rfl, by unfold natsD; rw [List.length_map]; exact size_small (by omega), rfl, ?_⟩
      rw [fl, eb]; unfold natsD; simp
    | false =>
      refine iff_ rfl ?_
      refine ⟨rfl, ?_⟩
      rw [fl, eb]; simp
  · obtain ⟨rfl, rfl⟩ := p
    have le : ((xs.zipIdx).map fun p => D.tup [.int (p.2 : Nat), p.1]).length = pl.length := by simp [lx]
    rw [le]
    dsimp only [MV.wNil]
    refine ⟨_, items_last, ?_⟩
    have gr1 : Gr h' (h' ++ [Cell.lst (natsD ((List.range pl.length).filter (restS pl)))]) := .app _
    have eF1 := gr1.lst eF
    have hp1 := hp.gr gr1
    generalize h' ++ [Cell.lst (natsD ((List.range pl.length).filter (restS pl)))] = h1 at gr1 eF1 hp1 ⊢
    refine ⟨_, rfl, F, xs, rfl, by unfold MP.items; rw [eF1], ?_⟩
    refine lc_by xs (fun i acc h2 => Gr h1 h2 ∧ IsRows h2 acc (rowsOf (pl.take i))) ⟨.refl, rfl, fun i d r a => by simp at a⟩ (fun i acc h2 _ p => by unfold MP.itLst MP.items; rw [p.1.lst eF1]; rfl) (fun i x acc h2 e p => ?_) (fun acc h2 p => ?_)
    · obtain ⟨g2, hacc⟩ := p
      have hi : i < pl.length := by rw [← lx]; exact (List.getElem?_eq_some_iff.mp e).1
      obtain ⟨m, lk0, e1, e2⟩ := (hp1.gr g2).2 i _ (List.getElem?_eq_getElem hi)
      rw [e] at e1
      obtain rfl := Option.some.inj e1
      refine ift rfl ?_
      refine ⟨_, rfl, ?_⟩
      dsimp only [MV.wC]
      refine oIx_tup (i := 0) (d := .ref m) rfl ?_
      refine ⟨m, lk0, rowK pl[i].1, rfl, e2, ?_⟩
      dsimp only [MV.wNil]
      have gl : acc.length = i := by rw [hacc.1]; unfold rowsOf; rw [List.length_map, List.length_take]; omega
      refine ⟨_, rowK pl[i].1, rfl, items_last, by unfold rowK; rw [List.all_map]; exact List.all_eq_true.mpr fun p _ => rfl, ?_⟩
      have rk := k.row _ (List.getElem_mem hi)
      rw [dict_row rk.nd]
      have g3 : Gr h2 (h2 ++ [Cell.lst ((rowK pl[i].1).map fun p => D.tup [p.1, p.2])] ++ [.dct false false (rowK pl[i].1)]) := (Gr.app _).trans (.app _)
      refine ⟨by rw [gl]; exact size_small (by omega), g2.trans g3, ?_⟩
      have et : rowsOf (pl.take (i + 1)) = rowsOf (pl.take i) ++ [pl[i].1] := by
        unfold rowsOf
        rw [List.take_add_one, List.getElem?_eq_getElem hi, List.map_append]; rfl
      rw [et]
      exact (hacc.gr g3).push ⟨_, false, rfl, app_at⟩
    · obtain ⟨g2, hacc⟩ := p
      rw [lx, List.take_length] at hacc
      dsimp only [MV.wNil]
      refine ⟨_, items_last, ?_⟩
      have g3 : Gr h2 (h2 ++ [Cell.lst acc]) := .app _
      have hacc3 := hacc.gr g3
      generalize h2 ++ [Cell.lst acc] = h3 at g3 hacc3 ⊢
      refine ⟨_, rfl, ?_⟩
      dsimp only [MV.wNil]
      refine ⟨h3, acc, rowsOf pl, idx pl, rfl, rfl, hacc3, rows_ok k s, ⟨ns, by have := s.le; omega, fun x hx => ?_⟩, List.Pairwise.filter _ List.pairwise_lt_range, fun x hx => ?_, fun h4 refs' acts g4 e4 r4 ea => ⟨rfl, ?_⟩⟩
      · obtain ⟨r, hr, hx⟩ := List.mem_flatMap.mp hx
        obtain ⟨y, hy, rfl⟩ := List.mem_map.mp hr
        exact (k.row y hy).sub x hx
      · unfold rowsOf; rw [List.length_map]
        have := (List.mem_filter.mp hx).1
        simpa using this
      · exact z h4 _ (gr1.trans (g2.trans (g3.trans g4))) ⟨h3.length, refs', rfl, by rw [ea] at e4; exact e4, r4⟩
end K02S

set_option Elab.async false
set_option linter.all false
set_option maxRecDepth 100000
set_option maxHeartbeats 2000000
/-! K02A: what a part tells. -/
namespace K02S
open PySem PySem.Spec
open PyProof.Rows hiding St
open L2
open MP (D Cell Hd Sd WE WT WA WS WG WI EndsD ItD SpD SpGD endR endG startD itSeq items tyD truD getD putD keyOk wipeD lenD sortS ltS leS dctOf itKeys itVals itItems putFD hasF PyR PyRs)
open MV K02V
def s_require_most : SpD := fun ds h q => ∃ m : Nat, ds = [.int (m : Int)] ∧ m ≤ 6 ∧ ∀ h', Gr h h' → q .non h'
theorem p_require_most {ds : List D} {h : Hd} {q : D → Hd → Prop} (z : s_require_most ds h q) : v_require_most s_is_index (endR q) (startD K02.N_require_most ds) h := by
  obtain ⟨m, rfl, hm, z⟩ := z
  refine ⟨_, rfl, ?_⟩
  refine ⟨.int m, 7, rfl, trivial, fun h1 g1 => ⟨_, rfl, ?_⟩⟩
  have : indexD 7 (.int (m : Int)) = true := by simp [indexD]; omega
  rw [this]
  exact iff_ rfl (z _ g1)
def s_Part_steps : SpD := fun ds h q => ∃ dp pl, ds = [dp] ∧ IsPart h dp pl ∧ (∀ p ∈ pl, RowOk p.1) ∧ pl.length ≤ 8 ∧ ∀ h' refs', Gr h h' → IsRows h' refs' (((rowsOf pl).map srt).map srt) → FrD h h' refs' → q (.tup refs') h'
theorem p_Part_steps {ds : List D} {h : Hd} {q : D → Hd → Prop} (z : s_Part_steps ds h q) : v_Part_steps s_sorted_rows (endR q) (startD K02.N_Part_steps ds) h := by
  obtain ⟨dp, pl, rfl, ⟨n, refs, acts, rfl, e, hr⟩, ok, h8, z⟩ := z
  refine ⟨_, rfl, n, "Part", _, .tup refs, rfl, e, hasPart, rfl, refs, (rowsOf pl).map srt, rfl, hr, fun r hr' => ?_, by simpa [rowsOf] using h8, z⟩
  obtain ⟨r0, h0, rfl⟩ := List.mem_map.mp hr'
  obtain ⟨p, hp, rfl⟩ := List.mem_map.mp h0
  exact (ok p hp).srt
def s_Part_rests : SpD := fun ds h q => ∃ dp pl, ds = [dp] ∧ IsPart h dp pl ∧ q (.tup (natsD (idx pl))) h
theorem p_Part_rests {ds : List D} {h : Hd} {q : D → Hd → Prop} (z : s_Part_rests ds h q) : v_Part_rests (endR q) (startD K02.N_Part_rests ds) h := by
  obtain ⟨dp, pl, rfl, ⟨n, refs, acts, rfl, e, hr⟩, z⟩ := z
  exact ⟨_, rfl, n, "Part", _, .tup (natsD (idx pl)), rfl, e, hasPart, rfl, z⟩
theorem hasPart1 : hasF ["Part"] "Part" = true := by decide +kernel
def s_Part_actions : SpD := fun ds h q => ∃ dp pl, ds = [dp] ∧ IsPartA h dp pl ∧ q (actD pl) h
theorem p_Part_actions {ds : List D} {h : Hd} {q : D → Hd → Prop} (z : s_Part_actions ds h q) : v_Part_actions (endR q) (startD K02.N_Part_actions ds) h := by
  obtain ⟨dp, pl, rfl, ⟨n, refs, rfl, e, hr⟩, z⟩ := z
  exact ⟨_, rfl, n, "Part", _, actD pl, rfl, e, hasPart1, rfl, z⟩
def s_Part_len : SpD := fun ds h q => ∃ dp pl, ds = [dp] ∧ IsPart h dp pl ∧ q (.int (pl.length : Nat)) h
theorem IsRows.plen {h : Hd} {refs : List D} {pl : Pl} (k : IsRows h refs ((rowsOf pl).map srt)) : refs.length = pl.length := by
  have := k.1
  simpa [rowsOf] using this
theorem p_Part_len {ds : List D} {h : Hd} {q : D → Hd → Prop} (z : s_Part_len ds h q) : v_Part_len (endR q) (startD K02.N_Part_len ds) h := by
  obtain ⟨dp, pl, rfl, ⟨n, refs, acts, rfl, e, hr⟩, z⟩ := z
  have hl := hr.plen
  refine ⟨_, rfl, n, "Part", _, .tup refs, rfl, e, hasPart, rfl, _, refs.length, rfl, rfl, ?_⟩
  rw [hl]; exact z
def s_Part_offer : SpD := fun ds h q => ∃ dp pl s, ds = [dp, .int (s : Nat)] ∧ IsPart h dp pl ∧ s < pl.length ∧ PlOk pl ∧ ∀ h', Gr h h' → q (offD pl s) h'
theorem p_Part_offer {ds : List D} {h : Hd} {q : D → Hd → Prop} (z : s_Part_offer ds h q) : v_Part_offer s_is_index s_offer_at (endR q) (startD K02.N_Part_offer ds) h := by
  obtain ⟨dp, pl, s, rfl, hp, hs, ok, z⟩ := z
  have hp0 := hp
  obtain ⟨n, refs, acts, rfl, e, hr⟩ := hp0
  have hl := hr.plen
  refine ⟨_, rfl, _, rfl, n, "Part", _, .tup refs, rfl, e, hasPart, rfl, _, refs.length, rfl, rfl, .int (s : Nat), (refs.length : Nat), rfl, trivial, fun h1 g1 => ⟨_, rfl, ?_⟩⟩
  have : indexD ((refs.length : Nat) : Int) (.int ((s : Nat) : Int)) = true := by simp [indexD]; omega
  rw [this]
  refine iff_ rfl ?_
  exact ⟨_, rfl, _, rfl, _, pl, s, rfl, hp.gr g1, hs, ok.le, fun p hp => (ok.sm p hp).sm, fun h2 g2 => z _ (g1.trans g2)⟩
theorem word_of {x : D} (h : wordD x = true) : ∃ w : List Str, x = .tup (w.map .str) ∧ ∀ y ∈ w, nameS y = true := by
  cases x with
  | tup xs =>
    have : ∀ xs : List D, xs.all nameD = true → ∃ w : List Str, xs = w.map .str ∧ ∀ y ∈ w, nameS y = true := by
      intro xs
      induction xs with
      | nil => intro _; exact ⟨[], rfl, fun y hy => (by cases hy)⟩
      | cons x xs ih =>
        intro h
        rw [List.all_cons, Bool.and_eq_true] at h
        obtain ⟨w, rfl, hw⟩ := ih h.2
        cases x with
        | str y => exact ⟨y :: w, rfl, fun v hv => by
            rcases List.mem_cons.mp hv with q | q
            · rw [q]; exact h.1
            · exact hw v q⟩
        | _ => exact absurd h.1 Bool.false_ne_true
    obtain ⟨w, rfl, hw⟩ := this xs h
    exact ⟨w, rfl, hw⟩
  | _ => exact absurd h Bool.false_ne_true
def s_Part_contains : SpD := fun ds h q => ∃ dp pl x, ds = [dp, x] ∧ IsPart h dp pl ∧ Closed pl ∧ okW h x ∧ ∀ h', Gr h h' → (wordD x = false → q (.bl false) h') ∧ ∀ w : List Str, x = .tup (w.map .str) → (∀ y ∈ w, nameS y = true) → q (.bl (after pl w).isSome) h'
theorem optD_some (o : Option Nat) : (!decide (optD o = .non)) = o.isSome := by cases o <;> simp [optD]
theorem p_Part_contains {ds : List D} {h : Hd} {q : D → Hd → Prop} (z : s_Part_contains ds h q) : v_Part_contains s_state_after s_is_word (endR q) (startD K02.N_Part_contains ds) h := by
  obtain ⟨dp, pl, x, rfl, hp, cl, hx, z⟩ := z
  refine ⟨_, rfl, x, rfl, hx, fun h1 g1 => ⟨_, rfl, ?_⟩⟩
  cases hw : wordD x with
  | false => exact iff_ rfl ((z _ g1).1 hw)
  | true =>
    obtain ⟨w, rfl, hn⟩ := word_of hw
    refine ift rfl ?_
    refine ⟨_, rfl, _, rfl, dp, pl, w, rfl, hp.gr g1, cl, ?_⟩
    have := (z _ g1).2 w rfl hn
    rw [← optD_some] at this
    exact this
def s_Part_getitem : SpD := fun ds h q => ∃ dp pl w s, ds = [dp, .tup (w.map .str)] ∧ IsPart h dp pl ∧ PlOk pl ∧ (∀ y ∈ w, nameS y = true) ∧ w.length < sizeLine ∧ after pl w = some s ∧ ∀ h', Gr h h' → q (offD pl s) h'
theorem p_Part_getitem {ds : List D} {h : Hd} {q : D → Hd → Prop} (z : s_Part_getitem ds h q) : v_Part_getitem s_offer_at s_state_after s_Part_contains (endR q) (startD K02.N_Part_getitem ds) h := by
  obtain ⟨dp, pl, w, s, rfl, hp, ok, hn, hl, ha, z⟩ := z
  have hp0 := hp
  obtain ⟨n, refs, acts, rfl, e, hr⟩ := hp0
  refine ⟨_, rfl, _, rfl, ⟨n, _, rfl, e⟩, .ref n, pl, .tup (w.map .str), rfl, hp, ok.cl, (word_ok hn hl).1, fun h1 g1 => ⟨fun hw => ?_, fun v ev hv => ?_⟩⟩
  · rw [(word_ok (h := h) hn hl).2] at hw; cases hw
  · have : v = w := by
      injection ev with ev
      exact ((List.map_inj_right fun a b e => by injection e).mp ev).symm
    subst this
    refine ⟨_, rfl, _, rfl, ?_⟩
    rw [ha]
    refine iff_ rfl ?_
    refine ⟨_, rfl, _, rfl, _, rfl, _, pl, v, rfl, hp.gr g1, ok.cl, ?_⟩
    rw [ha]
    exact ⟨_, pl, s, rfl, hp.gr g1, after_lt ok.cl ha, ok.le, fun p hp => (ok.sm p hp).sm, fun h2 g2 => z _ (g1.trans g2)⟩
end K02S

set_option Elab.async false
set_option linter.all false
set_option maxRecDepth 100000
set_option maxHeartbeats 2000000
/-! K02B: a part's text, equality, words. -/
namespace K02S
open PySem PySem.Spec
open PyProof.Rows hiding St
open L2
open MP (D Cell Hd Sd WE WT WA WS WG WI EndsD ItD SpD SpGD endR endG startD itSeq items tyD truD getD putD keyOk wipeD lenD sortS ltS leS dctOf itKeys itVals itItems putFD hasF PyR PyRs)
open MV K02V
/-- the text -/
def partS (n m : Nat) : Str := ("part of " : Str) ++ toString (n : Int) ++ (" states, " : Str) ++ toString (m : Int) ++ (" actions" : Str)
theorem log_small {n : Nat} (h : n ≤ 1000) : ((n : Int)).natAbs.log2 < 1920 := by
  have : n.log2 ≤ n := Nat.log2_le_self n
  simp only [Int.natAbs_natCast]
  omega
def smallS : Nat → Bool := fun n => decide ((toString (n : Int) : Str).length ≤ 4)
theorem small_all : ((List.range 65).all smallS) = true := by decide +kernel
theorem small_len {n : Nat} (h : n ≤ 64) : (toString (n : Int) : Str).length ≤ 4 := by
  have := List.all_eq_true.mp small_all n (List.mem_range.mpr (by omega))
  exact of_decide_eq_true this
theorem str_len (a b : Str) : (a ++ b).length = a.length + b.length := by
  show (a.cps ++ b.cps).size = a.cps.size + b.cps.size
  simp
theorem str_empty (a : Str) : Str.empty ++ a = a := by
  show (⟨(#[] : Array Nat) ++ a.cps⟩ : Str) = a
  simp
def s_Part_str : SpD := fun ds h q => ∃ dp pl, ds = [dp] ∧ IsPartA h dp pl ∧ pl.length ≤ 8 ∧ (actS (rowsOf pl)).length ≤ 56 ∧ q (.str (partS pl.length (actS (rowsOf pl)).length)) h
theorem p_Part_str {ds : List D} {h : Hd} {q : D → Hd → Prop} (z : s_Part_str ds h q) : v_Part_str (endR q) (startD K02.N_Part_str ds) h := by
  obtain ⟨dp, pl, rfl, ⟨n, refs, rfl, e, hr⟩, h8, h56, z⟩ := z
  have hl := hr.plen
  have b1 := small_len (n := pl.length) (by omega)
  have b2 := small_len (n := (actS (rowsOf pl)).length) (by omega)
  have c0 : ("part of " : Str).length = 8 := by decide +kernel
  have c1 : (" states, " : Str).length = 9 := by decide +kernel
  have c2 : (" actions" : Str).length = 8 := by decide +kernel
  have sz : sizeLine = 16777216 := sizeLine_eq
  refine ⟨_, rfl, by rw [str_empty, c0]; omega, ?_⟩
  refine ⟨_, rfl, n, "Part", _, .tup refs, rfl, e, hasPart, rfl, _, refs.length, rfl, rfl, .inr ⟨_, rfl, log_small (by omega), _, rfl, by rw [str_len, str_empty, hl]; omega, ?_⟩⟩
  refine ⟨_, rfl, by rw [str_len, str_len, str_empty, hl]; omega, ?_⟩
  refine ⟨_, rfl, n, "Part", _, actD pl, rfl, e, hasPart1, rfl, _, (actS (rowsOf pl)).length, rfl, by simp [lenD, actD], .inr ⟨_, rfl, log_small (by omega), _, rfl, by rw [str_len, str_len, str_len, str_empty, hl]; omega, ?_⟩⟩
  refine ⟨_, rfl, by rw [str_len, str_len, str_len, str_len, str_empty, hl]; omega, ?_⟩
  rw [str_empty, hl]
  exact z
/-! ### == -/
def intsP (ns : List Nat) : List PyData := ns.map fun (n : Nat) => PyData.int (n : Int)
theorem pyRs_nat (h : Hd) : ∀ ns : List Nat, PyRs h (natsD ns) (intsP ns)
  | [] => .nil
  | n :: ns => .cons (.int _) (pyRs_nat h ns)
theorem eqv_ints : ∀ a b : List Nat, PyData.eqvAll (intsP a) (intsP b) = decide (a = b)
  | [], [] => rfl
  | [], _ :: _ => rfl
  | _ :: _, [] => rfl
  | x :: a, y :: b => by
    have e : PyData.eqvAll (intsP (x :: a)) (intsP (y :: b)) = (PyData.eqv (.int x) (.int y) && PyData.eqvAll (intsP a) (intsP b)) := by simp [intsP, PyData.eqvAll]
    rw [e, eqv_ints a b]
    have : PyData.eqv (.int (x : Int)) (.int (y : Int)) = decide (x = y) := by
      simp only [PyData.eqv]
      by_cases e : x = y
      · simp [e]
      · have : ¬ ((x : Int) = (y : Int)) := fun q => e (by omega)
        simp [e, this]
    rw [this, Bool.eq_iff_iff]
    simp
theorem can_ints : ∀ ns : List Nat, PyData.canLayAll0 (intsP ns) = true ∧ PyData.depthAll (intsP ns) = 0
  | [] => ⟨rfl, rfl⟩
  | n :: ns => by
    obtain ⟨h1, h2⟩ := can_ints ns
    unfold intsP at *
    rw [List.map_cons]
    exact ⟨by rw [PyData.canLayAll0, PyData.canLay0, h1]; rfl, by rw [PyData.depthAll, PyData.depth, h2]; rfl⟩
theorem ints_shaped (ns : List Nat) : SeqAt.shaped (.tuple (intsP ns)) = true := by
  obtain ⟨h1, h2⟩ := can_ints ns
  unfold SeqAt.shaped
  simp only [PyData.canLay0, h1, PyData.depth, h2]
  decide
theorem eq_ints {h : Hd} {a b : List Nat} {Q : D → Hd → Prop} (z : Q (.bl (decide (a = b))) h) : MV.oEq false (.tup (natsD a)) (.tup (natsD b)) h Q := by
  refine ⟨.tuple (intsP a), .tuple (intsP b), .tup (pyRs_nat _ _), .tup (pyRs_nat _ _), ints_shaped _, ints_shaped _, ?_⟩
  have : PyData.eqv (.tuple (intsP a)) (.tuple (intsP b)) = decide (a = b) := by rw [← eqv_ints]; simp [PyData.eqv]
  rw [this]; exact z
/-! rows -/
theorem dictD_self {r : Row} (nd : (keysR r).Nodup) : MP.dictD (rowK r) (rowK r) = true := by
  unfold MP.dictD
  rw [List.all_eq_true]
  intro p hp
  obtain ⟨x, hx, rfl⟩ := List.mem_map.mp hp
  have : getD (rowK r) (.str x.1) = some (.int x.2) := by rw [getD_rowK, lk_nodup nd hx]; rfl
  show (match getD (rowK r) (.str x.1) with | some u => decide ((D.int (x.2 : Int)) = u) | none => false) = true
  rw [this]; simp
theorem cellK_row {h : Hd} {d : D} {r : Row} (k : IsRow h d r) : MP.cellK h d = some (rowK r) := by
  obtain ⟨n, lk0, rfl, e⟩ := k
  simp [MP.cellK, e]
theorem intRows_of {h : Hd} {refs : List D} {rs : List Row} (k : IsRows h refs rs) : MP.intRows h refs := fun d hd => by
  obtain ⟨i, hi, rfl⟩ := List.getElem_of_mem hd
  obtain ⟨r, _, kr⟩ := k.at (List.getElem?_eq_getElem hi)
  refine ⟨_, cellK_row kr, fun p hp => ?_⟩
  obtain ⟨x, _, rfl⟩ := List.mem_map.mp hp
  exact ⟨_, rfl⟩
theorem rowsD_self {h : Hd} {xs ys : List D} {rs : List Row} (k1 : IsRows h xs rs) (k2 : IsRows h ys rs) (ok : ∀ r ∈ rs, (keysR r).Nodup) : MP.rowsD h xs ys = true := by
  unfold MP.rowsD
  have hl : xs.length = ys.length := by rw [k1.1, k2.1]
  rw [Bool.and_eq_true]
  refine ⟨?_, by simp [hl]⟩
  unfold SeqAt.agree
  rw [List.all_eq_true]
  intro j hj
  have hj := List.mem_range.mp (List.mem_of_mem_drop hj)
  have h1 : j < xs.length := by omega
  have h2 : j < ys.length := by omega
  obtain ⟨r, er, kr1⟩ := k1.at (List.getElem?_eq_getElem h1)
  have kr2 := k2.2 j _ r (List.getElem?_eq_getElem h2) er
  unfold MP.rowDAt
  rw [List.getElem?_eq_getElem h1, List.getElem?_eq_getElem h2]
  simp only [Option.bind_some, cellK_row kr1, cellK_row kr2]
  unfold MP.rowD
  rw [dictD_self (ok r (List.mem_of_getElem? er))]; simp
theorem rowsD_len {h : Hd} {xs ys : List D} (hl : xs.length ≠ ys.length) : MP.rowsD h xs ys = false := by
  unfold MP.rowsD
  rw [Bool.and_eq_false_iff]
  exact .inr (by simpa using hl)
def s_Part_eq : SpD := fun ds h q => ∃ dp pl y, ds = [dp, y] ∧ IsPart h dp pl ∧ PlOk pl ∧ (((∃ x, y = .str x) ∨ ∃ xs, y = .tup xs) ∧ q (.bl false) h ∨
  ∃ pl2, IsPart h y pl2 ∧ (rowsOf pl2 = rowsOf pl ∧ q (.bl (decide (idx pl = idx pl2))) h ∨ pl2.length ≠ pl.length ∧ q (.bl false) h))
theorem p_Part_eq {ds : List D} {h : Hd} {q : D → Hd → Prop} (z : s_Part_eq ds h q) : v_Part_eq (endR q) (startD K02.N_Part_eq ds) h := by
  obtain ⟨dp, pl, y, rfl, ⟨n, refs, acts, rfl, e, hr⟩, ok, z⟩ := z
  rcases z with ⟨hy, z⟩ | ⟨pl2, ⟨n2, refs2, acts2, rfl, e2, hr2⟩, z⟩
  · rcases hy with ⟨x, rfl⟩ | ⟨xs, rfl⟩
    · exact ⟨_, rfl, .inl "str", false, rfl, rfl, false, rfl, iff_ rfl z⟩
    · exact ⟨_, rfl, .inl "tuple", false, rfl, rfl, false, rfl, iff_ rfl z⟩
  · refine ⟨_, rfl, .inr "Part", true, by simp only [tyD, e2], rfl, true, rfl, ?_⟩
    refine ift rfl ?_
    refine ⟨_, rfl, n, "Part", _, .tup refs, rfl, e, hasPart, rfl, ?_⟩
    refine ⟨_, rfl, n2, "Part", _, .tup refs2, rfl, e2, hasPart, rfl, ?_⟩
    refine ⟨refs, refs2, rfl, rfl, intRows_of hr, intRows_of hr2, ?_⟩
    rcases z with ⟨er, z⟩ | ⟨hl, z⟩
    · have : MP.rowsD h refs refs2 = true := rowsD_self hr (by rw [er] at hr2; exact hr2) fun r hr' => by
        obtain ⟨r0, h0, rfl⟩ := List.mem_map.mp hr'
        obtain ⟨p, hp, rfl⟩ := List.mem_map.mp h0
        exact (ok.sm p hp).srt.nd
      refine ⟨_, rfl, ?_⟩
      rw [this]
      refine ift rfl ?_
      refine ⟨_, rfl, n, "Part", _, .tup (natsD (idx pl)), rfl, e, hasPart, rfl, ?_⟩
      refine ⟨_, rfl, n2, "Part", _, .tup (natsD (idx pl2)), rfl, e2, hasPart, rfl, ?_⟩
      exact eq_ints z
    · have : MP.rowsD h refs refs2 = false := rowsD_len (by rw [hr.plen, hr2.plen]; exact Ne.symm hl)
      refine ⟨_, rfl, ?_⟩
      rw [this]
      exact iff_ rfl z
end K02S

set_option Elab.async false
set_option linter.all false
set_option maxRecDepth 100000
set_option maxHeartbeats 2000000
/-! K02W2: a part's words. -/
namespace K02S
open PySem PySem.Spec
open PyProof.Rows hiding St
open L2
open MP (D Cell Hd Sd WE WT WA WS WG WI EndsD ItD SpD SpGD endR endG startD itSeq items tyD truD getD putD keyOk wipeD lenD sortS ltS leS dctOf itKeys itVals itItems putFD hasF PyR PyRs)
open MV K02V
/-- the row of a state, with ascending keys -/
def srow (pl : Pl) (s : Nat) : Row := ((pl[s]?).map fun p => srt p.1).getD []
def layerS (pl : Pl) : Nat → List (List Str × Nat)
  | 0 => [([], 0)]
  | i + 1 => (layerS pl i).flatMap fun e => (srow pl e.2).map fun p => (e.1 ++ [p.1], p.2)
def wordsS (pl : Pl) (m : Nat) : List (List Str) := (List.range m).flatMap fun i => (layerS pl i).map (·.1)
def wT (w : List Str) : D := .tup (w.map .str)
def pD (e : List Str × Nat) : D := .tup [wT e.1, .int e.2]
theorem itItems_at {h : Hd} {n : Nat} {t : Bool} {kvs : List (D × D)} (e : h[n]? = some (.dct t true kvs)) (i : Nat) : itItems n i h = some ((kvs.map fun p => D.tup [p.1, p.2])[i]?) := by
  unfold MP.itItems MP.dctOf; rw [e]; simp
structure WOk (pl : Pl) : Prop where
  ok : PlOk pl
  r4 : ∀ p ∈ pl, p.1.length ≤ 4
theorem srt_len (r : Row) : (srt r).length = r.length := by unfold srt; rw [List.length_map, MP.sortS_length]; unfold keysR; simp
theorem srow_at {pl : Pl} {s : Nat} {p : Row × Bool} (e : pl[s]? = some p) : srow pl s = srt p.1 := by unfold srow; rw [e]; rfl
theorem srow_len {pl : Pl} (k : WOk pl) (s : Nat) : (srow pl s).length ≤ 4 := by
  unfold srow
  cases e : pl[s]? with
  | none => simp
  | some p => simp only [Option.map_some, Option.getD_some, srt_len]; exact k.r4 p (List.mem_of_getElem? e)
theorem layer_len {pl : Pl} (k : WOk pl) : ∀ i, (layerS pl i).length ≤ 4 ^ i
  | 0 => Nat.le_refl _
  | i + 1 => by
    have ih := layer_len k i
    have : ∀ l : List (List Str × Nat), (l.flatMap fun e => (srow pl e.2).map fun p => (e.1 ++ [p.1], p.2)).length ≤ 4 * l.length := by
      intro l
      induction l with
      | nil => simp
      | cons e l ih =>
        have := srow_len k e.2
        simp only [List.flatMap_cons, List.length_append, List.length_map, List.length_cons]
        omega
    have := this (layerS pl i)
    show ((layerS pl i).flatMap _).length ≤ _
    rw [Nat.pow_succ]; omega
theorem mem_srow {pl : Pl} {s : Nat} {p : Str × Nat} (h : p ∈ srow pl s) : step pl s p.1 = some p.2 := by
  unfold srow at h
  cases e : pl[s]? with
  | none => rw [e] at h; cases h
  | some y =>
    rw [e] at h
    have h : p ∈ srt y.1 := h
    unfold step
    rw [e]
    show lk y.1 p.1 = some p.2
    unfold srt at h
    obtain ⟨a, ha, rfl⟩ := List.mem_map.mp h
    obtain ⟨n, en⟩ := lk_mem (MP.mem_sortS.mp ha)
    show lk y.1 a = some ((lk y.1 a).getD 0)
    rw [en]; rfl
theorem layer_ok {pl : Pl} (k : WOk pl) : ∀ i, ∀ e ∈ layerS pl i, e.2 < pl.length ∧ e.1.length = i
  | 0, e, h => by
    rw [layerS, List.mem_singleton] at h
    rw [h]; exact ⟨k.ok.cl.1, rfl⟩
  | i + 1, e, h => by
    rw [layerS, List.mem_flatMap] at h
    obtain ⟨e0, h0, h⟩ := h
    obtain ⟨p, hp, rfl⟩ := List.mem_map.mp h
    obtain ⟨a, b⟩ := layer_ok k i e0 h0
    exact ⟨k.ok.cl.2 _ _ _ (mem_srow hp), by simp [b]⟩
def s_Part_words : SpGD := fun ds h q => ∃ dp pl m, ds = [dp, .int (m : Nat)] ∧ IsPart h dp pl ∧ WOk pl ∧ m ≤ 3 ∧ ∀ h', Gr h h' → q ((wordsS pl (m + 1)).map wT) h'
structure WI2 (h0 : Hd) (dp : D) (pl : Pl) (i : Nat) (yd : List D) (sl : Sd) (h : Hd) : Prop where
  len : sl.length = 9
  s0 : sl[0]? = some (some dp)
  gr : Gr h0 h
  ly : ∃ L, sl[2]? = some (some (.ref L)) ∧ h[L]? = some (.lst ((layerS pl i).map pD))
  yd : yd = (wordsS pl i).map wT
theorem words_succ (pl : Pl) (i : Nat) : wordsS pl (i + 1) = wordsS pl i ++ (layerS pl i).map (·.1) := by
  unfold wordsS; rw [List.range_succ, List.flatMap_append]; simp
theorem words_len {pl : Pl} (k : WOk pl) : ∀ {i : Nat}, i ≤ 4 → (wordsS pl i).length ≤ 85
  | 0, _ => Nat.zero_le _
  | 1, _ => by
    have := layer_len k 0
    rw [words_succ]; simp [wordsS] at this ⊢; omega
  | 2, _ => by
    have h0 := layer_len k 0
    have h1 := layer_len k 1
    rw [words_succ, words_succ]; simp [wordsS] at h0 h1 ⊢; omega
  | 3, _ => by
    have h0 := layer_len k 0
    have h1 := layer_len k 1
    have h2 := layer_len k 2
    rw [words_succ, words_succ, words_succ]; simp [wordsS] at h0 h1 h2 ⊢; omega
  | 4, _ => by
    have h0 := layer_len k 0
    have h1 := layer_len k 1
    have h2 := layer_len k 2
    have h3 := layer_len k 3
    rw [words_succ, words_succ, words_succ, words_succ]; simp [wordsS] at h0 h1 h2 h3 ⊢; omega
  | n + 5, h => by omega
theorem layer64 {pl : Pl} (k : WOk pl) {i : Nat} (h : i ≤ 3) : (layerS pl i).length ≤ 64 := by
  have := layer_len k i
  have h2 : (4 : Nat) ^ i ≤ 4 ^ 3 := Nat.pow_le_pow_right (by decide) h
  have h3 : (4 : Nat) ^ 3 = 64 := by decide
  omega
theorem layer_take {pl : Pl} {i j : Nat} {e : List Str × Nat} (he : (layerS pl i)[j]? = some e) :
    ((layerS pl i).take (j + 1)).flatMap (fun e => (srow pl e.2).map fun p => (e.1 ++ [p.1], p.2)) = ((layerS pl i).take j).flatMap (fun e => (srow pl e.2).map fun p => (e.1 ++ [p.1], p.2)) ++ (srow pl e.2).map fun p => (e.1 ++ [p.1], p.2) := by
  rw [List.take_add_one, he, List.flatMap_append]; simp
end K02S

set_option Elab.async false
set_option linter.all false
set_option maxRecDepth 100000
set_option maxHeartbeats 2000000
/-! K02W3: a part's words: the generator. -/
namespace K02S
open PySem PySem.Spec
open PyProof.Rows hiding St
open L2
open MP (D Cell Hd Sd WE WT WA WS WG WI EndsD ItD SpD SpGD endR endG startD itSeq items tyD truD getD putD keyOk wipeD lenD sortS ltS leS dctOf itKeys itVals itItems putFD hasF PyR PyRs)
open MV K02V
theorem git_by {t : ItD} {B : D → List D → Sd → Hd → (List D → Sd → Hd → Prop) → Prop} {Qf : List D → Sd → Hd → Prop} {y0 : List D} {a0 : Sd} {h1 : Hd} (xs : List D) (Pv : Nat → List D → Sd → Hd → Prop) (h0 : Pv 0 y0 a0 h1) (ht : ∀ i y a h, i ≤ xs.length → Pv i y a h → t i h = some xs[i]?)
    (hs : ∀ i x y a h, xs[i]? = some x → Pv i y a h → B x y a h (Pv (i + 1))) (hd : ∀ y a h, Pv xs.length y a h → Qf y a h) :
    ∃ W : Nat → Nat → List D → Sd → Hd → Prop, (∃ m, W 0 m y0 a0 h1) ∧ ∀ i m y a h, W i m y a h →
      (t i h = some none ∧ Qf y a h) ∨ ∃ d, t i h = some (some d) ∧ ∃ N : List D → Sd → Hd → Prop, (∀ y' a' h', N y' a' h' → ∃ m', m' < m ∧ W (i + 1) m' y' a' h') ∧ B d y a h N := by
  refine ⟨fun i m y a h => m = xs.length - i ∧ i ≤ xs.length ∧ Pv i y a h, ⟨xs.length, by simp, Nat.zero_le _, h0⟩, ?_⟩
  rintro i m y a h ⟨rfl, hi, p⟩
  have q := ht i y a h hi p
  by_cases hlt : i < xs.length
  · have e : xs[i]? = some xs[i] := List.getElem?_eq_getElem hlt
    exact .inr ⟨xs[i], by rw [q, e], Pv (i + 1), fun y' a' h' p' => ⟨xs.length - (i + 1), by omega, rfl, hlt, p'⟩, hs i _ y a h e p⟩
  · have e : i = xs.length := by omega
    subst e
    exact .inl ⟨by rw [q, List.getElem?_eq_none (Nat.le_refl _)], hd y a h p⟩
theorem wipe_ne {i : Nat} : ∀ {vs : List Nat} {sl : Sd}, i ∉ vs → (wipeD sl vs)[i]? = sl[i]?
  | [], _, _ => rfl
  | v :: vs, sl, h => by
    have h1 : i ≠ v ∧ i ∉ vs := by simpa using h
    show ((wipeD sl vs).set v none)[i]? = _
    rw [List.getElem?_set_ne (Ne.symm h1.1)]
    exact wipe_ne h1.2
def rfD (refs : List D) (e : List Str × Nat) : D := .tup [wT e.1, (refs[e.2]?).getD .non]
theorem p_Part_words {ds : List D} {h : Hd} {q : List D → Hd → Prop} (z : s_Part_words ds h q) : v_Part_words s_require_most (endG q) [] (startD K02.N_Part_words ds) h := by
  obtain ⟨dp, pl, m, rfl, hp, k, hm, z⟩ := z
  refine ⟨_, rfl, m, rfl, by omega, fun h1 g1 => ?_⟩
  refine ⟨by show 0 ≤ sizeLine; decide, by show 2 ≤ sizeLine; decide, by show 1 ≤ sizeLine; decide, ?_⟩
  have b0 : WI2 h dp pl 0 [] ((startD K02.N_Part_words [dp, .int (m : Nat)]).set 2 (some (.ref h1.length))) (h1 ++ [Cell.lst [.tup [.tup [], .int 0]]]) :=
    ⟨rfl, rfl, g1.trans (.app _), ⟨_, rfl, app_at⟩, rfl⟩
  have s1 : ((startD K02.N_Part_words [dp, .int (m : Nat)]).set 2 (some (.ref h1.length)))[1]? = some (some (.int (m : Nat))) := rfl
  dsimp only [MV.wNm]
  generalize (startD K02.N_Part_words [dp, .int (m : Nat)]).set 2 (some (.ref h1.length)) = sl0 at b0 s1 ⊢
  generalize h1 ++ [Cell.lst [.tup [.tup [], .int 0]]] = h2 at b0 ⊢
  refine ⟨_, s1, (m : Int) + 1, rfl, by omega, by omega, ?_⟩
  have lenR : (MP.rngD 0 ((m : Int) + 1).toNat).length = m + 1 := by unfold MP.rngD; simp
  refine git_by (MP.rngD 0 ((m : Int) + 1).toNat) (WI2 h dp pl) b0 (fun i y a h' _ _ => rfl) (fun i x y sl h' e b => ?_) (fun y sl h' b => ?_)
  · have hi : i < m + 1 := by rw [← lenR]; exact (List.getElem?_eq_some_iff.mp e).1
    have hi3 : i ≤ 3 := by omega
    have l64 := layer64 k hi3
    obtain ⟨len, t0, gr, ⟨L, t2, eL⟩, rfl⟩ := b
    have u0 : (sl.set 3 (some x))[0]? = some (some dp) := by rw [List.getElem?_set_ne (by decide)]; exact t0
    have u2 : (sl.set 3 (some x))[2]? = some (some (.ref L)) := by rw [List.getElem?_set_ne (by decide)]; exact t2
    have ul : (sl.set 3 (some x)).length = 9 := by rw [List.length_set]; exact len
    show MV.wGSeq _ _ _ _ (sl.set 3 (some x)) h'
    generalize sl.set 3 (some x) = sl1 at u0 u2 ul ⊢
    -- yield from
    refine ⟨_, u2, L, _, rfl, by unfold MP.items; rw [eL], ?_⟩
    refine lc_by ((layerS pl i).map pD) (fun j acc h3 => h3 = h' ∧ acc = ((layerS pl i).take j).map fun e => wT e.1) ⟨rfl, rfl⟩ (fun j acc h3 _ p => by rw [p.1]; unfold MP.itLst MP.items; rw [eL]; rfl) (fun j x acc h3 ej p => ?_) (fun acc h3 p => ?_)
    · obtain ⟨rfl, rfl⟩ := p
      rw [List.getElem?_map] at ej
      obtain ⟨e, ee, rfl⟩ := Option.map_eq_some_iff.mp ej
      refine ⟨_, rfl, rfl, _, _, rfl, _, _, rfl, rfl, ?_⟩
      refine ift rfl ?_
      have w5 : (((wipeD sl1 [5, 6]).set 5 (some (wT e.1))).set 6 (some (.int e.2)))[5]? = some (some (wT e.1)) := by
        rw [List.getElem?_set_ne (by decide)]
        exact List.getElem?_set_self (by simp [MP.wipeD, ul])
      refine ⟨_, w5, by rw [List.length_map, List.length_take]; exact size_small (by omega), rfl, ?_⟩
      rw [List.take_add_one, ee]; simp
    obtain ⟨rfl, rfl⟩ := p
    rw [List.length_map, List.take_length]
    have ga : Gr h3 (h3 ++ [Cell.lst ((layerS pl i).map fun e => wT e.1)]) := .app _
    refine ⟨_, _, rfl, app_at, ?_, ?_⟩
    · have := words_len k (i := i) (by omega)
      rw [List.length_map, List.length_map]
      exact Nat.le_of_lt (size_small (by omega))
    have eL2 := ga.lst eL
    have gr2 := gr.trans ga
    have hp2 := hp.gr gr2
    generalize h3 ++ [Cell.lst ((layerS pl i).map fun e => wT e.1)] = h4 at ga eL2 gr2 hp2 ⊢
    obtain ⟨n, refs, acts, rfl, ep, hr⟩ := hp2
    -- rows
    refine ⟨_, u2, L, _, rfl, by unfold MP.items; rw [eL2], ?_⟩
    have lok := layer_ok k i
    refine lc_by ((layerS pl i).map pD) (fun j acc h3 => h3 = h4 ∧ acc = ((layerS pl i).take j).map (rfD refs)) ⟨rfl, rfl⟩ (fun j acc h3 _ p => by rw [p.1]; unfold MP.itLst MP.items; rw [eL2]; rfl) (fun j x acc h3 ej p => ?_) (fun acc h3 p => ?_)
    · obtain ⟨rfl, rfl⟩ := p
      rw [List.getElem?_map] at ej
      obtain ⟨e, ee, rfl⟩ := Option.map_eq_some_iff.mp ej
      obtain ⟨m1, lk0, pr, er, epl, em⟩ := IsPart.get (n := n) (acts := acts) hr (lok e (List.mem_of_getElem? ee)).1
      refine ⟨_, rfl, rfl, _, _, rfl, _, _, rfl, rfl, ?_⟩
      refine ift rfl ?_
      have w5 : (((wipeD sl1 [5, 6]).set 5 (some (wT e.1))).set 6 (some (.int e.2)))[5]? = some (some (wT e.1)) := by
        rw [List.getElem?_set_ne (by decide)]
        exact List.getElem?_set_self (by simp [MP.wipeD, ul])
      have w6 : (((wipeD sl1 [5, 6]).set 5 (some (wT e.1))).set 6 (some (.int e.2)))[6]? = some (some (.int e.2)) := List.getElem?_set_self (by simp [MP.wipeD, ul])
      have w0 : (((wipeD sl1 [5, 6]).set 5 (some (wT e.1))).set 6 (some (.int e.2)))[0]? = some (some (.ref n)) := by
        rw [List.getElem?_set_ne (by decide), List.getElem?_set_ne (by decide)]
        rw [wipe_ne (by decide)]; exact u0
      refine ⟨_, w5, _, w0, n, "Part", _, .tup refs, rfl, ep, hasPart, rfl, _, w6, ?_⟩
      refine oIx_tup (atI_natI er) ?_
      refine ⟨by show 2 ≤ sizeLine; decide, by rw [List.length_map, List.length_take]; exact size_small (by omega), rfl, ?_⟩
      rw [List.take_add_one, ee]; simp [rfD, er]
    obtain ⟨rfl, rfl⟩ := p
    rw [List.length_map, List.take_length]
    have ga2 : Gr h3 (h3 ++ [Cell.lst ((layerS pl i).map (rfD refs))]) := .app _
    have x0 : (sl1.set 4 (some (D.ref h3.length)))[0]? = some (some (.ref n)) := by rw [List.getElem?_set_ne (by decide)]; exact u0
    have x4 : (sl1.set 4 (some (D.ref h3.length)))[4]? = some (some (.ref h3.length)) := List.getElem?_set_self (by omega)
    have xl : (sl1.set 4 (some (D.ref h3.length))).length = 9 := by rw [List.length_set]; exact ul
    have eR : (h3 ++ [Cell.lst ((layerS pl i).map (rfD refs))])[h3.length]? = some (.lst ((layerS pl i).map (rfD refs))) := app_at
    have gr3 := gr2.trans ga2
    have hr3 := hr.gr ga2
    dsimp only [MV.wNm]
    generalize sl1.set 4 (some (D.ref h3.length)) = sl2 at x0 x4 xl ⊢
    generalize h3.length = R at x4 eR
    generalize h3 ++ [Cell.lst ((layerS pl i).map (rfD refs))] = h5 at eR gr3 hr3 ⊢
    -- the next layer
    refine ⟨_, x4, R, _, rfl, by unfold MP.items; rw [eR], ?_⟩
    refine it_by ((layerS pl i).map (rfD refs)) (fun j acc h6 => Gr h5 h6 ∧ acc = (((layerS pl i).take j).flatMap (fun e => (srow pl e.2).map fun p => (e.1 ++ [p.1], p.2))).map pD) ⟨.refl, rfl⟩ (fun j acc h6 _ p => by unfold MP.itLst MP.items; rw [p.1.lst eR]; rfl) (fun j x acc h6 ej p => ?_) (fun acc h6 p => ?_)
    · obtain ⟨g6, rfl⟩ := p
      rw [List.getElem?_map] at ej
      obtain ⟨e, ee, rfl⟩ := Option.map_eq_some_iff.mp ej
      obtain ⟨m1, lk0, pr, er, epl, em⟩ := IsPart.get (n := n) (acts := acts) (hr3.gr g6) (lok e (List.mem_of_getElem? ee)).1
      have es : rowK (srt pr.1) = rowK (srow pl e.2) := by rw [srow_at epl]
      rw [es] at em
      have erf : rfD refs e = .tup [wT e.1, .ref m1] := by unfold rfD; rw [er]; rfl
      rw [erf]
      refine ⟨_, rfl, rfl, _, _, rfl, _, _, rfl, rfl, ?_⟩
      refine ift rfl ?_
      have wl : (wipeD sl2 [5, 7, 8, 6]).length = 9 := by simp [MP.wipeD, xl]
      have w5 : (((wipeD sl2 [5, 7, 8, 6]).set 5 (some (wT e.1))).set 7 (some (.ref m1)))[5]? = some (some (wT e.1)) := by
        rw [List.getElem?_set_ne (by decide)]
        exact List.getElem?_set_self (by rw [wl]; decide)
      have w7 : (((wipeD sl2 [5, 7, 8, 6]).set 5 (some (wT e.1))).set 7 (some (.ref m1)))[7]? = some (some (.ref m1)) := List.getElem?_set_self (by rw [List.length_set, wl]; decide)
      have wl2 : (((wipeD sl2 [5, 7, 8, 6]).set 5 (some (wT e.1))).set 7 (some (.ref m1))).length = 9 := by simp [wl]
      show MV.wOverD _ _ (((wipeD sl2 [5, 7, 8, 6]).set 5 (some (wT e.1))).set 7 (some (.ref m1))) h6 _
      generalize ((wipeD sl2 [5, 7, 8, 6]).set 5 (some (wT e.1))).set 7 (some (.ref m1)) = sl3 at w5 w7 wl2 ⊢
      refine ⟨_, w7, m1, false, lk0, _, rfl, em, rfl, ?_⟩
      have e2 := set_at (c' := .dct false true (rowK (srow pl e.2))) em
      have g7 : Gr h5 (h6.set m1 (.dct false true (rowK (srow pl e.2)))) := g6.trans (.lock em)
      generalize h6.set m1 (.dct false true (rowK (srow pl e.2))) = h7 at e2 g7 ⊢
      have r4 := srow_len k e.2
      have cap : (((layerS pl i).take (j + 1)).flatMap (fun e => (srow pl e.2).map fun p => (e.1 ++ [p.1], p.2))).length ≤ 256 := by
        have : ∀ l : List (List Str × Nat), (l.flatMap fun e => (srow pl e.2).map fun p => (e.1 ++ [p.1], p.2)).length ≤ 4 * l.length := by
          intro l
          induction l with
          | nil => simp
          | cons e l ih =>
            have := srow_len k e.2
            simp only [List.flatMap_cons, List.length_append, List.length_map, List.length_cons]
            omega
        have := this ((layerS pl i).take (j + 1))
        rw [List.length_take] at this
        omega
      rw [layer_take ee] at cap ⊢
      refine it_by ((rowK (srow pl e.2)).map fun p => D.tup [p.1, p.2]) (fun l acc h8 => h8 = h7 ∧ acc = (((layerS pl i).take j).flatMap (fun e => (srow pl e.2).map fun p => (e.1 ++ [p.1], p.2)) ++ ((srow pl e.2).take l).map fun p => (e.1 ++ [p.1], p.2)).map pD) ⟨rfl, by simp⟩ (fun l acc h8 _ p => by rw [p.1]; exact itItems_at e2 l) (fun l x acc h8 el p => ?_) (fun acc h8 p => ?_)
      · obtain ⟨rfl, rfl⟩ := p
        rw [List.getElem?_map] at el
        obtain ⟨y, ey, rfl⟩ := Option.map_eq_some_iff.mp el
        unfold rowK at ey
        rw [List.getElem?_map] at ey
        obtain ⟨⟨a, t⟩, ea, rfl⟩ := Option.map_eq_some_iff.mp ey
        refine ⟨_, rfl, rfl, _, _, rfl, _, _, rfl, rfl, ?_⟩
        refine ift rfl ?_
        have y5 : (((wipeD sl3 [8, 6]).set 8 (some (.str a))).set 6 (some (.int t)))[5]? = some (some (wT e.1)) := by
          rw [List.getElem?_set_ne (by decide), List.getElem?_set_ne (by decide)]
          rw [wipe_ne (by decide)]; exact w5
        have y8 : (((wipeD sl3 [8, 6]).set 8 (some (.str a))).set 6 (some (.int t)))[8]? = some (some (.str a)) := by
          rw [List.getElem?_set_ne (by decide)]
          exact List.getElem?_set_self (by simp [MP.wipeD, wl2])
        have y6 : (((wipeD sl3 [8, 6]).set 8 (some (.str a))).set 6 (some (.int t)))[6]? = some (some (.int t)) := List.getElem?_set_self (by simp [MP.wipeD, wl2])
        have le1 := (lok e (List.mem_of_getElem? ee)).2
        refine ⟨_, y5, ⟨e.1.map .str, .inl rfl, _, y8, ?_⟩⟩
        refine ⟨by simp [le1]; exact Nat.le_of_lt (size_small (by omega)), _, y6, by show 2 ≤ sizeLine; decide, ?_, rfl, ?_⟩
        · rw [List.length_map, List.length_append, List.length_map, List.length_take]
          rw [List.length_append, List.length_map] at cap
          exact size_small (by omega)
        · rw [List.take_add_one, ea]; simp [pD, wT]
      · obtain ⟨rfl, rfl⟩ := p
        refine ⟨g7, ?_⟩
        have hl : (srow pl e.2).take ((rowK (srow pl e.2)).map fun p => D.tup [p.1, p.2]).length = srow pl e.2 := List.take_of_length_le (by unfold rowK; simp)
        rw [hl]
    · obtain ⟨g6, rfl⟩ := p
      rw [List.length_map, List.take_length]
      refine ⟨by rw [List.length_set]; exact xl, by rw [List.getElem?_set_ne (by decide)]; exact x0, (gr3.trans g6).trans (.app _), ⟨_, List.getElem?_set_self (by omega), app_at⟩, ?_⟩
      rw [words_succ, List.map_append, List.map_map]; rfl
  · rw [lenR] at b
    have := z h' b.gr
    rw [← b.yd] at this
    exact this
end K02S

set_option Elab.async false
set_option linter.all false
set_option maxRecDepth 100000
set_option maxHeartbeats 2000000
/-! K02RA: plain facts for the law's main check: told words, and what repr gives. -/
namespace K02S
open PySem PySem.Spec
open PyProof.Rows hiding St
open L2
open MP (D Cell Hd Sd WE WT WA WS WG WI EndsD ItD SpD endR startD itSeq items tyD truD getD putD keyOk wipeD lenD sortS ltS leS dctOf itKeys itVals PyR PyRs dictOfPairs)
open MV K02V
/-! ### repr -/
theorem name_shown {x : Str} (h : nameS x = true) : (reprText x).length ≤ 82 := by
  have h1 := StrLaws.reprText_len x fun c hc => by
    unfold nameS at h
    simp only [Bool.and_eq_true, List.all_eq_true] at h
    have := h.2 c hc
    unfold isL at this
    simp only [Bool.and_eq_true, decide_eq_true_eq] at this
    have : (16 : Nat) ^ 8 = 4294967296 := by decide
    omega
  have h2 : x.length ≤ 8 := by
    unfold nameS at h
    simp only [Bool.and_eq_true, decide_eq_true_eq] at h
    exact h.1.2
  omega
theorem strs_piled : ∀ {xs : List Str}, (∀ x ∈ xs, nameS x = true) → piled (PyData.shownAll (strsP xs)) ≤ 84 * xs.length
  | [], _ => Nat.le_refl _
  | x :: xs, h => by
    have h1 := strs_piled (xs := xs) fun y hy => h y (List.mem_cons_of_mem _ hy)
    have h2 := name_shown (h x List.mem_cons_self)
    unfold strsP at *
    rw [List.map_cons, PyData.shownAll, piled_cons, PyData.shown, List.length_cons]
    omega
theorem tuple_len (ts : List Str) : (tupleText ts).length ≤ 3 + piled ts := by
  unfold tupleText
  rw [strLen_append, strLen_append]
  have h1 : (Str.join ", " ts).length ≤ piled ts := by
    by_cases h : ts = []
    · subst h; exact Nat.le_refl _
    · have := join_length_add ts h; omega
  have h2 : ((if ts.length == 1 then ",)" else ")" : String) : Str).length ≤ 2 := by
    split <;> decide
  have h3 : ("(" : Str).length = 1 := rfl
  omega
theorem strs_show : ∀ xs : List Str, PyData.showableAll (strsP xs) = true ∧ PyData.hasDictAll (strsP xs) = false ∧ PyData.depthAll (strsP xs) = 0
  | [] => ⟨rfl, rfl, rfl⟩
  | x :: xs => by
    have ih := strs_show xs
    unfold strsP at *
    rw [List.map_cons]
    exact ⟨by rw [PyData.showableAll, PyData.showable, ih.1]; rfl, by rw [PyData.hasDictAll, PyData.hasDict, ih.2.1]; rfl, by rw [PyData.depthAll, PyData.depth, ih.2.2]; rfl⟩
end K02S

set_option Elab.async false
set_option linter.all false
set_option maxRecDepth 100000
set_option maxHeartbeats 2000000
/-! K02C: how long texts of data are. -/
namespace K02S
open PySem PySem.Spec
open PyProof.Rows hiding St
open L2
open MP (D Cell Hd Sd WE WT WA WS WG WI EndsD ItD SpD SpGD endR endG startD itSeq items tyD truD getD putD keyOk wipeD lenD sortS ltS leS dctOf itKeys itVals itItems putFD hasF PyR PyRs PyX PyXs PyXk)
open MV K02V
/-- showable, its text of at most c signs, depth at most k; b: no dict in it -/
structure Sh (b : Bool) (c k : Nat) (d : PyData) : Prop where
  sw : d.showable = true
  le : d.shown.length ≤ c
  dp : d.depth ≤ k
  nd : b = true → d.hasDict = false
structure ShA (b : Bool) (c k : Nat) (ds : List PyData) : Prop where
  sw : PyData.showableAll ds = true
  le : piled (PyData.shownAll ds) ≤ c
  dp : PyData.depthAll ds ≤ k
  nd : b = true → PyData.hasDictAll ds = false
theorem Sh.mono {b : Bool} {c c' k k' : Nat} {d : PyData} (x : Sh b c k d) (h1 : c ≤ c') (h2 : k ≤ k') : Sh b c' k' d := ⟨x.sw, Nat.le_trans x.le h1, Nat.le_trans x.dp h2, x.nd⟩
theorem ShA.mono {b : Bool} {c c' k k' : Nat} {d : List PyData} (x : ShA b c k d) (h1 : c ≤ c') (h2 : k ≤ k') : ShA b c' k' d := ⟨x.sw, Nat.le_trans x.le h1, Nat.le_trans x.dp h2, x.nd⟩
theorem Sh.non {b : Bool} : Sh b 4 0 .none := ⟨rfl, by show (4 : Nat) ≤ 4; decide, Nat.le_refl _, fun _ => rfl⟩
theorem Sh.bl {b : Bool} (x : Bool) : Sh b 5 0 (.bool x) := ⟨rfl, by cases x <;> decide +kernel, Nat.le_refl _, fun _ => rfl⟩
theorem Sh.nat {b : Bool} {n : Nat} (h : n ≤ 64) : Sh b 4 0 (.int (n : Int)) := ⟨by rw [PyData.showable]; exact decide_eq_true (log_small (by omega)), by rw [PyData.shown]; exact small_len h, Nat.le_refl _, fun _ => rfl⟩
theorem Sh.name {b : Bool} {x : Str} (h : nameS x = true) : Sh b 82 0 (.str x) := ⟨rfl, by rw [PyData.shown]; exact name_shown h, Nat.le_refl _, fun _ => rfl⟩
theorem ShA.nil {b : Bool} : ShA b 0 0 [] := ⟨rfl, Nat.le_refl _, Nat.le_refl _, fun _ => rfl⟩
theorem ShA.cons {b : Bool} {c c' k : Nat} {d : PyData} {ds : List PyData} (x : Sh b c k d) (y : ShA b c' k ds) : ShA b (c + 2 + c') k (d :: ds) :=
  ⟨by rw [PyData.showableAll, x.sw, y.sw]; rfl, by rw [PyData.shownAll, piled_cons]; have := x.le; have := y.le; omega, by rw [PyData.depthAll]; have := x.dp; have := y.dp; omega, fun h => by rw [PyData.hasDictAll, x.nd h, y.nd h]; rfl⟩
theorem ShA.map {α : Type} {b : Bool} {c k : Nat} {f : α → PyData} : ∀ {xs : List α}, (∀ x ∈ xs, Sh b c k (f x)) → ShA b (xs.length * (c + 2)) k (xs.map f)
  | [], _ => ⟨rfl, Nat.zero_le _, Nat.zero_le _, fun _ => rfl⟩
  | x :: xs, h => by
    have h1 := ShA.cons (h x List.mem_cons_self) (ShA.map (xs := xs) fun y hy => h y (List.mem_cons_of_mem _ hy))
    exact h1.mono (by rw [List.length_cons, Nat.succ_mul]; omega) (Nat.le_refl _)
theorem Sh.tup {b : Bool} {c k : Nat} {ds : List PyData} (x : ShA b c k ds) : Sh b (c + 3) (k + 1) (.tuple ds) :=
  ⟨by rw [PyData.showable]; exact x.sw, by rw [PyData.shown]; have := tuple_len (PyData.shownAll ds); have := x.le; omega, by rw [PyData.depth]; have := x.dp; omega, fun h => by rw [PyData.hasDict]; exact x.nd h⟩
theorem textFrom_le : ∀ (ts : List Str) (k : Nat) (acc : Str), (textFrom k acc ts).length ≤ acc.length + piled ts
  | [], k, acc => Nat.le_refl _
  | t :: ts, k, acc => by
    have ih := textFrom_le ts (k + 1) (acc ++ (if k > 0 then ", " else "" : String) ++ t)
    rw [textFrom, piled_cons]
    refine Nat.le_trans ih ?_
    rw [strLen_append, strLen_append]
    have : ((if k > 0 then ", " else "" : String) : Str).length ≤ 2 := by split <;> decide
    omega
theorem list_len (ts : List Str) : (listText ts).length ≤ 3 + piled ts := by
  unfold listText
  rw [strLen_append]
  have h1 := textFrom_le ts 0 "["
  have h2 : (Str.ofString "[").length = 1 := rfl
  have h3 : (Str.ofString "]").length = 1 := rfl
  omega
theorem Sh.lst {b : Bool} {c k : Nat} {ds : List PyData} (x : ShA b c k ds) : Sh b (c + 3) (k + 1) (.list ds) :=
  ⟨by rw [PyData.showable]; exact x.sw, by rw [PyData.shown]; have := list_len (PyData.shownAll ds); have := x.le; omega, by rw [PyData.depth]; have := x.dp; omega, fun h => by rw [PyData.hasDict]; exact x.nd h⟩
/-- repr of x -/
theorem repr_by {h : Hd} {x : D} {d : PyData} {c k : Nat} {Q : D → Hd → Prop} (r : PyR h x d) (s : Sh true c k d) (hc : c ≤ 16777216) (hk : k ≤ 60) (z : Q (.str d.shown) h) : MV.cRepr [x] h Q :=
  ⟨_, d, rfl, r, s.sw, s.nd rfl, by rw [sizeLine_eq]; exact Nat.le_trans s.le hc, Nat.le_trans s.dp hk, z⟩
theorem reprX_by {h : Hd} {x : D} {d : PyData} {c k : Nat} {Q : D → Hd → Prop} (r : PyX h x d) (s : Sh false c k d) (hc : c ≤ 16777216) (hk : k ≤ 60) (z : Q (.str d.shown) h) : MV.cReprX [x] h Q :=
  ⟨_, d, rfl, r, s.sw, by rw [sizeLine_eq]; exact Nat.le_trans s.le hc, Nat.le_trans s.dp hk, z⟩
/-! words -/
def wP (w : List Str) : PyData := .tuple (strsP w)
theorem wP_r (h : Hd) (w : List Str) : PyR h (wT w) (wP w) := .tup (pyRs_str h w)
theorem wP_sh {b : Bool} {w : List Str} {n : Nat} (hw : ∀ x ∈ w, nameS x = true) (hn : w.length ≤ n) : Sh b (n * 84 + 3) 1 (wP w) :=
  (Sh.tup (ShA.map (f := PyData.str) fun x hx => Sh.name (hw x hx))).mono (by have := Nat.mul_le_mul_right 84 hn; omega) (Nat.le_refl _)
theorem wsP_r (h : Hd) : ∀ ws : List (List Str), PyRs h (ws.map wT) (ws.map wP)
  | [] => .nil
  | w :: ws => .cons (wP_r h w) (wsP_r h ws)
def optP : Option Nat → PyData
  | none => .none
  | some n => .int (n : Int)
theorem optP_r (h : Hd) : ∀ o : Option Nat, PyR h (optD o) (optP o)
  | none => .non
  | some n => .int _
theorem optP_sh {b : Bool} {o : Option Nat} (h : ∀ n, o = some n → n ≤ 64) : Sh b 4 0 (optP o) := by
  cases o with
  | none => exact .non
  | some n => exact .nat (h n rfl)
theorem off_sh {b : Bool} {pl : Pl} (k : PlOk pl) (s : Nat) : Sh b 1000 2 (offP pl s) := by
  have h1 : Sh b (7 * 84 + 3) 1 (.tuple (strsP (offK pl s))) := wP_sh (b := b) (w := offK pl s) (n := 7) (fun x hx => offK_name k x hx) (offK_len k s)
  exact (Sh.tup (ShA.cons h1 (ShA.cons ((Sh.bl (restS pl s)).mono (Nat.le_refl _) (Nat.zero_le 1)) (ShA.nil.mono (Nat.le_refl _) (Nat.zero_le 1))))).mono (by decide) (by decide)
end K02S

set_option Elab.async false
set_option linter.all false
set_option maxRecDepth 100000
set_option maxHeartbeats 2000000
/-! K02F: the law's own walk along a word; all words. -/
namespace K02S
open PySem PySem.Spec
open PyProof.Rows hiding St
open L2
open MP (D Cell Hd Sd WE WT WA WS WG WI EndsD ItD SpD SpGD endR endG startD itSeq items tyD truD getD putD keyOk wipeD lenD sortS ltS leS dctOf itKeys itVals itItems putFD hasF PyR PyRs)
open MV K02V
def s__law_state : SpD := fun ds h q => ∃ dp pl w, ds = [dp, .tup (w.map .str)] ∧ IsPlain h dp pl ∧ Closed pl ∧ q (optD (after pl w)) h
theorem p_state {ds : List D} {h : Hd} {q : D → Hd → Prop} (z : s__law_state ds h q) : v__law_state (endR q) (startD K02.N__law_state ds) h := by
  obtain ⟨dp, pl, w, rfl, ⟨n, xs, rfl, e, k⟩, cl, z⟩ := z
  refine ⟨_, rfl, _, rfl, ?_⟩
  dsimp only
  refine it_by (w.map .str) (fun i sl h' => h' = h ∧ sl.length = 4 ∧ sl[0]? = some (some (.ref n)) ∧ sl[2]? = some (some (optD (after pl (w.take i))))) ⟨rfl, rfl, rfl, rfl⟩ (fun i sl h' _ _ => rfl) (fun i x sl h' ee p => ?_) (fun sl h' p => ?_)
  · obtain ⟨rfl, l4, p0, p2⟩ := p
    rw [List.getElem?_map] at ee
    obtain ⟨a, ea, rfl⟩ := Option.map_eq_some_iff.mp ee
    have t0 : (sl.set 3 (some (D.str a)))[0]? = some (some (.ref n)) := by rw [List.getElem?_set_ne (by decide)]; exact p0
    have t2 : (sl.set 3 (some (D.str a)))[2]? = some (some (optD (after pl (w.take i)))) := by rw [List.getElem?_set_ne (by decide)]; exact p2
    have t3 : (sl.set 3 (some (D.str a)))[3]? = some (some (.str a)) := List.getElem?_set_self (by omega)
    have l4' : (sl.set 3 (some (D.str a))).length = 4 := by rw [List.length_set]; exact l4
    dsimp only [MV.wNm]
    generalize sl.set 3 (some (D.str a)) = sl1 at t0 t2 t3 l4' ⊢
    refine ⟨_, t2, _, rfl, ?_⟩
    cases es : after pl (w.take i) with
    | none =>
      refine iff_ rfl ?_
      refine ⟨rfl, by rw [List.length_set]; exact l4', by rw [List.getElem?_set_ne (by decide)]; exact t0, ?_⟩
      rw [List.getElem?_set_self (by omega), after_take ea, es]; rfl
    | some s =>
      refine ift rfl ?_
      rw [es] at t2
      have hs := after_lt cl es
      obtain ⟨p, m, lk0, ep, e1, e2⟩ := k.one hs
      refine ⟨_, t0, _, t2, ?_⟩
      dsimp only [MV.wC]
      refine oIx_lst e (atI_natI e1) ?_
      refine oIx_tup (i := 0) (d := .ref m) rfl ?_
      refine ⟨⟨m, false, lk0, _, rfl, e2⟩, _, t3, m, _, rfl, ⟨false, lk0, e2, rfl⟩, ?_⟩
      rw [getD_step' ep]
      refine ⟨rfl, by rw [List.length_set]; exact l4', by rw [List.getElem?_set_ne (by decide)]; exact t0, ?_⟩
      rw [List.getElem?_set_self (by omega), after_take ea, es]
      show some (some ((Option.map (fun (n : Nat) => D.int (n : Int)) (step pl s a)).getD .non)) = some (some (optD (step pl s a)))
      cases step pl s a <;> rfl
  · obtain ⟨rfl, l4, p0, p2⟩ := p
    rw [List.length_map, List.take_length] at p2
    exact ⟨_, p2, z⟩
/-! all words -/
def wlay (ns : List Str) : Nat → List (List Str)
  | 0 => [[]]
  | i + 1 => (wlay ns i).flatMap fun w => ns.map fun a => w ++ [a]
def wall (ns : List Str) (i : Nat) : List (List Str) := (List.range i).flatMap (wlay ns)
theorem wall_succ (ns : List Str) (i : Nat) : wall ns (i + 1) = wall ns i ++ wlay ns i := by
  unfold wall; rw [List.range_succ, List.flatMap_append]; simp
theorem wlay_len {ns : List Str} (h : ns.length ≤ 4) : ∀ i, (wlay ns i).length ≤ 4 ^ i
  | 0 => Nat.le_refl _
  | i + 1 => by
    have ih := wlay_len h i
    have : ∀ l : List (List Str), (l.flatMap fun w => ns.map fun a => w ++ [a]).length ≤ 4 * l.length := by
      intro l
      induction l with
      | nil => simp
      | cons e l ih => simp only [List.flatMap_cons, List.length_append, List.length_map, List.length_cons]; omega
    have := this (wlay ns i)
    show ((wlay ns i).flatMap _).length ≤ _
    rw [Nat.pow_succ]; omega
theorem wlay64 {ns : List Str} (h : ns.length ≤ 4) {i : Nat} (hi : i ≤ 3) : (wlay ns i).length ≤ 64 := by
  have := wlay_len h i
  have h2 : (4 : Nat) ^ i ≤ 4 ^ 3 := Nat.pow_le_pow_right (by decide) hi
  have h3 : (4 : Nat) ^ 3 = 64 := by decide
  omega
theorem wall_len {ns : List Str} (h : ns.length ≤ 4) : ∀ {i : Nat}, i ≤ 4 → (wall ns i).length ≤ 64 * i
  | 0, _ => Nat.zero_le _
  | i + 1, hi => by
    have ih := wall_len h (i := i) (by omega)
    have := wlay64 h (i := i) (by omega)
    rw [wall_succ, List.length_append]; omega
theorem wlay_ok {ns : List Str} : ∀ i, ∀ w ∈ wlay ns i, w.length = i ∧ ∀ x ∈ w, x ∈ ns
  | 0, w, h => by
    rw [wlay, List.mem_singleton] at h
    rw [h]; exact ⟨rfl, fun x hx => by cases hx⟩
  | i + 1, w, h => by
    rw [wlay, List.mem_flatMap] at h
    obtain ⟨w0, h0, h⟩ := h
    obtain ⟨a, ha, rfl⟩ := List.mem_map.mp h
    obtain ⟨b, c⟩ := wlay_ok i w0 h0
    refine ⟨by simp [b], fun x hx => ?_⟩
    rcases List.mem_append.mp hx with q | q
    · exact c x q
    · rw [List.mem_singleton.mp q]; exact ha
theorem wall_ok {ns : List Str} {m : Nat} {w : List Str} (h : w ∈ wall ns (m + 1)) : w.length ≤ m ∧ ∀ x ∈ w, x ∈ ns := by
  obtain ⟨i, hi, hw⟩ := List.mem_flatMap.mp h
  have := List.mem_range.mp hi
  obtain ⟨a, b⟩ := wlay_ok i w hw
  exact ⟨by omega, b⟩
def s__law_words : SpD := fun ds h q => ∃ (m t : Nat) (ns : List Str), ds = [.ref m, .int (t : Nat)] ∧ h[m]? = some (.lst (ns.map .str)) ∧ ns.length ≤ 4 ∧ t ≤ 3 ∧
  ∀ h' k, Gr h h' → h'[k]? = some (.lst ((wall ns (t + 1)).map wT)) → q (.ref k) h'
structure LW (m : Nat) (ns : List Str) (h0 : Hd) (i : Nat) (sl : Sd) (h : Hd) (L F : Nat) : Prop where
  len : sl.length = 8
  s0 : sl[0]? = some (some (.ref m))
  s3 : sl[3]? = some (some (.ref F))
  s4 : sl[4]? = some (some (.ref L))
  gr : Gr h0 h
  le : h[L]? = some (.lst ((wlay ns i).map wT))
  fe : h[F]? = some (.lst ((wall ns (i + 1)).map wT))
theorem wlay_take {ns : List Str} {i j : Nat} {w : List Str} (e : (wlay ns i)[j]? = some w) : ((wlay ns i).take (j + 1)).flatMap (fun w => ns.map fun a => w ++ [a]) = ((wlay ns i).take j).flatMap (fun w => ns.map fun a => w ++ [a]) ++ ns.map fun a => w ++ [a] := by
  rw [List.take_add_one, e, List.flatMap_append]; simp
theorem p_words {ds : List D} {h : Hd} {q : D → Hd → Prop} (z : s__law_words ds h q) : v__law_words (endR q) (startD K02.N__law_words ds) h := by
  obtain ⟨m, t, ns, rfl, em, hn, ht, z⟩ := z
  refine ⟨by show 0 ≤ sizeLine; decide, by show 1 ≤ sizeLine; decide, by show 0 ≤ sizeLine; decide, by show 1 ≤ sizeLine; decide, _, _, rfl, ?_⟩
  have b0 : LW m ns h 0 (((startD K02.N__law_words [.ref m, .int (t : Nat)]).set 3 (some (.ref h.length))).set 4 (some (.ref (h ++ [Cell.lst [.tup []]]).length))) (h ++ [Cell.lst [.tup []]] ++ [Cell.lst [.tup []]]) (h ++ [Cell.lst [.tup []]]).length h.length :=
    ⟨rfl, rfl, rfl, rfl, (Gr.app _).trans (.app _), app_at, (Gr.app _).lst app_at⟩
  have s1 : (((startD K02.N__law_words [.ref m, .int (t : Nat)]).set 3 (some (.ref h.length))).set 4 (some (.ref (h ++ [Cell.lst [.tup []]]).length)))[1]? = some (some (.int (t : Nat))) := rfl
  generalize ((startD K02.N__law_words [.ref m, .int (t : Nat)]).set 3 (some (.ref h.length))).set 4 (some (.ref (h ++ [Cell.lst [.tup []]]).length)) = sl0 at b0 s1 ⊢
  generalize (h ++ [Cell.lst [.tup []]]).length = L0 at b0
  generalize h.length = F0 at b0
  generalize h ++ [Cell.lst [.tup []]] ++ [Cell.lst [.tup []]] = h1 at b0 ⊢
  refine ⟨_, s1, (t : Int), rfl, by omega, by omega, ?_⟩
  have lenR : (MP.rngD 0 (t : Int).toNat).length = t := by unfold MP.rngD; simp
  refine it_by (MP.rngD 0 (t : Int).toNat) (fun i sl h' => ∃ L F, LW m ns h i sl h' L F) ⟨_, _, b0⟩ (fun i sl h' _ _ => rfl) (fun i x sl h' e p => ?_) (fun sl h' p => ?_)
  · obtain ⟨L, F, b⟩ := p
    have hi : i < t := by rw [← lenR]; exact (List.getElem?_eq_some_iff.mp e).1
    have w64 := wlay64 hn (i := i) (by omega)
    have w64' := wlay64 hn (i := i + 1) (by omega)
    have a64 := wall_len hn (i := i + 1) (by omega)
    refine ⟨by show 0 ≤ sizeLine; decide, ?_⟩
    have lenb := b.len
    let sl1 := (sl.set 2 (some x)).set 5 (some (.ref h'.length))
    have t0 : sl1[0]? = some (some (.ref m)) := by show ((sl.set 2 (some x)).set 5 _)[0]? = _; rw [List.getElem?_set_ne (by decide), List.getElem?_set_ne (by decide)]; exact b.s0
    have t3 : sl1[3]? = some (some (.ref F)) := by show ((sl.set 2 (some x)).set 5 _)[3]? = _; rw [List.getElem?_set_ne (by decide), List.getElem?_set_ne (by decide)]; exact b.s3
    have t4 : sl1[4]? = some (some (.ref L)) := by show ((sl.set 2 (some x)).set 5 _)[4]? = _; rw [List.getElem?_set_ne (by decide), List.getElem?_set_ne (by decide)]; exact b.s4
    have t5 : sl1[5]? = some (some (.ref h'.length)) := List.getElem?_set_self (by rw [List.length_set]; omega)
    have tl : sl1.length = 8 := by show ((sl.set 2 (some x)).set 5 _).length = 8; simp [lenb]
    have g1 : Gr h' (h' ++ [Cell.lst []]) := .app _
    have e1 : (h' ++ [Cell.lst []])[h'.length]? = some (.lst ([].map wT)) := app_at
    show MV.wSeq _ _ _ sl1 (h' ++ [Cell.lst []])
    generalize sl1 = sl1 at t0 t3 t4 t5 tl ⊢
    generalize h' ++ [Cell.lst []] = h2 at g1 e1 ⊢
    have le2 := g1.lst b.le
    refine ⟨_, t4, L, _, rfl, by unfold MP.items; rw [le2], ?_⟩
    generalize hRR : h'.length = R at e1 t5
    refine it_by ((wlay ns i).map wT) (fun j sl' h3 => sl'.length = 8 ∧ sl'[0]? = some (some (.ref m)) ∧ sl'[3]? = some (some (.ref F)) ∧ sl'[5]? = some (some (.ref R)) ∧ Gr h' h3 ∧ h3[R]? = some (.lst ((((wlay ns i).take j).flatMap fun w => ns.map fun a => w ++ [a]).map wT)))
      ⟨tl, t0, t3, t5, g1, e1⟩ (fun j sl' h3 _ p => by unfold MP.itLst MP.items; rw [p.2.2.2.2.1.lst b.le]; rfl) (fun j x sl' h3 ej p => ?_) (fun sl' h3 p => ?_)
    · obtain ⟨l8, u0, u3, u5, g3, e3⟩ := p
      rw [List.getElem?_map] at ej
      obtain ⟨w, ew, rfl⟩ := Option.map_eq_some_iff.mp ej
      have hw := wlay_ok i w (List.mem_of_getElem? ew)
      have v0 : (sl'.set 6 (some (wT w)))[0]? = some (some (.ref m)) := by rw [List.getElem?_set_ne (by decide)]; exact u0
      have v3 : (sl'.set 6 (some (wT w)))[3]? = some (some (.ref F)) := by rw [List.getElem?_set_ne (by decide)]; exact u3
      have v5 : (sl'.set 6 (some (wT w)))[5]? = some (some (.ref R)) := by rw [List.getElem?_set_ne (by decide)]; exact u5
      have v6 : (sl'.set 6 (some (wT w)))[6]? = some (some (wT w)) := List.getElem?_set_self (by omega)
      have vl : (sl'.set 6 (some (wT w))).length = 8 := by rw [List.length_set]; exact l8
      show MV.wExpr _ _ (sl'.set 6 (some (wT w))) h3
      generalize sl'.set 6 (some (wT w)) = sl2 at v0 v3 v5 v6 vl ⊢
      refine ⟨_, v5, ⟨_, _, rfl, e3⟩, ?_⟩
      have em3 := (b.gr.trans g3).lst em
      refine ⟨_, v0, m, ns.map .str, rfl, by unfold MP.items; rw [em3], ?_⟩
      refine lc_by (ns.map .str) (fun k ac h4 => h4 = h3 ∧ ac = (ns.take k).map fun a => wT (w ++ [a])) ⟨rfl, rfl⟩ (fun k ac h4 _ p => by rw [p.1]; unfold MP.itLst MP.items; rw [em3]; rfl) (fun k x ac h4 ek p => ?_) (fun ac h4 p => ?_)
      · obtain ⟨rfl, rfl⟩ := p
        rw [List.getElem?_map] at ek
        obtain ⟨a, ea, rfl⟩ := Option.map_eq_some_iff.mp ek
        have hk := (List.getElem?_eq_some_iff.mp ea).1
        refine ift rfl ?_
        have y6 : ((MP.wipeD sl2 [7]).set 7 (some (.str a)))[6]? = some (some (wT w)) := by
          rw [List.getElem?_set_ne (by decide), wipe_ne (by decide)]; exact v6
        have y7 : ((MP.wipeD sl2 [7]).set 7 (some (.str a)))[7]? = some (some (.str a)) := List.getElem?_set_self (by simp [MP.wipeD, vl])
        refine ⟨_, y6, _, y7, by show 1 ≤ sizeLine; decide, by rw [List.length_map]; exact Nat.le_of_lt (size_small (by simp; omega)), ?_⟩
        refine ⟨by rw [List.length_map, List.length_take]; exact size_small (by omega), rfl, ?_⟩
        rw [List.take_add_one, ea]; simp [wT]
      · obtain ⟨rfl, rfl⟩ := p
        rw [List.length_map, List.take_length]
        have hlt := (List.getElem?_eq_some_iff.mp e3).1
        have cap : ((((wlay ns i).take (j + 1)).flatMap fun w => ns.map fun a => w ++ [a]).map wT).length ≤ 256 := by
          have : ∀ l : List (List Str), (l.flatMap fun w => ns.map fun a => w ++ [a]).length ≤ 4 * l.length := by
            intro l
            induction l with
            | nil => simp
            | cons e l ih => simp only [List.flatMap_cons, List.length_append, List.length_map, List.length_cons]; omega
          have := this ((wlay ns i).take (j + 1))
          rw [List.length_take] at this
          rw [List.length_map]; omega
        rw [wlay_take ew, List.map_append] at cap
        refine ⟨R, h4.length, _, _, rfl, rfl, by rw [List.getElem?_append_left hlt]; exact e3, app_at, ?_, ?_⟩
        · rw [List.length_append, List.length_map, List.length_map, List.length_map] at cap
          rw [List.length_map, List.length_map]
          exact Nat.le_of_lt (size_small (by omega))
        · refine ⟨vl, v0, v3, v5, (g3.trans (.app _)).set _ (by omega), ?_⟩
          rw [wlay_take ew, List.map_append, List.map_map]
          exact set_at (by rw [List.getElem?_append_left hlt]; exact e3)
    · obtain ⟨l8, u0, u3, u5, g3, e3⟩ := p
      rw [List.length_map, List.take_length] at e3
      have f3 := g3.lst b.fe
      have e3' : h3[R]? = some (.lst ((wlay ns (i + 1)).map wT)) := e3
      refine ⟨_, u3, _, u5, _, _, f3, e3', ?_, ?_⟩
      · rw [List.length_map, List.length_map]
        exact Nat.le_of_lt (size_small (by omega))
      refine ⟨_, u5, _, _, rfl, ?_⟩
      refine ⟨R, h3.length, by simp [l8], by rw [List.getElem?_set_ne (by decide), List.getElem?_set_ne (by decide)]; exact u0, ?_, List.getElem?_set_self (by rw [List.length_set]; omega), (b.gr.trans g3).trans (.app _), (Gr.app _).lst e3', ?_⟩
      · rw [List.getElem?_set_ne (by decide)]
        exact List.getElem?_set_self (by omega)
      · rw [wall_succ ns (i + 1), List.map_append]; exact app_at
  · obtain ⟨L, F, b⟩ := p
    rw [lenR] at b
    refine ⟨_, b.s3, ?_⟩
    exact z h' F b.gr b.fe
end K02S

set_option Elab.async false
set_option linter.all false
set_option maxRecDepth 100000
set_option maxHeartbeats 2000000
/-! K02G: the part's words are those of all words that lead somewhere. -/
namespace K02S
open PySem PySem.Spec
open PyProof.Rows hiding St
open L2
open MP (D Cell Hd Sd WE WT WA WS WG WI EndsD ItD SpD SpGD endR endG startD itSeq items tyD truD getD putD keyOk wipeD lenD sortS ltS leS dctOf itKeys itVals itItems putFD hasF PyR PyRs)
open MV K02V
theorem sub_filter {α : Type} [DecidableEq α] : ∀ {xs ns : List α}, xs.Sublist ns → ns.Nodup → xs = ns.filter fun a => decide (a ∈ xs)
  | _, _, .slnil, _ => rfl
  | xs, a :: ns, .cons _ k, nd => by
    have nd' := List.nodup_cons.mp nd
    have hn : a ∉ xs := fun h => nd'.1 (k.subset h)
    rw [List.filter_cons, if_neg (by simpa using hn)]
    exact sub_filter k nd'.2
  | a :: xs, _ :: ns, .cons₂ _ k, nd => by
    have nd' := List.nodup_cons.mp nd
    rw [List.filter_cons, if_pos (by simp)]
    congr 1
    have ih := sub_filter k nd'.2
    refine ih.trans (List.filter_congr fun y hy => ?_)
    have : y ≠ a := fun e => nd'.1 (e ▸ hy)
    simp [this]
theorem gp_srow {ns : List Str} {pl : Pl} (k : GP ns pl) (s : NS ns) {i : Nat} (hi : i < pl.length) : srow pl i = (ns.filter fun a => (step pl i a).isSome).map fun a => (a, (step pl i a).getD 0) := by
  have e : pl[i]? = some pl[i] := List.getElem?_eq_getElem hi
  have hm : pl[i] ∈ pl := List.getElem_mem hi
  have st : ∀ a, step pl i a = lk pl[i].1 a := fun a => by unfold step; rw [e]; rfl
  rw [srow_at e]
  unfold srt
  have ok := k.ord _ hm
  rw [sort_sub s.pw ok]
  have h1 := sub_filter ok s.nd
  have h2 : (ns.filter fun a => decide (a ∈ keysR pl[i].1)) = ns.filter fun a => (step pl i a).isSome := List.filter_congr fun a _ => by
    rw [st a]
    by_cases h : a ∈ keysR pl[i].1
    · obtain ⟨n, en⟩ := lk_mem h
      rw [en]; simp [h]
    · rw [lk_none h]; simp [h]
  rw [← h2, ← h1]
  refine List.map_congr_left fun a _ => ?_
  rw [st a]
def inP (pl : Pl) (w : List Str) : Bool := (after pl w).isSome
theorem after_snoc (pl : Pl) (w : List Str) (a : Str) : after pl (w ++ [a]) = (after pl w).bind fun s => step pl s a := by
  simp only [after, List.foldl_append, List.foldl_cons, List.foldl_nil]
theorem layer_eq {ns : List Str} {pl : Pl} (k : GP ns pl) (s : NS ns) : ∀ i, layerS pl i = ((wlay ns i).filter (inP pl)).map fun w => (w, (after pl w).getD 0)
  | 0 => by
    show [([], 0)] = (List.filter (inP pl) [[]]).map _
    have : inP pl [] = true := rfl
    rw [List.filter_cons, if_pos this]
    rfl
  | i + 1 => by
    have ih := layer_eq k s i
    rw [layerS, ih, wlay]
    have cl := (k.ok s).cl
    generalize wlay ns i = l
    induction l with
    | nil => rfl
    | cons w l ihl =>
      rw [List.flatMap_cons, List.filter_append, List.map_append, ← ihl, List.filter_cons]
      cases h : after pl w with
      | none =>
        have h1 : inP pl w = false := by unfold inP; rw [h]; rfl
        rw [if_neg (by rw [h1]; decide)]
        have : (ns.map fun a => w ++ [a]).filter (inP pl) = [] := by
          rw [List.filter_eq_nil_iff]
          intro v hv
          obtain ⟨a, _, rfl⟩ := List.mem_map.mp hv
          unfold inP; rw [after_snoc, h]; simp
        rw [this]; rfl
      | some t =>
        have h1 : inP pl w = true := by unfold inP; rw [h]; rfl
        rw [if_pos h1, List.map_cons, List.flatMap_cons]
        congr 1
        have ht := after_lt cl h
        show (srow pl ((after pl w).getD 0)).map _ = _
        rw [h]
        show (srow pl t).map _ = _
        rw [gp_srow k s ht, List.map_map, List.filter_map, List.map_map]
        have : (inP pl ∘ fun a => w ++ [a]) = fun a => (step pl t a).isSome := by
          funext a
          show (after pl (w ++ [a])).isSome = _
          rw [after_snoc, h]; rfl
        rw [this]
        refine List.map_congr_left fun a _ => ?_
        show (w ++ [a], (step pl t a).getD 0) = (w ++ [a], (after pl (w ++ [a])).getD 0)
        rw [after_snoc, h]; rfl
theorem words_eq {ns : List Str} {pl : Pl} (k : GP ns pl) (s : NS ns) (m : Nat) : wordsS pl m = (wall ns m).filter (inP pl) := by
  unfold wordsS wall
  generalize List.range m = l
  induction l with
  | nil => rfl
  | cons i l ih =>
    rw [List.flatMap_cons, List.flatMap_cons, List.filter_append, ih, layer_eq k s i, List.map_map]
    congr 1
    exact List.map_id _
theorem GP.w {ns : List Str} {pl : Pl} (k : GP ns pl) (s : NS ns) : WOk pl := ⟨k.ok s, fun p hp => Nat.le_trans (k.row p hp).len s.le⟩
end K02S

set_option Elab.async false
set_option linter.all false
set_option maxRecDepth 100000
set_option maxHeartbeats 2000000
/-! K02N: the law's long words. -/
namespace K02S
open PySem PySem.Spec
open PyProof.Rows hiding St
open L2
open MP (D Cell Hd Sd WE WT WA WS WG WI EndsD ItD SpD SpGD endR endG startD itSeq items tyD truD getD putD keyOk wipeD lenD sortS ltS leS dctOf itKeys itVals itItems putFD hasF PyR PyRs)
open MV K02V
def s__law_long_words : SpD := fun ds h q => ∃ (n c F m : Nat) (xs : List D) (pl : Pl) (ns : List Str), ds = [.ref n, .ref F, .ref m] ∧ F ≠ n ∧ m ≠ n ∧ Dice c h n ∧ c + 200 ≤ 1000000 ∧ h[F]? = some (.lst xs) ∧ PlIts h xs pl ∧ GP ns pl ∧ NS ns ∧ h[m]? = some (.lst (ns.map .str)) ∧
  ∀ h' k (ws : List (List Str)), Gx n h h' → h.length ≤ k → Dice (c + 100) h' n → h'[k]? = some (.lst (ws.map wT)) → (∀ w ∈ ws, (∀ x ∈ w, x ∈ ns) ∧ w.length ≤ 12) → ws.length = 4 → q (.ref k) h'
/-- the outer loop -/
structure LO (n F m R c : Nat) (h0 : Hd) (ws : List (List Str)) (sl : Sd) (h : Hd) : Prop where
  len : sl.length = 9
  s0 : sl[0]? = some (some (.ref n))
  s1 : sl[1]? = some (some (.ref F))
  s2 : sl[2]? = some (some (.ref m))
  s3 : sl[3]? = some (some (.ref R))
  gx : Gx n h0 h
  dc : Dice c h n
  re : h[R]? = some (.lst (ws.map wT))
theorem LO.slot {n F m R c : Nat} {h0 : Hd} {ws : List (List Str)} {sl : Sd} {h : Hd} (b : LO n F m R c h0 ws sl h) (k : Nat) (d : Option D) (hk : 4 ≤ k) : LO n F m R c h0 ws (sl.set k d) h :=
  { b with len := by rw [List.length_set]; exact b.len, s0 := by rw [List.getElem?_set_ne (by omega)]; exact b.s0, s1 := by rw [List.getElem?_set_ne (by omega)]; exact b.s1, s2 := by rw [List.getElem?_set_ne (by omega)]; exact b.s2, s3 := by rw [List.getElem?_set_ne (by omega)]; exact b.s3 }
theorem LO.on {n F m R c c' : Nat} {h0 : Hd} {ws : List (List Str)} {sl : Sd} {h h' : Hd} (b : LO n F m R c h0 ws sl h) (nR : R ≠ n) (g : Gx n h h') (d : Dice c' h' n) : LO n F m R c' h0 ws sl h' :=
  { b with gx := b.gx.trans g, dc := d, re := g.lst nR b.re }
/-- the inner loop -/
structure LI2 (n F m R c : Nat) (h0 : Hd) (ns : List Str) (pl : Pl) (ws : List (List Str)) (w : List Str) (so : Option Nat) (sl : Sd) (h : Hd) : Prop extends LO n F m R c h0 ws sl h where
  s6 : sl[6]? = some (some (wT w))
  s7 : sl[7]? = some (some (optD so))
  wn : ∀ x ∈ w, x ∈ ns
  sb : ∀ s, so = some s → s < pl.length
theorem LI2.slot {n F m R c : Nat} {h0 : Hd} {ns : List Str} {pl : Pl} {ws : List (List Str)} {w : List Str} {so : Option Nat} {sl : Sd} {h : Hd} (b : LI2 n F m R c h0 ns pl ws w so sl h) (k : Nat) (d : Option D) (hk : 4 ≤ k) (h6 : k ≠ 6) (h7 : k ≠ 7) : LI2 n F m R c h0 ns pl ws w so (sl.set k d) h :=
  { b.toLO.slot k d hk with s6 := by rw [List.getElem?_set_ne h6]; exact b.s6, s7 := by rw [List.getElem?_set_ne h7]; exact b.s7, wn := b.wn, sb := b.sb }
theorem LI2.on {n F m R c c' : Nat} {h0 : Hd} {ns : List Str} {pl : Pl} {ws : List (List Str)} {w : List Str} {so : Option Nat} {sl : Sd} {h h' : Hd} (b : LI2 n F m R c h0 ns pl ws w so sl h) (nR : R ≠ n) (g : Gx n h h') (d : Dice c' h' n) : LI2 n F m R c' h0 ns pl ws w so sl h' :=
  { b.toLO.on nR g d with s6 := b.s6, s7 := b.s7, wn := b.wn, sb := b.sb }
/-- what stays at all -/
structure LF (n F m : Nat) (h0 : Hd) (xs : List D) (ns : List Str) (pl : Pl) (c0 : Nat) : Prop where
  nF : F ≠ n
  nm : m ≠ n
  d0 : Dice c0 h0 n
  eF : h0[F]? = some (.lst xs)
  it : PlIts h0 xs pl
  gp : GP ns pl
  nk : NS ns
  em : h0[m]? = some (.lst (ns.map .str))
section
variable {n F m R c c0 : Nat} {h0 : Hd} {xs : List D} {ns : List Str} {pl : Pl} {ws : List (List Str)} {w : List Str} {so : Option Nat} {sl : Sd} {h : Hd}
/-- which names may follow -/
theorem long_some (f : LF n F m h0 xs ns pl c0) (b : LI2 n F m R c h0 ns pl ws w so sl h) (nR : R ≠ n) (hc : c ≤ 1000000) {Q : D → Hd → Prop}
    (z : ∀ h2 kk (ys : List Str), LI2 n F m R (c + 1) h0 ns pl ws w so sl h2 → kk ≠ n → h2[kk]? = some (.lst (ys.map .str)) → (∀ y ∈ ys, y ∈ ns) → ys.length ≤ 8 → Q (.ref kk) h2) :
    (MV.wIf (wAnd (wBl (wBin (oIs true) (wSlot 7) (wC .non))) (wBl (wBin oGt (wCall s__law_roll (wCons (wSlot 0) (wCons (wC (.int 8)) wNil))) (wC (.int 0))))) (wCB cSorted (wCons (wBin oIx (wBin oIx (wSlot 1) (wSlot 7)) (wC (.int 0))) wNil)) (wSlot 2)) sl h Q := by
  have n4 := f.nk.le
  have names : ∀ h2, LI2 n F m R (c + 1) h0 ns pl ws w so sl h2 → (∃ d, sl[2]? = some (some d) ∧ Q d h2) := fun h2 b2 =>
    ⟨_, b2.s2, z h2 m ns b2 f.nm (b2.gx.lst f.nm f.em) (fun y hy => hy) (by omega)⟩
  refine ⟨_, b.s7, _, rfl, ?_⟩
  cases so with
  | none =>
    refine iff_ rfl ?_
    exact iff_ rfl (names h { b with dc := b.dc.mono (Nat.le_succ _) })
  | some s =>
    refine ift rfl ?_
    refine ⟨_, b.s0, n, c, 8, rfl, b.dc, hc, by decide, by decide, fun h1 r g1 d1 hr => ?_⟩
    have b1 := b.on nR g1.x d1
    refine ⟨_, rfl, ?_⟩
    by_cases h0r : 0 < r
    · refine ift (by simpa using h0r) ?_
      have hs := b.sb s rfl
      obtain ⟨p, m1, lk0, ep, e1, e2⟩ := (f.it.gx f.d0 b1.gx).one hs
      have hp := List.mem_of_getElem? ep
      have hk7 : (keysR p.1).length ≤ 4 := by
        have := (f.gp.row p hp).len
        unfold keysR; rw [List.length_map]; omega
      refine ⟨_, b1.s1, _, b1.s7, ?_⟩
      dsimp only [MV.wC]
      refine oIx_lst (b1.gx.lst f.nF f.eF) (atI_natI e1) ?_
      refine oIx_tup (i := 0) (d := .ref m1) rfl ?_
      refine ⟨m1, keysR p.1, rfl, .inr ⟨lk0, _, e2, rowK_keys _⟩, by omega, ?_⟩
      have hl := b1.dc.lt
      refine z _ _ (sortS (keysR p.1)) (b1.on nR ((Gr.app _).x) (d1.app _)) (by omega) app_at (fun y hy => (f.gp.row p hp).sub y (MP.mem_sortS.mp hy)) (by rw [MP.sortS_length]; omega)
    · refine iff_ (by simpa using h0r) ?_
      exact names h1 b1
/-- where the word then leads -/
theorem long_state (f : LF n F m h0 xs ns pl c0) (b : LI2 n F m R c h0 ns pl ws w so sl h) {a : Str} {v : List Str} (ew : w = v ++ [a]) {Q : D → Hd → Prop} (z : ∀ so', (∀ s, so' = some s → s < pl.length) → Q (optD so') h) :
    (MV.wIf (wBl (wBin (oIs true) (wSlot 7) (wC .non))) (wGet1 (wBin oIx (wBin oIx (wSlot 1) (wSlot 7)) (wC (.int 0))) (wBin oIx (wSlot 6) (wNegV (wC (.int 1))))) (wC .non)) sl h Q := by
  refine ⟨_, b.s7, _, rfl, ?_⟩
  cases so with
  | none =>
    refine iff_ rfl ?_
    exact z none fun s e => by cases e
  | some s =>
    refine ift rfl ?_
    have hs := b.sb s rfl
    obtain ⟨p, m1, lk0, ep, e1, e2⟩ := (f.it.gx f.d0 b.gx).one hs
    refine ⟨_, b.s1, _, b.s7, ?_⟩
    dsimp only [MV.wC]
    refine oIx_lst (b.gx.lst f.nF f.eF) (atI_natI e1) ?_
    refine oIx_tup (i := 0) (d := .ref m1) rfl ?_
    refine ⟨⟨m1, false, lk0, _, rfl, e2⟩, _, b.s6, _, rfl, ?_⟩
    have el : L2.atI (w.map D.str) (-1) = some (.str a) := by
      rw [ew, List.map_append]
      exact L2.atI_last _ _
    refine oIx_tup el ?_
    refine ⟨m1, _, rfl, ⟨false, lk0, e2, rfl⟩, ?_⟩
    rw [getD_step' ep]
    have : (Option.map (fun (n : Nat) => D.int (n : Int)) (step pl s a)).getD .non = optD (step pl s a) := by cases step pl s a <;> rfl
    rw [this]
    exact z _ fun t e => (f.gp.ok f.nk).cl.2 _ _ _ e
end
end K02S

set_option Elab.async false
set_option linter.all false
set_option maxRecDepth 100000
set_option maxHeartbeats 2000000
/-! K02O: the law's long words: the def. -/
namespace K02S
open PySem PySem.Spec
open PyProof.Rows hiding St
open L2
open MP (D Cell Hd Sd WE WT WA WS WG WI EndsD ItD SpD SpGD endR endG startD itSeq items tyD truD getD putD keyOk wipeD lenD sortS ltS leS dctOf itKeys itVals itItems putFD hasF PyR PyRs)
open MV K02V
theorem p_long_words {ds : List D} {h : Hd} {q : D → Hd → Prop} (z : s__law_long_words ds h q) : v__law_long_words s__law_roll s__law_one_of (endR q) (startD K02.N__law_long_words ds) h := by
  obtain ⟨n, c, F, m, xs, pl, ns, rfl, nF, nm, dc, hc, eF, hp, k, s, em, z⟩ := z
  have f : LF n F m h xs ns pl c := ⟨nF, nm, dc, eF, hp, k, s, em⟩
  have nlt := dc.lt
  refine ⟨by show 0 ≤ sizeLine; decide, ?_⟩
  have b0 : LO n F m h.length (c + 25 * 0) h [] ((startD K02.N__law_long_words [.ref n, .ref F, .ref m]).set 3 (some (.ref h.length))) (h ++ [Cell.lst []]) :=
    ⟨rfl, rfl, rfl, rfl, rfl, (Gr.app _).x, dc.app _, app_at⟩
  have nR : h.length ≠ n := by omega
  have hRl : h.length ≤ h.length := Nat.le_refl _
  dsimp only [MV.wNm]
  generalize (startD K02.N__law_long_words [.ref n, .ref F, .ref m]).set 3 (some (.ref h.length)) = sl0 at b0 ⊢
  generalize h ++ [Cell.lst []] = h1 at b0 ⊢
  generalize hR : h.length = R at b0 nR
  refine ⟨4, rfl, by decide, by decide, ?_⟩
  refine it_by (MP.rngD 0 4) (fun i sl h' => ∃ ws, LO n F m R (c + 25 * i) h ws sl h' ∧ ws.length = i ∧ ∀ w ∈ ws, (∀ x ∈ w, x ∈ ns) ∧ w.length ≤ 12) ⟨[], b0, rfl, fun w hw => by cases hw⟩ (fun i sl h' _ _ => rfl) (fun i x sl h' e p => ?_) (fun sl h' p => ?_)
  · obtain ⟨ws, b, lw, hws⟩ := p
    have hi : i < 4 := (List.getElem?_eq_some_iff.mp e).1
    have b1 := b.slot 4 (some x) (by decide)
    dsimp only [MV.wNm]
    generalize sl.set 4 (some x) = sl1 at b1 ⊢
    refine ⟨by show 0 ≤ sizeLine; decide, by show 2 ≤ sizeLine; decide, _, rfl, rfl, _, _, rfl, _, _, rfl, rfl, ?_⟩
    have l1 := b1.len
    have q0 : LI2 n F m R (c + 25 * i) h ns pl ws [] (some 0) ((sl1.set 6 (some (.tup []))).set 7 (some (.int 0))) h' :=
      { (b1.slot 6 (some (.tup [])) (by decide)).slot 7 (some (.int 0)) (by decide) with
        s6 := by rw [List.getElem?_set_ne (by decide)]; exact List.getElem?_set_self (by omega)
        s7 := List.getElem?_set_self (by rw [List.length_set]; omega)
        wn := fun x hx => by cases hx
        sb := fun s e => by cases e; exact k.pos }
    generalize (sl1.set 6 (some (D.tup []))).set 7 (some (D.int 0)) = sl2 at q0 ⊢
    refine ⟨_, q0.s0, n, _, 13, rfl, q0.dc, by omega, by decide, by decide, fun h2 r g2 d2 hr => ?_⟩
    have q1 : LI2 n F m R (c + 25 * i + 1 + 2 * 0) h ns pl ws [] (some 0) sl2 h2 := q0.on nR g2.x d2
    refine ⟨(r : Int), rfl, by omega, by omega, ?_⟩
    have lenR : (MP.rngD 0 (r : Int).toNat).length = r := by unfold MP.rngD; simp
    refine it_by (MP.rngD 0 (r : Int).toNat) (fun j sl' h3 => ∃ w so, LI2 n F m R (c + 25 * i + 1 + 2 * j) h ns pl ws w so sl' h3 ∧ w.length ≤ j) ⟨_, _, q1, Nat.le_refl _⟩ (fun j sl' h3 _ _ => rfl) (fun j x sl' h3 ej p => ?_) (fun sl' h3 p => ?_)
    · obtain ⟨w, so, p, hw⟩ := p
      have hj : j < r := by rw [← lenR]; exact (List.getElem?_eq_some_iff.mp ej).1
      have p1 := p.slot 5 (some x) (by decide) (by decide) (by decide)
      dsimp only [MV.wNm]
      generalize sl'.set 5 (some x) = sl3 at p1 ⊢
      refine long_some f p1 nR (by omega) fun h4 kk ys p2 nk ek hys hy8 => ?_
      have p3 := p2.slot 8 (some (.ref kk)) (by decide) (by decide) (by decide)
      have t8 : (sl3.set 8 (some (D.ref kk)))[8]? = some (some (.ref kk)) := List.getElem?_set_self (by rw [p2.len]; decide)
      dsimp only [MV.wNm]
      generalize sl3.set 8 (some (D.ref kk)) = sl4 at p3 t8 ⊢
      refine ⟨_, t8, ?_⟩
      dsimp only [MV.wNil]
      refine ⟨by show 0 ≤ sizeLine; decide, ?_⟩
      have g5 : Gr h4 (h4 ++ [Cell.lst []]) := .app _
      have p4 := p3.on nR g5.x (p3.dc.app [Cell.lst []])
      have ek5 := g5.lst ek
      have hyn : ∀ y ∈ ys, nameS y = true := fun y hy => s.nm y (hys y hy)
      have ge : items (h4 ++ [Cell.lst []]) h4.length = some [] := items_last
      refine ⟨.list (strsP ys), .list [], .lst (by unfold MP.items; rw [ek5]) (pyRs_str _ _), .lst ge .nil, list_shaped hyn, by decide, ?_⟩
      rw [eq_nil]
      refine ⟨_, rfl, ?_⟩
      generalize h4 ++ [Cell.lst []] = h5 at p4 ek5 ⊢
      cases ys with
      | nil =>
        refine iff_ rfl ?_
        exact ⟨w, so, { p4 with dc := p4.dc.mono (by omega) }, by omega⟩
      | cons y ys =>
        refine ift rfl ?_
        refine ⟨_, p4.s6, _, p4.s0, _, t8, ?_⟩
        refine ⟨n, _, kk, _, rfl, Ne.symm nk, p4.dc, by omega, ek5, by simp, by simp at hy8 ⊢; omega, fun h6 d g6 d6 hd => ?_⟩
        obtain ⟨a, ha, rfl⟩ := List.mem_map.mp hd
        have p5 := p4.on nR g6 d6
        refine ⟨by show 1 ≤ sizeLine; decide, by rw [List.length_map]; exact Nat.le_of_lt (size_small (by simp; omega)), ?_⟩
        have l5 := p5.len
        have p6 : LI2 n F m R (c + 25 * i + 1 + 2 * j + 1 + 1) h ns pl ws (w ++ [a]) so (sl4.set 6 (some (wT (w ++ [a])))) h6 :=
          { p5.toLO.slot 6 (some (wT (w ++ [a]))) (by decide) with
            s6 := List.getElem?_set_self (by omega)
            s7 := by rw [List.getElem?_set_ne (by decide)]; exact p5.s7
            wn := fun x hx => by
              rcases List.mem_append.mp hx with q | q
              · exact p5.wn x q
              · rw [List.mem_singleton.mp q]; exact hys a ha
            sb := p5.sb }
        have ew : D.tup (w.map D.str ++ [D.str a]) = wT (w ++ [a]) := by unfold wT; simp
        dsimp only [MV.wNm]
        rw [ew]
        generalize sl4.set 6 (some (wT (w ++ [a]))) = sl5 at p6 ⊢
        refine long_state f p6 rfl fun so' hso => ?_
        have l6 := p6.len
        refine ⟨w ++ [a], so', { p6.toLO.slot 7 (some (optD so')) (by decide) with
            dc := p6.dc.mono (by omega)
            s6 := by rw [List.getElem?_set_ne (by decide)]; exact p6.s6
            s7 := List.getElem?_set_self (by omega)
            wn := p6.wn
            sb := hso }, by simp; omega⟩
    · obtain ⟨w, so, p, hw⟩ := p
      rw [lenR] at p hw
      refine ⟨_, p.s3, ⟨_, _, rfl, p.re⟩, _, p.s6, ?_⟩
      refine ⟨R, ws.map wT, _, rfl, rfl, p.re, by rw [List.length_map]; exact size_small (by omega), ?_⟩
      refine ⟨ws ++ [w], { p.toLO with gx := p.gx.setN _ (by omega), dc := (p.dc.mono (by omega)).setN _ nR, re := by rw [List.map_append]; exact set_at p.re }, by simp [lw], fun v hv => ?_⟩
      rcases List.mem_append.mp hv with q | q
      · exact hws v q
      · rw [List.mem_singleton.mp q]; exact ⟨p.wn, by omega⟩
  · obtain ⟨ws, b, lw, hws⟩ := p
    refine ⟨_, b.s3, ?_⟩
    exact z h' R ws b.gx (by omega) (b.dc.mono (by show c + 25 * 4 ≤ c + 100; omega)) b.re hws lw
end K02S

set_option Elab.async false
set_option linter.all false
set_option maxRecDepth 100000
set_option maxHeartbeats 2000000
/-! K02AA: whether a word is told rightly. -/
namespace K02S
open PySem PySem.Spec
open PyProof.Rows hiding St
open L2
open MP (D Cell Hd Sd WE WT WA WS WG WI EndsD ItD SpD SpGD endR endG startD itSeq items tyD truD getD putD keyOk wipeD lenD sortS ltS leS dctOf itKeys itVals itItems putFD hasF PyR PyRs)
open MV K02V
theorem Gx.ins {n : Nat} {h h' : Hd} {c0 : Nat} (g : Gx n h h') (d : Dice c0 h n) {k : Nat} {c : Str} {fs : List (Str × D)} (e : h[k]? = some (.ins c fs)) : h'[k]? = some (.ins c fs) := by
  obtain ⟨a, b, x, ed, _⟩ := d
  have hk : k ≠ n := fun z => by rw [z, ed] at e; cases e
  obtain ⟨c', e', l⟩ := g.2 k _ hk e
  rcases l with rfl | ⟨_, _, _, q, _⟩
  · exact e'
  · cases q
theorem IsRows.gx {n : Nat} {h h' : Hd} {c0 : Nat} {ds : List D} {rs : List Row} (k : IsRows h ds rs) (dc : Dice c0 h n) (g : Gx n h h') : IsRows h' ds rs := ⟨k.1, fun i d r a b => by
  obtain ⟨m, lk0, rfl, e⟩ := k.2 i d r a b
  obtain ⟨x, y, z, ed, _⟩ := dc
  obtain ⟨lk1, e1⟩ := g.dct (fun q => by rw [q, ed] at e; cases e) e
  exact ⟨m, lk1, rfl, e1⟩⟩
theorem IsPart.gx {n : Nat} {h h' : Hd} {c0 : Nat} {d : D} {pl : Pl} (k : IsPart h d pl) (dc : Dice c0 h n) (g : Gx n h h') : IsPart h' d pl := by
  obtain ⟨m, refs, acts, rfl, e, r⟩ := k
  exact ⟨m, refs, acts, rfl, g.ins dc e, r.gx dc g⟩
theorem IsPartA.gx {n : Nat} {h h' : Hd} {c0 : Nat} {d : D} {pl : Pl} (k : IsPartA h d pl) (dc : Dice c0 h n) (g : Gx n h h') : IsPartA h' d pl := by
  obtain ⟨m, refs, rfl, e, r⟩ := k
  exact ⟨m, refs, rfl, g.ins dc e, r.gx dc g⟩
theorem wT_inj {v w : List Str} (e : wT v = wT w) : v = w := by
  injection e with e
  exact (List.map_inj_right fun a b e => by injection e).mp e
theorem eq_strS {a : Str} {h : Hd} {Q : D → Hd → Prop} {neg : Bool} (z : Q (.bl (!neg)) h) : MV.oEq neg (.str a) (.str a) h Q := by
  show Q (.bl (if neg then !decide (a = a) else decide (a = a))) h
  have : (if neg then !decide (a = a) else decide (a = a)) = !neg := by cases neg <;> simp
  rw [this]; exact z
def s__law_word_right : SpD := fun ds h q => ∃ (dF dp : D) (pl : Pl) (w : List Str), ds = [dF, dp, wT w] ∧ IsPlain h dF pl ∧ IsPart h dp pl ∧ PlOk pl ∧ (∀ x ∈ w, nameS x = true) ∧ w.length ≤ 20 ∧ ∀ h', Gr h h' → q (.bl true) h'
theorem p_word_right {ds : List D} {h : Hd} {q : D → Hd → Prop} (z : s__law_word_right ds h q) : v__law_word_right s__law_state s__law_offer s_Part_after s_Part_contains s_Part_getitem (endR q) (startD K02.N__law_word_right ds) h := by
  obtain ⟨dF, dp, pl, w, rfl, hF, hp, ok, hw, hl, z⟩ := z
  have lw : w.length < sizeLine := size_small (by omega)
  have bd : ∀ n, after pl w = some n → n ≤ 64 := fun n e => by have := after_lt ok.cl e; have := ok.le; omega
  refine ⟨_, rfl, _, rfl, dF, pl, w, rfl, hF, ok.cl, ?_⟩
  -- the method, the look-up
  obtain ⟨n, refs, acts, rfl, e, hr⟩ := id hp
  refine ⟨_, rfl, ⟨n, _, rfl, e, rfl⟩, _, rfl, .ref n, pl, w, rfl, hp, ok.cl, hw, lw, fun h1 g1 => ?_⟩
  refine ⟨_, rfl, _, rfl, ⟨n, _, rfl, g1.ins e⟩, .ref n, pl, wT w, rfl, hp.gr g1, ok.cl, (word_ok hw lw).1, fun h2 g2 => ⟨fun hf => ?_, fun v ev hv => ?_⟩⟩
  · have hf2 : wordD (.tup (w.map .str)) = false := hf
    rw [(word_ok (h := h) hw lw).2] at hf2; cases hf2
  obtain rfl := wT_inj ev
  refine ⟨_, rfl, by show 2 ≤ sizeLine; decide, ?_⟩
  have g3 : Gr h (h2 ++ [Cell.lst [optD (after pl w), .bl (after pl w).isSome]]) := (g1.trans g2).trans (.app _)
  have sh : Sh true 100 1 (.list [optP (after pl w), .bool (after pl w).isSome]) := (Sh.lst (ShA.cons (optP_sh bd) (ShA.cons (Sh.bl _) ShA.nil))).mono (by decide) (Nat.le_refl _)
  dsimp only [MV.wNil]
  refine repr_by (d := .list [optP (after pl w), .bool (after pl w).isSome]) (.lst items_last (.cons (optP_r _ _) (.cons (.bl _) .nil))) sh (by decide) (by decide) ?_
  have G : ∀ A B, Gr h (h2 ++ A ++ B) := fun A B => (g1.trans g2).trans ((Gr.app A).trans (.app B))
  refine ⟨_, rfl, _, rfl, by show 2 ≤ sizeLine; decide, ?_⟩
  have sh2 : Sh true 100 1 (.list [optP (after pl w), .bool (!decide (optD (after pl w) = .non))]) := (Sh.lst (ShA.cons (optP_sh bd) (ShA.cons (Sh.bl _) ShA.nil))).mono (by decide) (Nat.le_refl _)
  dsimp only [MV.wNil]
  refine repr_by (d := .list [optP (after pl w), .bool (!decide (optD (after pl w) = .non))]) (.lst items_last (.cons (optP_r _ _) (.cons (.bl _) .nil))) sh2 (by decide) (by decide) ?_
  rw [optD_some]
  refine eq_strS ⟨_, rfl, ?_⟩
  refine iff_ rfl ?_
  refine ⟨_, rfl, ?_⟩
  cases ha : after pl w with
  | none => exact ⟨_, rfl, ift rfl (z _ (G _ _))⟩
  | some s =>
    have hs := after_lt ok.cl ha
    refine ⟨_, rfl, iff_ rfl ?_⟩
    refine ⟨_, rfl, _, rfl, ⟨n, _, rfl, (G _ _).ins e⟩, .ref n, pl, w, s, rfl, hp.gr (G _ _), ok, hw, lw, ha, fun h5 g6 => ?_⟩
    dsimp only [MV.wNil]
    refine repr_by (off_pyR _ _ _) (off_sh ok s) (by decide) (by decide) ?_
    refine ⟨_, rfl, _, rfl, dF, pl, s, rfl, hF.gr ((G _ _).trans g6), hs, ok.sm, fun h6 g7 => ?_⟩
    dsimp only [MV.wNil]
    refine repr_by (off_pyR _ _ _) (off_sh ok s) (by decide) (by decide) ?_
    exact eq_strS (z _ (((G _ _).trans g6).trans g7))
end K02S

set_option Elab.async false
set_option linter.all false
set_option maxRecDepth 100000
set_option maxHeartbeats 2000000
/-! K02AB: whether the words are told rightly. -/
namespace K02S
open PySem PySem.Spec
open PyProof.Rows hiding St
open L2
open MP (D Cell Hd Sd WE WT WA WS WG WI EndsD ItD SpD SpGD endR endG startD itSeq items tyD truD getD putD keyOk wipeD lenD sortS ltS leS dctOf itKeys itVals itItems putFD hasF PyR PyRs)
open MV K02V
theorem oAdd_lst {h : Hd} {a b : Nat} {xs ys : List D} {Q : D → Hd → Prop} (ea : h[a]? = some (.lst xs)) (eb : h[b]? = some (.lst ys)) (hl : xs.length + ys.length ≤ 1000) (z : Q (.ref h.length) (h ++ [.lst (xs ++ ys)])) : MV.oAdd (.ref a) (.ref b) h Q :=
  ⟨xs, ys, ea, eb, Nat.le_of_lt (size_small hl), z⟩
/-- an empty list and an empty list -/
theorem oEq_nil {h : Hd} {a b : Nat} {Q : D → Hd → Prop} {neg : Bool} (ea : items h a = some []) (eb : items h b = some []) (z : Q (.bl (!neg)) h) : MV.oEq neg (.ref a) (.ref b) h Q := by
  refine ⟨.list [], .list [], .lst ea .nil, .lst eb .nil, by decide, by decide, ?_⟩
  cases neg <;> exact z
def oddD (k1 k2 k3 : Nat) : List D := [.non, .str "", .str "a", .ref k1, .tup [.tup []], .tup [.str ""], .tup [.str "A"], .int 0, .ref k2, .tup [.non], .tup [.str "a", .int 1], .ref k3]
/-- these are no words -/
theorem odd_ok {h : Hd} {k1 k2 k3 : Nat} {a c : List D} (e1 : h[k1]? = some (.lst a)) {b' : List (D × D)} {lk2 : Bool} (e2 : h[k2]? = some (.dct false lk2 b')) (e3 : h[k3]? = some (.lst c)) : ∀ d ∈ oddD k1 k2 k3, okW h d ∧ wordD d = false := by
  intro d hd
  have st : ∀ x : Str, x.length ≤ 8 → okD h (.str x) := fun x hx => by
    show x.length ≤ sizeLine
    exact Nat.le_of_lt (size_small (by omega))
  simp only [oddD, List.mem_cons, List.not_mem_nil, or_false] at hd
  rcases hd with rfl | rfl | rfl | rfl | rfl | rfl | rfl | rfl | rfl | rfl | rfl | rfl
  · exact ⟨trivial, rfl⟩
  · exact ⟨st _ (by decide +kernel), rfl⟩
  · exact ⟨st _ (by decide +kernel), rfl⟩
  · exact ⟨⟨_, e1, rfl⟩, rfl⟩
  · exact ⟨⟨size_small (by decide), fun x hx => by rw [List.mem_singleton] at hx; rw [hx]; trivial⟩, rfl⟩
  · exact ⟨⟨size_small (by decide), fun x hx => by rw [List.mem_singleton] at hx; rw [hx]; exact st _ (by decide +kernel)⟩, by decide +kernel⟩
  · exact ⟨⟨size_small (by decide), fun x hx => by rw [List.mem_singleton] at hx; rw [hx]; exact st _ (by decide +kernel)⟩, by decide +kernel⟩
  · exact ⟨trivial, rfl⟩
  · exact ⟨⟨_, e2, rfl⟩, rfl⟩
  · exact ⟨⟨size_small (by decide), fun x hx => by rw [List.mem_singleton] at hx; rw [hx]; trivial⟩, rfl⟩
  · exact ⟨⟨size_small (by decide), fun x hx => by
      rcases List.mem_cons.mp hx with q | q
      · rw [q]; exact st _ (by decide +kernel)
      · rw [List.mem_singleton] at q; rw [q]; trivial⟩, by decide +kernel⟩
  · exact ⟨⟨_, e3, rfl⟩, rfl⟩
def qw : Str := "q"
def qqw : Str := "qq"
def tail3 (ns : List Str) : List (List Str) := [[qw], [qw, qw], ns ++ [qqw]]
def tail3D (ns : List Str) : List D := [D.tup [.str "q"], .tup [.str "q", .str "q"], .tup (ns.map D.str ++ [.str "qq"])]
theorem tail3_eq (ns : List Str) : tail3D ns = (tail3 ns).map wT := by simp [tail3, tail3D, wT, qw, qqw]
theorem nm_q : nameS "q" = true := by decide +kernel
theorem nm_qq : nameS "qq" = true := by decide +kernel
def s__law_words_right : SpD := fun ds h q => ∃ (n c F m : Nat) (dp : D) (xs : List D) (pl : Pl) (ns : List Str), ds = [.ref n, .ref F, dp, .ref m] ∧ F ≠ n ∧ m ≠ n ∧ Dice c h n ∧ c + 300 ≤ 1000000 ∧ h[F]? = some (.lst xs) ∧ PlIts h xs pl ∧ GP ns pl ∧ NS ns ∧ h[m]? = some (.lst (ns.map .str)) ∧ IsPart h dp pl ∧
  ∀ h', Gx n h h' → Dice (c + 101) h' n → q (.bl true) h'
theorem p_words_right {ds : List D} {h : Hd} {q : D → Hd → Prop} (z : s__law_words_right ds h q) : v__law_words_right s__law_roll s__law_words s__law_state s__law_long_words s__law_word_right s_Part_contains s_Part_words (endR q) (startD K02.N__law_words_right ds) h := by
  obtain ⟨n, c, F, m, dp, xs, pl, ns, rfl, nF, nm, dc, hc, eF, hp, k, s, em, hP, z⟩ := z
  have nlt := dc.lt
  have n4 := s.le
  -- most
  refine ⟨_, rfl, n, c, 4, rfl, dc, by omega, by decide, by decide, fun h1 t g1 d1 ht => ?_⟩
  have x1 := g1.x
  have em1 := x1.lst nm em
  -- words
  refine ⟨_, rfl, _, rfl, m, t, ns, rfl, em1, n4, by omega, fun h2 kw g2 ew => ?_⟩
  have d2 := d1.gr g2
  have x2 := x1.trans g2.x
  have hP2 := hP.gx dc x2
  obtain ⟨np, refs, acts, rfl, ep, hr⟩ := id hP
  have wl := wall_len (ns := ns) n4 (i := t + 1) (by omega)
  have wn : ∀ w ∈ wall ns (t + 1), (∀ x ∈ w, nameS x = true) ∧ w.length ≤ 3 := fun w hw => by
    obtain ⟨a, b⟩ := wall_ok hw
    exact ⟨fun x hx => s.nm x (b x hx), by omega⟩
  -- list(part.words(most))
  refine ⟨_, rfl, np, _, rfl, x2.ins dc ep, rfl, _, rfl, .ref np, pl, t, rfl, hP2, k.w s, by omega, fun h3 g3 => ?_⟩
  have we := words_eq k s (t + 1)
  have shf : Sh true (256 * 257 + 3) 2 (.list (((wall ns (t + 1)).filter (inP pl)).map wP)) := by
    have h1 : ShA true ((((wall ns (t + 1)).filter (inP pl))).length * (3 * 84 + 3 + 2)) 1 (((wall ns (t + 1)).filter (inP pl)).map wP) := ShA.map fun w hw => wP_sh (wn w (List.mem_filter.mp hw).1).1 (wn w (List.mem_filter.mp hw).1).2
    have h2 := List.length_filter_le (inP pl) (wall ns (t + 1))
    have h3 : ((wall ns (t + 1)).filter (inP pl)).length ≤ 256 := by omega
    exact (Sh.lst h1).mono (by have := Nat.mul_le_mul_right (3 * 84 + 3 + 2) h3; omega) (Nat.le_refl _)
  dsimp only [MV.wNil]
  rw [we]
  refine repr_by (d := .list (((wall ns (t + 1)).filter (inP pl)).map wP)) (.lst items_last (wsP_r _ _)) shf (by decide) (by decide) ?_
  have g4 : Gr h2 (h3 ++ [Cell.lst (((wall ns (t + 1)).filter (inP pl)).map wT)]) := g3.trans (.app _)
  generalize h3 ++ [Cell.lst (((wall ns (t + 1)).filter (inP pl)).map wT)] = h4 at g4 ⊢
  have ew4 := g4.lst ew
  have hF4 : IsPlain h4 (.ref F) pl := ⟨F, xs, rfl, (x2.trans g4.x).lst nF eF, hp.gx dc (x2.trans g4.x)⟩
  -- the words that lead somewhere
  refine ⟨_, rfl, kw, _, rfl, by unfold MP.items; rw [ew4], ?_⟩
  refine lc_by ((wall ns (t + 1)).map wT) (fun j acc h5 => h5 = h4 ∧ acc = (((wall ns (t + 1)).take j).filter (inP pl)).map wT) ⟨rfl, rfl⟩ (fun j acc h5 _ p => by rw [p.1]; unfold MP.itLst MP.items; rw [ew4]; rfl) (fun j x acc h5 ej p => ?_) (fun acc h5 p => ?_)
  · obtain ⟨rfl, rfl⟩ := p
    rw [List.getElem?_map] at ej
    obtain ⟨w, ew', rfl⟩ := Option.map_eq_some_iff.mp ej
    refine ⟨_, rfl, _, rfl, .ref F, pl, w, rfl, hF4, (k.ok s).cl, ?_⟩
    have hj := (List.getElem?_eq_some_iff.mp ew').1
    have et : ((wall ns (t + 1)).take (j + 1)).filter (inP pl) = ((wall ns (t + 1)).take j).filter (inP pl) ++ if inP pl w = true then [w] else [] := by
      rw [List.take_add_one, ew', List.filter_append]
      simp only [Option.toList_some, List.filter_cons, List.filter_nil]
    refine ⟨!decide (optD (after pl w) = .non), rfl, ?_⟩
    rw [optD_some]
    show if (inP pl w) = true then _ else _
    cases hI : inP pl w with
    | true =>
      refine ift rfl ?_
      have hfl := List.length_filter_le (inP pl) ((wall ns (t + 1)).take j)
      rw [List.length_take] at hfl
      refine ⟨_, rfl, by rw [List.length_map]; exact size_small (by omega), rfl, ?_⟩
      rw [et, hI]; simp
    | false =>
      refine iff_ rfl ⟨rfl, ?_⟩
      rw [et, hI]; simp
  obtain ⟨rfl, rfl⟩ := p
  rw [List.length_map, List.take_length]
  dsimp only [MV.wNil]
  refine repr_by (d := .list (((wall ns (t + 1)).filter (inP pl)).map wP)) (.lst items_last (wsP_r _ _)) shf (by decide) (by decide) ?_
  refine eq_strS ⟨_, rfl, ?_⟩
  refine iff_ rfl ?_
  have g5 : Gr h2 (h5 ++ [Cell.lst (((wall ns (t + 1)).filter (inP pl)).map wT)]) := g4.trans (.app _)
  generalize h5 ++ [Cell.lst (((wall ns (t + 1)).filter (inP pl)).map wT)] = h6 at g5 ⊢
  have x6 := x2.trans g5.x
  have d6 := d2.gr g5
  -- some
  refine ⟨_, rfl, _, rfl, _, rfl, _, rfl, n, c + 1, F, m, xs, pl, ns, rfl, nF, nm, d6, by omega, x6.lst nF eF, hp.gx dc x6, k, s, x6.lst nm em, fun h7 kl ls x7 hkl d7 el hls l4 => ?_⟩
  have kn : kw ≠ n := fun zz => by
    obtain ⟨a1, a2, a3, ed, _⟩ := d2
    rw [zz, ed] at ew
    cases hw : wall ns (t + 1) with
    | nil => rw [hw] at ew; cases ew
    | cons w ws => rw [hw] at ew; injection ew with ew; injection ew with ew; injection ew with ew; cases ew
  have ew7 := x7.lst kn ((Gr.x (m := n) g5).lst kn ew)
  have nl6 := d6.lt
  have xx := x6.trans x7
  refine oAdd_lst ew7 el (by rw [List.length_map, List.length_map, l4]; omega) ?_
  have em8 : (h7 ++ [Cell.lst ((wall ns (t + 1)).map wT ++ ls.map wT)])[m]? = some (.lst (ns.map .str)) := (xx.trans (Gr.app _).x).lst nm em
  refine ⟨by show 1 ≤ sizeLine; decide, by show 2 ≤ sizeLine; decide, _, rfl, _, by unfold MP.items; rw [em8], by show 1 ≤ sizeLine; decide, by rw [List.length_map]; exact Nat.le_of_lt (size_small (by simp; omega)), by show 3 ≤ sizeLine; decide, ?_⟩
  refine oAdd_lst (ys := tail3D ns) ((Gr.app _).lst app_at) app_at (by rw [List.length_append, List.length_map, List.length_map, l4]; simp [tail3D]; omega) ?_
  have eall : (wall ns (t + 1)).map wT ++ ls.map wT ++ tail3D ns = (wall ns (t + 1) ++ ls ++ tail3 ns).map wT := by rw [tail3_eq]; simp
  dsimp only [MV.wNm]
  rw [show ([D.tup [.str "q"], .tup [.str "q", .str "q"], .tup (ns.map D.str ++ [.str "qq"])] : List D) = tail3D ns from rfl, eall]
  have hall : ∀ w ∈ wall ns (t + 1) ++ ls ++ tail3 ns, (∀ x ∈ w, nameS x = true) ∧ w.length ≤ 20 := by
    intro w hw
    rcases List.mem_append.mp hw with hw | hw
    · rcases List.mem_append.mp hw with hw | hw
      · exact ⟨(wn w hw).1, by have := (wn w hw).2; omega⟩
      · exact ⟨fun x hx => s.nm x ((hls w hw).1 x hx), by have := (hls w hw).2; omega⟩
    · simp only [tail3, List.mem_cons, List.not_mem_nil, or_false] at hw
      rcases hw with rfl | rfl | rfl
      · exact ⟨fun x hx => by rw [List.mem_singleton] at hx; rw [hx]; exact nm_q, by decide⟩
      · exact ⟨fun x hx => by
          have : x = qw := by simpa using hx
          rw [this]; exact nm_q, by decide⟩
      · refine ⟨fun x hx => ?_, by simp; omega⟩
        rcases List.mem_append.mp hx with q | q
        · exact s.nm x q
        · rw [List.mem_singleton.mp q]; exact nm_qq
  have hlen : (wall ns (t + 1) ++ ls ++ tail3 ns).length ≤ 300 := by simp [l4, tail3]; omega
  have last : L2.atI ((wall ns (t + 1) ++ ls ++ tail3 ns).map wT) (-1) = some (wT (ns ++ [qqw])) := by
    have : wall ns (t + 1) ++ ls ++ tail3 ns = (wall ns (t + 1) ++ ls ++ [[qw], [qw, qw]]) ++ [ns ++ [qqw]] := by simp [tail3]
    rw [this, List.map_append]
    exact L2.atI_last _ _
  generalize wall ns (t + 1) ++ ls ++ tail3 ns = al at hall hlen last ⊢
  have x8 : Gx n h (h7 ++ [Cell.lst ((wall ns (t + 1)).map wT ++ ls.map wT)] ++ [Cell.lst (tail3D ns)] ++ [Cell.lst (al.map wT)]) := xx.trans (((Gr.app _).trans (.app _)).trans (.app _)).x
  have d8 := ((d7.app [Cell.lst ((wall ns (t + 1)).map wT ++ ls.map wT)]).app [Cell.lst (tail3D ns)]).app [Cell.lst (al.map wT)]
  have eS : (h7 ++ [Cell.lst ((wall ns (t + 1)).map wT ++ ls.map wT)] ++ [Cell.lst (tail3D ns)] ++ [Cell.lst (al.map wT)])[(h7 ++ [Cell.lst ((wall ns (t + 1)).map wT ++ ls.map wT)] ++ [Cell.lst (tail3D ns)]).length]? = some (.lst (al.map wT)) := app_at
  generalize (h7 ++ [Cell.lst ((wall ns (t + 1)).map wT ++ ls.map wT)] ++ [Cell.lst (tail3D ns)]).length = S at eS ⊢
  generalize h7 ++ [Cell.lst ((wall ns (t + 1)).map wT ++ ls.map wT)] ++ [Cell.lst (tail3D ns)] ++ [Cell.lst (al.map wT)] = h8 at x8 d8 eS ⊢
  have hF8 : IsPlain h8 (.ref F) pl := ⟨F, xs, rfl, x8.lst nF eF, hp.gx dc x8⟩
  have hP8 := hP.gx dc x8
  -- each word is told rightly
  refine ⟨_, rfl, S, _, rfl, by unfold MP.items; rw [eS], ?_⟩
  refine lc_by (al.map wT) (fun j acc h9 => Gr h8 h9 ∧ acc = []) ⟨.refl, rfl⟩ (fun j acc h9 _ p => by unfold MP.itLst MP.items; rw [p.1.lst eS]; rfl) (fun j x acc h9 ej p => ?_) (fun acc h9 p => ?_)
  · obtain ⟨g9, rfl⟩ := p
    rw [List.getElem?_map] at ej
    obtain ⟨w, ew', rfl⟩ := Option.map_eq_some_iff.mp ej
    obtain ⟨hw1, hw2⟩ := hall w (List.mem_of_getElem? ew')
    refine ⟨_, rfl, _, rfl, _, rfl, .ref F, .ref np, pl, w, rfl, hF8.gr g9, hP8.gr g9, k.ok s, hw1, hw2, fun h10 g10 => ⟨true, rfl, ?_⟩⟩
    exact iff_ rfl ⟨g9.trans g10, rfl⟩
  obtain ⟨g9, rfl⟩ := p
  refine ⟨by show 0 ≤ sizeLine; decide, ?_⟩
  refine oEq_nil (by rw [MP.items, List.getElem?_append_left (by simp)]; simp) items_last ⟨_, rfl, ?_⟩
  refine iff_ rfl ?_
  have g10 : Gr h8 (h9 ++ [Cell.lst []] ++ [Cell.lst []]) := (g9.trans (.app _)).trans (.app _)
  generalize h9 ++ [Cell.lst []] ++ [Cell.lst []] = h10 at g10 ⊢
  have eS10 := g10.lst eS
  -- odd
  refine ⟨_, rfl, 1, rfl, ?_⟩
  refine oIx_lst eS10 last ?_
  refine ⟨by show 0 ≤ sizeLine; decide, by show 1 ≤ sizeLine; decide, by show 1 ≤ sizeLine; decide, by show 1 ≤ sizeLine; decide, by show 1 ≤ sizeLine; decide, by show 2 ≤ sizeLine; decide, by show 0 ≤ sizeLine; decide, by show 1 ≤ sizeLine; decide, by show 12 ≤ sizeLine; decide, ?_⟩
  have aw : ∀ (g : Hd) (A B C : Cell), Gr g (g ++ [A] ++ [B] ++ [C]) := fun g A B C => ((Gr.app _).trans (.app _)).trans (.app _)
  dsimp only [MV.wNm]
  refine ⟨_, rfl, _, oddD h10.length (h10 ++ [Cell.lst ((ns ++ [qqw]).map D.str)]).length (h10 ++ [Cell.lst ((ns ++ [qqw]).map D.str)] ++ [Cell.dct false false []]).length, rfl, items_last, ?_⟩
  have f1 : (h10 ++ [Cell.lst ((ns ++ [qqw]).map D.str)] ++ [Cell.dct false false []] ++ [Cell.lst [D.tup []]])[h10.length]? = some (.lst ((ns ++ [qqw]).map D.str)) := ((Gr.app _).trans (.app _)).lst app_at
  have f2 : (h10 ++ [Cell.lst ((ns ++ [qqw]).map D.str)] ++ [Cell.dct false false []] ++ [Cell.lst [D.tup []]])[(h10 ++ [Cell.lst ((ns ++ [qqw]).map D.str)]).length]? = some (.dct false false []) := by
    rw [List.getElem?_append_left (by simp)]; exact app_at
  have f3 : (h10 ++ [Cell.lst ((ns ++ [qqw]).map D.str)] ++ [Cell.dct false false []] ++ [Cell.lst [D.tup []]])[(h10 ++ [Cell.lst ((ns ++ [qqw]).map D.str)] ++ [Cell.dct false false []]).length]? = some (.lst [D.tup []]) := app_at
  have g11 : Gr h8 (h10 ++ [Cell.lst ((ns ++ [qqw]).map D.str)] ++ [Cell.dct false false []] ++ [Cell.lst [D.tup []]]) := g10.trans (aw _ _ _ _)
  generalize h10.length = k1 at f1 ⊢
  generalize (h10 ++ [Cell.lst ((ns ++ [qqw]).map D.str)]).length = k2 at f2 ⊢
  generalize (h10 ++ [Cell.lst ((ns ++ [qqw]).map D.str)] ++ [Cell.dct false false []]).length = k3 at f3 ⊢
  show ∃ W : Nat → Nat → List D → Hd → Prop, (∃ m, W 0 m [] ((h10 ++ [Cell.lst ((ns ++ [qqw]).map D.str)] ++ [Cell.dct false false []] ++ [Cell.lst [D.tup []]]) ++ [Cell.lst (oddD k1 k2 k3)])) ∧ _
  generalize h10 ++ [Cell.lst ((ns ++ [qqw]).map D.str)] ++ [Cell.dct false false []] ++ [Cell.lst [D.tup []]] = h11 at f1 f2 f3 g11 ⊢
  have eO : (h11 ++ [Cell.lst (oddD k1 k2 k3)])[h11.length]? = some (.lst (oddD k1 k2 k3)) := app_at
  have g12 : Gr h11 (h11 ++ [Cell.lst (oddD k1 k2 k3)]) := .app _
  generalize h11.length = O at eO ⊢
  generalize h11 ++ [Cell.lst (oddD k1 k2 k3)] = h12 at eO g12 ⊢
  have g13 := g11.trans g12
  refine lc_by (oddD k1 k2 k3) (fun j acc h13 => Gr h12 h13 ∧ acc = []) ⟨.refl, rfl⟩ (fun j acc h13 _ p => by unfold MP.itLst MP.items; rw [p.1.lst eO]; rfl) (fun j x acc h13 ej p => ?_) (fun acc h13 p => ?_)
  · obtain ⟨g14, rfl⟩ := p
    obtain ⟨lk2, f2'⟩ := (g12.trans g14).dct f2
    obtain ⟨o1, o2⟩ := odd_ok ((g12.trans g14).lst f1) f2' ((g12.trans g14).lst f3) x (List.mem_of_getElem? ej)
    refine ⟨_, rfl, _, rfl, ⟨np, _, rfl, (g13.trans g14).ins (x8.ins dc ep)⟩, .ref np, pl, x, rfl, hP8.gr (g13.trans g14), (k.ok s).cl, o1, fun h14 g15 => ⟨fun hf => ?_, fun w ew' hw => ?_⟩⟩
    · exact ⟨false, rfl, false, rfl, iff_ rfl ⟨g14.trans g15, rfl⟩⟩
    · rw [ew'] at o2
      have o3 : wordD (.tup (w.map .str)) = true := by
        simp only [wordD, List.all_map, List.all_eq_true, Function.comp_def, nameD]
        exact hw
      rw [o3] at o2; cases o2
  obtain ⟨g14, rfl⟩ := p
  refine ⟨by show 0 ≤ sizeLine; decide, ?_⟩
  refine oEq_nil (by rw [MP.items, List.getElem?_append_left (by simp)]; simp) items_last ?_
  have gE : Gr h8 (h13 ++ [Cell.lst []] ++ [Cell.lst []]) := (g13.trans g14).trans ((Gr.app _).trans (.app _))
  exact z _ (x8.trans gE.x) ((d8.gr gE).mono (by omega))
end K02S

set_option Elab.async false
set_option linter.all false
set_option maxRecDepth 100000
set_option maxHeartbeats 2000000
/-! K02AC: the law's own look at a part: names used, rests, text. -/
namespace K02S
open PySem PySem.Spec
open PyProof.Rows hiding St
open L2
open MP (D Cell Hd Sd WE WT WA WS WG WI EndsD ItD SpD SpGD endR endG startD itSeq items tyD truD getD putD keyOk wipeD lenD sortS ltS leS dctOf itKeys itVals itItems putFD hasF PyR PyRs)
open MV K02V
structure RS (n kN F : Nat) (dP : D) (ns : List Str) (xs : List D) (pl : Pl) (sl : Sd) (h : Hd) : Prop where
  len : sl.length = 13
  s0 : sl[0]? = some (some (.ref n))
  s1 : sl[1]? = some (some (.ref kN))
  s2 : sl[2]? = some (some (.ref F))
  s7 : sl[7]? = some (some dP)
  nF : F ≠ n
  nN : kN ≠ n
  eN : h[kN]? = some (.lst (ns.map .str))
  eF : h[F]? = some (.lst xs)
  it : PlIts h xs pl
  hA : IsPartA h dP pl
  gp : GP ns pl
  nk : NS ns
section
variable {n kN F : Nat} {dP : D} {ns : List Str} {xs : List D} {pl : Pl} {sl : Sd} {h h' : Hd} {c : Nat}
theorem RS.slot (b : RS n kN F dP ns xs pl sl h) (k : Nat) (d : Option D) (h0 : k ≠ 0) (h1 : k ≠ 1) (h2 : k ≠ 2) (h7 : k ≠ 7) : RS n kN F dP ns xs pl (sl.set k d) h :=
  { b with len := by rw [List.length_set]; exact b.len, s0 := by rw [List.getElem?_set_ne h0]; exact b.s0, s1 := by rw [List.getElem?_set_ne h1]; exact b.s1, s2 := by rw [List.getElem?_set_ne h2]; exact b.s2, s7 := by rw [List.getElem?_set_ne h7]; exact b.s7 }
theorem RS.gr (b : RS n kN F dP ns xs pl sl h) (g : Gr h h') : RS n kN F dP ns xs pl sl h' :=
  { b with eN := g.lst b.eN, eF := g.lst b.eF, it := b.it.gr g, hA := b.hA.gr g }
theorem RS.gx (b : RS n kN F dP ns xs pl sl h) (dc : Dice c h n) (g : Gx n h h') : RS n kN F dP ns xs pl sl h' :=
  { b with eN := g.lst b.nN b.eN, eF := g.lst b.nF b.eF, it := b.it.gx dc g, hA := b.hA.gx dc g }
theorem rows_take {i : Nat} {p : Row × Bool} (e : pl[i]? = some p) : rowsOf (pl.take (i + 1)) = rowsOf (pl.take i) ++ [p.1] := by
  unfold rowsOf; rw [List.take_add_one, e]; simp
theorem act_step {rs : List Row} {r : Row} : sortS (actS rs ++ keysR r).eraseDups = actS (rs ++ [r]) := by
  refine sortS_perm_eq ((List.perm_ext_iff_of_nodup (nd_ed _) (nd_ed _)).mpr fun x => ?_)
  rw [mem_ed, mem_ed, List.mem_append, mem_actS]
  simp [allK]
theorem act_le (gp : GP ns pl) (nk : NS ns) {rs : List Row} (h : ∀ r ∈ rs, ∃ p ∈ pl, p.1 = r) : (actS rs).length ≤ 4 := by
  refine Nat.le_trans (nodup_le (nd_actS rs) fun x hx => ?_) nk.le
  obtain ⟨r, hr, hx⟩ := List.mem_flatMap.mp (mem_actS.mp hx)
  obtain ⟨p, hp, rfl⟩ := h r hr
  exact (gp.row p hp).sub x hx
theorem rows_of_mem {r : Row} (h : r ∈ rowsOf pl) : ∃ p ∈ pl, p.1 = r := by
  obtain ⟨p, hp, e⟩ := List.mem_map.mp h
  exact ⟨p, hp, e⟩
theorem rows_take_mem {r : Row} {i : Nat} (h : r ∈ rowsOf (pl.take i)) : ∃ p ∈ pl, p.1 = r := by
  obtain ⟨p, hp, e⟩ := List.mem_map.mp h
  exact ⟨p, List.mem_of_mem_take hp, e⟩
/-- for row, rest in plain: used = sorted(set(used + list(row))) -/
theorem used_for {E : EndsD} {U0 : Nat} (b : RS n kN F dP ns xs pl sl h) (s8 : sl[8]? = some (some (.ref U0))) (e8 : h[U0]? = some (.lst []))
    (z : ∀ sl' h' U, Gr h h' → RS n kN F dP ns xs pl sl' h' → sl'[8]? = some (some (.ref U)) → h'[U]? = some (.lst ((actS (rowsOf pl)).map .str)) → E.nx sl' h') :
    (MV.wFor (wOver (wSlot 2) fLst) (wGT 2 (wG1 (wNm 9) (wG1 (wNm 10) wG0)))
      (wAsg (wSortedSetS (wBin oAdd (wSlot 8) (wCB cList (wCons (wSlot 9) wNil)))) (wNm 8))) E sl h := by
  have lx := b.it.1
  have e0 : actS (rowsOf (pl.take 0)) = [] := List.eq_nil_iff_forall_not_mem.mpr fun x hx => by
    have := mem_actS.mp hx
    simp [allK, rowsOf] at this
  refine ⟨_, b.s2, F, xs, rfl, by unfold MP.items; rw [b.eF], ?_⟩
  refine it_by xs (fun i sl' h' => Gr h h' ∧ RS n kN F dP ns xs pl sl' h' ∧ ∃ U, sl'[8]? = some (some (.ref U)) ∧ h'[U]? = some (.lst ((actS (rowsOf (pl.take i))).map .str))) ⟨.refl, b, U0, s8, by rw [e0]; exact e8⟩ (fun i sl' h' _ p => by unfold MP.itLst MP.items; rw [p.2.1.eF]; rfl) (fun i x sl' h' e p => ?_) (fun sl' h' p => ?_)
  · obtain ⟨g, b1, U, t8, eU⟩ := p
    have hi : i < pl.length := by rw [← lx]; exact (List.getElem?_eq_some_iff.mp e).1
    have epl : pl[i]? = some pl[i] := List.getElem?_eq_getElem hi
    obtain ⟨m, lk0, e1, e2⟩ := b1.it.2 i _ epl
    rw [e] at e1
    obtain rfl := Option.some.inj e1
    have b2 := (b1.slot 9 (some (.ref m)) (by decide) (by decide) (by decide) (by decide)).slot 10 (some (.bl pl[i].2)) (by decide) (by decide) (by decide) (by decide)
    have u8 : ((sl'.set 9 (some (D.ref m))).set 10 (some (D.bl pl[i].2)))[8]? = some (some (.ref U)) := by rw [List.getElem?_set_ne (by decide), List.getElem?_set_ne (by decide)]; exact t8
    have u9 : ((sl'.set 9 (some (D.ref m))).set 10 (some (D.bl pl[i].2)))[9]? = some (some (.ref m)) := by rw [List.getElem?_set_ne (by decide)]; exact List.getElem?_set_self (by rw [b1.len]; decide)
    refine ⟨_, rfl, rfl, _, _, rfl, _, _, rfl, rfl, ?_⟩
    generalize (sl'.set 9 (some (D.ref m))).set 10 (some (D.bl pl[i].2)) = sl2 at b2 u8 u9 ⊢
    have k4 : (keysR pl[i].1).length ≤ 4 := by
      have := (b.gp.row _ (List.getElem_mem hi)).len
      have := b.nk.le
      unfold keysR; rw [List.length_map]; omega
    have a4 : (actS (rowsOf (pl.take i))).length ≤ 4 := act_le b.gp b.nk fun r hr => rows_take_mem hr
    refine ⟨_, u8, _, u9, ?_⟩
    dsimp only [MV.wNil]
    refine cList_dct e2 ?_
    rw [rowK_keys]
    refine oAdd_lst ((Gr.app _).lst eU) app_at (by rw [List.length_map, List.length_map]; omega) ?_
    refine ⟨_, actS (rowsOf (pl.take i)) ++ keysR pl[i].1, rfl, by rw [List.map_append]; exact items_last, by rw [List.length_append]; omega, ?_⟩
    rw [act_step, ← rows_take epl]
    have ga : ∀ A B C : Cell, Gr h' (h' ++ [A] ++ [B] ++ [C]) := fun A B C => ((Gr.app _).trans (.app _)).trans (.app _)
    exact ⟨g.trans (ga _ _ _), (b2.gr (ga _ _ _)).slot 8 _ (by decide) (by decide) (by decide) (by decide), _, List.getElem?_set_self (by rw [b2.len]; decide), app_at⟩
  · obtain ⟨g, b1, U, t8, eU⟩ := p
    rw [lx, List.take_length] at eU
    exact z sl' h' U g b1 t8 eU
/-- the rests -/
theorem rests_of {Q : D → Hd → Prop} (b : RS n kN F dP ns xs pl sl h) (z : ∀ h', Gr h h' → Q (.tup (natsD (idx pl))) h') :
    (MV.wCB cTuple (wCons (wLc (wEnum (wCons (wSlot 2) wNil)) (wGT 2 (wG1 (wNm 12) (wG1 (wNm 9) wG0))) (wTru (wBin oIx (wSlot 9) (wC (.int 1)))) (wSlot 12) [12, 9]) wNil)) sl h Q := by
  have lx := b.it.1
  have l8 := b.gp.le
  refine ⟨_, b.s2, F, xs, rfl, by unfold MP.items; rw [b.eF], ?_⟩
  refine lc_by ((xs.zipIdx).map fun p => D.tup [.int (p.2 : Nat), p.1]) (fun i acc h' => h' = h ∧ acc = natsD ((List.range i).filter (restS pl))) ⟨rfl, rfl⟩ (fun i acc h' _ p => by rw [p.1]; unfold MP.itEnum MP.items; rw [b.eF]; simp [List.getElem?_zipIdx]; rfl) (fun i x acc h' e p => ?_) (fun acc h' p => ?_)
  · obtain ⟨rfl, rfl⟩ := p
    rw [List.getElem?_map, List.getElem?_zipIdx] at e
    obtain ⟨y, ey, rfl⟩ := Option.map_eq_some_iff.mp e
    obtain ⟨x, ex, rfl⟩ := Option.map_eq_some_iff.mp ey
    have hi : i < pl.length := by rw [← lx]; exact (List.getElem?_eq_some_iff.mp ex).1
    obtain ⟨m, lk0, e1, e2⟩ := b.it.2 i _ (List.getElem?_eq_getElem hi)
    rw [ex] at e1
    obtain rfl := Option.some.inj e1
    have wl : (wipeD sl [12, 9]).length = 13 := by simp [MP.wipeD, b.len]
    have w9 : (((wipeD sl [12, 9]).set 12 (some (.int ((0 + i : Nat) : Int)))).set 9 (some (.tup [.ref m, .bl pl[i].2])))[9]? = some (some (.tup [.ref m, .bl pl[i].2])) := List.getElem?_set_self (by rw [List.length_set, wl]; decide)
    have w12 : (((wipeD sl [12, 9]).set 12 (some (.int ((0 + i : Nat) : Int)))).set 9 (some (.tup [.ref m, .bl pl[i].2])))[12]? = some (some (.int ((0 + i : Nat) : Int))) := by
      rw [List.getElem?_set_ne (by decide)]; exact List.getElem?_set_self (by rw [wl]; decide)
    refine ⟨_, rfl, rfl, _, _, rfl, _, _, rfl, rfl, ?_⟩
    refine ⟨_, w9, ?_⟩
    dsimp only [MV.wC]
    refine oIx_tup (i := 1) (d := .bl pl[i].2) rfl ?_
    refine ⟨pl[i].2, rfl, ?_⟩
    have rs : restS pl i = pl[i].2 := by unfold restS; rw [List.getElem?_eq_getElem hi]; rfl
    have fl : (List.range (i + 1)).filter (restS pl) = (List.range i).filter (restS pl) ++ if pl[i].2 = true then [i] else [] := by
      rw [List.range_succ, List.filter_append, ← rs]
      by_cases h : restS pl i = true
      · rw [if_pos h]; simp [h]
      · rw [if_neg h]; simp at h; simp [h]
    have ll : ((List.range i).filter (restS pl)).length ≤ i := by
      have := List.length_filter_le (restS pl) (List.range i)
      simpa using this
    cases eb : pl[i].2 with
    | true =>
      refine ift rfl ?_
      rw [eb] at w12
      refine ⟨_, w12, by unfold natsD; rw [List.length_map]; exact size_small (by omega), rfl, ?_⟩
      rw [fl, eb]; unfold natsD; simp
    | false =>
      refine iff_ rfl ?_
      refine ⟨rfl, ?_⟩
      rw [fl, eb]; simp
  · obtain ⟨rfl, rfl⟩ := p
    have le : ((xs.zipIdx).map fun p => D.tup [.int (p.2 : Nat), p.1]).length = pl.length := by simp [lx]
    rw [le]
    dsimp only [MV.wNil]
    exact ⟨_, items_last, z _ (.app _)⟩
/-- the text -/
theorem text_of {Q : D → Hd → Prop} {U : Nat} (b : RS n kN F dP ns xs pl sl h) (s8 : sl[8]? = some (some (.ref U))) (e8 : h[U]? = some (.lst ((actS (rowsOf pl)).map .str))) (z : Q (.str (partS pl.length (actS (rowsOf pl)).length)) h) :
    (MV.wBin oAdd (wBin oAdd (wBin oAdd (wBin oAdd (wC (.str "part of ")) (wCB cStrInt (wCons (wCB cLen (wCons (wSlot 2) wNil)) wNil))) (wC (.str " states, "))) (wCB cStrInt (wCons (wCB cLen (wCons (wSlot 8) wNil)) wNil))) (wC (.str " actions"))) sl h Q := by
  have lx := b.it.1
  have l8 := b.gp.le
  have a4 : (actS (rowsOf pl)).length ≤ 4 := act_le b.gp b.nk fun r hr => rows_of_mem hr
  have b1 := small_len (n := pl.length) (by omega)
  have b2 := small_len (n := (actS (rowsOf pl)).length) (by omega)
  have c0 : ("part of " : Str).length = 8 := by decide +kernel
  have c1 : (" states, " : Str).length = 9 := by decide +kernel
  have c2 : (" actions" : Str).length = 8 := by decide +kernel
  have sz : sizeLine = 16777216 := sizeLine_eq
  refine ⟨_, b.s2, _, xs.length, rfl, by simp only [lenD, b.eF], _, rfl, log_small (by omega), ?_⟩
  rw [lx]
  refine ⟨by omega, by rw [str_len]; omega, ?_⟩
  refine ⟨_, s8, _, ((actS (rowsOf pl)).map D.str).length, rfl, by simp only [lenD, e8], _, rfl, log_small (by rw [List.length_map]; omega), ?_⟩
  rw [List.length_map]
  refine ⟨by rw [str_len, str_len]; omega, by rw [str_len, str_len, str_len]; omega, z⟩
end
end K02S

set_option Elab.async false
set_option linter.all false
set_option maxRecDepth 100000
set_option maxHeartbeats 2000000
/-! K02AD: what is due, what is told. -/
namespace K02S
open PySem PySem.Spec
open PyProof.Rows hiding St
open L2
open MP (D Cell Hd Sd WE WT WA WS WG WI EndsD ItD SpD SpGD endR endG startD itSeq items tyD truD getD putD keyOk wipeD lenD sortS ltS leS dctOf itKeys itVals itItems putFD hasF PyR PyRs PyX PyXs PyXk)
open MV K02V
def rowPK (r : Row) : List (PyData × PyData) := r.map fun p => (PyData.str p.1, PyData.int (p.2 : Int))
def rowP (r : Row) : PyData := .dict (rowPK r)
theorem rowPK_x (h : Hd) : ∀ r : Row, PyXk h (rowK r) (rowPK r)
  | [] => .nil
  | p :: r => .str (.int _) (rowPK_x h r)
theorem rowP_x {h : Hd} {d : D} {r : Row} (k : IsRow h d r) : PyX h d (rowP r) := by
  obtain ⟨n, lk0, rfl, e⟩ := k
  exact .dct e (rowPK_x h r)
theorem rowsP_x {h : Hd} : ∀ {ds : List D} {rs : List Row}, IsRows h ds rs → PyXs h ds (rs.map rowP)
  | [], [], _ => .nil
  | [], _ :: _, k => by have := k.1; simp at this
  | _ :: _, [], k => by have := k.1; simp at this
  | d :: ds, r :: rs, k => .cons (rowP_x (k.2 0 d r rfl rfl)) (rowsP_x ⟨by have := k.1; simpa using this, fun i d' r' a b => k.2 (i + 1) d' r' (by simpa using a) (by simpa using b)⟩)
theorem intsP_x (h : Hd) : ∀ ns : List Nat, PyXs h (natsD ns) (intsP ns)
  | [] => .nil
  | n :: ns => .cons (.int _) (intsP_x h ns)
theorem strsP_x (h : Hd) : ∀ xs : List Str, PyXs h (xs.map D.str) (strsP xs)
  | [] => .nil
  | x :: xs => .cons (.str _) (strsP_x h xs)
theorem kv_len : ∀ {r : Row}, (∀ p ∈ r, nameS p.1 = true ∧ p.2 ≤ 64) → PyData.showableKv (rowPK r) = true ∧ piled (PyData.shownKv (rowPK r)) ≤ 90 * r.length ∧ PyData.depthKv (rowPK r) = 0
  | [], _ => ⟨rfl, Nat.le_refl _, rfl⟩
  | p :: r, h => by
    obtain ⟨a, b, c⟩ := kv_len (r := r) fun y hy => h y (List.mem_cons_of_mem _ hy)
    obtain ⟨h1, h2⟩ := h p List.mem_cons_self
    have s1 : Sh false 82 0 (.str p.1) := .name h1
    have s2 : Sh false 4 0 (.int (p.2 : Int)) := .nat h2
    unfold rowPK at *
    rw [List.map_cons]
    refine ⟨by rw [PyData.showableKv, s1.sw, s2.sw, a]; rfl, ?_, by rw [PyData.depthKv, c]; rfl⟩
    rw [PyData.shownKv, piled_cons, strLen_append, strLen_append, List.length_cons]
    have e : (Str.ofString ": ").length = 2 := rfl
    have := s1.le
    have := s2.le
    omega
theorem join_le (ts : List Str) : (Str.join ", " ts).length ≤ piled ts := by
  by_cases h : ts = []
  · subst h; exact Nat.le_refl _
  · have := join_length_add ts h; omega
theorem rowP_sh {r : Row} (h : ∀ p ∈ r, nameS p.1 = true ∧ p.2 ≤ 64) (h4 : r.length ≤ 4) : Sh false 400 1 (rowP r) := by
  obtain ⟨a, b, c⟩ := kv_len h
  refine ⟨by unfold rowP; rw [PyData.showable]; exact a, ?_, by unfold rowP; rw [PyData.depth, c]; decide, fun e => by cases e⟩
  unfold rowP
  rw [PyData.shown]
  unfold dictText
  rw [strLen_append, strLen_append]
  have := join_le (PyData.shownKv (rowPK r))
  have h2 : (Str.ofString "{").length = 1 := rfl
  have h3 : (Str.ofString "}").length = 1 := rfl
  omega
theorem text_all : ((List.range 9).all fun n => (List.range 5).all fun m => decide ((reprText (partS n m)).length ≤ 400)) = true := by decide +kernel
theorem text_sh {n m : Nat} (hn : n ≤ 8) (hm : m ≤ 4) : Sh false 400 0 (.str (partS n m)) := by
  have h1 := List.all_eq_true.mp text_all n (List.mem_range.mpr (by omega))
  have h2 := List.all_eq_true.mp h1 m (List.mem_range.mpr (by omega))
  exact ⟨rfl, by rw [PyData.shown]; exact of_decide_eq_true h2, Nat.le_refl _, fun e => by cases e⟩
def dueP (pl : Pl) : PyData := .list [.tuple ((rowsOf pl).map rowP), .tuple (intsP (idx pl)), .tuple (strsP (actS (rowsOf pl))), .int (pl.length : Int), .str (partS pl.length (actS (rowsOf pl)).length)]
def dueL (refs : List D) (pl : Pl) : List D := [.tup refs, .tup (natsD (idx pl)), actD pl, .int (pl.length : Int), .str (partS pl.length (actS (rowsOf pl)).length)]
theorem dueX {h : Hd} {T : Nat} {refs : List D} {pl : Pl} (r : IsRows h refs (rowsOf pl)) (e : items h T = some (dueL refs pl)) : PyX h (.ref T) (dueP pl) :=
  .lst e (.cons (.tup (rowsP_x r)) (.cons (.tup (intsP_x h _)) (.cons (.tup (strsP_x h _)) (.cons (.int _) (.cons (.str _) .nil)))))
theorem dueSh {ns : List Str} {pl : Pl} (gp : GP ns pl) (nk : NS ns) : Sh false 10000 3 (dueP pl) := by
  have l8 := gp.le
  have a4 : (actS (rowsOf pl)).length ≤ 4 := act_le gp nk fun r hr => rows_of_mem hr
  have h1 : Sh false (8 * 402 + 3) 2 (.tuple ((rowsOf pl).map rowP)) := by
    have : ShA false ((rowsOf pl).length * (400 + 2)) 1 ((rowsOf pl).map rowP) := ShA.map fun r hr => by
      obtain ⟨p, hp, rfl⟩ := rows_of_mem hr
      have k := gp.row p hp
      exact rowP_sh (fun y hy => ⟨nk.nm _ (k.sub _ (List.mem_map.mpr ⟨y, hy, rfl⟩)), by have := k.lt y hy; omega⟩) (Nat.le_trans k.len nk.le)
    have hl : (rowsOf pl).length ≤ 8 := by unfold rowsOf; rw [List.length_map]; exact l8
    exact (Sh.tup this).mono (by have := Nat.mul_le_mul_right 402 hl; omega) (Nat.le_refl _)
  have h2 : Sh false (8 * 6 + 3) 1 (.tuple (intsP (idx pl))) := by
    have hm : ∀ x ∈ idx pl, x < pl.length := fun x hx => by
      have := (List.mem_filter.mp hx).1
      simpa using this
    have hl : (idx pl).length ≤ 8 := by
      have := List.length_filter_le (restS pl) (List.range pl.length)
      unfold idx; rw [List.length_range] at this; omega
    have : ShA false ((idx pl).length * (4 + 2)) 0 (intsP (idx pl)) := ShA.map (f := fun (n : Nat) => PyData.int (n : Int)) fun x hx => Sh.nat (by have := hm x hx; omega)
    exact (Sh.tup this).mono (by have := Nat.mul_le_mul_right 6 hl; omega) (Nat.le_refl _)
  have h3 : Sh false (4 * 84 + 3) 1 (.tuple (strsP (actS (rowsOf pl)))) := wP_sh (w := actS (rowsOf pl)) (fun x hx => by
    obtain ⟨r, hr, hx⟩ := List.mem_flatMap.mp (mem_actS.mp hx)
    obtain ⟨p, hp, rfl⟩ := rows_of_mem hr
    exact nk.nm _ ((gp.row p hp).sub x hx)) a4
  have h4 : Sh false 4 0 (.int (pl.length : Int)) := .nat (by omega)
  have h5 := text_sh (n := pl.length) (m := (actS (rowsOf pl)).length) l8 a4
  exact (Sh.lst (ShA.cons (h1.mono (Nat.le_refl _) (Nat.le_refl 2)) (ShA.cons (h2.mono (Nat.le_refl _) (by decide)) (ShA.cons (h3.mono (Nat.le_refl _) (by decide)) (ShA.cons (h4.mono (Nat.le_refl _) (by decide)) (ShA.cons (h5.mono (Nat.le_refl _) (by decide)) (ShA.nil.mono (Nat.le_refl _) (by decide)))))))).mono (by decide) (by decide)
end K02S

set_option Elab.async false
set_option linter.all false
set_option maxRecDepth 100000
set_option maxHeartbeats 2000000
/-! K02AE: what is due, what is told: the walks. -/
namespace K02S
open PySem PySem.Spec
open PyProof.Rows hiding St
open L2
open MP (D Cell Hd Sd WE WT WA WS WG WI EndsD ItD SpD SpGD endR endG startD itSeq items tyD truD getD putD keyOk wipeD lenD sortS ltS leS dctOf itKeys itVals itItems putFD hasF PyR PyRs PyX PyXs PyXk)
open MV K02V
section
variable {n kN F : Nat} {dP : D} {ns : List Str} {xs : List D} {pl : Pl} {sl : Sd} {h h' : Hd} {c : Nat}
theorem due_of {Q : D → Hd → Prop} {U : Nat} (b : RS n kN F dP ns xs pl sl h) (s8 : sl[8]? = some (some (.ref U))) (e8 : h[U]? = some (.lst ((actS (rowsOf pl)).map .str))) (s3 : sl[3]? = some (some (.tup (natsD (idx pl)))))
    (s4 : sl[4]? = some (some (.str (partS pl.length (actS (rowsOf pl)).length)))) (z : ∀ h', Gr h h' → Q (.str (dueP pl).shown) h') :
    (MV.wCB cReprX (wCons (wLst (wCons (wCB cTuple (wCons (wLc (wOver (wSlot 2) fLst) (wGT 2 (wG1 (wNm 9) (wG1 (wNm 10) wG0))) wYes (wSlot 9) [9, 10]) wNil)) (wCons (wSlot 3) (wCons (wCB cTuple (wCons (wSlot 8) wNil)) (wCons (wCB cLen (wCons (wSlot 2) wNil)) (wCons (wSlot 4) wNil)))))) wNil)) sl h Q := by
  have lx := b.it.1
  have l8 := b.gp.le
  refine ⟨_, b.s2, F, xs, rfl, by unfold MP.items; rw [b.eF], ?_⟩
  refine lc_by xs (fun i acc h' => h' = h ∧ IsRows h acc (rowsOf (pl.take i))) ⟨rfl, rfl, fun i d r a => by simp at a⟩ (fun i acc h' _ p => by rw [p.1]; unfold MP.itLst MP.items; rw [b.eF]; rfl) (fun i x acc h' e p => ?_) (fun acc h' p => ?_)
  · obtain ⟨rfl, hr⟩ := p
    have hi : i < pl.length := by rw [← lx]; exact (List.getElem?_eq_some_iff.mp e).1
    have epl : pl[i]? = some pl[i] := List.getElem?_eq_getElem hi
    obtain ⟨m, lk0, e1, e2⟩ := b.it.2 i _ epl
    rw [e] at e1
    obtain rfl := Option.some.inj e1
    have wl : (wipeD sl [9, 10]).length = 13 := by simp [MP.wipeD, b.len]
    have w9 : (((wipeD sl [9, 10]).set 9 (some (.ref m))).set 10 (some (.bl pl[i].2)))[9]? = some (some (.ref m)) := by
      rw [List.getElem?_set_ne (by decide)]; exact List.getElem?_set_self (by rw [wl]; decide)
    refine ⟨_, rfl, rfl, _, _, rfl, _, _, rfl, rfl, ?_⟩
    refine ift rfl ?_
    have gl : acc.length = i := by rw [hr.1]; unfold rowsOf; rw [List.length_map, List.length_take]; omega
    refine ⟨_, w9, by rw [gl]; exact size_small (by omega), rfl, ?_⟩
    rw [rows_take epl]
    exact hr.push ⟨m, lk0, rfl, e2⟩
  · obtain ⟨rfl, hr⟩ := p
    rw [lx, List.take_length] at hr
    dsimp only [MV.wNil]
    refine ⟨_, items_last, ?_⟩
    refine ⟨_, s3, _, s8, _, by unfold MP.items; rw [(Gr.app _).lst e8], _, b.s2, _, xs.length, rfl, by simp only [lenD, (Gr.app _).lst b.eF], _, s4, by show 5 ≤ sizeLine; decide, ?_⟩
    rw [lx]
    have g : Gr h' (h' ++ [Cell.lst acc] ++ [Cell.lst (dueL acc pl)]) := (Gr.app _).trans (.app _)
    exact reprX_by (dueX (hr.gr g) items_last) (dueSh b.gp b.nk) (by decide) (by decide) (z _ g)
/-- all that the part tells, in a list -/
theorem told_of {Q : D → Hd → Prop} (b : RS n kN F dP ns xs pl sl h) (z : ∀ h' T refs, Gr h h' → FrD h h' refs → IsRows h' refs (rowsOf pl) → h'[T]? = some (.lst (dueL refs pl)) → Q (.ref T) h') :
    (MV.wLst (wCons (wProp "Part" s_Part_steps (wSlot 7)) (wCons (wProp "Part" s_Part_rests (wSlot 7)) (wCons (wProp "Part" s_Part_actions (wSlot 7)) (wCons (wCB (cOwnLen "Part" s_Part_len) (wCons (wSlot 7) wNil)) (wCons (wCB (cOwnStr "Part" s_Part_str) (wCons (wSlot 7) wNil)) wNil)))))) sl h Q := by
  have hA := b.hA
  obtain ⟨m, rf, rfl, e, hr⟩ := id hA
  have ok := b.gp.ok b.nk
  have a4 : (actS (rowsOf pl)).length ≤ 4 := act_le b.gp b.nk fun r hr => rows_of_mem hr
  refine ⟨_, b.s7, ⟨m, _, rfl, e⟩, .ref m, pl, rfl, hA.p, ok.sm, ok.le, fun h1 refs g1 r1 f1 => ?_⟩
  have er : ((rowsOf pl).map srt).map srt = rowsOf pl := by
    rw [List.map_map]
    refine (List.map_congr_left fun r hr => ?_).trans (List.map_id _)
    obtain ⟨p, hp, rfl⟩ := rows_of_mem hr
    have k := b.gp.row p hp
    have s1 : srt p.1 = p.1 := srt_id (sort_sub b.nk.pw (b.gp.ord p hp)) k.nd
    show srt (srt p.1) = p.1
    rw [s1, s1]
  rw [er] at r1
  have hA1 := hA.gr g1
  refine ⟨_, b.s7, ⟨m, _, rfl, g1.ins e⟩, .ref m, pl, rfl, hA1.p, ?_⟩
  refine ⟨_, b.s7, ⟨m, _, rfl, g1.ins e⟩, .ref m, pl, rfl, hA1, ?_⟩
  refine ⟨_, b.s7, m, _, rfl, g1.ins e, .ref m, pl, rfl, hA1.p, pl.length, rfl, by have := ok.le; omega, ?_⟩
  refine ⟨_, b.s7, m, _, rfl, g1.ins e, .ref m, pl, rfl, hA1, ok.le, by omega, _, rfl, by show 5 ≤ sizeLine; decide, ?_⟩
  exact z _ _ refs (g1.trans (.app _)) (f1.app _) (r1.gr (.app _)) app_at
end
end K02S

set_option Elab.async false
set_option linter.all false
set_option maxRecDepth 100000
set_option pp.maxSteps 400
set_option maxHeartbeats 2000000
/-! K02AF: the law's look at a part, the last steps. -/
namespace K02S
open PySem PySem.Spec
open PyProof.Rows hiding St
open L2
open MP (D Cell Hd Sd WE WT WA WS WG WI EndsD ItD SpD SpGD endR endG startD itSeq items tyD truD getD putD keyOk wipeD lenD sortS ltS leS dctOf itKeys itVals itItems putFD hasF PyR PyRs PyX PyXs PyXk)
open MV K02V
theorem PlIts.putI {h : Hd} {xs : List D} {pl : Pl} (k : PlIts h xs pl) (i : Nat) {m : Nat} {lk0 : Bool} {r : Row} (b : Bool) (e : h[m]? = some (.dct false lk0 (rowK r))) : PlIts h (xs.set i (.tup [.ref m, .bl b])) (pl.set i (r, b)) := ⟨by simp [k.1], fun j q e0 => by
  by_cases hj : i = j
  · subst hj
    have hi : i < pl.length := by have := (List.getElem?_eq_some_iff.mp e0).1; simpa using this
    rw [List.getElem?_set_self hi] at e0
    obtain rfl := Option.some.inj e0
    exact ⟨m, lk0, List.getElem?_set_self (by rw [k.1]; exact hi), e⟩
  · rw [List.getElem?_set_ne hj] at e0
    obtain ⟨m1, l1, g1, g2⟩ := k.2 j q e0
    exact ⟨m1, l1, by rw [List.getElem?_set_ne hj]; exact g1, g2⟩⟩
theorem GP.set {ns : List Str} {pl : Pl} (k : GP ns pl) (i : Nat) {p : Row × Bool} (g : GR ns pl.length p.1) (o : (keysR p.1).Sublist ns) : GP ns (pl.set i p) := ⟨by rw [List.length_set]; exact k.pos, by rw [List.length_set]; exact k.le, fun q hq => by
  rw [List.length_set]
  rcases List.mem_or_eq_of_mem_set hq with h | h
  · exact k.row q h
  · rw [h]; exact g, fun q hq => by
  rcases List.mem_or_eq_of_mem_set hq with h | h
  · exact k.ord q h
  · rw [h]; exact o⟩
theorem GP.push {ns : List Str} {pl : Pl} (k : GP ns pl) (h7 : pl.length ≤ 7) {p : Row × Bool} (g : GR ns pl.length p.1) (o : (keysR p.1).Sublist ns) : GP ns (pl ++ [p]) := ⟨by simp, by simp; omega, fun q hq => by
  rw [List.length_append, List.length_singleton]
  rcases List.mem_append.mp hq with h | h
  · exact (k.row q h).mono (by omega)
  · rw [List.mem_singleton] at h; rw [h]; exact g.mono (by omega), fun q hq => by
  rcases List.mem_append.mp hq with h | h
  · exact k.ord q h
  · rw [List.mem_singleton] at h; rw [h]; exact o⟩
theorem ownEq_part {h : Hd} {Q : D → Hd → Prop} {neg : Bool} {dP y : D} {pl pl2 : Pl} (hp : IsPart h dP pl) (ok : PlOk pl) (hy : IsPart h y pl2)
    (hc : rowsOf pl2 = rowsOf pl ∧ Q (.bl (if neg then !decide (idx pl = idx pl2) else decide (idx pl = idx pl2))) h ∨ pl2.length ≠ pl.length ∧ Q (.bl (if neg then !false else false)) h) : MV.oOwnEq neg "Part" ["str", "tuple"] s_Part_eq dP y h Q := by
  obtain ⟨n, refs, acts, rfl, e, hr⟩ := id hp
  obtain ⟨n2, refs2, acts2, rfl, e2, hr2⟩ := id hy
  refine ⟨⟨n, _, rfl, e⟩, ⟨.inr "Part", by simp only [tyD, e2], .inl rfl⟩, .ref n, pl, .ref n2, rfl, hp, ok, .inr ⟨pl2, hy, ?_⟩⟩
  rcases hc with ⟨a, z⟩ | ⟨a, z⟩
  · exact .inl ⟨a, _, rfl, z⟩
  · exact .inr ⟨a, _, rfl, z⟩
theorem ownEq_str {h : Hd} {Q : D → Hd → Prop} {dP : D} {x : Str} {pl : Pl} (hp : IsPart h dP pl) (ok : PlOk pl) (z : Q (.bl false) h) : MV.oOwnEq false "Part" ["str", "tuple"] s_Part_eq dP (.str x) h Q := by
  obtain ⟨n, refs, acts, rfl, e, hr⟩ := id hp
  exact ⟨⟨n, _, rfl, e⟩, ⟨.inl "str", rfl, .inr ⟨"str", by decide, rfl⟩⟩, .ref n, pl, _, rfl, hp, ok, .inl ⟨.inl ⟨x, rfl⟩, _, rfl, z⟩⟩
theorem ownEq_tup {h : Hd} {Q : D → Hd → Prop} {dP : D} {x : List D} {pl : Pl} (hp : IsPart h dP pl) (ok : PlOk pl) (z : Q (.bl false) h) : MV.oOwnEq false "Part" ["str", "tuple"] s_Part_eq dP (.tup x) h Q := by
  obtain ⟨n, refs, acts, rfl, e, hr⟩ := id hp
  exact ⟨⟨n, _, rfl, e⟩, ⟨.inl "tuple", rfl, .inr ⟨"tuple", by decide, rfl⟩⟩, .ref n, pl, _, rfl, hp, ok, .inl ⟨.inr ⟨x, rfl⟩, _, rfl, z⟩⟩
theorem rowsOf_set {pl : Pl} {t : Nat} (ht : t < pl.length) (b : Bool) : rowsOf (pl.set t (pl[t].1, b)) = rowsOf pl := by
  unfold rowsOf
  rw [List.map_set]
  refine List.ext_getElem? fun i => ?_
  by_cases hi : t = i
  · subst hi
    rw [List.getElem?_set_self (by simpa using ht), List.getElem?_map, List.getElem?_eq_getElem ht]; rfl
  · rw [List.getElem?_set_ne hi]
theorem idx_set {pl : Pl} {t : Nat} (ht : t < pl.length) : idx pl ≠ idx (pl.set t (pl[t].1, !pl[t].2)) := by
  intro e
  have h1 : t ∈ idx pl ↔ pl[t].2 = true := by
    unfold idx restS
    rw [List.mem_filter, List.mem_range, List.getElem?_eq_getElem ht]
    simp [ht]
  have h2 : t ∈ idx (pl.set t (pl[t].1, !pl[t].2)) ↔ (!pl[t].2) = true := by
    unfold idx restS
    rw [List.mem_filter, List.mem_range, List.getElem?_set_self ht, List.length_set]
    simp [ht]
  rw [e, h2] at h1
  cases hb : pl[t].2 <;> simp [hb] at h1
theorem offs_x (h : Hd) (pl : Pl) : ∀ l : List Nat, PyXs h (l.map (offD pl)) (l.map (offP pl))
  | [] => .nil
  | s :: l => .cons (.tup (.cons (.tup (strsP_x h _)) (.cons (.bl _) .nil))) (offs_x h pl l)
section
variable {n kN F : Nat} {dP : D} {ns : List Str} {xs : List D} {pl : Pl} {sl : Sd} {h h' : Hd} {c : Nat}
theorem told_repr {Q : D → Hd → Prop} (b : RS n kN F dP ns xs pl sl h) (z : ∀ h', Gr h h' → Q (.str (dueP pl).shown) h') :
    (MV.wCB cReprX (wCons (wLst (wCons (wProp "Part" s_Part_steps (wSlot 7)) (wCons (wProp "Part" s_Part_rests (wSlot 7)) (wCons (wProp "Part" s_Part_actions (wSlot 7)) (wCons (wCB (cOwnLen "Part" s_Part_len) (wCons (wSlot 7) wNil)) (wCons (wCB (cOwnStr "Part" s_Part_str) (wCons (wSlot 7) wNil)) wNil)))))) wNil)) sl h Q := by
  have k := told_of (Q := fun x h1 => MV.cReprX [x] h1 Q) b fun h1 T refs g1 f1 r1 e1 => reprX_by (dueX r1 (by unfold MP.items; rw [e1])) (dueSh b.gp b.nk) (by decide) (by decide) (z _ g1)
  exact k
def offsP (pl : Pl) : PyData := .list ((List.range pl.length).map (offP pl))
theorem offs_sh {pl : Pl} (ok : PlOk pl) : Sh false 9000 3 (offsP pl) := by
  have : ShA false ((List.range pl.length).length * (1000 + 2)) 2 ((List.range pl.length).map (offP pl)) := ShA.map fun x _ => off_sh ok x
  have l8 := ok.le
  exact (Sh.lst this).mono (by rw [List.length_range]; omega) (Nat.le_refl _)
theorem rng_at {k i : Nat} {x : D} (e : (MP.rngD 0 ((k : Int)).toNat)[i]? = some x) : x = .int (i : Int) ∧ i < k := by
  unfold MP.rngD at e
  rw [List.getElem?_map] at e
  obtain ⟨j, hj, rfl⟩ := Option.map_eq_some_iff.mp e
  obtain ⟨h1, h2⟩ := List.getElem?_eq_some_iff.mp hj
  rw [List.length_range] at h1
  simp at h2
  subst h2
  exact ⟨by simp, by omega⟩
theorem ixNat {a n : Nat} (h : a < n) : ixN n (a : Int) = some a := by
  unfold ixN
  simp
  omega
theorem rng_len (k : Nat) : (MP.rngD 0 ((k : Int)).toNat).length = k := by unfold MP.rngD; simp
theorem offers_part {Q : D → Hd → Prop} (b : RS n kN F dP ns xs pl sl h) (z : ∀ h', Gr h h' → Q (.str (offsP pl).shown) h') :
    (MV.wCB cReprX (wCons (wLc (wRange1 (wCons (wCB cLen (wCons (wSlot 2) wNil)) wNil)) (wNm 12) wYes (wMeth "Part" "offer" s_Part_offer (wSlot 7) (wCons (wSlot 12) wNil)) [12]) wNil)) sl h Q := by
  have ok := b.gp.ok b.nk
  have lx := b.it.1
  have l8 := b.gp.le
  have hA := b.hA
  obtain ⟨m, rf, rfl, e, hr⟩ := id hA
  refine ⟨_, b.s2, _, xs.length, rfl, by simp only [lenD, b.eF], (xs.length : Int), rfl, by omega, by omega, ?_⟩
  rw [lx]
  refine lc_by (MP.rngD 0 ((pl.length : Int)).toNat) (fun i acc h' => Gr h h' ∧ acc = (List.range i).map (offD pl)) ⟨.refl, rfl⟩ (fun i acc h' _ _ => rfl) (fun i x acc h' ej p => ?_) (fun acc h' p => ?_)
  · obtain ⟨g, rfl⟩ := p
    obtain ⟨rfl, hi⟩ := rng_at ej
    have wl : (wipeD sl [12]).length = 13 := by simp [MP.wipeD, b.len]
    have w12 : ((wipeD sl [12]).set 12 (some (.int (i : Int))))[12]? = some (some (.int (i : Int))) := List.getElem?_set_self (by rw [wl]; decide)
    have w7 : ((wipeD sl [12]).set 12 (some (.int (i : Int))))[7]? = some (some (.ref m)) := by
      rw [List.getElem?_set_ne (by decide), wipe_ne (by decide)]; exact b.s7
    refine ift rfl ?_
    refine ⟨_, w7, ⟨m, _, rfl, g.ins e, rfl⟩, _, w12, .ref m, pl, i, rfl, (hA.gr g).p, hi, ok, fun h2 g2 => ⟨by rw [List.length_map, List.length_range]; exact size_small (by omega), g.trans g2, ?_⟩⟩
    rw [List.range_succ, List.map_append]; rfl
  · obtain ⟨g, rfl⟩ := p
    rw [rng_len]
    dsimp only [MV.wNil]
    exact reprX_by (d := offsP pl) (.lst items_last (offs_x _ pl _)) (offs_sh ok) (by decide) (by decide) (z _ (g.trans (.app _)))
theorem offers_law {Q : D → Hd → Prop} (b : RS n kN F dP ns xs pl sl h) (z : ∀ h', Gr h h' → Q (.str (offsP pl).shown) h') :
    (MV.wCB cReprX (wCons (wLc (wRange1 (wCons (wCB cLen (wCons (wSlot 2) wNil)) wNil)) (wNm 12) wYes (wCall s__law_offer (wCons (wSlot 2) (wCons (wSlot 12) wNil))) [12]) wNil)) sl h Q := by
  have ok := b.gp.ok b.nk
  have lx := b.it.1
  have l8 := b.gp.le
  refine ⟨_, b.s2, _, xs.length, rfl, by simp only [lenD, b.eF], (xs.length : Int), rfl, by omega, by omega, ?_⟩
  rw [lx]
  refine lc_by (MP.rngD 0 ((pl.length : Int)).toNat) (fun i acc h' => Gr h h' ∧ acc = (List.range i).map (offD pl)) ⟨.refl, rfl⟩ (fun i acc h' _ _ => rfl) (fun i x acc h' ej p => ?_) (fun acc h' p => ?_)
  · obtain ⟨g, rfl⟩ := p
    obtain ⟨rfl, hi⟩ := rng_at ej
    have wl : (wipeD sl [12]).length = 13 := by simp [MP.wipeD, b.len]
    have w12 : ((wipeD sl [12]).set 12 (some (.int (i : Int))))[12]? = some (some (.int (i : Int))) := List.getElem?_set_self (by rw [wl]; decide)
    have w2 : ((wipeD sl [12]).set 12 (some (.int (i : Int))))[2]? = some (some (.ref F)) := by
      rw [List.getElem?_set_ne (by decide), wipe_ne (by decide)]; exact b.s2
    refine ift rfl ?_
    have bg := b.gr g
    refine ⟨_, w2, _, w12, .ref F, pl, i, rfl, ⟨F, xs, rfl, bg.eF, bg.it⟩, hi, ok.sm, fun h2 g2 => ⟨by rw [List.length_map, List.length_range]; exact size_small (by omega), g.trans g2, ?_⟩⟩
    rw [List.range_succ, List.map_append]; rfl
  · obtain ⟨g, rfl⟩ := p
    rw [rng_len]
    dsimp only [MV.wNil]
    exact reprX_by (d := offsP pl) (.lst items_last (offs_x _ pl _)) (offs_sh ok) (by decide) (by decide) (z _ (g.trans (.app _)))
theorem right_tail {q : D → Hd → Prop} (b : RS n kN F dP ns xs pl sl h) (s5 : sl[5]? = some (some (.str (dueP pl).shown))) (dc : Dice c h n) (hc : c + 350 ≤ 1000000) (z : ∀ h', Gx n h h' → Dice (c + 110) h' n → q (.bl true) h') :
    (MV.wSeq (wIfS (wBl (wBin (oEq true) (wCB cReprX (wCons (wLst (wCons (wProp "Part" s_Part_steps (wSlot 7)) (wCons (wProp "Part" s_Part_rests (wSlot 7)) (wCons (wProp "Part" s_Part_actions (wSlot 7)) (wCons (wCB (cOwnLen "Part" s_Part_len) (wCons (wSlot 7) wNil)) (wCons (wCB (cOwnStr "Part" s_Part_str) (wCons (wSlot 7) wNil)) wNil)))))) wNil)) (wSlot 5))) (wRet (wC (.bl false))) wNext)
    (wSeq (wIfS (wBl (wBin (oEq true) (wCB cReprX (wCons (wLc (wRange1 (wCons (wCB cLen (wCons (wSlot 2) wNil)) wNil)) (wNm 12) wYes (wMeth "Part" "offer" s_Part_offer (wSlot 7) (wCons (wSlot 12) wNil)) [12]) wNil)) (wCB cReprX (wCons (wLc (wRange1 (wCons (wCB cLen (wCons (wSlot 2) wNil)) wNil)) (wNm 12) wYes (wCall s__law_offer (wCons (wSlot 2) (wCons (wSlot 12) wNil))) [12]) wNil)))) (wRet (wC (.bl false))) wNext)
    (wSeq (wPar 11 12 (wCons (wCB cList (wCons (wSlot 2) wNil)) (wCons (wCall s__law_roll (wCons (wSlot 0) (wCons (wCB cLen (wCons (wSlot 2) wNil)) wNil))) wNil)))
    (wSeq (wAsg (wTup (wCons (wBin oIx (wBin oIx (wSlot 2) (wSlot 12)) (wC (.int 0))) (wCons (wNotV (wBin oIx (wBin oIx (wSlot 2) (wSlot 12)) (wC (.int 1)))) wNil))) (wSub (wSlot 11) (wSlot 12)))
    (wSeq (wIfS (wOr (wBl (wBin (oOwnEq true "Part" ["str", "tuple"] s_Part_eq) (wSlot 7) (wCall s__law_made_part (wCons (wSlot 2) wNil)))) (wOr (wBl (wBin (oOwnEq false "Part" ["str", "tuple"] s_Part_eq) (wSlot 7) (wCall s__law_made_part (wCons (wSlot 11) wNil)))) (wOr (wBl (wBin (oOwnEq false "Part" ["str", "tuple"] s_Part_eq) (wSlot 7) (wSlot 5))) (wBl (wBin (oOwnEq false "Part" ["str", "tuple"] s_Part_eq) (wSlot 7) (wProp "Part" s_Part_steps (wSlot 7))))))) (wRet (wC (.bl false))) wNext)
    (wSeq (wIfS (wAnd (wBl (wBin oLt (wCB cLen (wCons (wSlot 2) wNil)) (wC (.int 8)))) (wBl (wBin (oOwnEq false "Part" ["str", "tuple"] s_Part_eq) (wSlot 7) (wCall s__law_made_part (wCons (wBin oAdd (wSlot 2) (wLst (wCons (wTup (wCons (wDNew false) (wCons (wC (.bl false)) wNil))) wNil))) wNil))))) (wRet (wC (.bl false))) wNext)
    (wRet (wCall s__law_words_right (wCons (wSlot 0) (wCons (wSlot 2) (wCons (wSlot 7) (wCons (wSlot 1) wNil)))))))))))) (endR q) sl h := by
  have ok := b.gp.ok b.nk
  have lx := b.it.1
  have l8 := b.gp.le
  -- told once more
  delta MV.wSeq MV.wIfS MV.wBl MV.wBin
  dsimp only
  refine told_repr b fun h1 g1 => ?_
  refine ⟨_, s5, ?_⟩
  refine eq_strS ⟨_, rfl, ?_⟩
  refine iff_ rfl ?_
  have b1 := b.gr g1
  have dc1 := dc.gr g1
  -- the offers
  refine offers_part b1 fun h2 g2 => ?_
  refine offers_law (b1.gr g2) fun h3 g3 => ?_
  refine eq_strS ⟨_, rfl, ?_⟩
  refine iff_ rfl ?_
  have b3 := (b1.gr g2).gr g3
  have dc3 := (dc1.gr g2).gr g3
  have gB := (g1.trans g2).trans g3
  -- other, at
  refine ⟨_, b3.s2, ?_⟩
  dsimp only [MV.wNil]
  refine cList_lst b3.eF ?_
  have b4 := b3.gr (.app [Cell.lst xs])
  have dc4 := dc3.app [Cell.lst xs]
  have gB4 := gB.trans (.app [Cell.lst xs])
  have eO : (h3 ++ [Cell.lst xs])[h3.length]? = some (.lst xs) := app_at
  have n3 := dc3.lt
  have nO : h3.length ≠ n := by omega
  have hO : h.length ≤ h3.length := gB.1
  generalize h3 ++ [Cell.lst xs] = h4 at b4 dc4 eO gB4 ⊢
  generalize h3.length = O at eO nO hO ⊢
  have hpos := b.gp.pos
  refine ⟨_, b4.s0, _, b4.s2, _, xs.length, rfl, by simp only [lenD, b4.eF], n, c, xs.length, rfl, dc4, by omega, by omega, by omega, fun h5 t g5 dc5 ht => ?_⟩
  refine ⟨_, _, rfl, ?_⟩
  have b5 := ((b4.gx dc4 g5.x).slot 11 (some (.ref O)) (by decide) (by decide) (by decide) (by decide)).slot 12 (some (.int (t : Int))) (by decide) (by decide) (by decide) (by decide)
  have gx5 : Gx n h h5 := gB4.x.trans g5.x
  have eO5 : h5[O]? = some (.lst xs) := g5.lst nO eO
  have t11 : ((sl.set 11 (some (D.ref O))).set 12 (some (D.int (t : Int))))[11]? = some (some (.ref O)) := by
    rw [List.getElem?_set_ne (by decide)]; exact List.getElem?_set_self (by rw [b.len]; decide)
  have t12 : ((sl.set 11 (some (D.ref O))).set 12 (some (D.int (t : Int))))[12]? = some (some (.int (t : Int))) := List.getElem?_set_self (by rw [List.length_set, b.len]; decide)
  have t5 : ((sl.set 11 (some (D.ref O))).set 12 (some (D.int (t : Int))))[5]? = some (some (.str (dueP pl).shown)) := by
    rw [List.getElem?_set_ne (by decide), List.getElem?_set_ne (by decide)]; exact s5
  generalize (sl.set 11 (some (D.ref O))).set 12 (some (D.int (t : Int))) = sl5 at b5 t11 t12 t5 ⊢
  have ht' : t < pl.length := by rw [← lx]; exact ht
  obtain ⟨m, lk0, e1, e2⟩ := b5.it.2 t _ (List.getElem?_eq_getElem ht')
  refine ⟨_, b5.s2, _, t12, ?_⟩
  dsimp only [MV.wC]
  refine oIx_lst b5.eF (atI_natI e1) ?_
  refine oIx_tup (i := 0) (d := .ref m) rfl ?_
  refine ⟨_, b5.s2, _, t12, ?_⟩
  dsimp only [MV.wC]
  refine oIx_lst b5.eF (atI_natI e1) ?_
  refine oIx_tup (i := 1) (d := .bl pl[t].2) rfl ?_
  refine ⟨pl[t].2, rfl, by show 2 ≤ sizeLine; decide, ?_⟩
  refine ⟨_, t11, _, t12, ?_⟩
  refine oSet_lst eO5 (ixNat ht) ?_
  have gx6 : Gx n h (h5.set O (.lst (xs.set t (.tup [.ref m, .bl (!pl[t].2)])))) := gx5.setN _ hO
  have dc6 : Dice (c + 1) (h5.set O (.lst (xs.set t (.tup [.ref m, .bl (!pl[t].2)])))) n := dc5.setN _ nO
  have eO6 : (h5.set O (.lst (xs.set t (.tup [.ref m, .bl (!pl[t].2)]))))[O]? = some (.lst (xs.set t (.tup [.ref m, .bl (!pl[t].2)]))) := set_at eO5
  generalize h5.set O (.lst (xs.set t (.tup [.ref m, .bl (!pl[t].2)]))) = h6 at gx6 dc6 eO6 ⊢
  have bb := b.gx dc gx6
  have b6 : RS n kN F dP ns xs pl sl5 h6 := { b5 with eN := bb.eN, eF := bb.eF, it := bb.it, hA := bb.hA }
  obtain ⟨m6, lk6, f1, f2⟩ := b6.it.2 t _ (List.getElem?_eq_getElem ht')
  rw [e1] at f1
  cases f1
  have it6 := b6.it.putI t (!pl[t].2) f2
  have gpt : GP ns (pl.set t (pl[t].1, !pl[t].2)) := b.gp.set t (p := (pl[t].1, !pl[t].2)) (b.gp.row pl[t] (List.getElem_mem ht')) (b.gp.ord pl[t] (List.getElem_mem ht'))
  -- the same, and others
  refine ⟨_, b6.s7, _, b6.s2, F, xs, pl, ns, rfl, b6.eF, b6.it, b.gp, b.nk, fun h7 d7 g7 p7 => ?_⟩
  have b7 := b6.gr g7
  refine ownEq_part b7.hA.p ok p7.p (.inl ⟨rfl, _, rfl, ?_⟩)
  refine iff_ (by simp) ?_
  refine ⟨_, b7.s7, _, t11, O, _, _, ns, rfl, g7.lst eO6, it6.gr g7, gpt, b.nk, fun h8 d8 g8 p8 => ?_⟩
  have b8 := b7.gr g8
  refine ownEq_part b8.hA.p ok p8.p (.inl ⟨rowsOf_set ht' _, _, rfl, ?_⟩)
  refine iff_ (by simp [idx_set ht']) ?_
  refine ⟨_, b8.s7, _, t5, ownEq_str b8.hA.p ok ⟨_, rfl, ?_⟩⟩
  refine iff_ rfl ?_
  obtain ⟨m8, rf, e8, ei, hr⟩ := id b8.hA
  refine ⟨_, b8.s7, _, b8.s7, ⟨m8, _, e8, ei⟩, dP, pl, rfl, b8.hA.p, ok.sm, ok.le, fun h9 refs g9 r9 f9 => ?_⟩
  have b9 := b8.gr g9
  refine ownEq_tup b9.hA.p ok ⟨_, rfl, ?_⟩
  refine iff_ rfl ?_
  have dc9 := ((dc6.gr g7).gr g8).gr g9
  have gx9 : Gx n h h9 := gx6.trans (((g7.trans g8).trans g9).x)
  have fin : ∀ hh, Gr h9 hh → s__law_words_right [.ref n, .ref F, dP, .ref kN] hh q := fun hh g => by
    have bh := b9.gr g
    exact ⟨n, c + 1, F, kN, dP, xs, pl, ns, rfl, b.nF, b.nN, dc9.gr g, by omega, bh.eF, bh.it, b.gp, b.nk, bh.eN, bh.hA.p, fun h' g' d' => z _ ((gx9.trans g.x).trans g') (d'.mono (by omega))⟩
  refine ⟨_, b9.s2, _, xs.length, rfl, by simp only [lenD, b9.eF], _, rfl, ?_⟩
  by_cases h8 : xs.length < 8
  · refine ift (decide_eq_true (by omega)) ?_
    refine ⟨_, b9.s7, _, b9.s2, by show 2 ≤ sizeLine; decide, by show 1 ≤ sizeLine; decide, ?_⟩
    have ga : Gr h9 (h9 ++ [Cell.dct false false []] ++ [Cell.lst [.tup [.ref h9.length, .bl false]]]) := (Gr.app _).trans (.app _)
    have b10 := b9.gr ga
    have eR : (h9 ++ [Cell.dct false false []] ++ [Cell.lst [.tup [.ref h9.length, .bl false]]])[h9.length]? = some (.dct false false (rowK [])) := by
      rw [List.getElem?_append_left (by simp)]; exact app_at
    refine oAdd_lst b10.eF app_at (by simp; omega) ?_
    have itn := (b10.it.snoc false eR).gr (.app [Cell.lst (xs ++ [.tup [.ref h9.length, .bl false]])])
    refine ⟨_, _, pl ++ [([], false)], ns, rfl, app_at, itn, b.gp.push (by omega) .nil (List.nil_sublist _), b.nk, fun h11 d11 g11 p11 => ?_⟩
    have b11 := (b10.gr (.app [Cell.lst (xs ++ [.tup [.ref h9.length, .bl false]])])).gr g11
    refine ownEq_part b11.hA.p ok p11.p (.inr ⟨by simp, _, rfl, ?_⟩)
    refine iff_ rfl ?_
    exact ⟨_, b9.s0, _, b9.s2, _, b9.s7, _, b9.s1, fin _ ((ga.trans (.app _)).trans g11)⟩
  · refine iff_ (decide_eq_false (by omega)) ?_
    refine iff_ rfl ?_
    exact ⟨_, b9.s0, _, b9.s2, _, b9.s7, _, b9.s1, fin _ .refl⟩
end
end K02S

set_option Elab.async false
set_option linter.all false
set_option maxRecDepth 100000
set_option pp.maxSteps 400
set_option maxHeartbeats 2000000
/-! K02AG: the law's look at a part. -/
namespace K02S
open PySem PySem.Spec
open PyProof.Rows hiding St
open L2
open MP (D Cell Hd Sd WE WT WA WS WG WI EndsD ItD SpD SpGD endR endG startD itSeq items tyD truD getD putD keyOk wipeD lenD sortS ltS leS dctOf itKeys itVals itItems putFD hasF PyR PyRs PyX PyXs PyXk)
open MV K02V
def s__law_right : SpD := fun ds h q => ∃ (n c : Nat), ds = [.ref n] ∧ Dice c h n ∧ c + 1000 ≤ 1000000 ∧ ∀ h', Gx n h h' → Dice (c + 200) h' n → q (.bl true) h'
theorem p_right {ds : List D} {h : Hd} {q : D → Hd → Prop} (z : s__law_right ds h q) :
    v__law_right s__law_actions s__law_roll s__law_part s__law_made_part s__law_offer s__law_words_right s_Part_offer s_Part_str s_Part_len s_Part_eq s_Part_actions s_Part_rests s_Part_steps (endR q) (startD K02.N__law_right ds) h := by
  obtain ⟨n, c, rfl, dc, hc, z⟩ := z
  have n0 := dc.lt
  -- names
  refine ⟨_, rfl, _, rfl, n, c, 5, rfl, dc, by omega, by decide, by decide, fun h1 t g1 d1 ht => ?_⟩
  have n1 := d1.lt
  refine ⟨n, c + 1, t, rfl, d1, by omega, by omega, fun h2 kN ns g2 hk d2 eN len hnm hpw hnd => ?_⟩
  have nk : NS ns := ⟨by omega, hnm, hpw, hnd⟩
  have nN : kN ≠ n := by omega
  -- plain
  refine ⟨_, rfl, _, rfl, n, c + 1 + 8, kN, 8, ns, rfl, Ne.symm nN, d2, by omega, eN, nk, by decide, by decide, fun h3 F xs pl g3 hF d3 eF it gp hle => ?_⟩
  have n2 := d2.lt
  have nF : F ≠ n := by omega
  have x3 : Gx n h h3 := (g1.x.trans g2).trans g3
  -- part, used
  refine ⟨_, rfl, F, xs, pl, ns, rfl, eF, it, gp, nk, fun h4 dP g4 hA => ?_⟩
  refine ⟨by show 0 ≤ sizeLine; decide, by show 2 ≤ sizeLine; decide, _, rfl, rfl, _, _, rfl, _, _, rfl, rfl, ?_⟩
  have b0 : RS n kN F dP ns xs pl (((((startD K02.N__law_right [.ref n]).set 1 (some (.ref kN))).set 2 (some (.ref F))).set 7 (some dP)).set 8 (some (.ref h4.length))) (h4 ++ [Cell.lst []]) :=
    ⟨rfl, rfl, rfl, rfl, rfl, nF, nN, ((g4.trans (.app _)).x (m := n)).lst nN (g3.lst nN eN), (g4.trans (.app _)).lst eF, it.gr (g4.trans (.app _)), hA.gr (.app _), gp, nk⟩
  have s8 : (((((startD K02.N__law_right [.ref n]).set 1 (some (.ref kN))).set 2 (some (.ref F))).set 7 (some dP)).set 8 (some (.ref h4.length)))[8]? = some (some (.ref h4.length)) := rfl
  have e8 : (h4 ++ [Cell.lst []])[h4.length]? = some (.lst []) := app_at
  have x4 : Gx n h (h4 ++ [Cell.lst []]) := x3.trans (g4.trans (.app _)).x
  have d4 := d3.gr (g4.trans (.app [Cell.lst []]))
  try dsimp only [MV.wNm]
  generalize ((((startD K02.N__law_right [.ref n]).set 1 (some (.ref kN))).set 2 (some (.ref F))).set 7 (some dP)).set 8 (some (.ref h4.length)) = sl0 at b0 s8 ⊢
  generalize h4.length = U0 at s8 e8
  generalize h4 ++ [Cell.lst []] = h5 at b0 e8 x4 d4 ⊢
  delta MV.wSeq
  dsimp only
  refine used_for b0 s8 e8 fun sl6 h6 U g6 b6 t8 eU => ?_
  dsimp only
  -- rests
  delta MV.wAsg
  dsimp only
  refine rests_of b6 fun h7 g7 => ?_
  try dsimp only [MV.wNm]
  have b7 := (b6.gr g7).slot 3 (some (.tup (natsD (idx pl)))) (by decide) (by decide) (by decide) (by decide)
  have u3 : (sl6.set 3 (some (D.tup (natsD (idx pl)))))[3]? = some (some (.tup (natsD (idx pl)))) := List.getElem?_set_self (by rw [b6.len]; decide)
  have u8 : (sl6.set 3 (some (D.tup (natsD (idx pl)))))[8]? = some (some (.ref U)) := by rw [List.getElem?_set_ne (by decide)]; exact t8
  generalize sl6.set 3 (some (D.tup (natsD (idx pl)))) = sl7 at b7 u3 u8 ⊢
  -- text
  refine text_of b7 u8 (g7.lst eU) ?_
  try dsimp only [MV.wNm]
  have b8 := b7.slot 4 (some (.str (partS pl.length (actS (rowsOf pl)).length))) (by decide) (by decide) (by decide) (by decide)
  have v3 : (sl7.set 4 (some (D.str (partS pl.length (actS (rowsOf pl)).length))))[3]? = some (some (.tup (natsD (idx pl)))) := by rw [List.getElem?_set_ne (by decide)]; exact u3
  have v8 : (sl7.set 4 (some (D.str (partS pl.length (actS (rowsOf pl)).length))))[8]? = some (some (.ref U)) := by rw [List.getElem?_set_ne (by decide)]; exact u8
  have v4 : (sl7.set 4 (some (D.str (partS pl.length (actS (rowsOf pl)).length))))[4]? = some (some (.str (partS pl.length (actS (rowsOf pl)).length))) := List.getElem?_set_self (by rw [b7.len]; decide)
  generalize sl7.set 4 (some (D.str (partS pl.length (actS (rowsOf pl)).length))) = sl8 at b8 v3 v8 v4 ⊢
  -- due
  refine due_of b8 v8 (g7.lst eU) v3 v4 fun h8 g8 => ?_
  try dsimp only [MV.wNm]
  have b9 := (b8.gr g8).slot 5 (some (.str (dueP pl).shown)) (by decide) (by decide) (by decide) (by decide)
  have w5 : (sl8.set 5 (some (D.str (dueP pl).shown)))[5]? = some (some (.str (dueP pl).shown)) := List.getElem?_set_self (by rw [b8.len]; decide)
  generalize sl8.set 5 (some (D.str (dueP pl).shown)) = sl9 at b9 w5 ⊢
  -- told
  refine told_of b9 fun h9 T refs g9 f9 r9 eT => ?_
  try dsimp only [MV.wNm]
  have b10 := (b9.gr g9).slot 6 (some (.ref T)) (by decide) (by decide) (by decide) (by decide)
  have y5 : (sl9.set 6 (some (D.ref T)))[5]? = some (some (.str (dueP pl).shown)) := by rw [List.getElem?_set_ne (by decide)]; exact w5
  have y6 : (sl9.set 6 (some (D.ref T)))[6]? = some (some (.ref T)) := List.getElem?_set_self (by rw [b9.len]; decide)
  have b9' := b9.slot 6 (some (.ref T)) (by decide) (by decide) (by decide) (by decide)
  generalize sl9.set 6 (some (D.ref T)) = sl10 at b10 b9' y5 y6 ⊢
  refine ⟨_, y6, ?_⟩
  dsimp only [MV.wNil]
  refine reprX_by (dueX r9 (by unfold MP.items; rw [eT])) (dueSh gp nk) (by decide) (by decide) ?_
  refine ⟨_, y5, ?_⟩
  refine eq_strS ⟨_, rfl, ?_⟩
  refine iff_ rfl ?_
  -- told[0][0].clear()
  have hl : refs.length = pl.length := by have := r9.1; simpa [rowsOf] using this
  have hp := gp.pos
  have er : refs[0]? = some (refs[0]'(by omega)) := List.getElem?_eq_getElem (by omega)
  obtain ⟨r0, kvs, ed, hr0, ec⟩ := f9 _ (List.getElem_mem (h := (by omega : 0 < refs.length)))
  rw [ed] at er
  have a0 : L2.atI refs (0 : Int) = some (.ref r0) := atI_natI (j := 0) er
  refine ⟨_, y6, ?_⟩
  dsimp only [MV.wC]
  refine oIx_lst (i := 0) (d := .tup refs) eT rfl ?_
  refine oIx_tup a0 ?_
  refine ⟨r0, kvs, rfl, ec, ?_⟩
  have gc : Gr h8 (h9.set r0 (.dct false false [])) := g9.set _ hr0
  have b11 := b9'.gr gc
  have gg := ((g6.trans g7).trans g8).trans gc
  exact right_tail b11 y5 (d4.gr gg) (by omega) fun h' x' d' => z h' ((x4.trans gg.x).trans x') (d'.mono (by omega))
end K02S

set_option Elab.async false
set_option linter.all false
set_option maxRecDepth 100000
set_option pp.maxSteps 400
set_option maxHeartbeats 2000000
/-! K02AH: the law's ring. -/
namespace K02S
open PySem PySem.Spec
open PyProof.Rows hiding St
open L2
open MP (D Cell Hd Sd WE WT WA WS WG WI EndsD ItD SpD SpGD endR endG startD itSeq items tyD truD getD putD keyOk wipeD lenD sortS ltS leS dctOf itKeys itVals itItems putFD hasF PyR PyRs PyX PyXs PyXk)
open MV K02V
theorem Gr.dfl {h h' : Hd} (g : Gr h h') {n : Nat} {c : Str} (e : h[n]? = some (.dfl c)) : h'[n]? = some (.dfl c) := by
  obtain ⟨c', e', l⟩ := g.2 n _ e
  rcases l with rfl | ⟨_, _, _, q, _⟩
  · exact e'
  · cases q
theorem Gx.dfl {m : Nat} {h h' : Hd} (g : Gx m h h') {n : Nat} {c : Str} (hn : n ≠ m) (e : h[n]? = some (.dfl c)) : h'[n]? = some (.dfl c) := by
  obtain ⟨c', e', l⟩ := g.2 n _ hn e
  rcases l with rfl | ⟨_, _, _, q, _⟩
  · exact e'
  · cases q
theorem Gx.scr {m : Nat} {h h' : Hd} (g : Gx m h h') {n : Nat} {xs : List D} (hn : n ≠ m) (e : h[n]? = some (.scr xs)) : h'[n]? = some (.scr xs) := by
  obtain ⟨c', e', l⟩ := g.2 n _ hn e
  rcases l with rfl | ⟨_, _, _, q, _⟩
  · exact e'
  · cases q
abbrev ra (n : Nat) : Row := [("a", n)]
abbrev ringP : Pl := [([("b", 1), ("a", 7)], true), (ra 2, false), (ra 3, false), (ra 4, false), (ra 5, false), (ra 6, false), ([("c", 7)], false), ([("d", 0)], true)]
/-- what a part is to be, as a question -/
def plB (pl : Pl) : Bool := decide (0 < pl.length) && decide (pl.length ≤ 8) && pl.all fun p => decide (keysR p.1).Nodup && decide (p.1.length ≤ 4) && p.1.all fun y => nameS y.1 && decide (y.2 < pl.length)
theorem plB_of {pl : Pl} (h : plB pl = true) : WOk pl ∧ RowsOk (rowsOf pl) := by
  unfold plB at h
  simp only [Bool.and_eq_true, decide_eq_true_eq, List.all_eq_true] at h
  obtain ⟨⟨h0, h8⟩, ha⟩ := h
  have ln : (rowsOf pl).length = pl.length := by unfold rowsOf; simp
  have ok : ∀ p ∈ pl, RowOk p.1 := fun p hp => ⟨(ha p hp).1.1, Nat.le_trans (ha p hp).1.2 (by decide)⟩
  refine ⟨⟨⟨⟨h0, fun s a t e => ?_⟩, h8, ok, fun p hp a ha' => ?_⟩, fun p hp => (ha p hp).1.2⟩, ⟨fun r hr => ?_, by rw [ln]; exact h0, by rw [ln]; exact h8, fun r hr p hp => ?_⟩⟩
  · unfold step at e
    obtain ⟨p, ep, e2⟩ := Option.bind_eq_some_iff.mp e
    exact ((ha p (List.mem_of_getElem? ep)).2 (a, t) (lk_val e2)).2
  · obtain ⟨y, hy, rfl⟩ := List.mem_map.mp ha'
    exact ((ha p hp).2 y hy).1
  · obtain ⟨p, hp, rfl⟩ := rows_of_mem hr
    exact ok p hp
  · obtain ⟨y, hy, rfl⟩ := rows_of_mem hr
    rw [ln]
    exact (ha y hy).2 p hp
theorem ring_ok : WOk ringP ∧ RowsOk (rowsOf ringP) := plB_of (by decide +kernel)
abbrev onePl : Pl := [([], false)]
theorem one_ok : WOk onePl ∧ RowsOk (rowsOf onePl) := plB_of (by decide +kernel)
theorem idx_ring : idx ringP = [0, 7] := by decide +kernel
theorem idx_one : idx onePl = [] := by decide +kernel
def abcd : List Str := ["a", "b", "c", "d"]
theorem names_ring : ∀ x ∈ allK (rowsOf ringP), x ∈ abcd := by decide +kernel
theorem names_ring2 : ∀ x ∈ abcd, x ∈ allK (rowsOf ringP) := by decide +kernel
theorem act_ring : actS (rowsOf ringP) = abcd := by
  rw [← actS_of (xs := abcd) (by decide +kernel) fun x => ⟨names_ring2 x, names_ring x⟩]
  exact (MP.sortS_uniq (.refl _) (by decide +kernel)).symm
theorem sort_ba : sortS (["b", "a"] : List Str) = (["a", "b"] : List Str) := (MP.sortS_uniq (xs := ["b", "a"]) (ys := ["a", "b"]) (List.Perm.swap _ _ _) (by decide +kernel)).symm
theorem off_ring : offP ringP 0 = .tuple [.tuple [.str "a", .str "b"], .bool true] := by
  have h1 : offK ringP 0 = (["a", "b"] : List Str) := sort_ba
  have h2 : restS ringP 0 = true := by decide +kernel
  unfold offP; rw [h1, h2]; rfl
theorem off_one : offP onePl 0 = .tuple [.tuple [], .bool false] := by
  have h1 : offK onePl 0 = [] := by decide +kernel
  have h2 : restS onePl 0 = false := by decide +kernel
  unfold offP; rw [h1, h2]; rfl
def adad : List Str := ["a", "d", "a", "d", "a", "d"]
theorem after_ring : after ringP adad = some 0 := by decide +kernel
theorem words_ring : wordsS ringP 3 = ([[], ["a"], ["b"], ["a", "d"], ["b", "a"]] : List (List Str)) := by
  have s0 : srow ringP 0 = ([("a", 7), ("b", 1)] : Row) := by
    show (sortS (["b", "a"] : List Str)).map _ = _
    rw [sort_ba]; decide +kernel
  have s7 : srow ringP 7 = ([("d", 0)] : Row) := by decide +kernel
  have s1 : srow ringP 1 = ([("a", 2)] : Row) := by decide +kernel
  have l1 : layerS ringP 1 = [([("a" : Str)], 7), ([("b" : Str)], 1)] := by
    rw [layerS, layerS]
    simp only [List.flatMap_cons, List.flatMap_nil, s0]
    rfl
  have l2 : layerS ringP 2 = [([("a" : Str), "d"], 0), ([("b" : Str), "a"], 2)] := by
    rw [layerS, l1]
    simp only [List.flatMap_cons, List.flatMap_nil, s7, s1]
    rfl
  rw [words_succ, words_succ, words_succ, l2, l1]
  rfl
theorem adad_n : ∀ x ∈ adad, nameS x = true := by decide +kernel
/-- making a part -/
theorem make_part {pl : Pl} {names : List Str} {h : Hd} {acc : List D} {rs : List D} {Q : Hd → Prop} (ro : RowsOk (rowsOf pl)) (n4 : names.length ≤ 4) (sub : ∀ x ∈ allK (rowsOf pl), x ∈ names) (hacc : IsRows h acc (rowsOf pl)) (er : rs = natsD (idx pl)) (z : ∀ h', Gr h h' → IsPartA h' (.ref h.length) pl → Q h') :
    s_Part [.ref h.length, .tup acc, .tup rs] (h ++ [.ins "Part" []]) fun v h2 => v = .non ∧ Q h2 := by
  refine ⟨h, acc, rowsOf pl, idx pl, by rw [er], rfl, hacc, ro, ⟨names, n4, sub⟩, List.Pairwise.filter _ List.pairwise_lt_range, fun x hx => ?_, fun h4 refs' acts g4 e4 r4 ea => ⟨rfl, ?_⟩⟩
  · unfold rowsOf; rw [List.length_map]
    have := (List.mem_filter.mp hx).1
    simpa using this
  · exact z h4 g4 ⟨h.length, refs', rfl, by rw [ea] at e4; exact e4, r4⟩
theorem IsRows.nil {h : Hd} : IsRows h [] [] := ⟨rfl, fun i d r a _ => by simp at a⟩
theorem row_new {h : Hd} {r : Row} : IsRow (h ++ [.dct false false (rowK r)]) (.ref h.length) r := ⟨_, false, rfl, app_at⟩
end K02S

set_option Elab.async false
set_option linter.all false
set_option maxRecDepth 100000
set_option pp.maxSteps 400
set_option maxHeartbeats 2000000
/-! K02AI: the law's foot. -/
namespace K02S
open PySem PySem.Spec
open PyProof.Rows hiding St
open L2
open MP (D Cell Hd Sd WE WT WA WS WG WI EndsD ItD SpD SpGD endR endG startD itSeq items tyD truD getD putD keyOk wipeD lenD sortS ltS leS dctOf itKeys itVals itItems putFD hasF PyR PyRs PyX PyXs PyXk)
open MV K02V
theorem put_ba : putD [(D.str "b", D.int 1)] (.str "a") (.int 7) = rowK [("b", 1), ("a", 7)] := by decide +kernel
def h8 (h : Hd) : Hd := ((((((((h ++ [Cell.dct false false (rowK [("b", 1), ("a", 7)])]) ++ [Cell.dct false false (rowK (ra 2))]) ++ [Cell.dct false false (rowK (ra 3))]) ++ [Cell.dct false false (rowK (ra 4))]) ++ [Cell.dct false false (rowK (ra 5))]) ++ [Cell.dct false false (rowK (ra 6))]) ++ [Cell.dct false false (rowK [("c", 7)])]) ++ [Cell.dct false false (rowK [("d", 0)])])
def refs8 (h : Hd) : List D := [.ref h.length, .ref (h ++ [Cell.dct false false (rowK [("b", 1), ("a", 7)])]).length, .ref ((h ++ [Cell.dct false false (rowK [("b", 1), ("a", 7)])]) ++ [Cell.dct false false (rowK (ra 2))]).length, .ref (((h ++ [Cell.dct false false (rowK [("b", 1), ("a", 7)])]) ++ [Cell.dct false false (rowK (ra 2))]) ++ [Cell.dct false false (rowK (ra 3))]).length, .ref ((((h ++ [Cell.dct false false (rowK [("b", 1), ("a", 7)])]) ++ [Cell.dct false false (rowK (ra 2))]) ++ [Cell.dct false false (rowK (ra 3))]) ++ [Cell.dct false false (rowK (ra 4))]).length, .ref (((((h ++ [Cell.dct false false (rowK [("b", 1), ("a", 7)])]) ++ [Cell.dct false false (rowK (ra 2))]) ++ [Cell.dct false false (rowK (ra 3))]) ++ [Cell.dct false false (rowK (ra 4))]) ++ [Cell.dct false false (rowK (ra 5))]).length, .ref ((((((h ++ [Cell.dct false false (rowK [("b", 1), ("a", 7)])]) ++ [Cell.dct false false (rowK (ra 2))]) ++ [Cell.dct false false (rowK (ra 3))]) ++ [Cell.dct false false (rowK (ra 4))]) ++ [Cell.dct false false (rowK (ra 5))]) ++ [Cell.dct false false (rowK (ra 6))]).length, .ref (((((((h ++ [Cell.dct false false (rowK [("b", 1), ("a", 7)])]) ++ [Cell.dct false false (rowK (ra 2))]) ++ [Cell.dct false false (rowK (ra 3))]) ++ [Cell.dct false false (rowK (ra 4))]) ++ [Cell.dct false false (rowK (ra 5))]) ++ [Cell.dct false false (rowK (ra 6))]) ++ [Cell.dct false false (rowK [("c", 7)])]).length]
theorem h8_gr (h : Hd) : Gr h (h8 h) := ((((((((Gr.app _).trans (.app _)).trans (.app _)).trans (.app _)).trans (.app _)).trans (.app _)).trans (.app _)).trans (.app _))
theorem rows8 (h : Hd) : IsRows (h8 h) (refs8 h) (rowsOf ringP) := by
  have k0 : IsRow (h8 h) (.ref h.length) [("b", 1), ("a", 7)] := (row_new (h := h) (r := [("b", 1), ("a", 7)])).gr (((((((Gr.app _).trans (.app _)).trans (.app _)).trans (.app _)).trans (.app _)).trans (.app _)).trans (.app _))
  have k1 : IsRow (h8 h) (.ref (h ++ [Cell.dct false false (rowK [("b", 1), ("a", 7)])]).length) (ra 2) := (row_new (h := (h ++ [Cell.dct false false (rowK [("b", 1), ("a", 7)])])) (r := (ra 2))).gr ((((((Gr.app _).trans (.app _)).trans (.app _)).trans (.app _)).trans (.app _)).trans (.app _))
  have k2 : IsRow (h8 h) (.ref ((h ++ [Cell.dct false false (rowK [("b", 1), ("a", 7)])]) ++ [Cell.dct false false (rowK (ra 2))]).length) (ra 3) := (row_new (h := ((h ++ [Cell.dct false false (rowK [("b", 1), ("a", 7)])]) ++ [Cell.dct false false (rowK (ra 2))])) (r := (ra 3))).gr (((((Gr.app _).trans (.app _)).trans (.app _)).trans (.app _)).trans (.app _))
  have k3 : IsRow (h8 h) (.ref (((h ++ [Cell.dct false false (rowK [("b", 1), ("a", 7)])]) ++ [Cell.dct false false (rowK (ra 2))]) ++ [Cell.dct false false (rowK (ra 3))]).length) (ra 4) := (row_new (h := (((h ++ [Cell.dct false false (rowK [("b", 1), ("a", 7)])]) ++ [Cell.dct false false (rowK (ra 2))]) ++ [Cell.dct false false (rowK (ra 3))])) (r := (ra 4))).gr ((((Gr.app _).trans (.app _)).trans (.app _)).trans (.app _))
  have k4 : IsRow (h8 h) (.ref ((((h ++ [Cell.dct false false (rowK [("b", 1), ("a", 7)])]) ++ [Cell.dct false false (rowK (ra 2))]) ++ [Cell.dct false false (rowK (ra 3))]) ++ [Cell.dct false false (rowK (ra 4))]).length) (ra 5) := (row_new (h := ((((h ++ [Cell.dct false false (rowK [("b", 1), ("a", 7)])]) ++ [Cell.dct false false (rowK (ra 2))]) ++ [Cell.dct false false (rowK (ra 3))]) ++ [Cell.dct false false (rowK (ra 4))])) (r := (ra 5))).gr (((Gr.app _).trans (.app _)).trans (.app _))
  have k5 : IsRow (h8 h) (.ref (((((h ++ [Cell.dct false false (rowK [("b", 1), ("a", 7)])]) ++ [Cell.dct false false (rowK (ra 2))]) ++ [Cell.dct false false (rowK (ra 3))]) ++ [Cell.dct false false (rowK (ra 4))]) ++ [Cell.dct false false (rowK (ra 5))]).length) (ra 6) := (row_new (h := (((((h ++ [Cell.dct false false (rowK [("b", 1), ("a", 7)])]) ++ [Cell.dct false false (rowK (ra 2))]) ++ [Cell.dct false false (rowK (ra 3))]) ++ [Cell.dct false false (rowK (ra 4))]) ++ [Cell.dct false false (rowK (ra 5))])) (r := (ra 6))).gr ((Gr.app _).trans (.app _))
  have k6 : IsRow (h8 h) (.ref ((((((h ++ [Cell.dct false false (rowK [("b", 1), ("a", 7)])]) ++ [Cell.dct false false (rowK (ra 2))]) ++ [Cell.dct false false (rowK (ra 3))]) ++ [Cell.dct false false (rowK (ra 4))]) ++ [Cell.dct false false (rowK (ra 5))]) ++ [Cell.dct false false (rowK (ra 6))]).length) [("c", 7)] := (row_new (h := ((((((h ++ [Cell.dct false false (rowK [("b", 1), ("a", 7)])]) ++ [Cell.dct false false (rowK (ra 2))]) ++ [Cell.dct false false (rowK (ra 3))]) ++ [Cell.dct false false (rowK (ra 4))]) ++ [Cell.dct false false (rowK (ra 5))]) ++ [Cell.dct false false (rowK (ra 6))])) (r := [("c", 7)])).gr (Gr.app _)
  have k7 : IsRow (h8 h) (.ref (((((((h ++ [Cell.dct false false (rowK [("b", 1), ("a", 7)])]) ++ [Cell.dct false false (rowK (ra 2))]) ++ [Cell.dct false false (rowK (ra 3))]) ++ [Cell.dct false false (rowK (ra 4))]) ++ [Cell.dct false false (rowK (ra 5))]) ++ [Cell.dct false false (rowK (ra 6))]) ++ [Cell.dct false false (rowK [("c", 7)])]).length) [("d", 0)] := row_new (h := (((((((h ++ [Cell.dct false false (rowK [("b", 1), ("a", 7)])]) ++ [Cell.dct false false (rowK (ra 2))]) ++ [Cell.dct false false (rowK (ra 3))]) ++ [Cell.dct false false (rowK (ra 4))]) ++ [Cell.dct false false (rowK (ra 5))]) ++ [Cell.dct false false (rowK (ra 6))]) ++ [Cell.dct false false (rowK [("c", 7)])])) (r := [("d", 0)])
  exact (((((((((IsRows.nil (h := h8 h)).push k0).push k1).push k2).push k3).push k4).push k5).push k6).push k7)
def duePd : PyData := .list [.int 8, .int 8, .tuple (strsP abcd), .tuple [.tuple [.str "a", .str "b"], .bool true], .int 0, .list (([[], ["a"], ["b"], ["a", "d"], ["b", "a"]] : List (List Str)).map wP), .tuple [.tuple [], .bool false]]
theorem due_sh : Sh true 1000 4 duePd := ⟨by decide +kernel, by decide +kernel, by decide +kernel, fun _ => by decide +kernel⟩
theorem told_x {h : Hd} {T W : Nat} (eT : h[T]? = some (.lst ([.int 8, .int 8, actD ringP, offD ringP 0, .int 0, .ref W] ++ [offD onePl 0]))) (eW : h[W]? = some (.lst ((wordsS ringP 3).map wT))) : PyR h (.ref T) duePd := by
  have et : (.list [.int 8, .int 8, .tuple (strsP (actS (rowsOf ringP))), offP ringP 0, .int 0, .list ((wordsS ringP 3).map wP), offP onePl 0] : PyData) = duePd := by
    rw [act_ring, off_ring, off_one, words_ring]; rfl
  rw [← et]
  exact .lst (by unfold MP.items; rw [eT]; rfl) (.cons (.int _) (.cons (.int _) (.cons (.tup (pyRs_str _ _)) (.cons (off_pyR _ _ _) (.cons (.int _) (.cons (.lst (by unfold MP.items; rw [eW]) (wsP_r _ _)) (.cons (off_pyR _ _ _) .nil)))))))
def dueWs : List D := [.tup [], .tup [.str "a"], .tup [.str "b"], .tup [.str "a", .str "d"], .tup [.str "b", .str "a"]]
def dueLs (W : Nat) : List D := [.int 8, .int 8, .tup [.str "a", .str "b", .str "c", .str "d"], .tup [.tup [.str "a", .str "b"], .bl true], .int 0, .ref W]
theorem due_x {h : Hd} {T W : Nat} (eT : items h T = some (dueLs W ++ [.tup [.tup [], .bl false]])) (eW : h[W]? = some (.lst dueWs)) : PyR h (.ref T) duePd := by
  have w : PyRs h dueWs (([[], ["a"], ["b"], ["a", "d"], ["b", "a"]] : List (List Str)).map wP) := wsP_r h [[], ["a"], ["b"], ["a", "d"], ["b", "a"]]
  exact .lst eT (.cons (.int _) (.cons (.int _) (.cons (.tup (pyRs_str _ abcd)) (.cons (.tup (.cons (.tup (.cons (.str _) (.cons (.str _) .nil))) (.cons (.bl _) .nil))) (.cons (.int _) (.cons (.lst (by unfold MP.items; rw [eW]) w) (.cons (.tup (.cons (.tup .nil) (.cons (.bl _) .nil))) .nil)))))))
theorem law_foot {q : D → Hd → Prop} {sl : Sd} {h : Hd} {dc : Nat} (l7 : sl.length = 7) (ed : h[dc]? = some (.dfl "Part")) (z : ∀ h', q (.bl true) h') :
    (MV.wSeq (wAsg (wMake "Part" s_Part (wCons (wTup (wCons (wD2 (wC (.str "b")) (wC (.int 1)) (wC (.str "a")) (wC (.int 7))) (wCons (wD1 (wC (.str "a")) (wC (.int 2))) (wCons (wD1 (wC (.str "a")) (wC (.int 3))) (wCons (wD1 (wC (.str "a")) (wC (.int 4))) (wCons (wD1 (wC (.str "a")) (wC (.int 5))) (wCons (wD1 (wC (.str "a")) (wC (.int 6))) (wCons (wD1 (wC (.str "c")) (wC (.int 7))) (wCons (wD1 (wC (.str "d")) (wC (.int 0))) wNil))))))))) (wCons (wTup (wCons (wC (.int 0)) (wCons (wC (.int 7)) wNil))) wNil))) (wNm 2))
    (wSeq (wAsg (wLst (wCons (wC (.int 8)) (wCons (wCB (cOwnLen "Part" s_Part_len) (wCons (wSlot 2) wNil)) (wCons (wProp "Part" s_Part_actions (wSlot 2)) (wCons (wMeth "Part" "offer" s_Part_offer (wSlot 2) (wCons (wC (.int 0)) wNil)) (wCons (wMeth "Part" "after" s_Part_after (wSlot 2) (wCons (wBin oMul (wTup (wCons (wC (.str "a")) (wCons (wC (.str "d")) wNil))) (wC (.int 3))) wNil)) (wCons (wListG "Part" "words" s_Part_words (wSlot 2) (wCons (wC (.int 2)) wNil)) wNil))))))) (wNm 3))
    (wSeq (wExpr (wBM mAppend (wSlot 3) (wCons (wMeth "Part" "offer" s_Part_offer (wMakeE "Part" s_Part (wCons (wTup (wCons (wDNew false) wNil)) wNil)) (wCons (wC (.int 0)) wNil)) wNil)))
    (wSeq (wAsg (wLst (wCons (wC (.int 8)) (wCons (wC (.int 8)) (wCons (wTup (wCons (wC (.str "a")) (wCons (wC (.str "b")) (wCons (wC (.str "c")) (wCons (wC (.str "d")) wNil))))) (wCons (wTup (wCons (wTup (wCons (wC (.str "a")) (wCons (wC (.str "b")) wNil))) (wCons (wC (.bl true)) wNil))) (wCons (wC (.int 0)) (wCons (wLst (wCons (wTup wNil) (wCons (wTup (wCons (wC (.str "a")) wNil)) (wCons (wTup (wCons (wC (.str "b")) wNil)) (wCons (wTup (wCons (wC (.str "a")) (wCons (wC (.str "d")) wNil))) (wCons (wTup (wCons (wC (.str "b")) (wCons (wC (.str "a")) wNil))) wNil)))))) wNil))))))) (wNm 4))
    (wRet (wBin (oEq false) (wCB cRepr (wCons (wSlot 3) wNil)) (wCB cRepr (wCons (wBin oAdd (wSlot 4) (wLst (wCons (wTup (wCons (wTup wNil) (wCons (wC (.bl false)) wNil))) wNil))) wNil)))))))) (endR q) sl h := by
  -- ring
  refine ⟨rfl, rfl, rfl, rfl, rfl, rfl, rfl, rfl, rfl, by show 8 ≤ sizeLine; decide, by show 2 ≤ sizeLine; decide, ?_⟩
  rw [put_ba, show (h ++ [Cell.dct false false (rowK [("b", 1), ("a", 7)])] ++ [Cell.dct false false [(D.str "a", D.int 2)]] ++ [Cell.dct false false [(D.str "a", D.int 3)]] ++ [Cell.dct false false [(D.str "a", D.int 4)]] ++ [Cell.dct false false [(D.str "a", D.int 5)]] ++ [Cell.dct false false [(D.str "a", D.int 6)]] ++ [Cell.dct false false [(D.str "c", D.int 7)]] ++ [Cell.dct false false [(D.str "d", D.int 0)]] : Hd) = h8 h from rfl]
  have key : ∀ (Q : Hd → Prop), (∀ h', Gr (h8 h) h' → IsPartA h' (.ref (h8 h).length) ringP → Q h') → s_Part [.ref (h8 h).length, .tup (refs8 h), .tup [.int 0, .int 7]] (h8 h ++ [.ins "Part" []]) fun v h2 => v = .non ∧ Q h2 := fun Q zz =>
    make_part ring_ok.2 (names := abcd) (by decide) names_ring (rows8 h) (by rw [idx_ring]; rfl) zz
  refine key _ fun h1 g1 hA => ?_
  have ed1 : h1[dc]? = some (.dfl "Part") := ((h8_gr h).trans g1).dfl ed
  have s2 : (sl.set 2 (some (D.ref (h8 h).length)))[2]? = some (some (.ref (h8 h).length)) := List.getElem?_set_self (by omega)
  have l2 : (sl.set 2 (some (D.ref (h8 h).length))).length = 7 := by rw [List.length_set]; exact l7
  try dsimp only [MV.wNm]
  generalize sl.set 2 (some (D.ref (h8 h).length)) = sl2 at s2 l2 ⊢
  generalize (h8 h).length = R at hA s2 ⊢
  obtain ⟨m, rf, em, e, hr⟩ := id hA
  cases em
  have ok := ring_ok.1.ok
  refine ⟨_, s2, R, _, rfl, e, .ref R, ringP, rfl, hA.p, 8, rfl, by decide, ?_⟩
  refine ⟨_, s2, ⟨R, _, rfl, e⟩, .ref R, ringP, rfl, hA, ?_⟩
  refine ⟨_, s2, ⟨R, _, rfl, e, rfl⟩, .ref R, ringP, 0, rfl, hA.p, by decide, ok, fun h2 g2 => ?_⟩
  refine ⟨_, s2, ⟨R, _, rfl, g2.ins e, rfl⟩, by show 2 ≤ sizeLine; decide, by simp, by decide, by decide, by decide, .ref R, ringP, adad, rfl, (hA.gr g2).p, ok.cl, adad_n, size_small (by decide), fun h3 g3 => ?_⟩
  refine ⟨_, s2, R, _, rfl, (g2.trans g3).ins e, rfl, .ref R, ringP, 2, rfl, (hA.gr (g2.trans g3)).p, ring_ok.1, by decide, fun h4 g4 => ?_⟩
  refine ⟨by show 6 ≤ sizeLine; decide, ?_⟩
  have ga : Gr h1 (h4 ++ [Cell.lst ((wordsS ringP 3).map wT)]) := ((g2.trans g3).trans g4).trans (.app _)
  have eW : (h4 ++ [Cell.lst ((wordsS ringP 3).map wT)])[h4.length]? = some (.lst ((wordsS ringP 3).map wT)) := app_at
  generalize h4.length = W at eW ⊢
  generalize h4 ++ [Cell.lst ((wordsS ringP 3).map wT)] = h5 at ga eW ⊢
  rw [after_ring, show ([D.int 8, D.int ((8 : Nat) : Int), actD ringP, offD ringP 0, optD (some 0), D.ref W] : List D) = [.int 8, .int 8, actD ringP, offD ringP 0, .int 0, .ref W] from rfl]
  try dsimp only [MV.wNm]
  have s3 : (sl2.set 3 (some (D.ref h5.length)))[3]? = some (some (.ref h5.length)) := List.getElem?_set_self (by omega)
  have l3 : (sl2.set 3 (some (D.ref h5.length))).length = 7 := by rw [List.length_set]; exact l2
  have eT : (h5 ++ [Cell.lst [.int 8, .int 8, actD ringP, offD ringP 0, .int 0, .ref W]])[h5.length]? = some (.lst [.int 8, .int 8, actD ringP, offD ringP 0, .int 0, .ref W]) := app_at
  have gb : Gr h5 (h5 ++ [Cell.lst [.int 8, .int 8, actD ringP, offD ringP 0, .int 0, .ref W]]) := .app _
  generalize sl2.set 3 (some (D.ref h5.length)) = sl3 at s3 l3 ⊢
  generalize h5.length = T at s3 eT ⊢
  generalize h5 ++ [Cell.lst [.int 8, .int 8, actD ringP, offD ringP 0, .int 0, .ref W]] = h6 at eT gb ⊢
  have ed6 : h6[dc]? = some (.dfl "Part") := (ga.trans gb).dfl ed1
  have eW6 := gb.lst eW
  -- Part(({},)).offer(0)
  have key2 : ∀ (Q : Hd → Prop), (∀ h', Gr (h6 ++ [Cell.dct false false []]) h' → IsPartA h' (.ref (h6 ++ [Cell.dct false false []]).length) onePl → Q h') →
      s_Part [.ref (h6 ++ [Cell.dct false false []]).length, .tup [.ref h6.length], .tup []] ((h6 ++ [Cell.dct false false []]) ++ [.ins "Part" []]) fun v h2 => v = .non ∧ Q h2 := fun Q zz =>
    make_part one_ok.2 (names := []) (by decide) (by decide +kernel) (IsRows.nil.push (row_new (h := h6) (r := []))) (by rw [idx_one]; rfl) zz
  refine ⟨_, s3, ⟨_, _, rfl, eT⟩, by show 1 ≤ sizeLine; decide, ⟨dc, (Gr.app _).dfl ed6⟩, ?_⟩
  refine key2 _ fun h7 g7 hB => ?_
  have gc : Gr h6 h7 := (Gr.app _).trans g7
  generalize (h6 ++ [Cell.dct false false []]).length = R2 at hB ⊢
  obtain ⟨m2, rf2, em2, e2, hr2⟩ := id hB
  cases em2
  refine ⟨⟨R2, _, rfl, e2, rfl⟩, .ref R2, onePl, 0, rfl, hB.p, by decide, one_ok.1.ok, fun h8' g8 => ?_⟩
  have gd := gc.trans g8
  have eT8 := gd.lst eT
  have eW8 := gd.lst eW6
  refine ⟨T, [.int 8, .int 8, actD ringP, offD ringP 0, .int 0, .ref W], _, rfl, rfl, eT8, size_small (by simp), ?_⟩
  have nWT : W ≠ T := fun zz => by
    rw [zz, eT8] at eW8
    injection eW8 with eW8; injection eW8 with eW8
    rw [words_ring] at eW8
    cases eW8
  have eT9 := set_at (c' := .lst ([.int 8, .int 8, actD ringP, offD ringP 0, .int 0, .ref W] ++ [offD onePl 0])) eT8
  have eW9 : (h8'.set T (.lst ([.int 8, .int 8, actD ringP, offD ringP 0, .int 0, .ref W] ++ [offD onePl 0])))[W]? = some (.lst ((wordsS ringP 3).map wT)) := by
    rw [List.getElem?_set_ne (Ne.symm nWT)]; exact eW8
  generalize h8'.set T (.lst ([.int 8, .int 8, actD ringP, offD ringP 0, .int 0, .ref W] ++ [offD onePl 0])) = h9 at eT9 eW9 ⊢
  -- due
  refine ⟨by show 4 ≤ sizeLine; decide, by show 2 ≤ sizeLine; decide, by show 2 ≤ sizeLine; decide, by show 0 ≤ sizeLine; decide, by show 1 ≤ sizeLine; decide, by show 1 ≤ sizeLine; decide, by show 2 ≤ sizeLine; decide, by show 2 ≤ sizeLine; decide, by show 5 ≤ sizeLine; decide, by show 6 ≤ sizeLine; decide, ?_⟩
  try dsimp only [MV.wNm]
  have s3' : ∀ d : D, (sl3.set 4 (some d))[3]? = some (some (.ref T)) := fun d => by rw [List.getElem?_set_ne (by decide)]; exact s3
  have s4' : ∀ d : D, (sl3.set 4 (some d))[4]? = some (some d) := fun d => List.getElem?_set_self (by omega)
  refine ⟨_, s3' _, ?_⟩
  dsimp only [MV.wNil]
  have g2 : Gr h9 (h9 ++ [Cell.lst dueWs] ++ [Cell.lst (dueLs h9.length)]) := (Gr.app _).trans (.app _)
  refine repr_by (told_x (g2.lst eT9) (g2.lst eW9)) due_sh (by decide) (by decide) ?_
  refine ⟨_, s4' _, by show 0 ≤ sizeLine; decide, by show 2 ≤ sizeLine; decide, by show 1 ≤ sizeLine; decide, ?_⟩
  refine oAdd_lst (xs := dueLs h9.length) (ys := [.tup [.tup [], .bl false]]) ((Gr.app _).lst app_at) app_at (by simp [dueLs]) ?_
  dsimp only [MV.wNil]
  refine repr_by (due_x items_last (((Gr.app _).trans ((Gr.app _).trans (.app _))).lst app_at)) due_sh (by decide) (by decide) ?_
  exact eq_strS (z _)
end K02S

set_option Elab.async false
set_option linter.all false
set_option maxRecDepth 100000
set_option pp.maxSteps 400
set_option maxHeartbeats 2000000
/-! K02AJ: the law. -/
namespace K02S
open PySem PySem.Spec
open PyProof.Rows hiding St
open L2
open MP (D Cell Hd Sd WE WT WA WS WG WI EndsD ItD SpD SpGD endR endG startD itSeq items tyD truD getD putD keyOk wipeD lenD sortS ltS leS dctOf itKeys itVals itItems putFD hasF PyR PyRs PyX PyXs PyXk)
open MV K02V
def s_law : SpD := fun ds h q => ∃ (n dc : Nat) (xs : List D), ds = [.ref n] ∧ h[n]? = some (.scr xs) ∧ h[dc]? = some (.dfl "Part") ∧ (∀ x ∈ xs, ∃ i : Int, x = .int i) ∧ ∀ h', q (.bl true) h'
theorem p_law {ds : List D} {h : Hd} {q : D → Hd → Prop} (z : s_law ds h q) : v_law s__law_dice s__law_right s_Part s_Part_after s_Part_offer s_Part_len s_Part_actions s_Part_words (endR q) (startD K02.N_law ds) h := by
  obtain ⟨n, dc, xs, rfl, en, ed, hi, z⟩ := z
  refine ⟨_, rfl, ?_⟩
  refine ⟨_, xs.length, rfl, by simp only [lenD, en], _, _, rfl, _, _, rfl, ?_⟩
  have bd : ∃ j : Nat, (if (if ((xs.length : Nat) : Int) < 8 then ((xs.length : Nat) : Int) else 8) > 1 then (if ((xs.length : Nat) : Int) < 8 then ((xs.length : Nat) : Int) else 8) else 1) = (j : Int) ∧ j ≤ 8 := by
    by_cases h1 : ((xs.length : Nat) : Int) < 8
    · rw [if_pos h1]
      by_cases h2 : ((xs.length : Nat) : Int) > 1
      · rw [if_pos h2]; exact ⟨xs.length, rfl, by omega⟩
      · rw [if_neg h2]; exact ⟨1, rfl, by decide⟩
    · rw [if_neg h1]; exact ⟨8, rfl, by decide⟩
  obtain ⟨j, ej, hj⟩ := bd
  refine ⟨(j : Int), congrArg (fun i => [D.int i]) ej, by omega, by omega, ?_⟩
  refine it_by (MP.rngD 0 (j : Int).toNat) (fun i sl h' => sl.length = 7 ∧ sl[0]? = some (some (.ref n)) ∧ h'[n]? = some (.scr xs) ∧ h'[dc]? = some (.dfl "Part")) ⟨rfl, rfl, en, ed⟩ (fun i sl h' _ _ => rfl) (fun i x sl h' e p => ?_) (fun sl h' p => ?_)
  · obtain ⟨l7, s0, en', ed'⟩ := p
    obtain ⟨ex, hij⟩ := rng_at e
    subst ex
    have nlt : n < h'.length := (List.getElem?_eq_some_iff.mp en').1
    have dlt : dc < h'.length := (List.getElem?_eq_some_iff.mp ed').1
    have t0 : (sl.set 1 (some (.int (i : Int))))[0]? = some (some (.ref n)) := by rw [List.getElem?_set_ne (by decide)]; exact s0
    have t1 : (sl.set 1 (some (.int (i : Int))))[1]? = some (some (.int (i : Int))) := List.getElem?_set_self (by omega)
    have tl : (sl.set 1 (some (.int (i : Int)))).length = 7 := by rw [List.length_set]; exact l7
    show MV.wSeq _ _ _ (sl.set 1 (some (.int (i : Int)))) h'
    generalize sl.set 1 (some (.int (i : Int))) = sl1 at t0 t1 tl ⊢
    refine ⟨_, t0, _, t1, ?_⟩
    dsimp only [MV.wNil]
    refine ⟨n, xs, i, rfl, en', hi, by omega, fun h1 m g1 hm d1 => ?_⟩
    have nm : n ≠ m := by omega
    have dm : dc ≠ m := by omega
    have u0 : (sl1.set 5 (some (.ref m)))[0]? = some (some (.ref n)) := by rw [List.getElem?_set_ne (by decide)]; exact t0
    have u5 : (sl1.set 5 (some (.ref m)))[5]? = some (some (.ref m)) := List.getElem?_set_self (by omega)
    have ul : (sl1.set 5 (some (.ref m))).length = 7 := by rw [List.length_set]; exact tl
    show MV.wFor _ _ _ _ (sl1.set 5 (some (.ref m))) h1
    generalize sl1.set 5 (some (.ref m)) = sl2 at u0 u5 ul ⊢
    refine ⟨2, rfl, by decide, by decide, ?_⟩
    refine it_by (MP.rngD 0 2) (fun k sl' h'' => sl'.length = 7 ∧ sl'[0]? = some (some (.ref n)) ∧ sl'[5]? = some (some (.ref m)) ∧ h''[n]? = some (.scr xs) ∧ h''[dc]? = some (.dfl "Part") ∧ Dice (200 * k) h'' m) ⟨ul, u0, u5, g1.scr en', g1.dfl ed', d1⟩ (fun k sl' h'' _ _ => rfl) (fun k x sl' h'' e p => ?_) (fun sl' h'' p => ?_)
    · obtain ⟨l7', s0', s5', en'', ed'', dk⟩ := p
      have hk : k < 2 := (List.getElem?_eq_some_iff.mp e).1
      refine ⟨_, by rw [List.getElem?_set_ne (by decide)]; exact s5', ?_⟩
      dsimp only [MV.wNil]
      refine ⟨m, 200 * k, rfl, dk, by omega, fun h2 g2 d2 => ?_⟩
      refine ⟨true, rfl, ?_⟩
      refine iff_ rfl ?_
      exact ⟨by rw [List.length_set]; exact l7', by rw [List.getElem?_set_ne (by decide)]; exact s0', by rw [List.getElem?_set_ne (by decide)]; exact s5', g2.scr nm en'', g2.dfl dm ed'', by rw [show 200 * (k + 1) = 200 * k + 200 by omega]; exact d2⟩
    · obtain ⟨l7', s0', _, en'', ed'', _⟩ := p
      exact ⟨l7', s0', en'', ed''⟩
  · exact law_foot p.1 p.2.2.2 z
end K02S

set_option Elab.async false
set_option linter.all false
set_option maxRecDepth 100000
set_option pp.maxSteps 400
set_option maxHeartbeats 2000000
/-! K02FN: each def keeps its promise (printed by joinP.py). -/
namespace K02S
open PySem PySem.Spec
open PyProof.Rows hiding St
open L2
open MP (FnD FnE MtD MkD MkE PrD GMtD fnD_of fnE_of mtD_of mkD_of gmtD_of fnG_of FnG SpD SpGD spD IsTab Fl cxD gcxD SmOk EqOk FnIn dflA)
open K02 MV K02V
theorem binds0 {K : PySem.W.Frag} {x qual : Str} {params : Arguments} {body : List Stmt} {scope : Scope} {d : V} {kws : List (Str × V)} {f : Addr} {fd : FuncData} {ps : List Str} (F : FunD K x qual params body scope [d] kws f fd) (hp : ps.length = 3)
    (h : ∀ (T : Addr) (kV doc pm : Value) (an : Option Addr) (cdv ct : Value) (us its : List Value), us.length = 3 → its.length = 1 →
      ∃ k, bindArgs (PySem.W.fnOf x qual params body scope (.ref T) kV doc pm an cdv ct) ⟨us, []⟩ = seqItems? (.ref T) >>= k ∧ k (some its.toArray) = pure (ps.zip (us ++ its.drop 1))) : Binds K fd ps [] := by
  obtain ⟨ds, v, b⟩ := FunD.binds1 F 3 1 (by simp) (by rw [hp]; rfl) h
  cases v
  exact b
theorem bindsT {K : PySem.W.Frag} {x qual : Str} {params : Arguments} {body : List Stmt} {scope : Scope} {T0 : Addr} {kws : List (Str × V)} {f : Addr} {fd : FuncData} {ps : List Str} (F : FunD K x qual params body scope [.ref T0] kws f fd) (hp : ps.length = 3)
    (h : ∀ (T : Addr) (kV doc pm : Value) (an : Option Addr) (cdv ct : Value) (us its : List Value), us.length = 2 → its.length = 1 →
      ∃ k, bindArgs (PySem.W.fnOf x qual params body scope (.ref T) kV doc pm an cdv ct) ⟨us, []⟩ = seqItems? (.ref T) >>= k ∧ k (some its.toArray) = pure (ps.zip (us ++ its.drop 0))) : Binds K fd ps [.ref T0] := by
  obtain ⟨ds, v, b⟩ := FunD.binds1 F 2 0 (by simp) (by rw [hp]; rfl) h
  cases v with
  | cons r1 r2 =>
    cases r2
    cases r1
    exact b
section
variable {w : World} {K : PySem.W.Frag} {mg : Str → Option Value} {base : Heap} {f : Addr} {fd : FuncData}

theorem f_is_name {tk_MAX_LETTERS : Tok} (F : FunD K "is_name" "is_name" (defArgs (top 11)) (defBody (top 11)) (defScope (top 11)) [] [] f fd) (hx : mg "is_name" = some (.ref f)) (g_len : mg "len" = none) (g_isinstance : mg "isinstance" = none) (g_str : mg "str" = none) (g_all : mg "all" = none) (m_MAX_LETTERS : mg "MAX_LETTERS" = some (.int 8 tk_MAX_LETTERS)) (t_str : IsTab K mg (.type "str") tabStr) : FnD P2 w K mg base 1 "is_name" 1 s_is_name :=
  fnD_of (N := N_is_name) (ps := P_is_name) F hx ⟨rfl, rfl, rfl, nd_is_name, rfl, by decide +kernel, by decide +kernel⟩ (F.bindsN fun _ _ _ _ _ _ us hl => match us, hl with | [_], _ => rfl) (fun ds h q z => by first | (obtain ⟨_, rfl, _⟩ := z; rfl) | (obtain ⟨_, _, rfl, _⟩ := z; rfl) | (obtain ⟨_, _, _, rfl, _⟩ := z; rfl) | (obtain ⟨_, _, _, _, rfl, _⟩ := z; rfl) | (obtain ⟨_, _, _, _, _, rfl, _⟩ := z; rfl) | (obtain ⟨_, _, _, _, _, _, rfl, _⟩ := z; rfl) | (obtain ⟨_, _, _, _, _, _, _, rfl, _⟩ := z; rfl) | (obtain ⟨_, _, _, _, _, _, _, _, rfl, _⟩ := z; rfl) | (obtain ⟨_, _, _, _, _, _, _, _, _, rfl, _⟩ := z; rfl)) (fun cd A outer s H E hr hgd => ⟨_, l_is_name hr hgd g_len g_isinstance g_str g_all m_MAX_LETTERS t_str, fun ds h q z => by rw [e_is_name]; exact p_is_name z⟩)

theorem f_is_ascending  (F : FunD K "is_ascending" "is_ascending" (defArgs (top 12)) (defBody (top 12)) (defScope (top 12)) [] [] f fd) (hx : mg "is_ascending" = some (.ref f)) (g_all : mg "all" = none) (g_zip : mg "zip" = none) : FnD P2 w K mg base 1 "is_ascending" 1 s_is_ascending :=
  fnD_of (N := N_is_ascending) (ps := P_is_ascending) F hx ⟨rfl, rfl, rfl, nd_is_ascending, rfl, by decide +kernel, by decide +kernel⟩ (F.bindsN fun _ _ _ _ _ _ us hl => match us, hl with | [_], _ => rfl) (fun ds h q z => by first | (obtain ⟨_, rfl, _⟩ := z; rfl) | (obtain ⟨_, _, rfl, _⟩ := z; rfl) | (obtain ⟨_, _, _, rfl, _⟩ := z; rfl) | (obtain ⟨_, _, _, _, rfl, _⟩ := z; rfl) | (obtain ⟨_, _, _, _, _, rfl, _⟩ := z; rfl) | (obtain ⟨_, _, _, _, _, _, rfl, _⟩ := z; rfl) | (obtain ⟨_, _, _, _, _, _, _, rfl, _⟩ := z; rfl) | (obtain ⟨_, _, _, _, _, _, _, _, rfl, _⟩ := z; rfl) | (obtain ⟨_, _, _, _, _, _, _, _, _, rfl, _⟩ := z; rfl)) (fun cd A outer s H E hr hgd => ⟨_, l_is_ascending hr hgd g_all g_zip, fun ds h q z => by rw [e_is_ascending]; exact p_is_ascending z⟩)

theorem f_is_index  (F : FunD K "is_index" "is_index" (defArgs (top 13)) (defBody (top 13)) (defScope (top 13)) [] [] f fd) (hx : mg "is_index" = some (.ref f)) (g_isinstance : mg "isinstance" = none) (g_bool : mg "bool" = none) (g_int : mg "int" = none) (t_bool : IsTab K mg (.type "bool") tabBool) (t_int : IsTab K mg (.type "int") tabInt) : FnE P2 w K mg base 1 "is_index" 2 s_is_index :=
  fnE_of (N := N_is_index) (ps := P_is_index) F hx ⟨rfl, rfl, rfl, nd_is_index, rfl, by decide +kernel, by decide +kernel⟩ (F.bindsN fun _ _ _ _ _ _ us hl => match us, hl with | [_, _], _ => rfl) (fun ds h q z => by first | (obtain ⟨_, rfl, _⟩ := z; rfl) | (obtain ⟨_, _, rfl, _⟩ := z; rfl) | (obtain ⟨_, _, _, rfl, _⟩ := z; rfl) | (obtain ⟨_, _, _, _, rfl, _⟩ := z; rfl) | (obtain ⟨_, _, _, _, _, rfl, _⟩ := z; rfl) | (obtain ⟨_, _, _, _, _, _, rfl, _⟩ := z; rfl) | (obtain ⟨_, _, _, _, _, _, _, rfl, _⟩ := z; rfl) | (obtain ⟨_, _, _, _, _, _, _, _, rfl, _⟩ := z; rfl) | (obtain ⟨_, _, _, _, _, _, _, _, _, rfl, _⟩ := z; rfl)) (fun cd A outer s H E hr => ⟨_, l_is_index hr g_isinstance g_bool g_int t_bool t_int, fun ds h q z => by rw [e_is_index]; exact p_is_index z⟩)

theorem f_is_word  (F : FunD K "is_word" "is_word" (defArgs (top 14)) (defBody (top 14)) (defScope (top 14)) [] [] f fd) (hx : mg "is_word" = some (.ref f)) (g_all : mg "all" = none) (g_isinstance : mg "isinstance" = none) (g_tuple : mg "tuple" = none) (t_tuple : IsTab K mg (.type "tuple") tabTuple) (F_is_name : FnD P2 w K mg base 1 "is_name" 1 s_is_name) : FnD P2 w K mg base 2 "is_word" 1 s_is_word :=
  fnD_of (N := N_is_word) (ps := P_is_word) F hx ⟨rfl, rfl, rfl, nd_is_word, rfl, by decide +kernel, by decide +kernel⟩ (F.bindsN fun _ _ _ _ _ _ us hl => match us, hl with | [_], _ => rfl) (fun ds h q z => by first | (obtain ⟨_, rfl, _⟩ := z; rfl) | (obtain ⟨_, _, rfl, _⟩ := z; rfl) | (obtain ⟨_, _, _, rfl, _⟩ := z; rfl) | (obtain ⟨_, _, _, _, rfl, _⟩ := z; rfl) | (obtain ⟨_, _, _, _, _, rfl, _⟩ := z; rfl) | (obtain ⟨_, _, _, _, _, _, rfl, _⟩ := z; rfl) | (obtain ⟨_, _, _, _, _, _, _, rfl, _⟩ := z; rfl) | (obtain ⟨_, _, _, _, _, _, _, _, rfl, _⟩ := z; rfl) | (obtain ⟨_, _, _, _, _, _, _, _, _, rfl, _⟩ := z; rfl)) (fun cd A outer s H E hr hgd => ⟨_, l_is_word hr hgd g_all g_isinstance g_tuple t_tuple F_is_name, fun ds h q z => by rw [e_is_word]; exact p_is_word z⟩)

theorem f_require_word  (F : FunD K "require_word" "require_word" (defArgs (top 15)) (defBody (top 15)) (defScope (top 15)) [] [] f fd) (hx : mg "require_word" = some (.ref f)) (F_is_word : FnD P2 w K mg base 2 "is_word" 1 s_is_word) : FnD P2 w K mg base 3 "require_word" 1 s_require_word :=
  fnD_of (N := N_require_word) (ps := P_require_word) F hx ⟨rfl, rfl, rfl, nd_require_word, rfl, by decide +kernel, by decide +kernel⟩ (F.bindsN fun _ _ _ _ _ _ us hl => match us, hl with | [_], _ => rfl) (fun ds h q z => by first | (obtain ⟨_, rfl, _⟩ := z; rfl) | (obtain ⟨_, _, rfl, _⟩ := z; rfl) | (obtain ⟨_, _, _, rfl, _⟩ := z; rfl) | (obtain ⟨_, _, _, _, rfl, _⟩ := z; rfl) | (obtain ⟨_, _, _, _, _, rfl, _⟩ := z; rfl) | (obtain ⟨_, _, _, _, _, _, rfl, _⟩ := z; rfl) | (obtain ⟨_, _, _, _, _, _, _, rfl, _⟩ := z; rfl) | (obtain ⟨_, _, _, _, _, _, _, _, rfl, _⟩ := z; rfl) | (obtain ⟨_, _, _, _, _, _, _, _, _, rfl, _⟩ := z; rfl)) (fun cd A outer s H E hr hgd => ⟨_, l_require_word hr hgd F_is_word, fun ds h q z => by rw [e_require_word]; exact p_require_word z⟩)

theorem f_require_most {tk_MAX_WORD : Tok} (F : FunD K "require_most" "require_most" (defArgs (top 16)) (defBody (top 16)) (defScope (top 16)) [] [] f fd) (hx : mg "require_most" = some (.ref f)) (m_MAX_WORD : mg "MAX_WORD" = some (.int 6 tk_MAX_WORD)) (F_is_index : FnE P2 w K mg base 1 "is_index" 2 s_is_index) : FnE P2 w K mg base 2 "require_most" 1 s_require_most :=
  fnE_of (N := N_require_most) (ps := P_require_most) F hx ⟨rfl, rfl, rfl, nd_require_most, rfl, by decide +kernel, by decide +kernel⟩ (F.bindsN fun _ _ _ _ _ _ us hl => match us, hl with | [_], _ => rfl) (fun ds h q z => by first | (obtain ⟨_, rfl, _⟩ := z; rfl) | (obtain ⟨_, _, rfl, _⟩ := z; rfl) | (obtain ⟨_, _, _, rfl, _⟩ := z; rfl) | (obtain ⟨_, _, _, _, rfl, _⟩ := z; rfl) | (obtain ⟨_, _, _, _, _, rfl, _⟩ := z; rfl) | (obtain ⟨_, _, _, _, _, _, rfl, _⟩ := z; rfl) | (obtain ⟨_, _, _, _, _, _, _, rfl, _⟩ := z; rfl) | (obtain ⟨_, _, _, _, _, _, _, _, rfl, _⟩ := z; rfl) | (obtain ⟨_, _, _, _, _, _, _, _, _, rfl, _⟩ := z; rfl)) (fun cd A outer s H E hr => ⟨_, l_require_most hr m_MAX_WORD F_is_index, fun ds h q z => by rw [e_require_most]; exact p_require_most z⟩)

theorem f_actions_in  (F : FunD K "actions_in" "actions_in" (defArgs (top 19)) (defBody (top 19)) (defScope (top 19)) [] [] f fd) (hx : mg "actions_in" = some (.ref f)) (g_tuple : mg "tuple" = none) (g_sorted : mg "sorted" = none) (g_list : mg "list" = none) : FnD P2 w K mg base 1 "actions_in" 1 s_actions_in :=
  fnD_of (N := N_actions_in) (ps := P_actions_in) F hx ⟨rfl, rfl, rfl, nd_actions_in, rfl, by decide +kernel, by decide +kernel⟩ (F.bindsN fun _ _ _ _ _ _ us hl => match us, hl with | [_], _ => rfl) (fun ds h q z => by first | (obtain ⟨_, rfl, _⟩ := z; rfl) | (obtain ⟨_, _, rfl, _⟩ := z; rfl) | (obtain ⟨_, _, _, rfl, _⟩ := z; rfl) | (obtain ⟨_, _, _, _, rfl, _⟩ := z; rfl) | (obtain ⟨_, _, _, _, _, rfl, _⟩ := z; rfl) | (obtain ⟨_, _, _, _, _, _, rfl, _⟩ := z; rfl) | (obtain ⟨_, _, _, _, _, _, _, rfl, _⟩ := z; rfl) | (obtain ⟨_, _, _, _, _, _, _, _, rfl, _⟩ := z; rfl) | (obtain ⟨_, _, _, _, _, _, _, _, _, rfl, _⟩ := z; rfl)) (fun cd A outer s H E hr hgd => ⟨_, l_actions_in hr hgd g_tuple g_sorted g_list, fun ds h q z => by rw [e_actions_in]; exact p_actions_in z⟩)

theorem f_are_rows {tk_MAX_STATES : Tok} (F : FunD K "are_rows" "are_rows" (defArgs (top 20)) (defBody (top 20)) (defScope (top 20)) [] [] f fd) (hx : mg "are_rows" = some (.ref f)) (g_len : mg "len" = none) (g_isinstance : mg "isinstance" = none) (g_tuple : mg "tuple" = none) (g_all : mg "all" = none) (g_dict : mg "dict" = none) (m_MAX_STATES : mg "MAX_STATES" = some (.int 8 tk_MAX_STATES)) (t_tuple : IsTab K mg (.type "tuple") tabTuple) (t_dict : IsTab K mg (.type "dict") tabDict) (F_is_index : FnD P2 w K mg base 1 "is_index" 2 s_is_index) (F_is_name : FnD P2 w K mg base 1 "is_name" 1 s_is_name) : FnD P2 w K mg base 2 "are_rows" 1 s_are_rows :=
  fnD_of (N := N_are_rows) (ps := P_are_rows) F hx ⟨rfl, rfl, rfl, nd_are_rows, rfl, by decide +kernel, by decide +kernel⟩ (F.bindsN fun _ _ _ _ _ _ us hl => match us, hl with | [_], _ => rfl) (fun ds h q z => by first | (obtain ⟨_, rfl, _⟩ := z; rfl) | (obtain ⟨_, _, rfl, _⟩ := z; rfl) | (obtain ⟨_, _, _, rfl, _⟩ := z; rfl) | (obtain ⟨_, _, _, _, rfl, _⟩ := z; rfl) | (obtain ⟨_, _, _, _, _, rfl, _⟩ := z; rfl) | (obtain ⟨_, _, _, _, _, _, rfl, _⟩ := z; rfl) | (obtain ⟨_, _, _, _, _, _, _, rfl, _⟩ := z; rfl) | (obtain ⟨_, _, _, _, _, _, _, _, rfl, _⟩ := z; rfl) | (obtain ⟨_, _, _, _, _, _, _, _, _, rfl, _⟩ := z; rfl)) (fun cd A outer s H E hr hgd => ⟨_, l_are_rows hr hgd g_len g_isinstance g_tuple g_all g_dict m_MAX_STATES t_tuple t_dict F_is_index F_is_name, fun ds h q z => by rw [e_are_rows]; exact p_are_rows z⟩)

theorem f_is_rests  (F : FunD K "is_rests" "is_rests" (defArgs (top 21)) (defBody (top 21)) (defScope (top 21)) [] [] f fd) (hx : mg "is_rests" = some (.ref f)) (g_all : mg "all" = none) (g_isinstance : mg "isinstance" = none) (g_tuple : mg "tuple" = none) (t_tuple : IsTab K mg (.type "tuple") tabTuple) (F_is_index : FnD P2 w K mg base 1 "is_index" 2 s_is_index) (F_is_ascending : FnD P2 w K mg base 1 "is_ascending" 1 s_is_ascending) : FnD P2 w K mg base 2 "is_rests" 2 s_is_rests :=
  fnD_of (N := N_is_rests) (ps := P_is_rests) F hx ⟨rfl, rfl, rfl, nd_is_rests, rfl, by decide +kernel, by decide +kernel⟩ (F.bindsN fun _ _ _ _ _ _ us hl => match us, hl with | [_, _], _ => rfl) (fun ds h q z => by first | (obtain ⟨_, rfl, _⟩ := z; rfl) | (obtain ⟨_, _, rfl, _⟩ := z; rfl) | (obtain ⟨_, _, _, rfl, _⟩ := z; rfl) | (obtain ⟨_, _, _, _, rfl, _⟩ := z; rfl) | (obtain ⟨_, _, _, _, _, rfl, _⟩ := z; rfl) | (obtain ⟨_, _, _, _, _, _, rfl, _⟩ := z; rfl) | (obtain ⟨_, _, _, _, _, _, _, rfl, _⟩ := z; rfl) | (obtain ⟨_, _, _, _, _, _, _, _, rfl, _⟩ := z; rfl) | (obtain ⟨_, _, _, _, _, _, _, _, _, rfl, _⟩ := z; rfl)) (fun cd A outer s H E hr hgd => ⟨_, l_is_rests hr hgd g_all g_isinstance g_tuple t_tuple F_is_index F_is_ascending, fun ds h q z => by rw [e_is_rests]; exact p_is_rests z⟩)

theorem f_sorted_rows  (F : FunD K "sorted_rows" "sorted_rows" (defArgs (top 22)) (defBody (top 22)) (defScope (top 22)) [] [] f fd) (hx : mg "sorted_rows" = some (.ref f)) (g_tuple : mg "tuple" = none) (g_sorted : mg "sorted" = none) (g_list : mg "list" = none) : FnD P2 w K mg base 1 "sorted_rows" 1 s_sorted_rows :=
  fnD_of (N := N_sorted_rows) (ps := P_sorted_rows) F hx ⟨rfl, rfl, rfl, nd_sorted_rows, rfl, by decide +kernel, by decide +kernel⟩ (F.bindsN fun _ _ _ _ _ _ us hl => match us, hl with | [_], _ => rfl) (fun ds h q z => by first | (obtain ⟨_, rfl, _⟩ := z; rfl) | (obtain ⟨_, _, rfl, _⟩ := z; rfl) | (obtain ⟨_, _, _, rfl, _⟩ := z; rfl) | (obtain ⟨_, _, _, _, rfl, _⟩ := z; rfl) | (obtain ⟨_, _, _, _, _, rfl, _⟩ := z; rfl) | (obtain ⟨_, _, _, _, _, _, rfl, _⟩ := z; rfl) | (obtain ⟨_, _, _, _, _, _, _, rfl, _⟩ := z; rfl) | (obtain ⟨_, _, _, _, _, _, _, _, rfl, _⟩ := z; rfl) | (obtain ⟨_, _, _, _, _, _, _, _, _, rfl, _⟩ := z; rfl)) (fun cd A outer s H E hr hgd => ⟨_, l_sorted_rows hr hgd g_tuple g_sorted g_list, fun ds h q z => by rw [e_sorted_rows]; exact p_sorted_rows z⟩)

theorem f_next_state  (F : FunD K "next_state" "next_state" (defArgs (top 27)) (defBody (top 27)) (defScope (top 27)) [] [] f fd) (hx : mg "next_state" = some (.ref f)) (T_own_steps : ∀ x ∈ (["Part", "Rows"] : List Str), Fl K mg x "own_steps") : FnD P2 w K mg base 1 "next_state" 3 s_next_state :=
  fnD_of (N := N_next_state) (ps := P_next_state) F hx ⟨rfl, rfl, rfl, nd_next_state, rfl, by decide +kernel, by decide +kernel⟩ (F.bindsN fun _ _ _ _ _ _ us hl => match us, hl with | [_, _, _], _ => rfl) (fun ds h q z => by first | (obtain ⟨_, rfl, _⟩ := z; rfl) | (obtain ⟨_, _, rfl, _⟩ := z; rfl) | (obtain ⟨_, _, _, rfl, _⟩ := z; rfl) | (obtain ⟨_, _, _, _, rfl, _⟩ := z; rfl) | (obtain ⟨_, _, _, _, _, rfl, _⟩ := z; rfl) | (obtain ⟨_, _, _, _, _, _, rfl, _⟩ := z; rfl) | (obtain ⟨_, _, _, _, _, _, _, rfl, _⟩ := z; rfl) | (obtain ⟨_, _, _, _, _, _, _, _, rfl, _⟩ := z; rfl) | (obtain ⟨_, _, _, _, _, _, _, _, _, rfl, _⟩ := z; rfl)) (fun cd A outer s H E hr hgd => ⟨_, l_next_state hr hgd T_own_steps, fun ds h q z => by rw [e_next_state]; exact p_next_state z⟩)

theorem f_Rows_init  (F : FunD K "__init__" "Rows.__init__" (defArgs (cls 32 0)) (defBody (cls 32 0)) (defScope (cls 32 0)) [] [] f fd) {C : Addr} (hC : mg "Rows" = some (.ref C)) (mk : Mk K C f) (g_tuple : mg "tuple" = none) (g_sorted : mg "sorted" = none) (g_set : mg "set" = none) (T_own_steps : ∀ x ∈ (["Part", "Rows"] : List Str), Fl K mg x "own_steps") (T_own_rests : ∀ x ∈ (["Part", "Rows"] : List Str), Fl K mg x "own_rests") (F_sorted_rows : FnD P2 w K mg base 1 "sorted_rows" 1 s_sorted_rows) : MkD P2 w K mg base 2 "Rows" 3 s_Rows :=
  mkD_of (N := N_Rows_init) (ps := P_Rows_init) F hC mk ⟨rfl, rfl, rfl, nd_Rows_init, rfl, by decide +kernel, by decide +kernel⟩ (F.bindsN fun _ _ _ _ _ _ us hl => match us, hl with | [_, _, _], _ => rfl) (fun ds h q z => by first | (obtain ⟨_, rfl, _⟩ := z; rfl) | (obtain ⟨_, _, rfl, _⟩ := z; rfl) | (obtain ⟨_, _, _, rfl, _⟩ := z; rfl) | (obtain ⟨_, _, _, _, rfl, _⟩ := z; rfl) | (obtain ⟨_, _, _, _, _, rfl, _⟩ := z; rfl) | (obtain ⟨_, _, _, _, _, _, rfl, _⟩ := z; rfl) | (obtain ⟨_, _, _, _, _, _, _, rfl, _⟩ := z; rfl) | (obtain ⟨_, _, _, _, _, _, _, _, rfl, _⟩ := z; rfl) | (obtain ⟨_, _, _, _, _, _, _, _, _, rfl, _⟩ := z; rfl)) (fun cd A outer s H E hr hgd => ⟨_, l_Rows_init hr hgd g_tuple g_sorted g_set T_own_steps T_own_rests F_sorted_rows, fun ds h q z => by rw [e_Rows_init]; exact p_Rows_init z⟩)

theorem f_checked_rows {tk_MAX_ACTIONS : Tok} (F : FunD K "checked_rows" "checked_rows" (defArgs (top 33)) (defBody (top 33)) (defScope (top 33)) [] [] f fd) (hx : mg "checked_rows" = some (.ref f)) (g_len : mg "len" = none) (m_MAX_ACTIONS : mg "MAX_ACTIONS" = some (.int 4 tk_MAX_ACTIONS)) (F_actions_in : FnD P2 w K mg base 1 "actions_in" 1 s_actions_in) (F_are_rows : FnD P2 w K mg base 2 "are_rows" 1 s_are_rows) (F_is_rests : FnD P2 w K mg base 2 "is_rests" 2 s_is_rests) (F_Rows : MkD P2 w K mg base 2 "Rows" 3 s_Rows) : FnD P2 w K mg base 4 "checked_rows" 2 s_checked_rows :=
  fnD_of (N := N_checked_rows) (ps := P_checked_rows) F hx ⟨rfl, rfl, rfl, nd_checked_rows, rfl, by decide +kernel, by decide +kernel⟩ (F.bindsN fun _ _ _ _ _ _ us hl => match us, hl with | [_, _], _ => rfl) (fun ds h q z => by first | (obtain ⟨_, rfl, _⟩ := z; rfl) | (obtain ⟨_, _, rfl, _⟩ := z; rfl) | (obtain ⟨_, _, _, rfl, _⟩ := z; rfl) | (obtain ⟨_, _, _, _, rfl, _⟩ := z; rfl) | (obtain ⟨_, _, _, _, _, rfl, _⟩ := z; rfl) | (obtain ⟨_, _, _, _, _, _, rfl, _⟩ := z; rfl) | (obtain ⟨_, _, _, _, _, _, _, rfl, _⟩ := z; rfl) | (obtain ⟨_, _, _, _, _, _, _, _, rfl, _⟩ := z; rfl) | (obtain ⟨_, _, _, _, _, _, _, _, _, rfl, _⟩ := z; rfl)) (fun cd A outer s H E hr hgd => ⟨_, l_checked_rows hr hgd g_len m_MAX_ACTIONS F_actions_in F_are_rows F_is_rests F_Rows, fun ds h q z => by rw [e_checked_rows]; exact p_checked_rows z⟩)

theorem f_Part_init {C_Rows : Addr} {dv : V} (F : FunD K "__init__" "Part.__init__" (defArgs (cls 34 0)) (defBody (cls 34 0)) (defScope (cls 34 0)) [dv] [] f fd) {C : Addr} (hC : mg "Part" = some (.ref C)) (mk : Mk K C f) (g_isinstance : mg "isinstance" = none) (T_own_steps : ∀ x ∈ (["Part", "Rows"] : List Str), Fl K mg x "own_steps") (T_own_rests : ∀ x ∈ (["Part", "Rows"] : List Str), Fl K mg x "own_rests") (T_own_actions : ∀ x ∈ (["Part"] : List Str), Fl K mg x "own_actions") (m_Rows : mg "Rows" = some (.ref C_Rows)) (t_Rows : IsTab K mg (.ref C_Rows) tabRows) (F_checked_rows : FnD P2 w K mg base 4 "checked_rows" 2 s_checked_rows) (F_actions_in : FnD P2 w K mg base 1 "actions_in" 1 s_actions_in) : MkD P2 w K mg base 5 "Part" 3 s_Part :=
  mkD_of (N := N_Part_init) (ps := P_Part_init) F hC mk ⟨rfl, rfl, rfl, nd_Part_init, rfl, by decide +kernel, by decide +kernel⟩ (binds0 F rfl fun _ _ _ _ _ _ _ us its hl hi => match us, hl, its, hi with | [_, _, _], _, [_], _ => ⟨_, rfl, rfl⟩) (fun ds h q z => by first | (obtain ⟨_, rfl, _⟩ := z; rfl) | (obtain ⟨_, _, rfl, _⟩ := z; rfl) | (obtain ⟨_, _, _, rfl, _⟩ := z; rfl) | (obtain ⟨_, _, _, _, rfl, _⟩ := z; rfl) | (obtain ⟨_, _, _, _, _, rfl, _⟩ := z; rfl) | (obtain ⟨_, _, _, _, _, _, rfl, _⟩ := z; rfl) | (obtain ⟨_, _, _, _, _, _, _, rfl, _⟩ := z; rfl) | (obtain ⟨_, _, _, _, _, _, _, _, rfl, _⟩ := z; rfl) | (obtain ⟨_, _, _, _, _, _, _, _, _, rfl, _⟩ := z; rfl)) (fun cd A outer s H E hr hgd => ⟨_, l_Part_init hr hgd g_isinstance T_own_steps T_own_rests T_own_actions m_Rows t_Rows F_checked_rows F_actions_in, fun ds h q z => by rw [e_Part_init]; exact p_Part_init z⟩)

theorem fe_Part_init {C_Rows : Addr}  {T0 : Addr} (F : FunD K "__init__" "Part.__init__" (defArgs (cls 34 0)) (defBody (cls 34 0)) (defScope (cls 34 0)) [.ref T0] [] f fd) {C : Addr} (hC : mg "Part" = some (.ref C)) (mk : Mk K C f) (hd : dflA K mg "Part" = some T0) (g_isinstance : mg "isinstance" = none) (T_own_steps : ∀ x ∈ (["Part", "Rows"] : List Str), Fl K mg x "own_steps") (T_own_rests : ∀ x ∈ (["Part", "Rows"] : List Str), Fl K mg x "own_rests") (T_own_actions : ∀ x ∈ (["Part"] : List Str), Fl K mg x "own_actions") (m_Rows : mg "Rows" = some (.ref C_Rows)) (t_Rows : IsTab K mg (.ref C_Rows) tabRows) (F_checked_rows : FnD P2 w K mg base 4 "checked_rows" 2 s_checked_rows) (F_actions_in : FnD P2 w K mg base 1 "actions_in" 1 s_actions_in) : MkE P2 w K mg base 5 "Part" 3 s_Part :=
  ⟨⟨C, f, fd, P_Part_init, T0, hC, mk, fnG_of (N := N_Part_init) (ps := P_Part_init) F ⟨rfl, rfl, rfl, nd_Part_init, rfl, by decide +kernel, by decide +kernel⟩ (fun ds h q z => by first | (obtain ⟨_, rfl, _⟩ := z; rfl) | (obtain ⟨_, _, rfl, _⟩ := z; rfl) | (obtain ⟨_, _, _, rfl, _⟩ := z; rfl) | (obtain ⟨_, _, _, _, rfl, _⟩ := z; rfl) | (obtain ⟨_, _, _, _, _, rfl, _⟩ := z; rfl) | (obtain ⟨_, _, _, _, _, _, rfl, _⟩ := z; rfl) | (obtain ⟨_, _, _, _, _, _, _, rfl, _⟩ := z; rfl) | (obtain ⟨_, _, _, _, _, _, _, _, rfl, _⟩ := z; rfl) | (obtain ⟨_, _, _, _, _, _, _, _, _, rfl, _⟩ := z; rfl)) (fun cd A outer s H E hr hgd => ⟨_, l_Part_init hr hgd g_isinstance T_own_steps T_own_rests T_own_actions m_Rows t_Rows F_checked_rows F_actions_in, fun ds h q z => by rw [e_Part_init]; exact p_Part_init z⟩), (bindsT F rfl fun _ _ _ _ _ _ _ us its hl hi => match us, hl, its, hi with | [_, _], _, [_], _ => ⟨_, rfl, rfl⟩), hd, rfl⟩, (fun ds h q z => by first | (obtain ⟨_, rfl, _⟩ := z; rfl) | (obtain ⟨_, _, rfl, _⟩ := z; rfl) | (obtain ⟨_, _, _, rfl, _⟩ := z; rfl) | (obtain ⟨_, _, _, _, rfl, _⟩ := z; rfl) | (obtain ⟨_, _, _, _, _, rfl, _⟩ := z; rfl) | (obtain ⟨_, _, _, _, _, _, rfl, _⟩ := z; rfl) | (obtain ⟨_, _, _, _, _, _, _, rfl, _⟩ := z; rfl) | (obtain ⟨_, _, _, _, _, _, _, _, rfl, _⟩ := z; rfl) | (obtain ⟨_, _, _, _, _, _, _, _, _, rfl, _⟩ := z; rfl))⟩

theorem f_offer_at  (F : FunD K "offer_at" "offer_at" (defArgs (top 37)) (defBody (top 37)) (defScope (top 37)) [] [] f fd) (hx : mg "offer_at" = some (.ref f)) (g_tuple : mg "tuple" = none) (g_list : mg "list" = none) (T_own_rests : ∀ x ∈ (["Part", "Rows"] : List Str), Fl K mg x "own_rests") (T_own_steps : ∀ x ∈ (["Part", "Rows"] : List Str), Fl K mg x "own_steps") : FnD P2 w K mg base 1 "offer_at" 2 s_offer_at :=
  fnD_of (N := N_offer_at) (ps := P_offer_at) F hx ⟨rfl, rfl, rfl, nd_offer_at, rfl, by decide +kernel, by decide +kernel⟩ (F.bindsN fun _ _ _ _ _ _ us hl => match us, hl with | [_, _], _ => rfl) (fun ds h q z => by first | (obtain ⟨_, rfl, _⟩ := z; rfl) | (obtain ⟨_, _, rfl, _⟩ := z; rfl) | (obtain ⟨_, _, _, rfl, _⟩ := z; rfl) | (obtain ⟨_, _, _, _, rfl, _⟩ := z; rfl) | (obtain ⟨_, _, _, _, _, rfl, _⟩ := z; rfl) | (obtain ⟨_, _, _, _, _, _, rfl, _⟩ := z; rfl) | (obtain ⟨_, _, _, _, _, _, _, rfl, _⟩ := z; rfl) | (obtain ⟨_, _, _, _, _, _, _, _, rfl, _⟩ := z; rfl) | (obtain ⟨_, _, _, _, _, _, _, _, _, rfl, _⟩ := z; rfl)) (fun cd A outer s H E hr hgd => ⟨_, l_offer_at hr hgd g_tuple g_list T_own_rests T_own_steps, fun ds h q z => by rw [e_offer_at]; exact p_offer_at z⟩)

theorem f_state_after  (F : FunD K "state_after" "state_after" (defArgs (top 38)) (defBody (top 38)) (defScope (top 38)) [] [] f fd) (hx : mg "state_after" = some (.ref f)) (F_next_state : FnD P2 w K mg base 1 "next_state" 3 s_next_state) : FnD P2 w K mg base 2 "state_after" 2 s_state_after :=
  fnD_of (N := N_state_after) (ps := P_state_after) F hx ⟨rfl, rfl, rfl, nd_state_after, rfl, by decide +kernel, by decide +kernel⟩ (F.bindsN fun _ _ _ _ _ _ us hl => match us, hl with | [_, _], _ => rfl) (fun ds h q z => by first | (obtain ⟨_, rfl, _⟩ := z; rfl) | (obtain ⟨_, _, rfl, _⟩ := z; rfl) | (obtain ⟨_, _, _, rfl, _⟩ := z; rfl) | (obtain ⟨_, _, _, _, rfl, _⟩ := z; rfl) | (obtain ⟨_, _, _, _, _, rfl, _⟩ := z; rfl) | (obtain ⟨_, _, _, _, _, _, rfl, _⟩ := z; rfl) | (obtain ⟨_, _, _, _, _, _, _, rfl, _⟩ := z; rfl) | (obtain ⟨_, _, _, _, _, _, _, _, rfl, _⟩ := z; rfl) | (obtain ⟨_, _, _, _, _, _, _, _, _, rfl, _⟩ := z; rfl)) (fun cd A outer s H E hr hgd => ⟨_, l_state_after hr hgd F_next_state, fun ds h q z => by rw [e_state_after]; exact p_state_after z⟩)

theorem f_Part_steps  (F : FunD K "steps" "Part.steps" (defArgs (cls 34 2)) (defBody (cls 34 2)) (defScope (cls 34 2)) [] [] f fd) {C : Addr} (hC : mg "Part" = some (.ref C)) (cl : Cls K C) {p : Addr} (pr : PropOf K C "steps" p f) (T_own_steps : ∀ x ∈ (["Part", "Rows"] : List Str), Fl K mg x "own_steps") (F_sorted_rows : FnD P2 w K mg base 1 "sorted_rows" 1 s_sorted_rows) : PrD P2 w K mg base 2 "Part" "steps" s_Part_steps :=
  ⟨⟨C, p, f, fd, P_Part_steps, hC, cl, pr, fnG_of (N := N_Part_steps) (ps := P_Part_steps) F ⟨rfl, rfl, rfl, nd_Part_steps, rfl, by decide +kernel, by decide +kernel⟩ (fun ds h q z => by first | (obtain ⟨_, rfl, _⟩ := z; rfl) | (obtain ⟨_, _, rfl, _⟩ := z; rfl) | (obtain ⟨_, _, _, rfl, _⟩ := z; rfl) | (obtain ⟨_, _, _, _, rfl, _⟩ := z; rfl) | (obtain ⟨_, _, _, _, _, rfl, _⟩ := z; rfl) | (obtain ⟨_, _, _, _, _, _, rfl, _⟩ := z; rfl) | (obtain ⟨_, _, _, _, _, _, _, rfl, _⟩ := z; rfl) | (obtain ⟨_, _, _, _, _, _, _, _, rfl, _⟩ := z; rfl) | (obtain ⟨_, _, _, _, _, _, _, _, _, rfl, _⟩ := z; rfl)) (fun cd A outer s H E hr hgd => ⟨_, l_Part_steps hr hgd T_own_steps F_sorted_rows, fun ds h q z => by rw [e_Part_steps]; exact p_Part_steps z⟩), (F.bindsN fun _ _ _ _ _ _ us hl => match us, hl with | [_], _ => rfl), rfl⟩, (fun ds h q z => by first | (obtain ⟨_, rfl, _⟩ := z; rfl) | (obtain ⟨_, _, rfl, _⟩ := z; rfl) | (obtain ⟨_, _, _, rfl, _⟩ := z; rfl) | (obtain ⟨_, _, _, _, rfl, _⟩ := z; rfl) | (obtain ⟨_, _, _, _, _, rfl, _⟩ := z; rfl) | (obtain ⟨_, _, _, _, _, _, rfl, _⟩ := z; rfl) | (obtain ⟨_, _, _, _, _, _, _, rfl, _⟩ := z; rfl) | (obtain ⟨_, _, _, _, _, _, _, _, rfl, _⟩ := z; rfl) | (obtain ⟨_, _, _, _, _, _, _, _, _, rfl, _⟩ := z; rfl))⟩

theorem f_Part_rests  (F : FunD K "rests" "Part.rests" (defArgs (cls 34 3)) (defBody (cls 34 3)) (defScope (cls 34 3)) [] [] f fd) {C : Addr} (hC : mg "Part" = some (.ref C)) (cl : Cls K C) {p : Addr} (pr : PropOf K C "rests" p f) (T_own_rests : ∀ x ∈ (["Part", "Rows"] : List Str), Fl K mg x "own_rests") : PrD P2 w K mg base 1 "Part" "rests" s_Part_rests :=
  ⟨⟨C, p, f, fd, P_Part_rests, hC, cl, pr, fnG_of (N := N_Part_rests) (ps := P_Part_rests) F ⟨rfl, rfl, rfl, nd_Part_rests, rfl, by decide +kernel, by decide +kernel⟩ (fun ds h q z => by first | (obtain ⟨_, rfl, _⟩ := z; rfl) | (obtain ⟨_, _, rfl, _⟩ := z; rfl) | (obtain ⟨_, _, _, rfl, _⟩ := z; rfl) | (obtain ⟨_, _, _, _, rfl, _⟩ := z; rfl) | (obtain ⟨_, _, _, _, _, rfl, _⟩ := z; rfl) | (obtain ⟨_, _, _, _, _, _, rfl, _⟩ := z; rfl) | (obtain ⟨_, _, _, _, _, _, _, rfl, _⟩ := z; rfl) | (obtain ⟨_, _, _, _, _, _, _, _, rfl, _⟩ := z; rfl) | (obtain ⟨_, _, _, _, _, _, _, _, _, rfl, _⟩ := z; rfl)) (fun cd A outer s H E hr hgd => ⟨_, l_Part_rests hr hgd T_own_rests, fun ds h q z => by rw [e_Part_rests]; exact p_Part_rests z⟩), (F.bindsN fun _ _ _ _ _ _ us hl => match us, hl with | [_], _ => rfl), rfl⟩, (fun ds h q z => by first | (obtain ⟨_, rfl, _⟩ := z; rfl) | (obtain ⟨_, _, rfl, _⟩ := z; rfl) | (obtain ⟨_, _, _, rfl, _⟩ := z; rfl) | (obtain ⟨_, _, _, _, rfl, _⟩ := z; rfl) | (obtain ⟨_, _, _, _, _, rfl, _⟩ := z; rfl) | (obtain ⟨_, _, _, _, _, _, rfl, _⟩ := z; rfl) | (obtain ⟨_, _, _, _, _, _, _, rfl, _⟩ := z; rfl) | (obtain ⟨_, _, _, _, _, _, _, _, rfl, _⟩ := z; rfl) | (obtain ⟨_, _, _, _, _, _, _, _, _, rfl, _⟩ := z; rfl))⟩

theorem f_Part_actions  (F : FunD K "actions" "Part.actions" (defArgs (cls 34 4)) (defBody (cls 34 4)) (defScope (cls 34 4)) [] [] f fd) {C : Addr} (hC : mg "Part" = some (.ref C)) (cl : Cls K C) {p : Addr} (pr : PropOf K C "actions" p f) (T_own_actions : ∀ x ∈ (["Part"] : List Str), Fl K mg x "own_actions") : PrD P2 w K mg base 1 "Part" "actions" s_Part_actions :=
  ⟨⟨C, p, f, fd, P_Part_actions, hC, cl, pr, fnG_of (N := N_Part_actions) (ps := P_Part_actions) F ⟨rfl, rfl, rfl, nd_Part_actions, rfl, by decide +kernel, by decide +kernel⟩ (fun ds h q z => by first | (obtain ⟨_, rfl, _⟩ := z; rfl) | (obtain ⟨_, _, rfl, _⟩ := z; rfl) | (obtain ⟨_, _, _, rfl, _⟩ := z; rfl) | (obtain ⟨_, _, _, _, rfl, _⟩ := z; rfl) | (obtain ⟨_, _, _, _, _, rfl, _⟩ := z; rfl) | (obtain ⟨_, _, _, _, _, _, rfl, _⟩ := z; rfl) | (obtain ⟨_, _, _, _, _, _, _, rfl, _⟩ := z; rfl) | (obtain ⟨_, _, _, _, _, _, _, _, rfl, _⟩ := z; rfl) | (obtain ⟨_, _, _, _, _, _, _, _, _, rfl, _⟩ := z; rfl)) (fun cd A outer s H E hr hgd => ⟨_, l_Part_actions hr hgd T_own_actions, fun ds h q z => by rw [e_Part_actions]; exact p_Part_actions z⟩), (F.bindsN fun _ _ _ _ _ _ us hl => match us, hl with | [_], _ => rfl), rfl⟩, (fun ds h q z => by first | (obtain ⟨_, rfl, _⟩ := z; rfl) | (obtain ⟨_, _, rfl, _⟩ := z; rfl) | (obtain ⟨_, _, _, rfl, _⟩ := z; rfl) | (obtain ⟨_, _, _, _, rfl, _⟩ := z; rfl) | (obtain ⟨_, _, _, _, _, rfl, _⟩ := z; rfl) | (obtain ⟨_, _, _, _, _, _, rfl, _⟩ := z; rfl) | (obtain ⟨_, _, _, _, _, _, _, rfl, _⟩ := z; rfl) | (obtain ⟨_, _, _, _, _, _, _, _, rfl, _⟩ := z; rfl) | (obtain ⟨_, _, _, _, _, _, _, _, _, rfl, _⟩ := z; rfl))⟩

theorem f_Part_offer  (F : FunD K "offer" "Part.offer" (defArgs (cls 34 6)) (defBody (cls 34 6)) (defScope (cls 34 6)) [] [] f fd) {C : Addr} (hC : mg "Part" = some (.ref C)) (cl : Cls K C) (me : Meth K C "offer" f) (g_len : mg "len" = none) (T_own_steps : ∀ x ∈ (["Part", "Rows"] : List Str), Fl K mg x "own_steps") (F_is_index : FnD P2 w K mg base 1 "is_index" 2 s_is_index) (F_offer_at : FnD P2 w K mg base 1 "offer_at" 2 s_offer_at) : MtD P2 w K mg base 2 "Part" "offer" 2 s_Part_offer :=
  mtD_of (N := N_Part_offer) (ps := P_Part_offer) F hC cl me ⟨rfl, rfl, rfl, nd_Part_offer, rfl, by decide +kernel, by decide +kernel⟩ (F.bindsN fun _ _ _ _ _ _ us hl => match us, hl with | [_, _], _ => rfl) (fun ds h q z => by first | (obtain ⟨_, rfl, _⟩ := z; rfl) | (obtain ⟨_, _, rfl, _⟩ := z; rfl) | (obtain ⟨_, _, _, rfl, _⟩ := z; rfl) | (obtain ⟨_, _, _, _, rfl, _⟩ := z; rfl) | (obtain ⟨_, _, _, _, _, rfl, _⟩ := z; rfl) | (obtain ⟨_, _, _, _, _, _, rfl, _⟩ := z; rfl) | (obtain ⟨_, _, _, _, _, _, _, rfl, _⟩ := z; rfl) | (obtain ⟨_, _, _, _, _, _, _, _, rfl, _⟩ := z; rfl) | (obtain ⟨_, _, _, _, _, _, _, _, _, rfl, _⟩ := z; rfl)) (fun cd A outer s H E hr hgd => ⟨_, l_Part_offer hr hgd g_len T_own_steps F_is_index F_offer_at, fun ds h q z => by rw [e_Part_offer]; exact p_Part_offer z⟩)

theorem f_Part_after  (F : FunD K "after" "Part.after" (defArgs (cls 34 7)) (defBody (cls 34 7)) (defScope (cls 34 7)) [] [] f fd) {C : Addr} (hC : mg "Part" = some (.ref C)) (cl : Cls K C) (me : Meth K C "after" f) (F_require_word : FnD P2 w K mg base 3 "require_word" 1 s_require_word) (F_state_after : FnD P2 w K mg base 2 "state_after" 2 s_state_after) : MtD P2 w K mg base 4 "Part" "after" 2 s_Part_after :=
  mtD_of (N := N_Part_after) (ps := P_Part_after) F hC cl me ⟨rfl, rfl, rfl, nd_Part_after, rfl, by decide +kernel, by decide +kernel⟩ (F.bindsN fun _ _ _ _ _ _ us hl => match us, hl with | [_, _], _ => rfl) (fun ds h q z => by first | (obtain ⟨_, rfl, _⟩ := z; rfl) | (obtain ⟨_, _, rfl, _⟩ := z; rfl) | (obtain ⟨_, _, _, rfl, _⟩ := z; rfl) | (obtain ⟨_, _, _, _, rfl, _⟩ := z; rfl) | (obtain ⟨_, _, _, _, _, rfl, _⟩ := z; rfl) | (obtain ⟨_, _, _, _, _, _, rfl, _⟩ := z; rfl) | (obtain ⟨_, _, _, _, _, _, _, rfl, _⟩ := z; rfl) | (obtain ⟨_, _, _, _, _, _, _, _, rfl, _⟩ := z; rfl) | (obtain ⟨_, _, _, _, _, _, _, _, _, rfl, _⟩ := z; rfl)) (fun cd A outer s H E hr hgd => ⟨_, l_Part_after hr hgd F_require_word F_state_after, fun ds h q z => by rw [e_Part_after]; exact p_Part_after z⟩)

theorem f_Part_words  (F : FunD K "words" "Part.words" (defArgs (cls 34 8)) (defBody (cls 34 8)) (defScope (cls 34 8)) [] [] f fd) {C : Addr} (hC : mg "Part" = some (.ref C)) (cl : Cls K C) (me : Meth K C "words" f) (g_range : mg "range" = none) (T_own_steps : ∀ x ∈ (["Part", "Rows"] : List Str), Fl K mg x "own_steps") (F_require_most : FnE P2 w K mg base 2 "require_most" 1 s_require_most) : GMtD P2 w K mg base 3 "Part" "words" 2 s_Part_words :=
  gmtD_of (N := N_Part_words) (ps := P_Part_words) F hC cl me ⟨rfl, rfl, rfl, nd_Part_words, rfl, by decide +kernel, by decide +kernel⟩ (F.bindsN fun _ _ _ _ _ _ us hl => match us, hl with | [_, _], _ => rfl) (fun ds h q z => by first | (obtain ⟨_, rfl, _⟩ := z; rfl) | (obtain ⟨_, _, rfl, _⟩ := z; rfl) | (obtain ⟨_, _, _, rfl, _⟩ := z; rfl) | (obtain ⟨_, _, _, _, rfl, _⟩ := z; rfl) | (obtain ⟨_, _, _, _, _, rfl, _⟩ := z; rfl) | (obtain ⟨_, _, _, _, _, _, rfl, _⟩ := z; rfl) | (obtain ⟨_, _, _, _, _, _, _, rfl, _⟩ := z; rfl) | (obtain ⟨_, _, _, _, _, _, _, _, rfl, _⟩ := z; rfl) | (obtain ⟨_, _, _, _, _, _, _, _, _, rfl, _⟩ := z; rfl)) (fun cd A outer s H E pn hr => ⟨_, l_Part_words hr g_range T_own_steps F_require_most, fun ds h q z => by rw [e_Part_words]; exact p_Part_words z⟩)

theorem f_Part_contains  (F : FunD K "__contains__" "Part.__contains__" (defArgs (cls 34 14)) (defBody (cls 34 14)) (defScope (cls 34 14)) [] [] f fd) {C : Addr} (hC : mg "Part" = some (.ref C)) (cl : Cls K C) (me : Meth K C "__contains__" f) (F_state_after : FnD P2 w K mg base 2 "state_after" 2 s_state_after) (F_is_word : FnD P2 w K mg base 2 "is_word" 1 s_is_word) : MtD P2 w K mg base 3 "Part" "__contains__" 2 s_Part_contains :=
  mtD_of (N := N_Part_contains) (ps := P_Part_contains) F hC cl me ⟨rfl, rfl, rfl, nd_Part_contains, rfl, by decide +kernel, by decide +kernel⟩ (F.bindsN fun _ _ _ _ _ _ us hl => match us, hl with | [_, _], _ => rfl) (fun ds h q z => by first | (obtain ⟨_, rfl, _⟩ := z; rfl) | (obtain ⟨_, _, rfl, _⟩ := z; rfl) | (obtain ⟨_, _, _, rfl, _⟩ := z; rfl) | (obtain ⟨_, _, _, _, rfl, _⟩ := z; rfl) | (obtain ⟨_, _, _, _, _, rfl, _⟩ := z; rfl) | (obtain ⟨_, _, _, _, _, _, rfl, _⟩ := z; rfl) | (obtain ⟨_, _, _, _, _, _, _, rfl, _⟩ := z; rfl) | (obtain ⟨_, _, _, _, _, _, _, _, rfl, _⟩ := z; rfl) | (obtain ⟨_, _, _, _, _, _, _, _, _, rfl, _⟩ := z; rfl)) (fun cd A outer s H E hr hgd => ⟨_, l_Part_contains hr hgd F_state_after F_is_word, fun ds h q z => by rw [e_Part_contains]; exact p_Part_contains z⟩)

theorem f_Part_getitem  (F : FunD K "__getitem__" "Part.__getitem__" (defArgs (cls 34 15)) (defBody (cls 34 15)) (defScope (cls 34 15)) [] [] f fd) {C : Addr} (hC : mg "Part" = some (.ref C)) (cl : Cls K C) (me : Meth K C "__getitem__" f) (F_offer_at : FnD P2 w K mg base 1 "offer_at" 2 s_offer_at) (F_state_after : FnD P2 w K mg base 2 "state_after" 2 s_state_after) (F_Part_contains : MtD P2 w K mg base 3 "Part" "__contains__" 2 s_Part_contains) : MtD P2 w K mg base 4 "Part" "__getitem__" 2 s_Part_getitem :=
  mtD_of (N := N_Part_getitem) (ps := P_Part_getitem) F hC cl me ⟨rfl, rfl, rfl, nd_Part_getitem, rfl, by decide +kernel, by decide +kernel⟩ (F.bindsN fun _ _ _ _ _ _ us hl => match us, hl with | [_, _], _ => rfl) (fun ds h q z => by first | (obtain ⟨_, rfl, _⟩ := z; rfl) | (obtain ⟨_, _, rfl, _⟩ := z; rfl) | (obtain ⟨_, _, _, rfl, _⟩ := z; rfl) | (obtain ⟨_, _, _, _, rfl, _⟩ := z; rfl) | (obtain ⟨_, _, _, _, _, rfl, _⟩ := z; rfl) | (obtain ⟨_, _, _, _, _, _, rfl, _⟩ := z; rfl) | (obtain ⟨_, _, _, _, _, _, _, rfl, _⟩ := z; rfl) | (obtain ⟨_, _, _, _, _, _, _, _, rfl, _⟩ := z; rfl) | (obtain ⟨_, _, _, _, _, _, _, _, _, rfl, _⟩ := z; rfl)) (fun cd A outer s H E hr hgd => ⟨_, l_Part_getitem hr hgd F_offer_at F_state_after F_Part_contains, fun ds h q z => by rw [e_Part_getitem]; exact p_Part_getitem z⟩)

theorem f_Part_len  (F : FunD K "__len__" "Part.__len__" (defArgs (cls 34 17)) (defBody (cls 34 17)) (defScope (cls 34 17)) [] [] f fd) {C : Addr} (hC : mg "Part" = some (.ref C)) (cl : Cls K C) (me : Meth K C "__len__" f) (g_len : mg "len" = none) (T_own_steps : ∀ x ∈ (["Part", "Rows"] : List Str), Fl K mg x "own_steps") : MtD P2 w K mg base 1 "Part" "__len__" 1 s_Part_len :=
  mtD_of (N := N_Part_len) (ps := P_Part_len) F hC cl me ⟨rfl, rfl, rfl, nd_Part_len, rfl, by decide +kernel, by decide +kernel⟩ (F.bindsN fun _ _ _ _ _ _ us hl => match us, hl with | [_], _ => rfl) (fun ds h q z => by first | (obtain ⟨_, rfl, _⟩ := z; rfl) | (obtain ⟨_, _, rfl, _⟩ := z; rfl) | (obtain ⟨_, _, _, rfl, _⟩ := z; rfl) | (obtain ⟨_, _, _, _, rfl, _⟩ := z; rfl) | (obtain ⟨_, _, _, _, _, rfl, _⟩ := z; rfl) | (obtain ⟨_, _, _, _, _, _, rfl, _⟩ := z; rfl) | (obtain ⟨_, _, _, _, _, _, _, rfl, _⟩ := z; rfl) | (obtain ⟨_, _, _, _, _, _, _, _, rfl, _⟩ := z; rfl) | (obtain ⟨_, _, _, _, _, _, _, _, _, rfl, _⟩ := z; rfl)) (fun cd A outer s H E hr hgd => ⟨_, l_Part_len hr hgd g_len T_own_steps, fun ds h q z => by rw [e_Part_len]; exact p_Part_len z⟩)

theorem f_Part_eq {C_Part : Addr} (F : FunD K "__eq__" "Part.__eq__" (defArgs (cls 34 18)) (defBody (cls 34 18)) (defScope (cls 34 18)) [] [] f fd) {C : Addr} (hC : mg "Part" = some (.ref C)) (cl : Cls K C) (me : Meth K C "__eq__" f) (g_isinstance : mg "isinstance" = none) (T_own_rests : ∀ x ∈ (["Part", "Rows"] : List Str), Fl K mg x "own_rests") (T_own_steps : ∀ x ∈ (["Part", "Rows"] : List Str), Fl K mg x "own_steps") (m_Part : mg "Part" = some (.ref C_Part)) (t_Part : IsTab K mg (.ref C_Part) tabPart) : MtD P2 w K mg base 1 "Part" "__eq__" 2 s_Part_eq :=
  mtD_of (N := N_Part_eq) (ps := P_Part_eq) F hC cl me ⟨rfl, rfl, rfl, nd_Part_eq, rfl, by decide +kernel, by decide +kernel⟩ (F.bindsN fun _ _ _ _ _ _ us hl => match us, hl with | [_, _], _ => rfl) (fun ds h q z => by first | (obtain ⟨_, rfl, _⟩ := z; rfl) | (obtain ⟨_, _, rfl, _⟩ := z; rfl) | (obtain ⟨_, _, _, rfl, _⟩ := z; rfl) | (obtain ⟨_, _, _, _, rfl, _⟩ := z; rfl) | (obtain ⟨_, _, _, _, _, rfl, _⟩ := z; rfl) | (obtain ⟨_, _, _, _, _, _, rfl, _⟩ := z; rfl) | (obtain ⟨_, _, _, _, _, _, _, rfl, _⟩ := z; rfl) | (obtain ⟨_, _, _, _, _, _, _, _, rfl, _⟩ := z; rfl) | (obtain ⟨_, _, _, _, _, _, _, _, _, rfl, _⟩ := z; rfl)) (fun cd A outer s H E hr hgd => ⟨_, l_Part_eq hr hgd g_isinstance T_own_rests T_own_steps m_Part t_Part, fun ds h q z => by rw [e_Part_eq]; exact p_Part_eq z⟩)

theorem f_Part_str  (F : FunD K "__str__" "Part.__str__" (defArgs (cls 34 19)) (defBody (cls 34 19)) (defScope (cls 34 19)) [] [] f fd) {C : Addr} (hC : mg "Part" = some (.ref C)) (cl : Cls K C) (me : Meth K C "__str__" f) (g_len : mg "len" = none) (T_own_actions : ∀ x ∈ (["Part"] : List Str), Fl K mg x "own_actions") (T_own_steps : ∀ x ∈ (["Part", "Rows"] : List Str), Fl K mg x "own_steps") : MtD P2 w K mg base 1 "Part" "__str__" 1 s_Part_str :=
  mtD_of (N := N_Part_str) (ps := P_Part_str) F hC cl me ⟨rfl, rfl, rfl, nd_Part_str, rfl, by decide +kernel, by decide +kernel⟩ (F.bindsN fun _ _ _ _ _ _ us hl => match us, hl with | [_], _ => rfl) (fun ds h q z => by first | (obtain ⟨_, rfl, _⟩ := z; rfl) | (obtain ⟨_, _, rfl, _⟩ := z; rfl) | (obtain ⟨_, _, _, rfl, _⟩ := z; rfl) | (obtain ⟨_, _, _, _, rfl, _⟩ := z; rfl) | (obtain ⟨_, _, _, _, _, rfl, _⟩ := z; rfl) | (obtain ⟨_, _, _, _, _, _, rfl, _⟩ := z; rfl) | (obtain ⟨_, _, _, _, _, _, _, rfl, _⟩ := z; rfl) | (obtain ⟨_, _, _, _, _, _, _, _, rfl, _⟩ := z; rfl) | (obtain ⟨_, _, _, _, _, _, _, _, _, rfl, _⟩ := z; rfl)) (fun cd A outer s H E hr hgd => ⟨_, l_Part_str hr hgd g_len T_own_actions T_own_steps, fun ds h q z => by rw [e_Part_str]; exact p_Part_str z⟩)

theorem f__law_dice  (F : FunD K "_law_dice" "_law_dice" (defArgs (top 41)) (defBody (top 41)) (defScope (top 41)) [] [] f fd) (hx : mg "_law_dice" = some (.ref f)) (g_len : mg "len" = none) (g_int : mg "int" = none) (g_abs : mg "abs" = none) : FnD P2 w K mg base 1 "_law_dice" 2 s__law_dice :=
  fnD_of (N := N__law_dice) (ps := P__law_dice) F hx ⟨rfl, rfl, rfl, nd__law_dice, rfl, by decide +kernel, by decide +kernel⟩ (F.bindsN fun _ _ _ _ _ _ us hl => match us, hl with | [_, _], _ => rfl) (fun ds h q z => by first | (obtain ⟨_, rfl, _⟩ := z; rfl) | (obtain ⟨_, _, rfl, _⟩ := z; rfl) | (obtain ⟨_, _, _, rfl, _⟩ := z; rfl) | (obtain ⟨_, _, _, _, rfl, _⟩ := z; rfl) | (obtain ⟨_, _, _, _, _, rfl, _⟩ := z; rfl) | (obtain ⟨_, _, _, _, _, _, rfl, _⟩ := z; rfl) | (obtain ⟨_, _, _, _, _, _, _, rfl, _⟩ := z; rfl) | (obtain ⟨_, _, _, _, _, _, _, _, rfl, _⟩ := z; rfl) | (obtain ⟨_, _, _, _, _, _, _, _, _, rfl, _⟩ := z; rfl)) (fun cd A outer s H E hr hgd => ⟨_, l__law_dice hr hgd g_len g_int g_abs, fun ds h q z => by rw [e__law_dice]; exact p_dice z⟩)

theorem f__law_roll  (F : FunD K "_law_roll" "_law_roll" (defArgs (top 42)) (defBody (top 42)) (defScope (top 42)) [] [] f fd) (hx : mg "_law_roll" = some (.ref f)) (g_int : mg "int" = none) : FnD P2 w K mg base 1 "_law_roll" 2 s__law_roll :=
  fnD_of (N := N__law_roll) (ps := P__law_roll) F hx ⟨rfl, rfl, rfl, nd__law_roll, rfl, by decide +kernel, by decide +kernel⟩ (F.bindsN fun _ _ _ _ _ _ us hl => match us, hl with | [_, _], _ => rfl) (fun ds h q z => by first | (obtain ⟨_, rfl, _⟩ := z; rfl) | (obtain ⟨_, _, rfl, _⟩ := z; rfl) | (obtain ⟨_, _, _, rfl, _⟩ := z; rfl) | (obtain ⟨_, _, _, _, rfl, _⟩ := z; rfl) | (obtain ⟨_, _, _, _, _, rfl, _⟩ := z; rfl) | (obtain ⟨_, _, _, _, _, _, rfl, _⟩ := z; rfl) | (obtain ⟨_, _, _, _, _, _, _, rfl, _⟩ := z; rfl) | (obtain ⟨_, _, _, _, _, _, _, _, rfl, _⟩ := z; rfl) | (obtain ⟨_, _, _, _, _, _, _, _, _, rfl, _⟩ := z; rfl)) (fun cd A outer s H E hr hgd => ⟨_, l__law_roll hr hgd g_int, fun ds h q z => by rw [e__law_roll]; exact p_roll z⟩)

theorem f__law_one_of  (F : FunD K "_law_one_of" "_law_one_of" (defArgs (top 43)) (defBody (top 43)) (defScope (top 43)) [] [] f fd) (hx : mg "_law_one_of" = some (.ref f)) (g_len : mg "len" = none) (F__law_roll : FnD P2 w K mg base 1 "_law_roll" 2 s__law_roll) : FnD P2 w K mg base 2 "_law_one_of" 2 s__law_one_of :=
  fnD_of (N := N__law_one_of) (ps := P__law_one_of) F hx ⟨rfl, rfl, rfl, nd__law_one_of, rfl, by decide +kernel, by decide +kernel⟩ (F.bindsN fun _ _ _ _ _ _ us hl => match us, hl with | [_, _], _ => rfl) (fun ds h q z => by first | (obtain ⟨_, rfl, _⟩ := z; rfl) | (obtain ⟨_, _, rfl, _⟩ := z; rfl) | (obtain ⟨_, _, _, rfl, _⟩ := z; rfl) | (obtain ⟨_, _, _, _, rfl, _⟩ := z; rfl) | (obtain ⟨_, _, _, _, _, rfl, _⟩ := z; rfl) | (obtain ⟨_, _, _, _, _, _, rfl, _⟩ := z; rfl) | (obtain ⟨_, _, _, _, _, _, _, rfl, _⟩ := z; rfl) | (obtain ⟨_, _, _, _, _, _, _, _, rfl, _⟩ := z; rfl) | (obtain ⟨_, _, _, _, _, _, _, _, _, rfl, _⟩ := z; rfl)) (fun cd A outer s H E hr hgd => ⟨_, l__law_one_of hr hgd g_len F__law_roll, fun ds h q z => by rw [e__law_one_of]; exact p_one_of z⟩)

theorem f__law_mixed  (F : FunD K "_law_mixed" "_law_mixed" (defArgs (top 44)) (defBody (top 44)) (defScope (top 44)) [] [] f fd) (hx : mg "_law_mixed" = some (.ref f)) (g_list : mg "list" = none) (g_len : mg "len" = none) (F__law_roll : FnD P2 w K mg base 1 "_law_roll" 2 s__law_roll) : FnD P2 w K mg base 2 "_law_mixed" 2 s__law_mixed :=
  fnD_of (N := N__law_mixed) (ps := P__law_mixed) F hx ⟨rfl, rfl, rfl, nd__law_mixed, rfl, by decide +kernel, by decide +kernel⟩ (F.bindsN fun _ _ _ _ _ _ us hl => match us, hl with | [_, _], _ => rfl) (fun ds h q z => by first | (obtain ⟨_, rfl, _⟩ := z; rfl) | (obtain ⟨_, _, rfl, _⟩ := z; rfl) | (obtain ⟨_, _, _, rfl, _⟩ := z; rfl) | (obtain ⟨_, _, _, _, rfl, _⟩ := z; rfl) | (obtain ⟨_, _, _, _, _, rfl, _⟩ := z; rfl) | (obtain ⟨_, _, _, _, _, _, rfl, _⟩ := z; rfl) | (obtain ⟨_, _, _, _, _, _, _, rfl, _⟩ := z; rfl) | (obtain ⟨_, _, _, _, _, _, _, _, rfl, _⟩ := z; rfl) | (obtain ⟨_, _, _, _, _, _, _, _, _, rfl, _⟩ := z; rfl)) (fun cd A outer s H E hr hgd => ⟨_, l__law_mixed hr hgd g_list g_len F__law_roll, fun ds h q z => by rw [e__law_mixed]; exact p_mixed z⟩)

theorem f__law_actions  (F : FunD K "_law_actions" "_law_actions" (defArgs (top 45)) (defBody (top 45)) (defScope (top 45)) [] [] f fd) (hx : mg "_law_actions" = some (.ref f)) (g_sorted : mg "sorted" = none) (F__law_mixed : FnD P2 w K mg base 2 "_law_mixed" 2 s__law_mixed) : FnD P2 w K mg base 3 "_law_actions" 2 s__law_actions :=
  fnD_of (N := N__law_actions) (ps := P__law_actions) F hx ⟨rfl, rfl, rfl, nd__law_actions, rfl, by decide +kernel, by decide +kernel⟩ (F.bindsN fun _ _ _ _ _ _ us hl => match us, hl with | [_, _], _ => rfl) (fun ds h q z => by first | (obtain ⟨_, rfl, _⟩ := z; rfl) | (obtain ⟨_, _, rfl, _⟩ := z; rfl) | (obtain ⟨_, _, _, rfl, _⟩ := z; rfl) | (obtain ⟨_, _, _, _, rfl, _⟩ := z; rfl) | (obtain ⟨_, _, _, _, _, rfl, _⟩ := z; rfl) | (obtain ⟨_, _, _, _, _, _, rfl, _⟩ := z; rfl) | (obtain ⟨_, _, _, _, _, _, _, rfl, _⟩ := z; rfl) | (obtain ⟨_, _, _, _, _, _, _, _, rfl, _⟩ := z; rfl) | (obtain ⟨_, _, _, _, _, _, _, _, _, rfl, _⟩ := z; rfl)) (fun cd A outer s H E hr hgd => ⟨_, l__law_actions hr hgd g_sorted F__law_mixed, fun ds h q z => by rw [e__law_actions]; exact p_actions z⟩)

theorem f__law_part  (F : FunD K "_law_part" "_law_part" (defArgs (top 46)) (defBody (top 46)) (defScope (top 46)) [] [] f fd) (hx : mg "_law_part" = some (.ref f)) (g_range : mg "range" = none) (F__law_roll : FnD P2 w K mg base 1 "_law_roll" 2 s__law_roll) : FnD P2 w K mg base 2 "_law_part" 3 s__law_part :=
  fnD_of (N := N__law_part) (ps := P__law_part) F hx ⟨rfl, rfl, rfl, nd__law_part, rfl, by decide +kernel, by decide +kernel⟩ (F.bindsN fun _ _ _ _ _ _ us hl => match us, hl with | [_, _, _], _ => rfl) (fun ds h q z => by first | (obtain ⟨_, rfl, _⟩ := z; rfl) | (obtain ⟨_, _, rfl, _⟩ := z; rfl) | (obtain ⟨_, _, _, rfl, _⟩ := z; rfl) | (obtain ⟨_, _, _, _, rfl, _⟩ := z; rfl) | (obtain ⟨_, _, _, _, _, rfl, _⟩ := z; rfl) | (obtain ⟨_, _, _, _, _, _, rfl, _⟩ := z; rfl) | (obtain ⟨_, _, _, _, _, _, _, rfl, _⟩ := z; rfl) | (obtain ⟨_, _, _, _, _, _, _, _, rfl, _⟩ := z; rfl) | (obtain ⟨_, _, _, _, _, _, _, _, _, rfl, _⟩ := z; rfl)) (fun cd A outer s H E hr hgd => ⟨_, l__law_part hr hgd g_range F__law_roll, fun ds h q z => by rw [e__law_part]; exact p_part z⟩)

theorem f__law_made_part  (F : FunD K "_law_made_part" "_law_made_part" (defArgs (top 47)) (defBody (top 47)) (defScope (top 47)) [] [] f fd) (hx : mg "_law_made_part" = some (.ref f)) (g_tuple : mg "tuple" = none) (g_enumerate : mg "enumerate" = none) (g_dict : mg "dict" = none) (g_list : mg "list" = none) (F_Part : MkD P2 w K mg base 5 "Part" 3 s_Part) : FnD P2 w K mg base 7 "_law_made_part" 1 s__law_made_part :=
  fnD_of (N := N__law_made_part) (ps := P__law_made_part) F hx ⟨rfl, rfl, rfl, nd__law_made_part, rfl, by decide +kernel, by decide +kernel⟩ (F.bindsN fun _ _ _ _ _ _ us hl => match us, hl with | [_], _ => rfl) (fun ds h q z => by first | (obtain ⟨_, rfl, _⟩ := z; rfl) | (obtain ⟨_, _, rfl, _⟩ := z; rfl) | (obtain ⟨_, _, _, rfl, _⟩ := z; rfl) | (obtain ⟨_, _, _, _, rfl, _⟩ := z; rfl) | (obtain ⟨_, _, _, _, _, rfl, _⟩ := z; rfl) | (obtain ⟨_, _, _, _, _, _, rfl, _⟩ := z; rfl) | (obtain ⟨_, _, _, _, _, _, _, rfl, _⟩ := z; rfl) | (obtain ⟨_, _, _, _, _, _, _, _, rfl, _⟩ := z; rfl) | (obtain ⟨_, _, _, _, _, _, _, _, _, rfl, _⟩ := z; rfl)) (fun cd A outer s H E hr hgd => ⟨_, l__law_made_part hr hgd g_tuple g_enumerate g_dict g_list F_Part, fun ds h q z => by rw [e__law_made_part]; exact p_made_part z⟩)

theorem f__law_offer  (F : FunD K "_law_offer" "_law_offer" (defArgs (top 48)) (defBody (top 48)) (defScope (top 48)) [] [] f fd) (hx : mg "_law_offer" = some (.ref f)) (g_tuple : mg "tuple" = none) (g_sorted : mg "sorted" = none) : FnD P2 w K mg base 1 "_law_offer" 2 s__law_offer :=
  fnD_of (N := N__law_offer) (ps := P__law_offer) F hx ⟨rfl, rfl, rfl, nd__law_offer, rfl, by decide +kernel, by decide +kernel⟩ (F.bindsN fun _ _ _ _ _ _ us hl => match us, hl with | [_, _], _ => rfl) (fun ds h q z => by first | (obtain ⟨_, rfl, _⟩ := z; rfl) | (obtain ⟨_, _, rfl, _⟩ := z; rfl) | (obtain ⟨_, _, _, rfl, _⟩ := z; rfl) | (obtain ⟨_, _, _, _, rfl, _⟩ := z; rfl) | (obtain ⟨_, _, _, _, _, rfl, _⟩ := z; rfl) | (obtain ⟨_, _, _, _, _, _, rfl, _⟩ := z; rfl) | (obtain ⟨_, _, _, _, _, _, _, rfl, _⟩ := z; rfl) | (obtain ⟨_, _, _, _, _, _, _, _, rfl, _⟩ := z; rfl) | (obtain ⟨_, _, _, _, _, _, _, _, _, rfl, _⟩ := z; rfl)) (fun cd A outer s H E hr hgd => ⟨_, l__law_offer hr hgd g_tuple g_sorted, fun ds h q z => by rw [e__law_offer]; exact p_offer z⟩)

theorem f__law_state  (F : FunD K "_law_state" "_law_state" (defArgs (top 49)) (defBody (top 49)) (defScope (top 49)) [] [] f fd) (hx : mg "_law_state" = some (.ref f))  : FnD P2 w K mg base 1 "_law_state" 2 s__law_state :=
  fnD_of (N := N__law_state) (ps := P__law_state) F hx ⟨rfl, rfl, rfl, nd__law_state, rfl, by decide +kernel, by decide +kernel⟩ (F.bindsN fun _ _ _ _ _ _ us hl => match us, hl with | [_, _], _ => rfl) (fun ds h q z => by first | (obtain ⟨_, rfl, _⟩ := z; rfl) | (obtain ⟨_, _, rfl, _⟩ := z; rfl) | (obtain ⟨_, _, _, rfl, _⟩ := z; rfl) | (obtain ⟨_, _, _, _, rfl, _⟩ := z; rfl) | (obtain ⟨_, _, _, _, _, rfl, _⟩ := z; rfl) | (obtain ⟨_, _, _, _, _, _, rfl, _⟩ := z; rfl) | (obtain ⟨_, _, _, _, _, _, _, rfl, _⟩ := z; rfl) | (obtain ⟨_, _, _, _, _, _, _, _, rfl, _⟩ := z; rfl) | (obtain ⟨_, _, _, _, _, _, _, _, _, rfl, _⟩ := z; rfl)) (fun cd A outer s H E hr hgd => ⟨_, l__law_state hr hgd , fun ds h q z => by rw [e__law_state]; exact p_state z⟩)

theorem f__law_words  (F : FunD K "_law_words" "_law_words" (defArgs (top 50)) (defBody (top 50)) (defScope (top 50)) [] [] f fd) (hx : mg "_law_words" = some (.ref f)) (g_range : mg "range" = none) : FnD P2 w K mg base 1 "_law_words" 2 s__law_words :=
  fnD_of (N := N__law_words) (ps := P__law_words) F hx ⟨rfl, rfl, rfl, nd__law_words, rfl, by decide +kernel, by decide +kernel⟩ (F.bindsN fun _ _ _ _ _ _ us hl => match us, hl with | [_, _], _ => rfl) (fun ds h q z => by first | (obtain ⟨_, rfl, _⟩ := z; rfl) | (obtain ⟨_, _, rfl, _⟩ := z; rfl) | (obtain ⟨_, _, _, rfl, _⟩ := z; rfl) | (obtain ⟨_, _, _, _, rfl, _⟩ := z; rfl) | (obtain ⟨_, _, _, _, _, rfl, _⟩ := z; rfl) | (obtain ⟨_, _, _, _, _, _, rfl, _⟩ := z; rfl) | (obtain ⟨_, _, _, _, _, _, _, rfl, _⟩ := z; rfl) | (obtain ⟨_, _, _, _, _, _, _, _, rfl, _⟩ := z; rfl) | (obtain ⟨_, _, _, _, _, _, _, _, _, rfl, _⟩ := z; rfl)) (fun cd A outer s H E hr hgd => ⟨_, l__law_words hr hgd g_range, fun ds h q z => by rw [e__law_words]; exact p_words z⟩)

theorem f__law_long_words  (F : FunD K "_law_long_words" "_law_long_words" (defArgs (top 51)) (defBody (top 51)) (defScope (top 51)) [] [] f fd) (hx : mg "_law_long_words" = some (.ref f)) (g_range : mg "range" = none) (g_sorted : mg "sorted" = none) (F__law_roll : FnD P2 w K mg base 1 "_law_roll" 2 s__law_roll) (F__law_one_of : FnD P2 w K mg base 2 "_law_one_of" 2 s__law_one_of) : FnD P2 w K mg base 3 "_law_long_words" 3 s__law_long_words :=
  fnD_of (N := N__law_long_words) (ps := P__law_long_words) F hx ⟨rfl, rfl, rfl, nd__law_long_words, rfl, by decide +kernel, by decide +kernel⟩ (F.bindsN fun _ _ _ _ _ _ us hl => match us, hl with | [_, _, _], _ => rfl) (fun ds h q z => by first | (obtain ⟨_, rfl, _⟩ := z; rfl) | (obtain ⟨_, _, rfl, _⟩ := z; rfl) | (obtain ⟨_, _, _, rfl, _⟩ := z; rfl) | (obtain ⟨_, _, _, _, rfl, _⟩ := z; rfl) | (obtain ⟨_, _, _, _, _, rfl, _⟩ := z; rfl) | (obtain ⟨_, _, _, _, _, _, rfl, _⟩ := z; rfl) | (obtain ⟨_, _, _, _, _, _, _, rfl, _⟩ := z; rfl) | (obtain ⟨_, _, _, _, _, _, _, _, rfl, _⟩ := z; rfl) | (obtain ⟨_, _, _, _, _, _, _, _, _, rfl, _⟩ := z; rfl)) (fun cd A outer s H E hr hgd => ⟨_, l__law_long_words hr hgd g_range g_sorted F__law_roll F__law_one_of, fun ds h q z => by rw [e__law_long_words]; exact p_long_words z⟩)

theorem f__law_word_right  (F : FunD K "_law_word_right" "_law_word_right" (defArgs (top 52)) (defBody (top 52)) (defScope (top 52)) [] [] f fd) (hx : mg "_law_word_right" = some (.ref f)) (g_repr : mg "repr" = none) (IX_Part : FnIn K mg "Part" "__getitem__") (F__law_state : FnD P2 w K mg base 1 "_law_state" 2 s__law_state) (F__law_offer : FnD P2 w K mg base 1 "_law_offer" 2 s__law_offer) (F_Part_after : MtD P2 w K mg base 4 "Part" "after" 2 s_Part_after) (F_Part_contains : MtD P2 w K mg base 3 "Part" "__contains__" 2 s_Part_contains) (F_Part_getitem : MtD P2 w K mg base 4 "Part" "__getitem__" 2 s_Part_getitem) : FnD P2 w K mg base 6 "_law_word_right" 3 s__law_word_right :=
  fnD_of (N := N__law_word_right) (ps := P__law_word_right) F hx ⟨rfl, rfl, rfl, nd__law_word_right, rfl, by decide +kernel, by decide +kernel⟩ (F.bindsN fun _ _ _ _ _ _ us hl => match us, hl with | [_, _, _], _ => rfl) (fun ds h q z => by first | (obtain ⟨_, rfl, _⟩ := z; rfl) | (obtain ⟨_, _, rfl, _⟩ := z; rfl) | (obtain ⟨_, _, _, rfl, _⟩ := z; rfl) | (obtain ⟨_, _, _, _, rfl, _⟩ := z; rfl) | (obtain ⟨_, _, _, _, _, rfl, _⟩ := z; rfl) | (obtain ⟨_, _, _, _, _, _, rfl, _⟩ := z; rfl) | (obtain ⟨_, _, _, _, _, _, _, rfl, _⟩ := z; rfl) | (obtain ⟨_, _, _, _, _, _, _, _, rfl, _⟩ := z; rfl) | (obtain ⟨_, _, _, _, _, _, _, _, _, rfl, _⟩ := z; rfl)) (fun cd A outer s H E hr hgd => ⟨_, l__law_word_right hr hgd g_repr IX_Part F__law_state F__law_offer F_Part_after F_Part_contains F_Part_getitem, fun ds h q z => by rw [e__law_word_right]; exact p_word_right z⟩)

theorem f__law_words_right  (F : FunD K "_law_words_right" "_law_words_right" (defArgs (top 53)) (defBody (top 53)) (defScope (top 53)) [] [] f fd) (hx : mg "_law_words_right" = some (.ref f)) (g_repr : mg "repr" = none) (g_list : mg "list" = none) (g_tuple : mg "tuple" = none) (F__law_roll : FnD P2 w K mg base 1 "_law_roll" 2 s__law_roll) (F__law_words : FnD P2 w K mg base 1 "_law_words" 2 s__law_words) (F__law_state : FnD P2 w K mg base 1 "_law_state" 2 s__law_state) (F__law_long_words : FnD P2 w K mg base 3 "_law_long_words" 3 s__law_long_words) (F__law_word_right : FnD P2 w K mg base 6 "_law_word_right" 3 s__law_word_right) (F_Part_contains : MtD P2 w K mg base 3 "Part" "__contains__" 2 s_Part_contains) (G_Part_words : GMtD P2 w K mg base 3 "Part" "words" 2 s_Part_words) : FnD P2 w K mg base 7 "_law_words_right" 4 s__law_words_right :=
  fnD_of (N := N__law_words_right) (ps := P__law_words_right) F hx ⟨rfl, rfl, rfl, nd__law_words_right, rfl, by decide +kernel, by decide +kernel⟩ (F.bindsN fun _ _ _ _ _ _ us hl => match us, hl with | [_, _, _, _], _ => rfl) (fun ds h q z => by first | (obtain ⟨_, rfl, _⟩ := z; rfl) | (obtain ⟨_, _, rfl, _⟩ := z; rfl) | (obtain ⟨_, _, _, rfl, _⟩ := z; rfl) | (obtain ⟨_, _, _, _, rfl, _⟩ := z; rfl) | (obtain ⟨_, _, _, _, _, rfl, _⟩ := z; rfl) | (obtain ⟨_, _, _, _, _, _, rfl, _⟩ := z; rfl) | (obtain ⟨_, _, _, _, _, _, _, rfl, _⟩ := z; rfl) | (obtain ⟨_, _, _, _, _, _, _, _, rfl, _⟩ := z; rfl) | (obtain ⟨_, _, _, _, _, _, _, _, _, rfl, _⟩ := z; rfl)) (fun cd A outer s H E hr hgd => ⟨_, l__law_words_right hr hgd g_repr g_list g_tuple F__law_roll F__law_words F__law_state F__law_long_words F__law_word_right F_Part_contains G_Part_words, fun ds h q z => by rw [e__law_words_right]; exact p_words_right z⟩)

theorem f__law_right  (F : FunD K "_law_right" "_law_right" (defArgs (top 54)) (defBody (top 54)) (defScope (top 54)) [] [] f fd) (hx : mg "_law_right" = some (.ref f)) (g_sorted : mg "sorted" = none) (g_set : mg "set" = none) (g_list : mg "list" = none) (g_tuple : mg "tuple" = none) (g_enumerate : mg "enumerate" = none) (g_str : mg "str" = none) (g_len : mg "len" = none) (g_repr : mg "repr" = none) (g_range : mg "range" = none) (SM : SmOk K) (EQ_Part : EqOk K mg "Part" ["str", "tuple"]) (F__law_actions : FnD P2 w K mg base 3 "_law_actions" 2 s__law_actions) (F__law_roll : FnD P2 w K mg base 1 "_law_roll" 2 s__law_roll) (F__law_part : FnD P2 w K mg base 2 "_law_part" 3 s__law_part) (F__law_made_part : FnD P2 w K mg base 7 "_law_made_part" 1 s__law_made_part) (F__law_offer : FnD P2 w K mg base 1 "_law_offer" 2 s__law_offer) (F__law_words_right : FnD P2 w K mg base 7 "_law_words_right" 4 s__law_words_right) (F_Part_offer : MtD P2 w K mg base 2 "Part" "offer" 2 s_Part_offer) (F_Part_str : MtD P2 w K mg base 1 "Part" "__str__" 1 s_Part_str) (F_Part_len : MtD P2 w K mg base 1 "Part" "__len__" 1 s_Part_len) (F_Part_eq : MtD P2 w K mg base 1 "Part" "__eq__" 2 s_Part_eq) (F_Part_actions : PrD P2 w K mg base 1 "Part" "actions" s_Part_actions) (F_Part_rests : PrD P2 w K mg base 1 "Part" "rests" s_Part_rests) (F_Part_steps : PrD P2 w K mg base 2 "Part" "steps" s_Part_steps) : FnD P2 w K mg base 8 "_law_right" 1 s__law_right :=
  fnD_of (N := N__law_right) (ps := P__law_right) F hx ⟨rfl, rfl, rfl, nd__law_right, rfl, by decide +kernel, by decide +kernel⟩ (F.bindsN fun _ _ _ _ _ _ us hl => match us, hl with | [_], _ => rfl) (fun ds h q z => by first | (obtain ⟨_, rfl, _⟩ := z; rfl) | (obtain ⟨_, _, rfl, _⟩ := z; rfl) | (obtain ⟨_, _, _, rfl, _⟩ := z; rfl) | (obtain ⟨_, _, _, _, rfl, _⟩ := z; rfl) | (obtain ⟨_, _, _, _, _, rfl, _⟩ := z; rfl) | (obtain ⟨_, _, _, _, _, _, rfl, _⟩ := z; rfl) | (obtain ⟨_, _, _, _, _, _, _, rfl, _⟩ := z; rfl) | (obtain ⟨_, _, _, _, _, _, _, _, rfl, _⟩ := z; rfl) | (obtain ⟨_, _, _, _, _, _, _, _, _, rfl, _⟩ := z; rfl)) (fun cd A outer s H E hr hgd => ⟨_, l__law_right hr hgd g_sorted g_set g_list g_tuple g_enumerate g_str g_len g_repr g_range SM EQ_Part F__law_actions F__law_roll F__law_part F__law_made_part F__law_offer F__law_words_right F_Part_offer F_Part_str F_Part_len F_Part_eq F_Part_actions F_Part_rests F_Part_steps, fun ds h q z => by rw [e__law_right]; exact p_right z⟩)

theorem f_law {tk_MAX_STATES : Tok} (F : FunD K "law" "law" (defArgs (top 55)) (defBody (top 55)) (defScope (top 55)) [] [] f fd) (g_range : mg "range" = none) (g_max : mg "max" = none) (g_min : mg "min" = none) (g_len : mg "len" = none) (g_list : mg "list" = none) (g_repr : mg "repr" = none) (m_MAX_STATES : mg "MAX_STATES" = some (.int 8 tk_MAX_STATES)) (F__law_dice : FnD P2 w K mg base 1 "_law_dice" 2 s__law_dice) (F__law_right : FnD P2 w K mg base 8 "_law_right" 1 s__law_right) (F_Part : MkD P2 w K mg base 5 "Part" 3 s_Part) (E_Part : MkE P2 w K mg base 5 "Part" 3 s_Part) (F_Part_after : MtD P2 w K mg base 4 "Part" "after" 2 s_Part_after) (F_Part_offer : MtD P2 w K mg base 2 "Part" "offer" 2 s_Part_offer) (F_Part_len : MtD P2 w K mg base 1 "Part" "__len__" 1 s_Part_len) (F_Part_actions : PrD P2 w K mg base 1 "Part" "actions" s_Part_actions) (G_Part_words : GMtD P2 w K mg base 3 "Part" "words" 2 s_Part_words) : FnG P2 w K mg base CX0 9 f fd P_law (spD K mg 1 s_law) :=
  fnG_of (N := N_law) (ps := P_law) F ⟨rfl, rfl, rfl, nd_law, rfl, by decide +kernel, by decide +kernel⟩ (fun ds h q z => by first | (obtain ⟨_, rfl, _⟩ := z; rfl) | (obtain ⟨_, _, rfl, _⟩ := z; rfl) | (obtain ⟨_, _, _, rfl, _⟩ := z; rfl) | (obtain ⟨_, _, _, _, rfl, _⟩ := z; rfl) | (obtain ⟨_, _, _, _, _, rfl, _⟩ := z; rfl) | (obtain ⟨_, _, _, _, _, _, rfl, _⟩ := z; rfl) | (obtain ⟨_, _, _, _, _, _, _, rfl, _⟩ := z; rfl) | (obtain ⟨_, _, _, _, _, _, _, _, rfl, _⟩ := z; rfl) | (obtain ⟨_, _, _, _, _, _, _, _, _, rfl, _⟩ := z; rfl)) (fun cd A outer s H E hr hgd => ⟨_, l_law hr hgd g_range g_max g_min g_len g_list g_repr m_MAX_STATES F__law_dice F__law_right F_Part E_Part F_Part_after F_Part_offer F_Part_len F_Part_actions G_Part_words, fun ds h q z => by rw [e_law]; exact p_law z⟩)

end
end K02S

set_option Elab.async false
set_option linter.all false
set_option maxRecDepth 100000
set_option pp.maxSteps 400
set_option maxHeartbeats 0
namespace K02
open PySem PySem.Spec PyProof.Rows L2
abbrev R : PySem.W.OpenRow := PySem.W.OpenLaw.row PySem.Challenge.rw_whatparts_k02_whole_parts_by_their_words
abbrev ga := He.ga
def fn : List He.DefD := [⟨("is_name", none), "is_name", "is_name", defArgs (top 11), defBody (top 11), defScope (top 11), [], []⟩,
  ⟨("is_ascending", none), "is_ascending", "is_ascending", defArgs (top 12), defBody (top 12), defScope (top 12), [], []⟩,
  ⟨("is_index", none), "is_index", "is_index", defArgs (top 13), defBody (top 13), defScope (top 13), [], []⟩,
  ⟨("is_word", none), "is_word", "is_word", defArgs (top 14), defBody (top 14), defScope (top 14), [], []⟩,
  ⟨("require_word", none), "require_word", "require_word", defArgs (top 15), defBody (top 15), defScope (top 15), [], []⟩,
  ⟨("require_most", none), "require_most", "require_most", defArgs (top 16), defBody (top 16), defScope (top 16), [], []⟩,
  ⟨("actions_in", none), "actions_in", "actions_in", defArgs (top 19), defBody (top 19), defScope (top 19), [], []⟩,
  ⟨("are_rows", none), "are_rows", "are_rows", defArgs (top 20), defBody (top 20), defScope (top 20), [], []⟩,
  ⟨("is_rests", none), "is_rests", "is_rests", defArgs (top 21), defBody (top 21), defScope (top 21), [], []⟩,
  ⟨("sorted_rows", none), "sorted_rows", "sorted_rows", defArgs (top 22), defBody (top 22), defScope (top 22), [], []⟩,
  ⟨("next_state", none), "next_state", "next_state", defArgs (top 27), defBody (top 27), defScope (top 27), [], []⟩,
  ⟨("Rows", some "__init__"), "__init__", "Rows.__init__", defArgs (cls 32 0), defBody (cls 32 0), defScope (cls 32 0), [], []⟩,
  ⟨("checked_rows", none), "checked_rows", "checked_rows", defArgs (top 33), defBody (top 33), defScope (top 33), [], []⟩,
  ⟨("Part", some "__init__"), "__init__", "Part.__init__", defArgs (cls 34 0), defBody (cls 34 0), defScope (cls 34 0), [.adr (MP.tAd "Part")], []⟩,
  ⟨("offer_at", none), "offer_at", "offer_at", defArgs (top 37), defBody (top 37), defScope (top 37), [], []⟩,
  ⟨("state_after", none), "state_after", "state_after", defArgs (top 38), defBody (top 38), defScope (top 38), [], []⟩,
  ⟨("Part", some "offer"), "offer", "Part.offer", defArgs (cls 34 6), defBody (cls 34 6), defScope (cls 34 6), [], []⟩,
  ⟨("Part", some "after"), "after", "Part.after", defArgs (cls 34 7), defBody (cls 34 7), defScope (cls 34 7), [], []⟩,
  ⟨("Part", some "words"), "words", "Part.words", defArgs (cls 34 8), defBody (cls 34 8), defScope (cls 34 8), [], []⟩,
  ⟨("Part", some "__contains__"), "__contains__", "Part.__contains__", defArgs (cls 34 14), defBody (cls 34 14), defScope (cls 34 14), [], []⟩,
  ⟨("Part", some "__getitem__"), "__getitem__", "Part.__getitem__", defArgs (cls 34 15), defBody (cls 34 15), defScope (cls 34 15), [], []⟩,
  ⟨("Part", some "__len__"), "__len__", "Part.__len__", defArgs (cls 34 17), defBody (cls 34 17), defScope (cls 34 17), [], []⟩,
  ⟨("Part", some "__eq__"), "__eq__", "Part.__eq__", defArgs (cls 34 18), defBody (cls 34 18), defScope (cls 34 18), [], []⟩,
  ⟨("Part", some "__str__"), "__str__", "Part.__str__", defArgs (cls 34 19), defBody (cls 34 19), defScope (cls 34 19), [], []⟩,
  ⟨("_law_dice", none), "_law_dice", "_law_dice", defArgs (top 41), defBody (top 41), defScope (top 41), [], []⟩,
  ⟨("_law_roll", none), "_law_roll", "_law_roll", defArgs (top 42), defBody (top 42), defScope (top 42), [], []⟩,
  ⟨("_law_one_of", none), "_law_one_of", "_law_one_of", defArgs (top 43), defBody (top 43), defScope (top 43), [], []⟩,
  ⟨("_law_mixed", none), "_law_mixed", "_law_mixed", defArgs (top 44), defBody (top 44), defScope (top 44), [], []⟩,
  ⟨("_law_actions", none), "_law_actions", "_law_actions", defArgs (top 45), defBody (top 45), defScope (top 45), [], []⟩,
  ⟨("_law_part", none), "_law_part", "_law_part", defArgs (top 46), defBody (top 46), defScope (top 46), [], []⟩,
  ⟨("_law_made_part", none), "_law_made_part", "_law_made_part", defArgs (top 47), defBody (top 47), defScope (top 47), [], []⟩,
  ⟨("_law_offer", none), "_law_offer", "_law_offer", defArgs (top 48), defBody (top 48), defScope (top 48), [], []⟩,
  ⟨("_law_state", none), "_law_state", "_law_state", defArgs (top 49), defBody (top 49), defScope (top 49), [], []⟩,
  ⟨("_law_words", none), "_law_words", "_law_words", defArgs (top 50), defBody (top 50), defScope (top 50), [], []⟩,
  ⟨("_law_long_words", none), "_law_long_words", "_law_long_words", defArgs (top 51), defBody (top 51), defScope (top 51), [], []⟩,
  ⟨("_law_word_right", none), "_law_word_right", "_law_word_right", defArgs (top 52), defBody (top 52), defScope (top 52), [], []⟩,
  ⟨("_law_words_right", none), "_law_words_right", "_law_words_right", defArgs (top 53), defBody (top 53), defScope (top 53), [], []⟩,
  ⟨("_law_right", none), "_law_right", "_law_right", defArgs (top 54), defBody (top 54), defScope (top 54), [], []⟩,
  ⟨("law", none), "law", "law", defArgs (top 55), defBody (top 55), defScope (top 55), [], []⟩]
def pr : List MP.PrP := [⟨"Part", "steps", ⟨("", none), "steps", "Part.steps", defArgs (cls 34 2), defBody (cls 34 2), defScope (cls 34 2), [], []⟩⟩,
  ⟨"Part", "rests", ⟨("", none), "rests", "Part.rests", defArgs (cls 34 3), defBody (cls 34 3), defScope (cls 34 3), [], []⟩⟩,
  ⟨"Part", "actions", ⟨("", none), "actions", "Part.actions", defArgs (cls 34 4), defBody (cls 34 4), defScope (cls 34 4), [], []⟩⟩]
def fa : List He.Fa := [.glo "is_name", .glo "is_ascending", .glo "is_index", .glo "is_word", .glo "require_word", .glo "require_most", .glo "actions_in", .glo "are_rows", .glo "is_rests", .glo "sorted_rows", .glo "next_state", .glo "checked_rows", .glo "offer_at", .glo "state_after", .glo "_law_dice", .glo "_law_roll", .glo "_law_one_of", .glo "_law_mixed", .glo "_law_actions", .glo "_law_part", .glo "_law_made_part", .glo "_law_offer", .glo "_law_state", .glo "_law_words", .glo "_law_long_words", .glo "_law_word_right", .glo "_law_words_right", .glo "_law_right", .glo "law", .glo "Part", .glo "Rows", .free "len", .free "isinstance", .free "str", .free "all", .free "zip", .free "bool", .free "int", .free "tuple", .free "sorted", .free "list", .free "dict", .free "set", .free "range", .free "abs", .free "enumerate", .free "repr", .free "max", .free "min", .int "MAX_LETTERS" 8, .int "MAX_WORD" 6, .int "MAX_STATES" 8, .int "MAX_ACTIONS" 4, .cls "Part", .cls "Rows", .mkr "Part", .mkr "Rows", .meth "Part" "offer", .meth "Part" "after", .meth "Part" "words", .meth "Part" "__contains__", .meth "Part" "__getitem__", .meth "Part" "__len__", .meth "Part" "__eq__", .meth "Part" "__str__", .noat "Part" "own_steps", .noat "Part" "own_rests", .noat "Part" "own_actions", .noat "Rows" "own_steps", .noat "Rows" "own_rests"]
def ex : List (PySem.W.Frag → Bool) := [fun K => decide (PySem.W.findIn K (.ref (ga K "Part")) "__class__" = some (some (.builtin "object.__class__"))),
  fun K => decide (PySem.W.specialIn K (.builtin "object.__class__") "__get__" = some (some (.builtin "getset_descriptor.__get__"))),
  fun K => decide (PySem.W.takesIn K (.builtin "object.__class__") = some true),
  fun K => decide (PySem.W.mroIn K (ga K "Part") (.type "object") = some true),
  fun K => K.all fun p => !MP.isListC p,
  fun K => decide (PySem.W.kitOne K (.ref (ga K "Part")) (.type "str") = some false),
  fun K => decide (PySem.W.kitOne K (.ref (ga K "Part")) (.type "int") = some false),
  fun K => decide (PySem.W.kitOne K (.ref (ga K "Part")) (.type "bool") = some false),
  fun K => decide (PySem.W.kitOne K (.ref (ga K "Part")) (.type "tuple") = some false),
  fun K => decide (PySem.W.kitOne K (.ref (ga K "Part")) (.type "dict") = some false),
  fun K => decide (PySem.W.kitOne K (.type "tuple") (.ref (ga K "Rows")) = some false),
  fun K => decide (PySem.W.kitOne K (.ref (ga K "Part")) (.ref (ga K "Part")) = some true),
  fun K => decide (PySem.W.kitOne K (.type "str") (.ref (ga K "Part")) = some false),
  fun K => decide (PySem.W.kitOne K (.type "tuple") (.ref (ga K "Part")) = some false),
  fun K => MP.smB K,
  fun K => MP.fnInB "Part" "__getitem__" K,
  fun K => PySem.W.notFirst K (ga K "Part") (.type "str"),
  fun K => PySem.W.notFirst K (ga K "Part") (.type "tuple"),
  fun K => decide (PySem.W.findIn K (.ref (ga K "Part")) "__ne__" = some (some (.builtin "object.__ne__")))]
abbrev hk : PySem.W.Hook := MP.hookP 5 ex fa fn pr
abbrev ob : PySem.W.SharedT → MP.AlP := MP.obP 5 ex fa fn pr
def loose : List Str := (["_wall", "PartError", "InvalidPart", "InvalidOperation", "InvalidNumber", "TooMany", "MAX_ACTIONS", "MAX_LETTERS", "MAX_WORD", "is_name", "is_ascending", "is_index", "is_word", "require_word", "require_most", "MAX_STATES", "actions_in", "are_rows", "is_rests", "sorted_rows", "first_numbered", "place_numbers", "blocks_of", "paired_states", "next_state", "pairs_behind", "row_at", "does_rest", "paired_part", "Rows"] : List Str) ++ (["checked_rows", "Part", "part_in", "require_part", "offer_at", "state_after", "least_in", "_law_dice", "_law_roll", "_law_one_of", "_law_mixed", "_law_actions", "_law_part", "_law_made_part", "_law_offer", "_law_state", "_law_words", "_law_long_words", "_law_word_right", "_law_words_right", "_law_right"] : List Str)
theorem run2 (w : World) : HandSHeadRun.RunEq R (PySem.W.view R.prog [55]) hk ob 20000 loose w := by
  intro os
  kernel_rfl
end K02

set_option Elab.async false
set_option linter.all false
set_option maxRecDepth 100000
set_option pp.maxSteps 400
set_option maxHeartbeats 2000000
namespace K02S
open PySem PySem.Spec
open PyProof.Rows hiding St
open L2
open MP (FnD FnE MtD MkD MkE PrD GMtD FnG SpD spD IsTab Fl InsOk SmOk EqOk FnIn dflA)
open K02
theorem facts {w : World} {K : PySem.W.Frag} {h : Heap} {mg : Str → Option Value} (X : K.In h) (G : h.Ns mainGlobals mg) (c : MP.SaysP ex fa fn pr K h) :
    ∃ fd : FuncData, (∀ (s : Shared) (v : Value), BindsTo s fd ⟨[v], []⟩ [("script", v)]) ∧ (K.all fun p => !MP.isListC p) = true ∧ mg "law" = some (.ref (ga K "law")) ∧ dflA K mg "Part" = some (MP.tAd "Part" K) ∧ K.lookup (MP.tAd "Part" K) = none ∧ ∀ base : Heap, FnG P2 w K mg base CX0 9 (ga K "law") fd P_law (spD K mg 1 s_law) := by
  have x_class := of_decide_eq_true (c.x 0 rfl)
  have x_get := of_decide_eq_true (c.x 1 rfl)
  have x_takes := of_decide_eq_true (c.x 2 rfl)
  have x_mro := of_decide_eq_true (c.x 3 rfl)
  have x_own_str := of_decide_eq_true (c.x 5 rfl)
  have x_own_int := of_decide_eq_true (c.x 6 rfl)
  have x_own_bool := of_decide_eq_true (c.x 7 rfl)
  have x_own_tuple := of_decide_eq_true (c.x 8 rfl)
  have x_own_dict := of_decide_eq_true (c.x 9 rfl)
  have x_Rows_tuple := of_decide_eq_true (c.x 10 rfl)
  have x_Part_Part := of_decide_eq_true (c.x 11 rfl)
  have x_Part_is_str := of_decide_eq_true (c.x 12 rfl)
  have x_Part_is_tuple := of_decide_eq_true (c.x 13 rfl)
  have x_ne := of_decide_eq_true (c.x 18 rfl)
  have m_is_name := He.glo_ok X G (c.d.fact 0 (f := .glo "is_name") rfl)
  have m_is_ascending := He.glo_ok X G (c.d.fact 1 (f := .glo "is_ascending") rfl)
  have m_is_index := He.glo_ok X G (c.d.fact 2 (f := .glo "is_index") rfl)
  have m_is_word := He.glo_ok X G (c.d.fact 3 (f := .glo "is_word") rfl)
  have m_require_word := He.glo_ok X G (c.d.fact 4 (f := .glo "require_word") rfl)
  have m_require_most := He.glo_ok X G (c.d.fact 5 (f := .glo "require_most") rfl)
  have m_actions_in := He.glo_ok X G (c.d.fact 6 (f := .glo "actions_in") rfl)
  have m_are_rows := He.glo_ok X G (c.d.fact 7 (f := .glo "are_rows") rfl)
  have m_is_rests := He.glo_ok X G (c.d.fact 8 (f := .glo "is_rests") rfl)
  have m_sorted_rows := He.glo_ok X G (c.d.fact 9 (f := .glo "sorted_rows") rfl)
  have m_next_state := He.glo_ok X G (c.d.fact 10 (f := .glo "next_state") rfl)
  have m_checked_rows := He.glo_ok X G (c.d.fact 11 (f := .glo "checked_rows") rfl)
  have m_offer_at := He.glo_ok X G (c.d.fact 12 (f := .glo "offer_at") rfl)
  have m_state_after := He.glo_ok X G (c.d.fact 13 (f := .glo "state_after") rfl)
  have m__law_dice := He.glo_ok X G (c.d.fact 14 (f := .glo "_law_dice") rfl)
  have m__law_roll := He.glo_ok X G (c.d.fact 15 (f := .glo "_law_roll") rfl)
  have m__law_one_of := He.glo_ok X G (c.d.fact 16 (f := .glo "_law_one_of") rfl)
  have m__law_mixed := He.glo_ok X G (c.d.fact 17 (f := .glo "_law_mixed") rfl)
  have m__law_actions := He.glo_ok X G (c.d.fact 18 (f := .glo "_law_actions") rfl)
  have m__law_part := He.glo_ok X G (c.d.fact 19 (f := .glo "_law_part") rfl)
  have m__law_made_part := He.glo_ok X G (c.d.fact 20 (f := .glo "_law_made_part") rfl)
  have m__law_offer := He.glo_ok X G (c.d.fact 21 (f := .glo "_law_offer") rfl)
  have m__law_state := He.glo_ok X G (c.d.fact 22 (f := .glo "_law_state") rfl)
  have m__law_words := He.glo_ok X G (c.d.fact 23 (f := .glo "_law_words") rfl)
  have m__law_long_words := He.glo_ok X G (c.d.fact 24 (f := .glo "_law_long_words") rfl)
  have m__law_word_right := He.glo_ok X G (c.d.fact 25 (f := .glo "_law_word_right") rfl)
  have m__law_words_right := He.glo_ok X G (c.d.fact 26 (f := .glo "_law_words_right") rfl)
  have m__law_right := He.glo_ok X G (c.d.fact 27 (f := .glo "_law_right") rfl)
  have m_law := He.glo_ok X G (c.d.fact 28 (f := .glo "law") rfl)
  have m_Part := He.glo_ok X G (c.d.fact 29 (f := .glo "Part") rfl)
  have m_Rows := He.glo_ok X G (c.d.fact 30 (f := .glo "Rows") rfl)
  have g_len := He.free_ok X G (c.d.fact 31 (f := .free "len") rfl)
  have g_isinstance := He.free_ok X G (c.d.fact 32 (f := .free "isinstance") rfl)
  have g_str := He.free_ok X G (c.d.fact 33 (f := .free "str") rfl)
  have g_all := He.free_ok X G (c.d.fact 34 (f := .free "all") rfl)
  have g_zip := He.free_ok X G (c.d.fact 35 (f := .free "zip") rfl)
  have g_bool := He.free_ok X G (c.d.fact 36 (f := .free "bool") rfl)
  have g_int := He.free_ok X G (c.d.fact 37 (f := .free "int") rfl)
  have g_tuple := He.free_ok X G (c.d.fact 38 (f := .free "tuple") rfl)
  have g_sorted := He.free_ok X G (c.d.fact 39 (f := .free "sorted") rfl)
  have g_list := He.free_ok X G (c.d.fact 40 (f := .free "list") rfl)
  have g_dict := He.free_ok X G (c.d.fact 41 (f := .free "dict") rfl)
  have g_set := He.free_ok X G (c.d.fact 42 (f := .free "set") rfl)
  have g_range := He.free_ok X G (c.d.fact 43 (f := .free "range") rfl)
  have g_abs := He.free_ok X G (c.d.fact 44 (f := .free "abs") rfl)
  have g_enumerate := He.free_ok X G (c.d.fact 45 (f := .free "enumerate") rfl)
  have g_repr := He.free_ok X G (c.d.fact 46 (f := .free "repr") rfl)
  have g_max := He.free_ok X G (c.d.fact 47 (f := .free "max") rfl)
  have g_min := He.free_ok X G (c.d.fact 48 (f := .free "min") rfl)
  obtain ⟨tk_MAX_LETTERS, m_MAX_LETTERS⟩ := He.int_ok X G (c.d.fact 49 (f := .int "MAX_LETTERS" 8) rfl)
  obtain ⟨tk_MAX_WORD, m_MAX_WORD⟩ := He.int_ok X G (c.d.fact 50 (f := .int "MAX_WORD" 6) rfl)
  obtain ⟨tk_MAX_STATES, m_MAX_STATES⟩ := He.int_ok X G (c.d.fact 51 (f := .int "MAX_STATES" 8) rfl)
  obtain ⟨tk_MAX_ACTIONS, m_MAX_ACTIONS⟩ := He.int_ok X G (c.d.fact 52 (f := .int "MAX_ACTIONS" 4) rfl)
  have cls_Part := He.cls_ok (c.d.fact 53 (f := .cls "Part") rfl)
  have cls_Rows := He.cls_ok (c.d.fact 54 (f := .cls "Rows") rfl)
  have mkr_Part := He.mkr_ok (c.d.fact 55 (f := .mkr "Part") rfl)
  have mkr_Rows := He.mkr_ok (c.d.fact 56 (f := .mkr "Rows") rfl)
  have meth_Part_offer := He.meth_ok (c.d.fact 57 (f := .meth "Part" "offer") rfl)
  have meth_Part_after := He.meth_ok (c.d.fact 58 (f := .meth "Part" "after") rfl)
  have meth_Part_words := He.meth_ok (c.d.fact 59 (f := .meth "Part" "words") rfl)
  have meth_Part___contains__ := He.meth_ok (c.d.fact 60 (f := .meth "Part" "__contains__") rfl)
  have meth_Part___getitem__ := He.meth_ok (c.d.fact 61 (f := .meth "Part" "__getitem__") rfl)
  have meth_Part___len__ := He.meth_ok (c.d.fact 62 (f := .meth "Part" "__len__") rfl)
  have meth_Part___eq__ := He.meth_ok (c.d.fact 63 (f := .meth "Part" "__eq__") rfl)
  have meth_Part___str__ := He.meth_ok (c.d.fact 64 (f := .meth "Part" "__str__") rfl)
  have noat_Part_own_steps := He.noat_ok (c.d.fact 65 (f := .noat "Part" "own_steps") rfl)
  have noat_Part_own_rests := He.noat_ok (c.d.fact 66 (f := .noat "Part" "own_rests") rfl)
  have noat_Part_own_actions := He.noat_ok (c.d.fact 67 (f := .noat "Part" "own_actions") rfl)
  have noat_Rows_own_steps := He.noat_ok (c.d.fact 68 (f := .noat "Rows" "own_steps") rfl)
  have noat_Rows_own_rests := He.noat_ok (c.d.fact 69 (f := .noat "Rows" "own_rests") rfl)
  obtain ⟨hd, hT⟩ := MP.dfB_ok m_Part c.t1
  have ioP : InsOk K (ga K "Part") := ⟨cls_Part, x_class, x_get, x_takes, x_mro⟩
  have T_own_steps : ∀ x ∈ (["Part", "Rows"] : List Str), Fl K mg x "own_steps" := fun x hx C hC => by
    rcases List.mem_cons.mp hx with rfl | hx
    · cases m_Part.symm.trans hC; exact ⟨cls_Part, noat_Part_own_steps⟩
    · rw [List.mem_singleton] at hx; subst hx
      cases m_Rows.symm.trans hC; exact ⟨cls_Rows, noat_Rows_own_steps⟩
  have T_own_rests : ∀ x ∈ (["Part", "Rows"] : List Str), Fl K mg x "own_rests" := fun x hx C hC => by
    rcases List.mem_cons.mp hx with rfl | hx
    · cases m_Part.symm.trans hC; exact ⟨cls_Part, noat_Part_own_rests⟩
    · rw [List.mem_singleton] at hx; subst hx
      cases m_Rows.symm.trans hC; exact ⟨cls_Rows, noat_Rows_own_rests⟩
  have T_own_actions : ∀ x ∈ (["Part"] : List Str), Fl K mg x "own_actions" := fun x hx C hC => by
    rw [List.mem_singleton] at hx; subst hx
    cases m_Part.symm.trans hC; exact ⟨cls_Part, noat_Part_own_actions⟩
  have t_str : IsTab K mg (.type "str") tabStr := ⟨fun T b e => e, fun cn b C e hC => by
    have e : (if cn = "Part" then some false else none) = some b := e
    by_cases hp : cn = "Part"
    · subst hp
      cases e
      cases m_Part.symm.trans hC; exact ⟨ioP, x_own_str⟩
    · rw [if_neg hp] at e; cases e⟩
  have t_int : IsTab K mg (.type "int") tabInt := ⟨fun T b e => e, fun cn b C e hC => by
    have e : (if cn = "Part" then some false else none) = some b := e
    by_cases hp : cn = "Part"
    · subst hp
      cases e
      cases m_Part.symm.trans hC; exact ⟨ioP, x_own_int⟩
    · rw [if_neg hp] at e; cases e⟩
  have t_bool : IsTab K mg (.type "bool") tabBool := ⟨fun T b e => e, fun cn b C e hC => by
    have e : (if cn = "Part" then some false else none) = some b := e
    by_cases hp : cn = "Part"
    · subst hp
      cases e
      cases m_Part.symm.trans hC; exact ⟨ioP, x_own_bool⟩
    · rw [if_neg hp] at e; cases e⟩
  have t_tuple : IsTab K mg (.type "tuple") tabTuple := ⟨fun T b e => e, fun cn b C e hC => by
    have e : (if cn = "Part" then some false else none) = some b := e
    by_cases hp : cn = "Part"
    · subst hp
      cases e
      cases m_Part.symm.trans hC; exact ⟨ioP, x_own_tuple⟩
    · rw [if_neg hp] at e; cases e⟩
  have t_dict : IsTab K mg (.type "dict") tabDict := ⟨fun T b e => e, fun cn b C e hC => by
    have e : (if cn = "Part" then some false else none) = some b := e
    by_cases hp : cn = "Part"
    · subst hp
      cases e
      cases m_Part.symm.trans hC; exact ⟨ioP, x_own_dict⟩
    · rw [if_neg hp] at e; cases e⟩
  have t_Rows : IsTab K mg (.ref (ga K "Rows")) tabRows := by
    constructor
    · intro T b e
      unfold tabRows at e
      split at e
      · rename_i q; cases q; cases e; exact x_Rows_tuple
      · cases e
    · intro cn b C e hC
      cases e
  have t_Part : IsTab K mg (.ref (ga K "Part")) tabPart := by
    constructor
    · intro T b e
      unfold tabPart at e
      split at e
      · rename_i q; cases q
      · rename_i q; cases q; cases e; exact x_Part_is_str
      · rename_i q; cases q; cases e; exact x_Part_is_tuple
      · cases e
    · intro cn b C e hC
      unfold tabPart at e
      split at e
      · rename_i q; cases q; cases e
        cases m_Part.symm.trans hC; exact ⟨ioP, x_Part_Part⟩
      · rename_i q; cases q
      · rename_i q; cases q
      · cases e
  have SM := MP.smB_ok (c.x 14 (f := fun K => MP.smB K) rfl)
  have IX_Part := MP.fnInB_ok m_Part (c.x 15 (f := fun K => MP.fnInB "Part" "__getitem__" K) rfl)
  have EQ_Part : EqOk K mg "Part" ["str", "tuple"] := fun C hC => by
    cases m_Part.symm.trans hC
    refine ⟨ioP, fun T hT => ?_, x_ne⟩
    rcases List.mem_cons.mp hT with rfl | hT
    · exact c.x 16 rfl
    rw [List.mem_singleton] at hT; subst hT
    exact c.x 17 rfl
  obtain ⟨fd_is_name, D_is_name⟩ := c.d.def_ 0 rfl
  obtain ⟨fd_is_ascending, D_is_ascending⟩ := c.d.def_ 1 rfl
  obtain ⟨fd_is_index, D_is_index⟩ := c.d.def_ 2 rfl
  obtain ⟨fd_is_word, D_is_word⟩ := c.d.def_ 3 rfl
  obtain ⟨fd_require_word, D_require_word⟩ := c.d.def_ 4 rfl
  obtain ⟨fd_require_most, D_require_most⟩ := c.d.def_ 5 rfl
  obtain ⟨fd_actions_in, D_actions_in⟩ := c.d.def_ 6 rfl
  obtain ⟨fd_are_rows, D_are_rows⟩ := c.d.def_ 7 rfl
  obtain ⟨fd_is_rests, D_is_rests⟩ := c.d.def_ 8 rfl
  obtain ⟨fd_sorted_rows, D_sorted_rows⟩ := c.d.def_ 9 rfl
  obtain ⟨fd_next_state, D_next_state⟩ := c.d.def_ 10 rfl
  obtain ⟨fd_Rows_init, D_Rows_init⟩ := c.d.def_ 11 rfl
  obtain ⟨fd_checked_rows, D_checked_rows⟩ := c.d.def_ 12 rfl
  obtain ⟨fd_Part_init, D_Part_init⟩ := c.d.def_ 13 rfl
  obtain ⟨fd_offer_at, D_offer_at⟩ := c.d.def_ 14 rfl
  obtain ⟨fd_state_after, D_state_after⟩ := c.d.def_ 15 rfl
  obtain ⟨pr_Part_steps, fd_Part_steps, D_Part_steps⟩ := c.prop 0 rfl
  obtain ⟨pr_Part_rests, fd_Part_rests, D_Part_rests⟩ := c.prop 1 rfl
  obtain ⟨pr_Part_actions, fd_Part_actions, D_Part_actions⟩ := c.prop 2 rfl
  obtain ⟨fd_Part_offer, D_Part_offer⟩ := c.d.def_ 16 rfl
  obtain ⟨fd_Part_after, D_Part_after⟩ := c.d.def_ 17 rfl
  obtain ⟨fd_Part_words, D_Part_words⟩ := c.d.def_ 18 rfl
  obtain ⟨fd_Part_contains, D_Part_contains⟩ := c.d.def_ 19 rfl
  obtain ⟨fd_Part_getitem, D_Part_getitem⟩ := c.d.def_ 20 rfl
  obtain ⟨fd_Part_len, D_Part_len⟩ := c.d.def_ 21 rfl
  obtain ⟨fd_Part_eq, D_Part_eq⟩ := c.d.def_ 22 rfl
  obtain ⟨fd_Part_str, D_Part_str⟩ := c.d.def_ 23 rfl
  obtain ⟨fd__law_dice, D__law_dice⟩ := c.d.def_ 24 rfl
  obtain ⟨fd__law_roll, D__law_roll⟩ := c.d.def_ 25 rfl
  obtain ⟨fd__law_one_of, D__law_one_of⟩ := c.d.def_ 26 rfl
  obtain ⟨fd__law_mixed, D__law_mixed⟩ := c.d.def_ 27 rfl
  obtain ⟨fd__law_actions, D__law_actions⟩ := c.d.def_ 28 rfl
  obtain ⟨fd__law_part, D__law_part⟩ := c.d.def_ 29 rfl
  obtain ⟨fd__law_made_part, D__law_made_part⟩ := c.d.def_ 30 rfl
  obtain ⟨fd__law_offer, D__law_offer⟩ := c.d.def_ 31 rfl
  obtain ⟨fd__law_state, D__law_state⟩ := c.d.def_ 32 rfl
  obtain ⟨fd__law_words, D__law_words⟩ := c.d.def_ 33 rfl
  obtain ⟨fd__law_long_words, D__law_long_words⟩ := c.d.def_ 34 rfl
  obtain ⟨fd__law_word_right, D__law_word_right⟩ := c.d.def_ 35 rfl
  obtain ⟨fd__law_words_right, D__law_words_right⟩ := c.d.def_ 36 rfl
  obtain ⟨fd__law_right, D__law_right⟩ := c.d.def_ 37 rfl
  obtain ⟨fd_law, D_law⟩ := c.d.def_ 38 rfl
  have b := FunD.bindsA (ps := P_law) D_law fun _ _ _ _ _ _ us hl => match us, hl with | [_], _ => rfl
  refine ⟨_, fun s v => b s [v] rfl, c.x 4 rfl, m_law, hd, hT, fun base => ?_⟩
  have F_is_name := f_is_name (w := w) (base := base) D_is_name m_is_name g_len g_isinstance g_str g_all m_MAX_LETTERS t_str
  have F_is_ascending := f_is_ascending (w := w) (base := base) D_is_ascending m_is_ascending g_all g_zip
  have F_is_index := f_is_index (w := w) (base := base) D_is_index m_is_index g_isinstance g_bool g_int t_bool t_int
  have F_is_word := f_is_word (w := w) (base := base) D_is_word m_is_word g_all g_isinstance g_tuple t_tuple F_is_name
  have F_require_word := f_require_word (w := w) (base := base) D_require_word m_require_word F_is_word
  have F_require_most := f_require_most (w := w) (base := base) D_require_most m_require_most m_MAX_WORD F_is_index
  have F_actions_in := f_actions_in (w := w) (base := base) D_actions_in m_actions_in g_tuple g_sorted g_list
  have F_are_rows := f_are_rows (w := w) (base := base) D_are_rows m_are_rows g_len g_isinstance g_tuple g_all g_dict m_MAX_STATES t_tuple t_dict F_is_index.toD F_is_name
  have F_is_rests := f_is_rests (w := w) (base := base) D_is_rests m_is_rests g_all g_isinstance g_tuple t_tuple F_is_index.toD F_is_ascending
  have F_sorted_rows := f_sorted_rows (w := w) (base := base) D_sorted_rows m_sorted_rows g_tuple g_sorted g_list
  have F_next_state := f_next_state (w := w) (base := base) D_next_state m_next_state T_own_steps
  have F_Rows := f_Rows_init (w := w) (base := base) D_Rows_init m_Rows mkr_Rows g_tuple g_sorted g_set T_own_steps T_own_rests F_sorted_rows
  have F_checked_rows := f_checked_rows (w := w) (base := base) D_checked_rows m_checked_rows g_len m_MAX_ACTIONS F_actions_in F_are_rows F_is_rests F_Rows
  have F_Part := f_Part_init (w := w) (base := base) D_Part_init m_Part mkr_Part g_isinstance T_own_steps T_own_rests T_own_actions m_Rows t_Rows F_checked_rows F_actions_in
  have E_Part := fe_Part_init (w := w) (base := base) D_Part_init m_Part mkr_Part hd g_isinstance T_own_steps T_own_rests T_own_actions m_Rows t_Rows F_checked_rows F_actions_in
  have F_offer_at := f_offer_at (w := w) (base := base) D_offer_at m_offer_at g_tuple g_list T_own_rests T_own_steps
  have F_state_after := f_state_after (w := w) (base := base) D_state_after m_state_after F_next_state
  have F_Part_steps := f_Part_steps (w := w) (base := base) D_Part_steps m_Part cls_Part pr_Part_steps T_own_steps F_sorted_rows
  have F_Part_rests := f_Part_rests (w := w) (base := base) D_Part_rests m_Part cls_Part pr_Part_rests T_own_rests
  have F_Part_actions := f_Part_actions (w := w) (base := base) D_Part_actions m_Part cls_Part pr_Part_actions T_own_actions
  have F_Part_offer := f_Part_offer (w := w) (base := base) D_Part_offer m_Part cls_Part meth_Part_offer g_len T_own_steps F_is_index.toD F_offer_at
  have F_Part_after := f_Part_after (w := w) (base := base) D_Part_after m_Part cls_Part meth_Part_after F_require_word F_state_after
  have G_Part_words := f_Part_words (w := w) (base := base) D_Part_words m_Part cls_Part meth_Part_words g_range T_own_steps F_require_most
  have F_Part_contains := f_Part_contains (w := w) (base := base) D_Part_contains m_Part cls_Part meth_Part___contains__ F_state_after F_is_word
  have F_Part_getitem := f_Part_getitem (w := w) (base := base) D_Part_getitem m_Part cls_Part meth_Part___getitem__ F_offer_at F_state_after F_Part_contains
  have F_Part_len := f_Part_len (w := w) (base := base) D_Part_len m_Part cls_Part meth_Part___len__ g_len T_own_steps
  have F_Part_eq := f_Part_eq (w := w) (base := base) D_Part_eq m_Part cls_Part meth_Part___eq__ g_isinstance T_own_rests T_own_steps m_Part t_Part
  have F_Part_str := f_Part_str (w := w) (base := base) D_Part_str m_Part cls_Part meth_Part___str__ g_len T_own_actions T_own_steps
  have F__law_dice := f__law_dice (w := w) (base := base) D__law_dice m__law_dice g_len g_int g_abs
  have F__law_roll := f__law_roll (w := w) (base := base) D__law_roll m__law_roll g_int
  have F__law_one_of := f__law_one_of (w := w) (base := base) D__law_one_of m__law_one_of g_len F__law_roll
  have F__law_mixed := f__law_mixed (w := w) (base := base) D__law_mixed m__law_mixed g_list g_len F__law_roll
  have F__law_actions := f__law_actions (w := w) (base := base) D__law_actions m__law_actions g_sorted F__law_mixed
  have F__law_part := f__law_part (w := w) (base := base) D__law_part m__law_part g_range F__law_roll
  have F__law_made_part := f__law_made_part (w := w) (base := base) D__law_made_part m__law_made_part g_tuple g_enumerate g_dict g_list F_Part
  have F__law_offer := f__law_offer (w := w) (base := base) D__law_offer m__law_offer g_tuple g_sorted
  have F__law_state := f__law_state (w := w) (base := base) D__law_state m__law_state 
  have F__law_words := f__law_words (w := w) (base := base) D__law_words m__law_words g_range
  have F__law_long_words := f__law_long_words (w := w) (base := base) D__law_long_words m__law_long_words g_range g_sorted F__law_roll F__law_one_of
  have F__law_word_right := f__law_word_right (w := w) (base := base) D__law_word_right m__law_word_right g_repr IX_Part F__law_state F__law_offer F_Part_after F_Part_contains F_Part_getitem
  have F__law_words_right := f__law_words_right (w := w) (base := base) D__law_words_right m__law_words_right g_repr g_list g_tuple F__law_roll F__law_words F__law_state F__law_long_words F__law_word_right F_Part_contains G_Part_words
  have F__law_right := f__law_right (w := w) (base := base) D__law_right m__law_right g_sorted g_set g_list g_tuple g_enumerate g_str g_len g_repr g_range SM EQ_Part F__law_actions F__law_roll F__law_part F__law_made_part F__law_offer F__law_words_right F_Part_offer F_Part_str F_Part_len F_Part_eq F_Part_actions F_Part_rests F_Part_steps
  exact f_law (w := w) (base := base) D_law g_range g_max g_min g_len g_list g_repr m_MAX_STATES F__law_dice F__law_right F_Part E_Part F_Part_after F_Part_offer F_Part_len F_Part_actions G_Part_words
end K02S

set_option Elab.async false
set_option linter.all false
set_option maxRecDepth 100000
set_option pp.maxSteps 400
set_option maxHeartbeats 0
open PySem PySem.W PySem.Calls PyProof.Rows
theorem PySem.Challenge.cw_whatparts_k02_whole_parts_by_their_words_holds : PySem.Challenge.rw_whatparts_k02_whole_parts_by_their_words.Holds := by
  w_on; o_law
  refine HandSHeadRun.head_any (r := K02.R) (q := view K02.R.prog [55]) (H := K02.hk) (ob := K02.ob) (M := 20000) (loose := K02.loose) (d := HandSHeadRun.topDef K02.R.prog 55) (kwd := []) MP.obP_eq
    (by kernel_rfl) (fun s => by kernel_rfl) K02.run2 (by kernel_rfl) (by kernel_rfl) (by kernel_rfl) (by rfl) (by first | assumption | decide +kernel) (by decide +kernel) ⟨rfl, rfl, rfl, rfl, rfl, by decide +kernel⟩ ?hw ?hc
  case hw => w_witness2
  case hc =>
    refine Att.attach_call (l := PySem.Challenge.rw_whatparts_k02_whole_parts_by_their_words) (n := 63) rfl (by kernel_rfl) fun w s₀ s₁ mg mb fa o pm cd doc a vs ns G Y ho hd hcd hmg0 hobj hints hlen hg => ?_
    obtain ⟨K, c⟩ := Y
    have hmg : mg ("law" : PySem.Str) = some (.ref fa) := by
      have e : (HandSHeadRun.topDef K02.R.prog 55).name = ("law" : PySem.Str) := by kernel_rfl
      rw [← e]
      exact hmg0
    obtain ⟨fd, hb, hnl, hm, hdf, hT, hF⟩ := K02S.facts (w := w) c.in_ G.T.g c
    have efa : fa = He.ga K "law" := by
      have := hmg.symm.trans hm
      cases this; rfl
    subst efa
    exact MP.law_callP c.in_ G.T.g G.T.b G.T.builtins G.T.nolimit hg hobj hints (Nat.le_trans hlen (by decide)) ⟨rfl, by decide, by decide⟩ rfl hF hb hnl c.t2 hdf hT fun q z => ⟨0, 1, ns.map MP.D.int, rfl, rfl, rfl, fun x hx => by
      obtain ⟨i, _, rfl⟩ := List.mem_map.mp hx
      exact ⟨i, rfl⟩, z⟩
