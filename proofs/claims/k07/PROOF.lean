import PyProof.Rows.All
import Wide.All
import OpenK.AllK
import Wide.FinOn
import KE.KStateDown
import HandS.ForMost
import HandS.Style
import HandS.Flow
import HandS.Star
import HandS.IsInst
import HandS.Conv
import HandS.ListItems
import HandS.DictComp
import HandS.DictTup
import HandS.TupLen
import HandS.TupAny
import HandS.TupMul
import HandS.Zip
import HandS.Codes
import HandS.Wide
import HandS.WordsExc
import HandS.ExcOwn
import HandS.NoneIn
import HandS.Defaults
import HandS.Small
import KE.KDictWalk
import HandS.RaiseMore
import HandS.SetFor
import HandS.Strs
import PySem.Challenge.RW_whatparts_k07_differences_of_parts
import HandS.Ends
import Lean
import HandS.Base
import HandS.Call
import HandS.More
import HandS.Words
import HandS.Head0
import HandS.Head1
import HandS.Head2
import HandS.HeadEnd
import HandS.HeadHook1
import HandS.HeadHook2
set_option Elab.async false
set_option linter.all false
set_option maxRecDepth 100000
set_option maxHeartbeats 2000000
/-! MpA: data by value, an abstract heap that is a plain list, and how both stand to the hand layer's. -/
namespace MP
open PySem PySem.Spec PyProof.Rows L2

inductive D where
  | non | bl (b : Bool) | int (i : Int) | str (x : Str) | tup (xs : List D) | ref (n : Nat)

inductive Cell where
  | lst (xs : List D)
  | scr (xs : List D)
  | dct (t lk : Bool) (kvs : List (D × D))
  | ins (c : Str) (fs : List (Str × D))

abbrev Hd := List Cell
abbrev Sd := List (Option D)

mutual
inductive RD (io : List Addr) (H : Hp) : D → V → Prop
  | non : RD io H .non .non
  | bl (b : Bool) : RD io H (.bl b) (.bl b)
  | int (i : Int) : RD io H (.int i) (.int i)
  | str (x : Str) : RD io H (.str x) (.str x)
  | tup {a : Addr} {vs : List V} {ds : List D} : H a = some (.tup vs) → RDs io H ds vs → RD io H (.tup ds) (.ref a)
  | ref {n : Nat} {a : Addr} : io[n]? = some a → RD io H (.ref n) (.ref a)
inductive RDs (io : List Addr) (H : Hp) : List D → List V → Prop
  | nil : RDs io H [] []
  | cons {d : D} {v : V} {ds : List D} {vs : List V} : RD io H d v → RDs io H ds vs → RDs io H (d :: ds) (v :: vs)
end

def keyD : Key → D
  | .inl i => .int i
  | .inr x => .str x

structure Ey (io io' : List Addr) (H H' : Hp) : Prop where
  pre : io <+: io'
  tup : ∀ a xs, H a = some (.tup xs) → H' a = some (.tup xs)
structure Ez (io io' : List Addr) (H H' : Hp) : Prop where
  pre : io <+: io'
  tup : ∀ a xs, H a = some (.tup xs) → H' a = some (.tup xs)
  lock : ∀ {a : Addr} {o : Obj} {u : HO}, H a = some (.frz o u) → H' a = some (.frz o u)
theorem Ez.y {io io' : List Addr} {H H' : Hp} (x : Ez io io' H H') : Ey io io' H H' := ⟨x.pre, x.tup⟩
theorem Ez.trans {i1 i2 i3 : List Addr} {H1 H2 H3 : Hp} (a : Ez i1 i2 H1 H2) (b : Ez i2 i3 H2 H3) : Ez i1 i3 H1 H3 := ⟨a.pre.trans b.pre, fun c xs h => b.tup c xs (a.tup c xs h), fun h => b.lock (a.lock h)⟩
/-- what grows: the places; tuples, locked things and what stands at no place stay -/
structure Ex (io io' : List Addr) (H H' : Hp) : Prop where
  pre : io <+: io'
  tup : ∀ a xs, H a = some (.tup xs) → H' a = some (.tup xs)
  frz : ∀ a o u, H a = some (.frz o u) → ∃ u', H' a = some (.frz o u') ∧ u' = u
  oth : ∀ a o, H a = some o → a ∉ io → H' a = some o
  fsh : ∀ a, a ∈ io' → a ∈ io ∨ H a = none

theorem Ex.refl {io : List Addr} {H : Hp} : Ex io io H H := ⟨List.prefix_refl _, fun _ _ h => h, fun _ _ _ h => ⟨_, h, rfl⟩, fun _ _ h _ => h, fun _ h => .inl h⟩
theorem Ex.lock {io io' : List Addr} {H H' : Hp} (x : Ex io io' H H') {a : Addr} {o : Obj} {u : HO} (e : H a = some (.frz o u)) : H' a = some (.frz o u) := by
  obtain ⟨u', h, rfl⟩ := x.frz a o u e
  exact h
theorem Ex.z {io io' : List Addr} {H H' : Hp} (x : Ex io io' H H') : Ez io io' H H' := ⟨x.pre, x.tup, x.lock⟩
theorem Ex.trans {i1 i2 i3 : List Addr} {H1 H2 H3 : Hp} (a : Ex i1 i2 H1 H2) (b : Ex i2 i3 H2 H3) : Ex i1 i3 H1 H3 := by
  refine ⟨a.pre.trans b.pre, fun c xs h => b.tup c xs (a.tup c xs h), fun c o u h => ⟨u, b.lock (a.lock h), rfl⟩, fun c o h n => ?_, fun c h => ?_⟩
  · refine b.oth c o (a.oth c o h n) fun m => ?_
    rcases a.fsh c m with q | q
    · exact n q
    · rw [q] at h; cases h
  · rcases b.fsh c h with q | q
    · exact a.fsh c q
    · by_cases n : c ∈ i1
      · exact .inl n
      · refine .inr ?_
        cases e : H1 c with
        | none => rfl
        | some o => rw [a.oth c o e n] at q; cases q
/-- a fresh place is none of those that are told of -/
theorem Ex.nin {io io' : List Addr} {H H' : Hp} (x : Ex io io' H H') {p : Addr} {o : HO} (h : H p = some o) (n : p ∉ io) : p ∉ io' := fun m => by
  rcases x.fsh p m with q | q
  · exact n q
  · rw [q] at h; cases h

theorem Ex.y {io io' : List Addr} {H H' : Hp} (x : Ex io io' H H') : Ey io io' H H' := ⟨x.pre, x.tup⟩
theorem pre_get {α : Type} {l l' : List α} (h : l <+: l') {n : Nat} {a : α} (e : l[n]? = some a) : l'[n]? = some a := by
  obtain ⟨t, rfl⟩ := h
  rw [List.getElem?_append_left (List.getElem?_eq_some_iff.mp e).1]
  exact e

mutual
theorem RD.monoY {io io' : List Addr} {H H' : Hp} (x : Ey io io' H H') : ∀ {d : D} {v : V}, RD io H d v → RD io' H' d v
  | _, _, .non => .non
  | _, _, .bl b => .bl b
  | _, _, .int i => .int i
  | _, _, .str y => .str y
  | _, _, .tup h r => .tup (x.tup _ _ h) (RDs.monoY x r)
  | _, _, .ref h => .ref (pre_get x.pre h)
theorem RDs.monoY {io io' : List Addr} {H H' : Hp} (x : Ey io io' H H') : ∀ {ds : List D} {vs : List V}, RDs io H ds vs → RDs io' H' ds vs
  | _, _, .nil => .nil
  | _, _, .cons h r => .cons (RD.monoY x h) (RDs.monoY x r)
end

theorem RD.mono {io io' : List Addr} {H H' : Hp} (x : Ex io io' H H') {d : D} {v : V} (r : RD io H d v) : RD io' H' d v := r.monoY x.y
theorem RDs.mono {io io' : List Addr} {H H' : Hp} (x : Ex io io' H H') {d : List D} {v : List V} (r : RDs io H d v) : RDs io' H' d v := r.monoY x.y

mutual
theorem RD.mono1 {io io' : List Addr} {H : Hp} (x : io <+: io') : ∀ {d : D} {v : V}, RD io H d v → RD io' H d v
  | _, _, .non => .non
  | _, _, .bl b => .bl b
  | _, _, .int i => .int i
  | _, _, .str y => .str y
  | _, _, .tup h r => .tup h (RDs.mono1 x r)
  | _, _, .ref h => .ref (pre_get x h)
theorem RDs.mono1 {io io' : List Addr} {H : Hp} (x : io <+: io') : ∀ {ds : List D} {vs : List V}, RDs io H ds vs → RDs io' H ds vs
  | _, _, .nil => .nil
  | _, _, .cons h r => .cons (RD.mono1 x h) (RDs.mono1 x r)
end

theorem RDs.length {io : List Addr} {H : Hp} : ∀ {ds : List D} {vs : List V}, RDs io H ds vs → ds.length = vs.length
  | _, _, .nil => rfl
  | _, _, .cons _ r => by simp [RDs.length r]
theorem RDs.append {io : List Addr} {H : Hp} : ∀ {ds es : List D} {vs ws : List V}, RDs io H ds vs → RDs io H es ws → RDs io H (ds ++ es) (vs ++ ws)
  | _, _, _, _, .nil, s => s
  | _, _, _, _, .cons h r, s => .cons h (RDs.append r s)
theorem RDs.get {io : List Addr} {H : Hp} : ∀ {ds : List D} {vs : List V} {i : Nat} {d : D}, RDs io H ds vs → ds[i]? = some d → ∃ v, vs[i]? = some v ∧ RD io H d v
  | _, _, _, _, .nil, e => by simp at e
  | _, _, 0, _, .cons h _, e => by simp at e; subst e; exact ⟨_, rfl, h⟩
  | _, _, i + 1, _, .cons _ r, e => by
    obtain ⟨v, h1, h2⟩ := RDs.get (i := i) r (by simpa using e)
    exact ⟨v, by simpa using h1, h2⟩
theorem RDs.getV {io : List Addr} {H : Hp} : ∀ {ds : List D} {vs : List V} {i : Nat} {v : V}, RDs io H ds vs → vs[i]? = some v → ∃ d, ds[i]? = some d ∧ RD io H d v
  | _, _, _, _, .nil, e => by simp at e
  | _, _, 0, _, .cons h _, e => by simp at e; subst e; exact ⟨_, rfl, h⟩
  | _, _, i + 1, _, .cons _ r, e => by
    obtain ⟨v, h1, h2⟩ := RDs.getV (i := i) r (by simpa using e)
    exact ⟨v, by simpa using h1, h2⟩
theorem RDs.set {io : List Addr} {H : Hp} {d : D} {v : V} (h : RD io H d v) : ∀ {ds : List D} {vs : List V} (i : Nat), RDs io H ds vs → RDs io H (ds.set i d) (vs.set i v)
  | _, _, _, .nil => .nil
  | _, _, 0, .cons _ r => .cons h r
  | _, _, i + 1, .cons g r => .cons g (RDs.set h i r)
theorem RDs.take {io : List Addr} {H : Hp} : ∀ {ds : List D} {vs : List V} (n : Nat), RDs io H ds vs → RDs io H (ds.take n) (vs.take n)
  | _, _, 0, _ => by simpa using RDs.nil
  | _, _, _ + 1, .nil => .nil
  | _, _, n + 1, .cons h r => .cons h (RDs.take n r)
theorem RDs.drop {io : List Addr} {H : Hp} : ∀ {ds : List D} {vs : List V} (n : Nat), RDs io H ds vs → RDs io H (ds.drop n) (vs.drop n)
  | _, _, 0, r => r
  | _, _, _ + 1, .nil => .nil
  | _, _, n + 1, .cons h r => RDs.drop n r

/-- pairs of a dict by plain keys -/
inductive KVk (io : List Addr) (H : Hp) : List (D × D) → List (Key × V) → Prop
  | nil : KVk io H [] []
  | cons {k : Key} {d : D} {v : V} {l : List (D × D)} {m : List (Key × V)} : RD io H d v → KVk io H l m → KVk io H ((keyD k, d) :: l) ((k, v) :: m)
/-- .. by tuple keys -/
inductive KVt (io : List Addr) (H : Hp) : List (D × D) → List (List Key × V) → Prop
  | nil : KVt io H [] []
  | cons {k : List Key} {d : D} {v : V} {l : List (D × D)} {m : List (List Key × V)} : RD io H d v → KVt io H l m → KVt io H ((.tup (k.map keyD), d) :: l) ((k, v) :: m)
theorem KVk.monoY {io io' : List Addr} {H H' : Hp} (x : Ey io io' H H') : ∀ {l : List (D × D)} {m : List (Key × V)}, KVk io H l m → KVk io' H' l m
  | _, _, .nil => .nil
  | _, _, .cons h r => .cons (h.monoY x) (KVk.monoY x r)
theorem KVk.mono {io io' : List Addr} {H H' : Hp} (x : Ex io io' H H') {l : List (D × D)} {m : List (Key × V)} (r : KVk io H l m) : KVk io' H' l m := r.monoY x.y

theorem KVt.monoY {io io' : List Addr} {H H' : Hp} (x : Ey io io' H H') : ∀ {l : List (D × D)} {m : List (List Key × V)}, KVt io H l m → KVt io' H' l m
  | _, _, .nil => .nil
  | _, _, .cons h r => .cons (h.monoY x) (KVt.monoY x r)
theorem KVt.mono {io io' : List Addr} {H H' : Hp} (x : Ex io io' H H') {l : List (D × D)} {m : List (List Key × V)} (r : KVt io H l m) : KVt io' H' l m := r.monoY x.y

theorem KVk.mono1 {io io' : List Addr} {H : Hp} (x : io <+: io') : ∀ {l : List (D × D)} {m : List (Key × V)}, KVk io H l m → KVk io' H l m
  | _, _, .nil => .nil
  | _, _, .cons h r => .cons (h.mono1 x) (KVk.mono1 x r)
theorem KVt.mono1 {io io' : List Addr} {H : Hp} (x : io <+: io') : ∀ {l : List (D × D)} {m : List (List Key × V)}, KVt io H l m → KVt io' H l m
  | _, _, .nil => .nil
  | _, _, .cons h r => .cons (h.mono1 x) (KVt.mono1 x r)

/-- fields by names -/
inductive FSs (io : List Addr) (H : Hp) : List (Str × D) → List (Str × V) → Prop
  | nil : FSs io H [] []
  | cons {f : Str} {d : D} {v : V} {l : List (Str × D)} {m : List (Str × V)} : RD io H d v → FSs io H l m → FSs io H ((f, d) :: l) ((f, v) :: m)
theorem FSs.monoY {io io' : List Addr} {H H' : Hp} (x : Ey io io' H H') : ∀ {l : List (Str × D)} {m : List (Str × V)}, FSs io H l m → FSs io' H' l m
  | _, _, .nil => .nil
  | _, _, .cons h r => .cons (h.monoY x) (FSs.monoY x r)
theorem FSs.mono {io io' : List Addr} {H H' : Hp} (x : Ex io io' H H') {l : List (Str × D)} {m : List (Str × V)} (r : FSs io H l m) : FSs io' H' l m := r.monoY x.y

theorem FSs.mono1 {io io' : List Addr} {H : Hp} (x : io <+: io') : ∀ {l : List (Str × D)} {m : List (Str × V)}, FSs io H l m → FSs io' H l m
  | _, _, .nil => .nil
  | _, _, .cons h r => .cons (h.mono1 x) (FSs.mono1 x r)

/-- what a dict's object is: locked or not -/
def DOb (H : Hp) (a : Addr) (lk : Bool) (u : HO) : Prop := if lk = true then ∃ o, H a = some (.frz o u) else H a = some u

def RC (K : PySem.W.Frag) (mg : Str → Option Value) (io : List Addr) (H : Hp) : Cell → Addr → Prop
  | .lst ds, a => ∃ vs, H a = some (.lst vs) ∧ RDs io H ds vs
  | .scr ds, a => ∃ o vs, H a = some (.frz o (.lst vs)) ∧ RDs io H ds vs
  | .dct t lk kvs, a => if t = true then ∃ ks, DOb H a lk (.dT ks) ∧ KVt io H kvs ks else ∃ ks, DOb H a lk (.dK ks) ∧ KVk io H kvs ks
  | .ins c fs, a => ∃ C dx gs, mg c = some (.ref C) ∧ H a = some (.ins C dx gs) ∧ H dx = some (.own a) ∧ FSs io H fs gs

structure RH (K : PySem.W.Frag) (mg : Str → Option Value) (io : List Addr) (H : Hp) (h : Hd) : Prop where
  len : io.length = h.length
  inj : ∀ (n m : Nat) (a : Addr), io[n]? = some a → io[m]? = some a → n = m
  cell : ∀ (n : Nat) (c : Cell) (a : Addr), h[n]? = some c → io[n]? = some a → RC K mg io H c a

section
variable {K : PySem.W.Frag} {mg : Str → Option Value} {io : List Addr} {H : Hp} {h : Hd}
theorem RH.at (r : RH K mg io H h) {n : Nat} {c : Cell} (e : h[n]? = some c) : ∃ a, io[n]? = some a ∧ RC K mg io H c a := by
  have hn : n < io.length := by rw [r.len]; exact (List.getElem?_eq_some_iff.mp e).1
  exact ⟨io[n], List.getElem?_eq_getElem hn, r.cell n c _ e (List.getElem?_eq_getElem hn)⟩
theorem DOb.trk {a : Addr} {lk : Bool} {u : HO} (e : DOb H a lk u) : ∃ o, H a = some o := by
  cases lk with
  | false => exact ⟨_, by simpa [DOb] using e⟩
  | true => obtain ⟨o, e⟩ := (by simpa [DOb] using e : ∃ o, H a = some (.frz o u)); exact ⟨_, e⟩
/-- a cell's thing is tracked -/
theorem RC.trk {c : Cell} {a : Addr} (r : RC K mg io H c a) : ∃ o, H a = some o := by
  cases c with
  | lst ds => obtain ⟨vs, e, _⟩ := r; exact ⟨_, e⟩
  | scr ds => obtain ⟨o, vs, e, _⟩ := r; exact ⟨_, e⟩
  | dct t lk kvs =>
    cases t with
    | true => obtain ⟨ks, e, _⟩ := (by simpa [RC] using r : ∃ ks, DOb H a lk (.dT ks) ∧ KVt io H kvs ks); exact e.trk
    | false => obtain ⟨ks, e, _⟩ := (by simpa [RC] using r : ∃ ks, DOb H a lk (.dK ks) ∧ KVk io H kvs ks); exact e.trk
  | ins c fs => obtain ⟨C, dx, gs, _, e, _⟩ := r; exact ⟨_, e⟩
theorem RC.dT {lk : Bool} {kvs : List (D × D)} {a : Addr} (r : RC K mg io H (.dct true lk kvs) a) : ∃ ks, DOb H a lk (.dT ks) ∧ KVt io H kvs ks := by simpa [RC] using r
theorem RC.dK {lk : Bool} {kvs : List (D × D)} {a : Addr} (r : RC K mg io H (.dct false lk kvs) a) : ∃ ks, DOb H a lk (.dK ks) ∧ KVk io H kvs ks := by simpa [RC] using r
theorem RC.ofT {lk : Bool} {kvs : List (D × D)} {a : Addr} (r : ∃ ks, DOb H a lk (.dT ks) ∧ KVt io H kvs ks) : RC K mg io H (.dct true lk kvs) a := by simpa [RC] using r
theorem RC.ofK {lk : Bool} {kvs : List (D × D)} {a : Addr} (r : ∃ ks, DOb H a lk (.dK ks) ∧ KVk io H kvs ks) : RC K mg io H (.dct false lk kvs) a := by simpa [RC] using r
theorem RC.mono1 {io' : List Addr} {c : Cell} {a : Addr} (x : io <+: io') (r : RC K mg io H c a) : RC K mg io' H c a := by
  cases c with
  | lst ds => obtain ⟨vs, e, q⟩ := r; exact ⟨vs, e, q.mono1 x⟩
  | scr ds => obtain ⟨o, vs, e, q⟩ := r; exact ⟨o, vs, e, q.mono1 x⟩
  | dct t lk kvs =>
    cases t with
    | true => obtain ⟨ks, e, q⟩ := r.dT; exact .ofT ⟨ks, e, q.mono1 x⟩
    | false => obtain ⟨ks, e, q⟩ := r.dK; exact .ofK ⟨ks, e, q.mono1 x⟩
  | ins c fs => obtain ⟨C, dx, gs, e1, e2, e3, q⟩ := r; exact ⟨C, dx, gs, e1, e2, e3, q.mono1 x⟩
end
end MP

set_option Elab.async false
set_option linter.all false
set_option maxRecDepth 100000
set_option maxHeartbeats 2000000
/-! MpB: how the heap relation is kept; the judgements; expressions. -/
namespace MP
open PySem PySem.Spec L2

section
variable {K : PySem.W.Frag} {mg : Str → Option Value} {io io' : List Addr} {H H' : Hp} {h : Hd}
theorem RC.stayY {c : Cell} {a : Addr} (r : RC K mg io H c a) (x : Ey io io' H H') (k : ∀ o, H a = some o → H' a = some o) (k2 : ∀ b, H b = some (.own a) → H' b = some (.own a)) : RC K mg io' H' c a := by
  cases c with
  | lst ds => obtain ⟨vs, e, q⟩ := r; exact ⟨vs, k _ e, q.monoY x⟩
  | scr ds => obtain ⟨o, vs, e, q⟩ := r; exact ⟨o, vs, k _ e, q.monoY x⟩
  | dct t lk kvs =>
    have kd : ∀ u, DOb H a lk u → DOb H' a lk u := fun u e => by
      cases lk with
      | false => exact (by simpa [DOb] using k _ (by simpa [DOb] using e))
      | true =>
        obtain ⟨o, e⟩ := (by simpa [DOb] using e : ∃ o, H a = some (.frz o u))
        exact (by simpa [DOb] using ⟨o, k _ e⟩)
    cases t with
    | true => obtain ⟨ks, e, q⟩ := r.dT; exact .ofT ⟨ks, kd _ e, q.monoY x⟩
    | false => obtain ⟨ks, e, q⟩ := r.dK; exact .ofK ⟨ks, kd _ e, q.monoY x⟩
  | ins c fs => obtain ⟨C, dx, gs, e1, e2, e3, q⟩ := r; exact ⟨C, dx, gs, e1, k _ e2, k2 _ e3, q.monoY x⟩
theorem RC.stay {c : Cell} {a : Addr} (r : RC K mg io H c a) (x : Ex io io' H H') (k : ∀ o, H a = some o → H' a = some o) (k2 : ∀ b, H b = some (.own a) → H' b = some (.own a)) : RC K mg io' H' c a := r.stayY x.y k k2

theorem ex_upd {p : Addr} {o : HO} (hp : H p = none) : Ex io io H (upd H p o) :=
  ⟨List.prefix_refl _, fun a xs e => by rw [upd_ne (ne_of_none e hp)]; exact e, fun a o u e => ⟨u, by rw [upd_ne (ne_of_none e hp)]; exact e, rfl⟩, fun a o e _ => by rw [upd_ne (ne_of_none e hp)]; exact e, fun _ h => .inl h⟩
theorem ex_alloc {p : Addr} {o : HO} (hp : H p = none) : Ex io (io ++ [p]) H (upd H p o) :=
  ⟨List.prefix_append _ _, (ex_upd (io := io) hp).tup, (ex_upd (io := io) hp).frz, (ex_upd (io := io) hp).oth, fun a h => by
    rcases List.mem_append.mp h with q | q
    · exact .inl q
    · rw [List.mem_singleton.mp q]; exact .inr hp⟩
/-- a thing of ours that stood at no place gets one -/
theorem ex_adopt {i0 : List Addr} {H0 : Hp} {p : Addr} (x : Ex i0 io H0 H) (hp : H0 p = none) : Ex i0 (io ++ [p]) H0 H :=
  ⟨x.pre.trans (List.prefix_append _ _), x.tup, x.frz, x.oth, fun a h => by
    rcases List.mem_append.mp h with q | q
    · exact x.fsh a q
    · rw [List.mem_singleton.mp q]; exact .inr hp⟩
theorem upd_keep {p a : Addr} {o u : HO} (hp : H p = none) (e : H a = some u) : upd H p o a = some u := by
  rw [upd_ne (ne_of_none e hp)]; exact e

/-- a new thing that no cell tells of -/
theorem RH.new {p : Addr} {o : HO} (r : RH K mg io H h) (hp : H p = none) : RH K mg io (upd H p o) h :=
  ⟨r.len, r.inj, fun n c a e1 e2 => (r.cell n c a e1 e2).stay (ex_upd hp) (fun u e => upd_keep hp e) (fun b e => upd_keep hp e)⟩
/-- what is told of is tracked -/
theorem RH.nin {p : Addr} (r : RH K mg io H h) (hp : H p = none) : p ∉ io := fun m => by
  obtain ⟨n, hn, e⟩ := List.getElem_of_mem m
  have hl : n < h.length := by rw [← r.len]; exact hn
  obtain ⟨o, ho⟩ := (r.cell n _ p (List.getElem?_eq_getElem hl) (by rw [List.getElem?_eq_getElem hn, e])).trk
  rw [hp] at ho; cases ho
/-- a cell more, of a thing that stands already -/
theorem RH.adopt {p : Addr} {c : Cell} (r : RH K mg io H h) (hp : p ∉ io) (hc : RC K mg (io ++ [p]) H c p) : RH K mg (io ++ [p]) H (h ++ [c]) := by
  have new : ∀ (n : Nat) (a : Addr), ¬ n < io.length → (io ++ [p])[n]? = some a → n = h.length ∧ a = p := fun n a hn i => by
    have hl : n < (io ++ [p]).length := (List.getElem?_eq_some_iff.mp i).1
    rw [List.length_append, List.length_singleton] at hl
    have hn' : n = h.length := by rw [← r.len]; omega
    refine ⟨hn', ?_⟩
    rw [hn', ← r.len, List.getElem?_append_right (Nat.le_refl _)] at i
    simpa using i.symm
  refine ⟨by simp [r.len], ?_, ?_⟩
  · intro n m a i1 i2
    by_cases hn : n < io.length <;> by_cases hm : m < io.length
    · rw [List.getElem?_append_left hn] at i1
      rw [List.getElem?_append_left hm] at i2
      exact r.inj n m a i1 i2
    · rw [List.getElem?_append_left hn] at i1
      rw [(new m a hm i2).2] at i1
      exact absurd (List.mem_of_getElem? i1) hp
    · rw [List.getElem?_append_left hm] at i2
      rw [(new n a hn i1).2] at i2
      exact absurd (List.mem_of_getElem? i2) hp
    · rw [(new n a hn i1).1, (new m a hm i2).1]
  · have x : ∀ b o, H b = some o → H b = some o := fun _ _ e => e
    have px : ∀ {c' : Cell} {b : Addr}, RC K mg io H c' b → RC K mg (io ++ [p]) H c' b := fun {c' b} q => by
      exact q.mono1 (List.prefix_append _ _)
    intro n c' a e i
    by_cases hn : n < io.length
    · rw [List.getElem?_append_left (by rw [← r.len]; exact hn)] at e
      rw [List.getElem?_append_left hn] at i
      exact px (r.cell n c' a e i)
    · obtain ⟨hn', rfl⟩ := new n a hn i
      subst hn'
      rw [List.getElem?_append_right (Nat.le_refl _)] at e
      simp at e
      subst e
      exact hc
/-- a new cell -/
theorem RH.alloc {p : Addr} {o : HO} {c : Cell} (r : RH K mg io H h) (hp : H p = none) (hc : RC K mg (io ++ [p]) (upd H p o) c p) : RH K mg (io ++ [p]) (upd H p o) (h ++ [c]) :=
  (r.new hp).adopt (r.nin hp) hc
/-- the new cell's place -/
theorem push_at (r : RH K mg io H h) (p : Addr) : (io ++ [p])[h.length]? = some p := by
  rw [← r.len, List.getElem?_append_right (Nat.le_refl _)]; simp
/-- a thing of ours at no place is written -/
theorem ex_priv {i0 : List Addr} {H0 : Hp} {p : Addr} {o : HO} (x : Ex i0 io H0 H) (hp : H0 p = none) : Ex i0 io H0 (upd H p o) :=
  ⟨x.pre, fun a xs e => by rw [upd_ne (ne_of_none e hp)]; exact x.tup a xs e, fun a ob u e => ⟨u, by rw [upd_ne (ne_of_none e hp)]; exact x.lock e, rfl⟩, fun a ob e n => by rw [upd_ne (ne_of_none e hp)]; exact x.oth a ob e n, x.fsh⟩
theorem ey_priv {p : Addr} {o u : HO} (hu : H p = some u) (ht : ∀ xs, u ≠ .tup xs) : Ey io io H (upd H p o) :=
  ⟨List.prefix_refl _, fun b xs q => by rw [upd_ne (fun z => by rw [z, hu] at q; cases q; exact ht _ rfl)]; exact q⟩
theorem ez_priv {p : Addr} {o u : HO} (hu : H p = some u) (ht : ∀ xs, u ≠ .tup xs) (hf : ∀ ob v, u ≠ .frz ob v) : Ez io io H (upd H p o) :=
  ⟨List.prefix_refl _, (ey_priv (io := io) hu ht).tup, fun {b ob v} q => by rw [upd_ne (fun z => by rw [z, hu] at q; cases q; exact hf _ _ rfl)]; exact q⟩
theorem RH.priv {p : Addr} {o u : HO} (r : RH K mg io H h) (hp : p ∉ io) (hu : H p = some u) (ht : ∀ xs, u ≠ .tup xs) (ho : ∀ b, u ≠ .own b) : RH K mg io (upd H p o) h :=
  ⟨r.len, r.inj, fun n c a e i => (r.cell n c a e i).stayY (ey_priv hu ht) (fun v q => by rw [upd_ne (fun z => hp (by rw [← z]; exact List.mem_of_getElem? i))]; exact q) fun b q => by rw [upd_ne (fun z => by rw [z, hu] at q; cases q; exact ho _ rfl)]; exact q⟩
/-- a cell is written -/
theorem RH.write {n : Nat} {a : Addr} {o u : HO} {c' : Cell} (r : RH K mg io H h) (i : io[n]? = some a) (hu : H a = some u) (ht : ∀ xs, u ≠ .tup xs) (hf : ∀ ob v, u ≠ .frz ob v) (ho : ∀ b, u ≠ .own b)
    (hc : Ex io io H (upd H a o) → RC K mg io (upd H a o) c' a) : Ex io io H (upd H a o) ∧ RH K mg io (upd H a o) (h.set n c') := by
  have ne : ∀ b v, H b = some v → v ≠ u → b ≠ a := fun b v q n z => by rw [z, hu] at q; cases q; exact n rfl
  have x : Ex io io H (upd H a o) := ⟨List.prefix_refl _, fun b xs q => by rw [upd_ne (ne b _ q (Ne.symm (ht xs)))]; exact q, fun b ob v q => ⟨v, by rw [upd_ne (ne b _ q (Ne.symm (hf ob v)))]; exact q, rfl⟩,
    fun b v q hn => by rw [upd_ne (fun z => hn (by rw [z]; exact List.mem_of_getElem? i))]; exact q, fun _ h => .inl h⟩
  refine ⟨x, ⟨by simp [r.len], r.inj, ?_⟩⟩
  intro m c1 b e1 i1
  by_cases z : m = n
  · subst z
    rw [i] at i1; cases i1
    have hl : m < h.length := by rw [← r.len]; exact (List.getElem?_eq_some_iff.mp i).1
    rw [List.getElem?_set_self hl] at e1
    cases e1
    exact hc x
  · rw [List.getElem?_set_ne (Ne.symm z)] at e1
    have hb : b ≠ a := fun q => by rw [q] at i1; exact z (r.inj m n a i1 i)
    exact (r.cell m c1 b e1 i1).stay x (fun w q => by rw [upd_ne hb]; exact q) (fun d q => by rw [upd_ne (ne d _ q (Ne.symm (ho b)))]; exact q)
end

/-! ### the judgements -/
structure Rel (K : PySem.W.Frag) (mg : Str → Option Value) (sl : Sd) (σ : L2.St) (io : List Addr) (H : Hp) (h : Hd) : Prop where
  rh : RH K mg io H h
  len : sl.length = σ.length
  slot : ∀ (i : Nat) (d : D), sl[i]? = some (some d) → ∃ v, σ[i]? = some (some v) ∧ RD io H d v

abbrev WE := Sd → Hd → (D → Hd → Prop) → Prop
abbrev WT := Sd → Hd → (Bool → Hd → Prop) → Prop
abbrev WA := Sd → Hd → (List D → Hd → Prop) → Prop
structure EndsD where
  nx : Sd → Hd → Prop
  rt : D → Hd → Prop
  bk : Sd → Hd → Prop := fun _ _ => False
  ct : Sd → Hd → Prop := fun _ _ => False
abbrev WS := EndsD → Sd → Hd → Prop

/-- from a D-level end to one of the layer's -/
def Kn (K : PySem.W.Frag) (mg : Str → Option Value) (io : List Addr) (H : Hp) (q : D → Hd → Prop) (Q : VK) : Prop :=
  ∀ d h', q d h' → ∀ v io' H', Ex io io' H H' → RH K mg io' H' h' → RD io' H' d v → Q v H'
def KnB (K : PySem.W.Frag) (mg : Str → Option Value) (io : List Addr) (H : Hp) (q : Bool → Hd → Prop) (Q : Bool → Hp → Prop) : Prop :=
  ∀ b h', q b h' → ∀ io' H', Ex io io' H H' → RH K mg io' H' h' → Q b H'
def KnA (K : PySem.W.Frag) (mg : Str → Option Value) (io : List Addr) (H : Hp) (q : List D → Hd → Prop) (Q : List V → Hp → Prop) : Prop :=
  ∀ ds h', q ds h' → ∀ vs io' H', Ex io io' H H' → RH K mg io' H' h' → RDs io' H' ds vs → Q vs H'
def KnS (K : PySem.W.Frag) (mg : Str → Option Value) (io : List Addr) (H : Hp) (q : Sd → Hd → Prop) (Q : L2.St → Hp → Prop) : Prop :=
  ∀ sl' h', q sl' h' → ∀ σ' io' H', Ex io io' H H' → Rel K mg sl' σ' io' H' h' → Q σ' H'

def tE (K : PySem.W.Frag) (mg : Str → Option Value) (w : WE) : TE := fun σ H Q => ∃ sl h io q, Rel K mg sl σ io H h ∧ w sl h q ∧ Kn K mg io H q Q
def tT (K : PySem.W.Frag) (mg : Str → Option Value) (w : WT) : TT := fun σ H Q => ∃ sl h io q, Rel K mg sl σ io H h ∧ w sl h q ∧ KnB K mg io H q Q
def tA (K : PySem.W.Frag) (mg : Str → Option Value) (w : WA) : TA := fun σ H Q => ∃ sl h io q, Rel K mg sl σ io H h ∧ w sl h q ∧ KnA K mg io H q Q
structure KnE (K : PySem.W.Frag) (mg : Str → Option Value) (io : List Addr) (H : Hp) (q : EndsD) (Q : Ends) : Prop where
  nx : KnS K mg io H q.nx Q.nx
  rt : Kn K mg io H q.rt Q.rt
  bk : KnS K mg io H q.bk Q.bk
  ct : KnS K mg io H q.ct Q.ct
def tS (K : PySem.W.Frag) (mg : Str → Option Value) (w : WS) : TS := fun E σ H => ∃ sl h io q, Rel K mg sl σ io H h ∧ w q sl h ∧ KnE K mg io H q E

abbrev LE (X : Cx) (e : Expr) (w : WE) : Prop := PE X e (tE X.K X.mg w)
abbrev LT (X : Cx) (e : Expr) (w : WT) : Prop := PT X e (tT X.K X.mg w)
abbrev LW (X : Cx) (e : Expr) (w : WT) : Prop := PW X e (tT X.K X.mg w)
abbrev LA (X : Cx) (es : List Expr) (w : WA) : Prop := PA X es (tA X.K X.mg w)
abbrev LS (X : Cx) (st : Stmt) (w : WS) : Prop := PS X st (tS X.K X.mg w)
abbrev LSs (X : Cx) (st : List Stmt) (w : WS) : Prop := PSs X st (tS X.K X.mg w)

section
variable {X : Cx}
theorem _root_.L2.PE.imp {e : Expr} {t t' : TE} (h : PE X e t) (i : ∀ σ H Q, t' σ H Q → t σ H Q) : PE X e t' := ⟨fun pins s σ H Q I z => h.run pins s σ H Q I (i σ H Q z)⟩
theorem _root_.L2.PT.imp {e : Expr} {t t' : TT} (h : PT X e t) (i : ∀ σ H Q, t' σ H Q → t σ H Q) : PT X e t' := ⟨fun pins s σ H Q I z => h.run pins s σ H Q I (i σ H Q z)⟩
theorem _root_.L2.PW.imp {e : Expr} {t t' : TT} (h : PW X e t) (i : ∀ σ H Q, t' σ H Q → t σ H Q) : PW X e t' := ⟨fun w pins s σ H Q I z => h.run w pins s σ H Q I (i σ H Q z)⟩
theorem _root_.L2.PA.imp {e : List Expr} {t t' : TA} (h : PA X e t) (i : ∀ σ H Q, t' σ H Q → t σ H Q) : PA X e t' := ⟨fun p pins s σ H Q I z => h.run p pins s σ H Q I (i σ H Q z)⟩
theorem _root_.L2.PS.imp {e : Stmt} {t t' : TS} (h : PS X e t) (i : ∀ D σ H, t' D σ H → t D σ H) : PS X e t' := ⟨fun pins s σ H D I z => h.run pins s σ H D I (i D σ H z)⟩
theorem _root_.L2.PSs.imp {e : List Stmt} {t t' : TS} (h : PSs X e t) (i : ∀ D σ H, t' D σ H → t D σ H) : PSs X e t' := ⟨fun pins s σ H D I z => h.run pins s σ H D I (i D σ H z)⟩
end

section
variable {K : PySem.W.Frag} {mg : Str → Option Value} {io io' : List Addr} {H H' : Hp} {h h' : Hd} {sl : Sd} {σ : L2.St}
theorem Rel.on (r : Rel K mg sl σ io H h) (x : Ex io io' H H') (r' : RH K mg io' H' h') : Rel K mg sl σ io' H' h' :=
  ⟨r', r.len, fun i d e => let ⟨v, e1, e2⟩ := r.slot i d e; ⟨v, e1, e2.mono x⟩⟩
theorem Kn.on {q : D → Hd → Prop} {Q : VK} (k : Kn K mg io H q Q) (x : Ex io io' H H') : Kn K mg io' H' q Q := fun d h' z v i2 H2 y => k d h' z v i2 H2 (x.trans y)
theorem KnB.on {q : Bool → Hd → Prop} {Q : Bool → Hp → Prop} (k : KnB K mg io H q Q) (x : Ex io io' H H') : KnB K mg io' H' q Q := fun d h' z i2 H2 y => k d h' z i2 H2 (x.trans y)
theorem KnA.on {q : List D → Hd → Prop} {Q : List V → Hp → Prop} (k : KnA K mg io H q Q) (x : Ex io io' H H') : KnA K mg io' H' q Q := fun d h' z v i2 H2 y => k d h' z v i2 H2 (x.trans y)
theorem KnS.on {q : Sd → Hd → Prop} {Q : L2.St → Hp → Prop} (k : KnS K mg io H q Q) (x : Ex io io' H H') : KnS K mg io' H' q Q := fun d h' z v i2 H2 y => k d h' z v i2 H2 (x.trans y)
theorem KnE.on {q : EndsD} {Q : Ends} (k : KnE K mg io H q Q) (x : Ex io io' H H') : KnE K mg io' H' q Q := ⟨k.nx.on x, k.rt.on x, k.bk.on x, k.ct.on x⟩
/-- from one reading on to the next -/
theorem tE.go {w : WE} {Q : VK} (r : Rel K mg sl σ io H h) {q : D → Hd → Prop} (z : w sl h q) (k : ∀ d h', q d h' → ∀ v io' H', Ex io io' H H' → Rel K mg sl σ io' H' h' → RD io' H' d v → Q v H') : tE K mg w σ H Q :=
  ⟨sl, h, io, q, r, z, fun d h' y v i2 H2 x rh rd => k d h' y v i2 H2 x (r.on x rh) rd⟩
theorem tT.go {w : WT} {Q : Bool → Hp → Prop} (r : Rel K mg sl σ io H h) {q : Bool → Hd → Prop} (z : w sl h q) (k : ∀ b h', q b h' → ∀ io' H', Ex io io' H H' → Rel K mg sl σ io' H' h' → Q b H') : tT K mg w σ H Q :=
  ⟨sl, h, io, q, r, z, fun d h' y i2 H2 x rh => k d h' y i2 H2 x (r.on x rh)⟩
theorem tA.go {w : WA} {Q : List V → Hp → Prop} (r : Rel K mg sl σ io H h) {q : List D → Hd → Prop} (z : w sl h q) (k : ∀ ds h', q ds h' → ∀ vs io' H', Ex io io' H H' → Rel K mg sl σ io' H' h' → RDs io' H' ds vs → Q vs H') : tA K mg w σ H Q :=
  ⟨sl, h, io, q, r, z, fun d h' y v i2 H2 x rh rd => k d h' y v i2 H2 x (r.on x rh) rd⟩
end

/-! ### plain expressions -/
section
variable {X : Cx} {pos : Pos} {a b c e : Expr}
def wSlot (i : Nat) : WE := fun sl h Q => ∃ d, sl[i]? = some (some d) ∧ Q d h
def wC (d : D) : WE := fun _ h Q => Q d h
theorem le_slot {i : Nat} {x : Str} (hN : X.N[i]? = some x) (hv : Vis X.env.scope x) (hd : (x == ("__debug__" : Str)) = false := by decide) (hcd : (x == ("__classdict__" : Str)) = false := by decide) : LE X (.Name x pos) (wSlot i) :=
  (pe_var hN hv hd hcd).imp fun σ H Q z => by
    obtain ⟨sl, h, io, q, r, ⟨d, e1, e2⟩, k⟩ := z
    obtain ⟨v, f1, f2⟩ := r.slot i d e1
    exact ⟨v, f1, k d h e2 v io H .refl r.rh f2⟩
/-- a value that hangs on no heap -/
def D.flat : D → Bool
  | .non => true
  | .bl _ => true
  | .int _ => true
  | .str _ => true
  | _ => false
def D.toV : D → V
  | .non => .non
  | .bl b => .bl b
  | .int i => .int i
  | .str x => .str x
  | _ => .non
theorem RD.flat {io : List Addr} {H : Hp} {d : D} (f : d.flat = true) : RD io H d d.toV := by
  cases d with
  | non => exact .non
  | bl b => exact .bl b
  | int i => exact .int i
  | str x => exact .str x
  | tup _ => cases f
  | ref _ => cases f
theorem le_c {d : D} (f : d.flat = true) (h : PE X e (tC d.toV)) : LE X e (wC d) := h.imp fun σ H Q z => by
  obtain ⟨sl, h, io, q, r, e2, k⟩ := z
  exact k d h e2 _ io H .refl r.rh (.flat f)
theorem le_int {i : Int} {j : Nat} : LE X (.Constant (.int i) j pos) (wC (.int i)) := le_c rfl pe_int
theorem le_bl {b : Bool} {j : Nat} : LE X (.Constant (.bool b) j pos) (wC (.bl b)) := le_c rfl pe_bl
theorem le_non {j : Nat} : LE X (.Constant .none j pos) (wC .non) := le_c rfl pe_non
theorem le_str {x : Str} {j : Nat} : LE X (.Constant (.str x) j pos) (wC (.str x)) := le_c rfl pe_str
theorem le_glob {x : Str} {d : D} {u : Value} (f : d.flat = true) (hg : Gl X x) (hm : X.mg x = some u) (r : RelV d.toV u) (hd : (x == ("__debug__" : Str)) = false := by decide) : LE X (.Name x pos) (wC d) := le_c f (pe_glob hg hm r hd)

/-! ### operators -/
/-- the weakest reading of an operator -/
def OpS (X : Cx) (f : Value → Value → Sem Value) : R2 := fun x y H Q => ∃ r, OpR X f r ∧ r x y H Q
theorem opS {f : Value → Value → Sem Value} : OpR X f (OpS X f) := by
  intro pins s σ H x y v u Q I rx ry h
  obtain ⟨r, hr, z⟩ := h
  exact hr pins s σ H x y v u Q I rx ry z
abbrev O2 := D → D → Hd → (D → Hd → Prop) → Prop
def OpL (X : Cx) (f : Value → Value → Sem Value) (g : O2) : Prop := ∀ {io : List Addr} {H : Hp} {h : Hd} {x y : D} {u v : V} {q : D → Hd → Prop} {Q : VK}, RH X.K X.mg io H h → RD io H x u → RD io H y v → g x y h q → Kn X.K X.mg io H q Q → OpS X f u v H Q
def wBin (g : O2) (wa wb : WE) : WE := fun sl h Q => wa sl h fun x h1 => wb sl h1 fun y h2 => g x y h2 Q
theorem le_bin {op : Operator} {g : O2} {wa wb : WE} (ho : OpL X (binaryOp op) g) (ha : LE X a wa) (hb : LE X b wb) : LE X (.BinOp a op b pos) (wBin g wa wb) :=
  (pe_op opS ha hb).imp fun σ H Q z => by
    obtain ⟨sl, h, io, q, r, z, k⟩ := z
    refine tE.go r z fun x h1 z1 u i1 H1 x1 r1 d1 => ?_
    refine tE.go r1 z1 fun y h2 z2 v i2 H2 x2 r2 d2 => ?_
    exact ho r2.rh (d1.mono x2) d2 z2 (k.on (x1.trans x2))
theorem le_cmp {op : CmpOp} {g : O2} {wa wb : WE} (ho : OpL X (compareOp op) g) (ha : LE X a wa) (hb : LE X b wb) (hm : behindInMarks op b = false) : LE X (.Compare a [op] [b] pos) (wBin g wa wb) :=
  (pe_cmpR opS ha hb hm).imp fun σ H Q z => by
    obtain ⟨sl, h, io, q, r, z, k⟩ := z
    refine tE.go r z fun x h1 z1 u i1 H1 x1 r1 d1 => ?_
    refine tE.go r1 z1 fun y h2 z2 v i2 H2 x2 r2 d2 => ?_
    exact ho r2.rh (d1.mono x2) d2 z2 (k.on (x1.trans x2))
end
end MP

set_option Elab.async false
set_option linter.all false
set_option maxRecDepth 100000
set_option maxHeartbeats 2000000
/-! MpC: defs that are called where no guard is under way; their calls, methods, makings; argument lists. -/
namespace MP
open PySem PySem.Spec
open PyProof.Rows hiding St
open L2

/-- as the layer's FnOk, called where no guard (a repr) is under way -/
structure FnG (P : Program) (w : World) (K : PySem.W.Frag) (mg : Str → Option Value) (base : Heap) (CX : CXT) (k : Nat) (f : Addr) (fd : FuncData) (ps : List Str) (sp : Sp) : Prop where
  len : ∀ vs H Q E, sp vs H Q E → vs.length = ps.length
  run : ∀ (A : Around) (outer : List Env) (s : Shared) (H : Hp) (args : Args) (us : List Value) (vs : List V) (Q : VK) (E : XK), Room k A → A.guards = some [] → Env0 P w K mg base A outer s H → BindsTo s fd args (ps.zip us) → Vals vs us → sp vs H Q E →
    codeAny (model P w) A (.call (.ref f) args) (CR CX outer P w H s Q E) s

section
variable {CX : CXT} {P : Program} {w : World} {K : PySem.W.Frag} {mg : Str → Option Value} {base : Heap} {k : Nat} {f : Addr} {fd : FuncData} {ps : List Str} {sp sp' : Sp}
theorem FnG.of (F : FnOk P w K mg base CX k f fd ps sp) : FnG P w K mg base CX k f fd ps sp := ⟨F.len, fun A outer s H args us vs Q E hr _ => F.run A outer s H args us vs Q E hr⟩
theorem FnG.mono {j : Nat} (F : FnG P w K mg base CX j f fd ps sp) (h : j ≤ k) : FnG P w K mg base CX k f fd ps sp := ⟨F.len, fun A outer s H args us vs Q E hr => F.run A outer s H args us vs Q E (hr.mono h)⟩
theorem FnG.imp (F : FnG P w K mg base CX k f fd ps sp) (h : ∀ vs H Q E, sp' vs H Q E → sp vs H Q E) : FnG P w K mg base CX k f fd ps sp' :=
  ⟨fun vs H Q E q => F.len vs H Q E (h _ _ _ _ q), fun A outer s H args us vs Q E hr hg he hb hv hs => F.run A outer s H args us vs Q E hr hg he hb hv (h _ _ _ _ hs)⟩
/-- the rule for a def -/
theorem fn_g {name qual : Str} {params : Arguments} {body : List Stmt} {scope : Scope} {dV kV doc pm cdv ct oc : Value} {an od : Option Addr} {osl : Array (Option Value)} {N : List Str} (lk : K.lookup f = some ⟨oc, od, .func (PySem.W.fnOf name qual params body scope dV kV doc pm an cdv ct), osl⟩) (hcd : PySem.W.codeIn K cdv qual = true) (S : FnScope N ps scope)
    (len : ∀ vs H Q E, sp vs H Q E → vs.length = ps.length)
    (hbody : ∀ (A : Around) (outer : List Env) (s : Shared) (H : Hp) (vs : List V) (Q : VK) (E : XK), Room k (A.deeper (envOfC qual scope s.heap.objs.size f cdv)) → A.guards = some [] → sp vs H Q E →
      ∃ t, PSs (cxOf CX P w K mg base N qual scope f cdv A outer s H E) body t ∧ t { nx := fun _ H' => Q .non H', rt := Q } (start N vs) H) :
    FnG P w K mg base CX (k + 1) f (PySem.W.fnOf name qual params body scope dV kV doc pm an cdv ct) ps sp := by
  refine ⟨len, fun A outer s H args us vs Q E hr hgd e0 hb r hsp => ?_⟩
  have hl := len _ _ _ _ hsp
  have KX : K.In s.heap := e0.mod.kin.keeps fun b o e => (e0.bs b o e).1
  have lim : s.heap.NoLimit := e0.mod.nolimit.keeps fun b o e => (e0.bs b o e).1
  have hkind : ∀ y ∈ ps.zip us, scope.names.lookup y.1 = some .local ∨ (scope.names.lookup y.1 = some .cell ∧ ((cellsFrom (s.heap.objs.size + 1) scope.names []).lookup y.1).isSome = true) := fun ⟨n, v⟩ hy => by
    rcases S.par n (List.of_mem_zip hy).1 with q | q
    · exact .inl q
    · exact .inr ⟨q, PySem.W.cellsFrom_some _ _ _ (.inl q)⟩
  refine codeAny_call_function hr.depth (KX _ _ lk) rfl S.co S.gen rfl (PySem.W.codeRec_of KX hcd) (hb _ _ _ _ ?_)
  refine wpAny_newFunctionEnv_cells S.kind hkind fun env he s1 x => ?_
  subst he
  refine ⟨lim.keeps x.toInCall.keep, codeAny_func ?_⟩
  obtain ⟨t, ht, hq⟩ := hbody A outer s H vs Q E (hr.deeper _) hgd hsp
  have I : Inv (cxOf CX P w K mg base N qual scope f cdv A outer s H E) [] (start N vs) H s1 := inv_start S hr.hd e0 hl r x
  refine wpAny_mono (ht.run [] s1 (start N vs) H _ I hq) (fun fl s' hs => ?_) fun e s' hs => hs
  have fin : ∀ {σ' : L2.St} {H' : Hp} {v : V} {u : Value}, Inv (cxOf CX P w K mg base N qual scope f cdv A outer s H E) [] σ' H' s' → RelV v u → Q v H' → CE outer P w H s Q u s' :=
    fun {σ' H' v u} J rv q => ⟨v, H', J.os, J.bare, J.base, J.hok, rv, q⟩
  cases fl with
  | ret u =>
    obtain ⟨v, σ', H', J, rv, q⟩ := hs
    exact fin J rv q
  | next =>
    obtain ⟨σ', H', J, q⟩ := hs
    exact fin (v := V.non) (u := Value.none) J rfl q
  | brk =>
    obtain ⟨_, _, _, q⟩ := hs
    exact False.elim q
  | cont =>
    obtain ⟨_, _, _, q⟩ := hs
    exact False.elim q
end

/-! ### promises at D-level; no exception leaves -/
abbrev SpD := List D → Hd → (D → Hd → Prop) → Prop
def spD (K : PySem.W.Frag) (mg : Str → Option Value) (n : Nat) (w : SpD) : Sp := fun vs H Q _ => vs.length = n ∧ ∃ ds h io q, RH K mg io H h ∧ RDs io H ds vs ∧ w ds h q ∧ Kn K mg io H q Q

/-- a def of the module, by its name -/
structure FnD (P : Program) (w : World) (K : PySem.W.Frag) (mg : Str → Option Value) (base : Heap) (k : Nat) (x : Str) (n : Nat) (sp : SpD) : Prop where
  ex : ∃ (f : Addr) (fd : FuncData) (ps : List Str), FnG P w K mg base CX0 k f fd ps (spD K mg n sp) ∧ mg x = some (.ref f) ∧ PySem.W.keepIn K (.ref f) = true ∧ Binds K fd ps [] ∧ ps.length = n
  ar : ∀ ds h q, sp ds h q → ds.length = n
/-- a method -/
structure MtD (P : Program) (w : World) (K : PySem.W.Frag) (mg : Str → Option Value) (base : Heap) (k : Nat) (c m : Str) (n : Nat) (sp : SpD) : Prop where
  ex : ∃ (C f : Addr) (fd : FuncData) (ps : List Str), mg c = some (.ref C) ∧ Cls K C ∧ Meth K C m f ∧ FnG P w K mg base CX0 k f fd ps (spD K mg n sp) ∧ Binds K fd ps [] ∧ ps.length = n
  ar : ∀ ds h q, sp ds h q → ds.length = n
/-- the making of an instance -/
structure MkD (P : Program) (w : World) (K : PySem.W.Frag) (mg : Str → Option Value) (base : Heap) (k : Nat) (c : Str) (n : Nat) (sp : SpD) : Prop where
  ex : ∃ (C f : Addr) (fd : FuncData) (ps : List Str), mg c = some (.ref C) ∧ Mk K C f ∧ FnG P w K mg base CX0 k f fd ps (spD K mg n sp) ∧ Binds K fd ps [] ∧ ps.length = n
  ar : ∀ ds h q, sp ds h q → ds.length = n

section
variable {X : Cx} {k : Nat} {f C : Addr} {fd : FuncData} {ps : List Str} {sp : Sp} {E : XK} {CX : CXT} {dvs : List V} {ds : List Value}
theorem run_g {pins : List (Addr × Obj)} {σ : L2.St} {H : Hp} {s : Shared} {Q : VK} {us : List Value} {vs : List V} (F : FnG X.prog X.w X.K X.mg X.base CX k f fd ps sp) (hr : Room k X.A) (hgd : X.A.guards = some []) (hb : Binds X.K fd ps ds) (hd : Vals dvs ds) (hx : Passes CX X E)
    (I : Inv X pins σ H s) (r : Vals vs us) (h : sp (vs ++ dvs) H Q E) : wpAny (model X.prog X.w) X.A (call (.ref f) us) (EP X pins σ Q) X.xe s := by
  have r2 : Vals (vs ++ dvs) (us ++ ds) := r.append hd
  have hl : (us ++ ds).length = ps.length := by rw [← r2.length]; exact F.len _ _ _ _ h
  refine wpAny_call (codeAny_mono (F.run X.A X.stack s H ⟨us, []⟩ (us ++ ds) (vs ++ dvs) Q E hr hgd I.env0 (hb s us I.kIn hl) r2 h) fun r s' hq => ?_)
  cases r with
  | error e => exact hx pins σ H s e s' I hq
  | ok fl =>
    cases fl with
    | ret u => exact I.after hq
    | next => exact False.elim hq
    | brk => exact False.elim hq
    | cont => exact False.elim hq
end

/-! ### argument lists -/
section
variable {X : Cx} {e : Expr} {es : List Expr} {pos : Pos}
def wNil : WA := fun _ h Q => Q [] h
def wCons (w : WE) (wr : WA) : WA := fun sl h Q => w sl h fun d h1 => wr sl h1 fun ds h2 => Q (d :: ds) h2
theorem la_nil : LA X [] wNil := pa_nil.imp fun σ H Q z => by
  obtain ⟨sl, h, io, q, r, z, k⟩ := z
  exact k [] h z [] io H .refl r.rh .nil
theorem la_cons {w : WE} {wr : WA} (he : LE X e w) (hr : LA X es wr) (hs : starEach (e :: es) X.env = (false, eval e X.env) :: starEach es X.env := by rfl) : LA X (e :: es) (wCons w wr) := (pa_cons he hr hs).imp fun σ H Q z => by
  obtain ⟨sl, h, io, q, r, z, k⟩ := z
  refine tE.go r z fun x h1 z1 u i1 H1 x1 r1 d1 => ?_
  refine tA.go r1 z1 fun ds h2 z2 vs i2 H2 x2 r2 d2 => ?_
  exact k _ _ z2 _ i2 H2 (x1.trans x2) r2.rh (.cons (d1.mono x2) d2)

/-! ### displays -/
def wTup (wa : WA) : WE := fun sl h Q => wa sl h fun ds h1 => ds.length ≤ sizeLine ∧ Q (.tup ds) h1
def wLst (wa : WA) : WE := fun sl h Q => wa sl h fun ds h1 => ds.length ≤ sizeLine ∧ Q (.ref h1.length) (h1 ++ [.lst ds])
theorem le_tup {x1} {wa : WA} (ha : LA X es wa) : LE X (.Tuple es x1 pos) (wTup wa) := (pe_tup ha).imp fun σ H Q z => by
  obtain ⟨sl, h, io, q, r, z, k⟩ := z
  refine tA.go r z fun ds h1 z1 vs i1 H1 x1 r1 d1 => ?_
  obtain ⟨hl, z2⟩ := z1
  refine ⟨by rw [← d1.length]; exact hl, fun p hp => ?_⟩
  exact k _ _ z2 _ i1 _ (x1.trans (ex_upd hp)) (r1.rh.new hp) (.tup upd_same (d1.mono (ex_upd hp)))
/-- a new list cell -/
theorem new_lst {K : PySem.W.Frag} {mg : Str → Option Value} {io : List Addr} {H : Hp} {h : Hd} {ds : List D} {vs : List V} {p : Addr} (r : RH K mg io H h) (d : RDs io H ds vs) (hp : H p = none) :
    Ex io (io ++ [p]) H (upd H p (.lst vs)) ∧ RH K mg (io ++ [p]) (upd H p (.lst vs)) (h ++ [.lst ds]) ∧ RD (io ++ [p]) (upd H p (.lst vs)) (.ref h.length) (.ref p) := by
  have x : Ex io (io ++ [p]) H (upd H p (.lst vs)) := ex_alloc hp
  exact ⟨x, r.alloc hp ⟨vs, upd_same, d.mono x⟩, .ref (push_at r p)⟩
theorem le_lst {wa : WA} (ha : LA X es wa) : LE X (.List es pos) (wLst wa) := (pe_lst ha).imp fun σ H Q z => by
  obtain ⟨sl, h, io, q, r, z, k⟩ := z
  refine tA.go r z fun ds h1 z1 vs i1 H1 x1 r1 d1 => ?_
  obtain ⟨hl, z2⟩ := z1
  refine ⟨by rw [← d1.length]; exact hl, fun p hp => ?_⟩
  obtain ⟨x2, r2, d2⟩ := new_lst r1.rh d1 hp
  exact k _ _ z2 _ _ _ (x1.trans x2) r2 d2
end

/-! ### calls -/
section
variable {X : Cx} {k j n : Nat} {x c m : Str} {p pos apos : Pos} {e o : Expr} {es : List Expr} {sp : SpD} {wa : WA} {wo : WE}
def wCall (sp : SpD) (wa : WA) : WE := fun sl h Q => wa sl h fun ds h1 => sp ds h1 Q
theorem le_call (F : FnD X.prog X.w X.K X.mg X.base k x n sp) (hr : Room j X.A) (hk : k ≤ j) (hgd : X.A.guards = some []) (hg : Gl X x) (ha : LA X (e :: es) wa) (hdb : (x == ("__debug__" : Str)) = false := by decide)
    (he : starEach (e :: es) X.env = (false, eval e X.env) :: starEach es X.env := by rfl) (hpl : (backTo pos (starEach es X.env)).any (·.1) = false := by rfl) : LE X (.Call (.Name x p) (e :: es) [] pos) (wCall sp wa) := by
  obtain ⟨⟨f, fd, ps, G, hm, hkp, hb, hn⟩, ar⟩ := F
  refine ⟨fun pins s σ H Q I z => ?_⟩
  obtain ⟨sl, h, io, q, r, z, kn⟩ := z
  refine wpAny_Call_Name_kw (ld_glob I hg hm ?_ hdb)
  refine PySem.W.callWith_K (h₀ := X.base) I.ok.mod.kin hkp (thn (ha.run pos pins s σ H (fun vs H1 => spD X.K X.mg n sp (vs ++ []) H1 Q E0) I (tA.go r z fun ds h1 z1 vs i1 H1 x1 r1 d1 => ?_)) fun us s1 ⟨vs, H1, I1, rv, q1⟩ => ⟨I1.kIn, ?_⟩) he hpl
  · rw [List.append_nil]
    exact ⟨by rw [← d1.length]; exact ar _ _ _ z1, ds, h1, i1, q, r1.rh, d1, z1, kn.on x1⟩
  · exact run_g G (hr.mono hk) hgd hb .nil pass0 I1 rv q1
end
end MP

set_option Elab.async false
set_option linter.all false
set_option maxRecDepth 100000
set_option maxHeartbeats 2000000
/-! MpD: equality of data, dicts by D-level, the operators. -/
namespace MP
open PySem PySem.Spec
open PyProof.Rows hiding St
open L2

mutual
def D.beq : D → D → Bool
  | .non, .non => true
  | .bl a, .bl b => a == b
  | .int a, .int b => decide (a = b)
  | .str a, .str b => decide (a = b)
  | .tup xs, .tup ys => D.beqs xs ys
  | .ref a, .ref b => Nat.beq a b
  | _, _ => false
def D.beqs : List D → List D → Bool
  | [], [] => true
  | x :: xs, y :: ys => D.beq x y && D.beqs xs ys
  | _, _ => false
end
mutual
theorem D.beq_eq : ∀ {a b : D}, D.beq a b = true → a = b
  | .non, b, h => by cases b <;> first | rfl | (simp [D.beq] at h)
  | .bl x, b, h => by cases b <;> simp [D.beq] at h; rw [h]
  | .int x, b, h => by cases b <;> simp [D.beq] at h; rw [h]
  | .str x, b, h => by cases b <;> simp [D.beq] at h; rw [h]
  | .tup xs, b, h => by
    cases b with
    | tup ys => exact congrArg D.tup (D.beqs_eq (by simpa [D.beq] using h))
    | _ => simp [D.beq] at h
  | .ref n, b, h => by
    cases b with
    | ref m => exact congrArg D.ref (Nat.eq_of_beq_eq_true (by simpa only [D.beq] using h))
    | _ => simp [D.beq] at h
theorem D.beqs_eq : ∀ {a b : List D}, D.beqs a b = true → a = b
  | [], [], _ => rfl
  | [], _ :: _, h => by simp [D.beqs] at h
  | _ :: _, [], h => by simp [D.beqs] at h
  | x :: xs, y :: ys, h => by
    rw [D.beqs, Bool.and_eq_true] at h
    rw [D.beq_eq h.1, D.beqs_eq h.2]
end
mutual
theorem D.beq_refl : ∀ (a : D), D.beq a a = true
  | .non => rfl
  | .bl x => by simp [D.beq]
  | .int x => by simp [D.beq]
  | .str x => by simp [D.beq]
  | .tup xs => by rw [D.beq]; exact D.beqs_refl xs
  | .ref n => by rw [D.beq]; exact Nat.beq_refl n
theorem D.beqs_refl : ∀ (a : List D), D.beqs a a = true
  | [] => rfl
  | x :: xs => by rw [D.beqs, D.beq_refl x, D.beqs_refl xs]; rfl
end
instance : DecidableEq D := fun a b => if h : D.beq a b = true then .isTrue (D.beq_eq h) else .isFalse fun e => h (e ▸ D.beq_refl a)

/-! ### dicts -/
def getD (kvs : List (D × D)) (k : D) : Option D := (kvs.find? fun p => decide (p.1 = k)).map (·.2)
def putD (kvs : List (D × D)) (k v : D) : List (D × D) := if (kvs.any fun p => decide (p.1 = k)) = true then kvs.map (fun p => if p.1 = k then (p.1, v) else p) else kvs ++ [(k, v)]
def atomK : D → Bool
  | .int _ => true
  | .str _ => true
  | _ => false
def keyOk : Bool → D → Bool
  | false, d => atomK d
  | true, .tup xs => xs.all atomK
  | _, _ => false
theorem keyD_inj : ∀ {a b : Key}, keyD a = keyD b → a = b
  | .inl _, .inl _, h => by injection h with h; rw [h]
  | .inl _, .inr _, h => by cases h
  | .inr _, .inl _, h => by cases h
  | .inr _, .inr _, h => by injection h with h; rw [h]
theorem keysD_inj : ∀ {a b : List Key}, a.map keyD = b.map keyD → a = b
  | [], [], _ => rfl
  | [], _ :: _, h => by simp at h
  | _ :: _, [], h => by simp at h
  | x :: a, y :: b, h => by
    simp only [List.map_cons, List.cons.injEq] at h
    rw [keyD_inj h.1, keysD_inj h.2]
theorem key_of_ok {d : D} (h : keyOk false d = true) : ∃ k, d = keyD k := by
  cases d with
  | int i => exact ⟨.inl i, rfl⟩
  | str x => exact ⟨.inr x, rfl⟩
  | _ => cases h
theorem keys_of_ok : ∀ {xs : List D}, keyOk true (.tup xs) = true → ∃ ks : List Key, xs = ks.map keyD
  | [], _ => ⟨[], rfl⟩
  | d :: xs, h => by
    have h' : (atomK d && keyOk true (.tup xs)) = true := h
    rw [Bool.and_eq_true] at h'
    obtain ⟨ks, e⟩ := keys_of_ok h'.2
    cases d with
    | int i => exact ⟨.inl i :: ks, by rw [e]; rfl⟩
    | str x => exact ⟨.inr x :: ks, by rw [e]; rfl⟩
    | _ => cases h'.1
section
variable {K : PySem.W.Frag} {mg : Str → Option Value} {io io' : List Addr} {H H' : Hp} {h : Hd}
theorem rd_key {k : Key} {v : V} (r : RD io H (keyD k) v) : v = kV k := by
  cases k <;> cases r <;> rfl
theorem rd_keyD (k : Key) : RD io H (keyD k) (kV k) := by
  cases k with
  | inl i => exact .int i
  | inr x => exact .str x
theorem rd_keys : ∀ {ks : List Key} {vs : List V}, RDs io H (ks.map keyD) vs → vs = ks.map kV
  | [], _, .nil => rfl
  | k :: ks, _, .cons h r => by rw [rd_key h, rd_keys r]; rfl
def RO (io : List Addr) (H : Hp) : Option D → Option V → Prop
  | some d, some v => RD io H d v
  | none, none => True
  | _, _ => False
theorem KVk.get {k : Key} : ∀ {l : List (D × D)} {m : List (Key × V)}, KVk io H l m → RO io H (getD l (keyD k)) (valV m k)
  | _, _, .nil => trivial
  | _, _, @KVk.cons _ _ k' d v l m hd r => by
    by_cases e : k' = k
    · subst e
      simp only [getD, valV, List.find?_cons, decide_true, Option.map_some]
      exact hd
    · have e' : ¬ keyD k' = keyD k := fun q => e (keyD_inj q)
      have := KVk.get (k := k) r
      simpa only [getD, valV, List.find?_cons, e, e', decide_false] using this
theorem KVt.get {k : List Key} : ∀ {l : List (D × D)} {m : List (List Key × V)}, KVt io H l m → RO io H (getD l (.tup (k.map keyD))) (valV m k)
  | _, _, .nil => trivial
  | _, _, @KVt.cons _ _ k' d v l m hd r => by
    by_cases e : k' = k
    · subst e
      simp only [getD, valV, List.find?_cons, decide_true, Option.map_some]
      exact hd
    · have e' : ¬ D.tup (k'.map keyD) = D.tup (k.map keyD) := fun q => e (keysD_inj (by injection q))
      have := KVt.get (k := k) r
      simpa only [getD, valV, List.find?_cons, e, e', decide_false] using this
theorem DOb.rd {a : Addr} {lk : Bool} {u : HO} (e : DOb H a lk u) : Rd H a u := by
  cases lk with
  | false => exact .inl (by simpa [DOb] using e)
  | true => exact .inr (by simpa [DOb] using e)
theorem dget_rel {t lk : Bool} {kvs : List (D × D)} {a : Addr} {x : D} {u : V} (r : RC K mg io H (.dct t lk kvs) a) (hk : keyOk t x = true) (d : RD io H x u) : ∃ o, DGet H a u o ∧ RO io H (getD kvs x) o := by
  cases t with
  | false =>
    obtain ⟨k, rfl⟩ := key_of_ok hk
    obtain ⟨ks, e, q⟩ := r.dK
    exact ⟨valV ks k, .inl ⟨ks, k, e.rd, rd_key d, rfl⟩, q.get⟩
  | true =>
    cases x with
    | tup xs =>
      obtain ⟨k, rfl⟩ := keys_of_ok hk
      obtain ⟨ks, e, q⟩ := r.dT
      cases d with
      | tup ha rs => exact ⟨valV ks k, .inr ⟨ks, k, _, e.rd, rfl, by rw [ha, rd_keys rs], rfl⟩, q.get⟩
    | _ => cases hk
theorem KVk.length : ∀ {l : List (D × D)} {m : List (Key × V)}, KVk io H l m → l.length = m.length
  | _, _, .nil => rfl
  | _, _, .cons _ r => by simp [KVk.length r]
theorem KVt.length : ∀ {l : List (D × D)} {m : List (List Key × V)}, KVt io H l m → l.length = m.length
  | _, _, .nil => rfl
  | _, _, .cons _ r => by simp [KVt.length r]
theorem KVk.append {l l' : List (D × D)} : ∀ {m m' : List (Key × V)}, KVk io H l m → KVk io H l' m' → KVk io H (l ++ l') (m ++ m')
  | _, _, .nil, s => s
  | _, _, .cons h r, s => .cons h (KVk.append r s)
theorem KVt.append {l l' : List (D × D)} : ∀ {m m' : List (List Key × V)}, KVt io H l m → KVt io H l' m' → KVt io H (l ++ l') (m ++ m')
  | _, _, .nil, s => s
  | _, _, .cons h r, s => .cons h (KVt.append r s)
theorem KVk.mapPut {k : Key} {d : D} {v : V} (hd : RD io H d v) : ∀ {l : List (D × D)} {m : List (Key × V)}, KVk io H l m → KVk io H (l.map fun p => if p.1 = keyD k then (p.1, d) else p) (m.map fun p => if p.1 = k then (p.1, v) else p)
  | _, _, .nil => .nil
  | _, _, @KVk.cons _ _ k' d' v' l m h r => by
    by_cases e : k' = k
    · subst e
      simp only [List.map_cons, if_true]
      exact .cons hd (KVk.mapPut hd r)
    · have e' : ¬ keyD k' = keyD k := fun q => e (keyD_inj q)
      simp only [List.map_cons, if_neg e, if_neg e']
      exact .cons h (KVk.mapPut hd r)
theorem KVt.mapPut {k : List Key} {d : D} {v : V} (hd : RD io H d v) : ∀ {l : List (D × D)} {m : List (List Key × V)}, KVt io H l m → KVt io H (l.map fun p => if p.1 = .tup (k.map keyD) then (p.1, d) else p) (m.map fun p => if p.1 = k then (p.1, v) else p)
  | _, _, .nil => .nil
  | _, _, @KVt.cons _ _ k' d' v' l m h r => by
    by_cases e : k' = k
    · subst e
      simp only [List.map_cons, if_true]
      exact .cons hd (KVt.mapPut hd r)
    · have e' : ¬ D.tup (k'.map keyD) = D.tup (k.map keyD) := fun q => e (keysD_inj (by injection q))
      simp only [List.map_cons, if_neg e, if_neg e']
      exact .cons h (KVt.mapPut hd r)
theorem KVk.any {k : Key} : ∀ {l : List (D × D)} {m : List (Key × V)}, KVk io H l m → (l.any fun p => decide (p.1 = keyD k)) = (m.any fun p => decide (p.1 = k))
  | _, _, .nil => rfl
  | _, _, @KVk.cons _ _ k' d' v' l m h r => by
    have : decide (keyD k' = keyD k) = decide (k' = k) := by
      by_cases e : k' = k
      · subst e; simp
      · rw [decide_eq_false e, decide_eq_false fun q => e (keyD_inj q)]
    simp only [List.any_cons, this, KVk.any r]
theorem KVt.any {k : List Key} : ∀ {l : List (D × D)} {m : List (List Key × V)}, KVt io H l m → (l.any fun p => decide (p.1 = .tup (k.map keyD))) = (m.any fun p => decide (p.1 = k))
  | _, _, .nil => rfl
  | _, _, @KVt.cons _ _ k' d' v' l m h r => by
    have : decide (D.tup (k'.map keyD) = D.tup (k.map keyD)) = decide (k' = k) := by
      by_cases e : k' = k
      · subst e; simp
      · rw [decide_eq_false e, decide_eq_false fun q => e (keysD_inj (by injection q))]
    simp only [List.any_cons, this, KVt.any r]
theorem KVk.put {k : Key} {d : D} {v : V} (hd : RD io H d v) {l : List (D × D)} {m : List (Key × V)} (q : KVk io H l m) : KVk io H (putD l (keyD k) d) (putK m k v) := by
  unfold putD putK
  rw [q.any]
  split
  · exact q.mapPut hd
  · exact q.append (.cons hd .nil)
theorem KVt.put {k : List Key} {d : D} {v : V} (hd : RD io H d v) {l : List (D × D)} {m : List (List Key × V)} (q : KVt io H l m) : KVt io H (putD l (.tup (k.map keyD)) d) (putK m k v) := by
  unfold putD putK
  rw [q.any]
  split
  · exact q.mapPut hd
  · exact q.append (.cons hd .nil)
/-- a store into a dict -/
theorem dput_rel {t : Bool} {kvs : List (D × D)} {n : Nat} {a : Addr} {x y : D} {u v : V} (rh : RH K mg io H h) (e : h[n]? = some (.dct t false kvs)) (i : io[n]? = some a) (hk : keyOk t x = true) (dx : RD io H x u) (dy : RD io H y v) (hl : kvs.length < sizeLine) :
    ∃ H', DPut H a u v H' ∧ Ex io io H H' ∧ RH K mg io H' (h.set n (.dct t false (putD kvs x y))) := by
  have r := rh.cell n _ a e i
  cases t with
  | false =>
    obtain ⟨k, rfl⟩ := key_of_ok hk
    obtain ⟨ks, f, q⟩ := r.dK
    have f' : H a = some (.dK ks) := by simpa [DOb] using f
    have w := rh.write (o := .dK (putK ks k v)) (c' := .dct false false (putD kvs (keyD k) y)) i f' (fun xs z => nomatch z) (fun _ _ z => nomatch z) (fun b z => nomatch z) fun ex => .ofK ⟨_, by simp [DOb, upd_same], (q.put dy).mono ex⟩
    exact ⟨_, .inl ⟨ks, k, f', rd_key dx, by rw [← q.length]; exact hl, rfl⟩, w.1, w.2⟩
  | true =>
    cases x with
    | tup xs =>
      obtain ⟨k, rfl⟩ := keys_of_ok hk
      obtain ⟨ks, f, q⟩ := r.dT
      have f' : H a = some (.dT ks) := by simpa [DOb] using f
      cases dx with
      | tup ha rs =>
        have w := rh.write (o := .dT (putK ks k v)) (c' := .dct true false (putD kvs (.tup (k.map keyD)) y)) i f' (fun xs z => nomatch z) (fun _ _ z => nomatch z) (fun b z => nomatch z) fun ex => .ofT ⟨_, by simp [DOb, upd_same], (q.put dy).mono ex⟩
        exact ⟨_, .inr ⟨ks, k, _, f', rfl, by rw [ha, rd_keys rs], by rw [← q.length]; exact hl, rfl⟩, w.1, w.2⟩
    | _ => cases hk
/-- the items of a list cell, by the layer's reading of it -/
theorem lst_sq {ds : List D} {a : Addr} {c : Cell} (r : RC K mg io H c a) (hc : c = .lst ds ∨ c = .scr ds) : ∃ vs, SqL K H a vs ∧ RDs io H ds vs := by
  rcases hc with rfl | rfl
  · obtain ⟨vs, e, q⟩ := r; exact ⟨vs, SqL.of e, q⟩
  · obtain ⟨o, vs, e, q⟩ := r; exact ⟨vs, .inl (.inr ⟨o, e⟩), q⟩
end

/-- the items of a list that may be read -/
def items (h : Hd) (n : Nat) : Option (List D) := match h[n]? with
  | some (.lst xs) => some xs
  | some (.scr xs) => some xs
  | _ => none
theorem items_at {h : Hd} {n : Nat} {xs : List D} (e : items h n = some xs) : ∃ c, h[n]? = some c ∧ (c = .lst xs ∨ c = .scr xs) := by
  unfold items at e
  split at e
  · rename_i q; cases e; exact ⟨_, q, .inl rfl⟩
  · rename_i q; cases e; exact ⟨_, q, .inr rfl⟩
  · cases e
theorem RH.list {K : PySem.W.Frag} {mg : Str → Option Value} {io : List Addr} {H : Hp} {h : Hd} {n : Nat} {a : Addr} {xs : List D} (r : RH K mg io H h) (e : items h n = some xs) (i : io[n]? = some a) : ∃ vs, SqL K H a vs ∧ RDs io H xs vs := by
  obtain ⟨c, q, hc⟩ := items_at e
  exact lst_sq (r.cell n c a q i) hc
theorem RH.lst {K : PySem.W.Frag} {mg : Str → Option Value} {io : List Addr} {H : Hp} {h : Hd} {n : Nat} {a : Addr} {xs : List D} (r : RH K mg io H h) (e : h[n]? = some (.lst xs)) (i : io[n]? = some a) : ∃ vs, H a = some (.lst vs) ∧ RDs io H xs vs := r.cell n _ a e i

/-! ### operators -/
section
variable {X : Cx} {j : Nat}
def oAdd : O2 := fun x y h Q => match x, y with
  | .int a, .int b => Q (.int (a + b)) h
  | .str a, .str b => a.length + b.length ≤ sizeLine ∧ Q (.str (a ++ b)) h
  | .tup xs, .tup ys => xs.length + ys.length ≤ sizeLine ∧ Q (.tup (xs ++ ys)) h
  | .ref m, .ref n => ∃ xs ys, h[m]? = some (.lst xs) ∧ h[n]? = some (.lst ys) ∧ xs.length + ys.length ≤ sizeLine ∧ Q (.ref h.length) (h ++ [.lst (xs ++ ys)])
  | _, _ => False
theorem ol_add : OpL X (binaryOp .Add) oAdd := by
  intro io H h x y u v q Q rh dx dy z k
  cases dx with
  | int a => cases dy with
    | int b => exact ⟨_, op_add, a, b, rfl, rfl, k _ _ z _ io H .refl rh (.int _)⟩
    | _ => exact z.elim
  | str a => cases dy with
    | str b => exact ⟨_, op_add_str, a, b, rfl, rfl, z.1, k _ _ z.2 _ io H .refl rh (.str _)⟩
    | _ => exact z.elim
  | @tup a vs xs ha ra => cases dy with
    | @tup b ws ys hb rb =>
      obtain ⟨hl, z⟩ := z
      refine ⟨_, op_catA, a, b, vs, ws, rfl, rfl, SqT.of ha, SqT.of hb, by rw [← ra.length, ← rb.length]; exact hl, fun e => ?_, fun e1 e2 => ?_, fun e1 e2 p hp => ?_⟩
      · have : xs = [] := List.eq_nil_of_length_eq_zero (by rw [ra.length, e]; rfl)
        subst this
        exact k _ _ z _ io H .refl rh (.tup hb rb)
      · have : ys = [] := List.eq_nil_of_length_eq_zero (by rw [rb.length, e2]; rfl)
        subst this
        rw [List.append_nil] at z
        exact k _ _ z _ io H .refl rh (.tup ha ra)
      · exact k _ _ z _ io _ (ex_upd hp) (rh.new hp) (.tup upd_same ((ra.append rb).mono (ex_upd hp)))
    | _ => exact z.elim
  | @ref m a i => cases dy with
    | @ref n b i2 =>
      obtain ⟨xs, ys, e1, e2, hl, z⟩ := z
      obtain ⟨vs, f1, r1⟩ := rh.lst e1 i
      obtain ⟨ws, f2, r2⟩ := rh.lst e2 i2
      refine ⟨_, op_cat, a, b, vs, ws, rfl, rfl, f1, f2, by rw [← r1.length, ← r2.length]; exact hl, fun p hp => ?_⟩
      obtain ⟨x2, rh2, d2⟩ := new_lst rh (r1.append r2) hp
      exact k _ _ z _ _ _ x2 rh2 d2
    | _ => exact z.elim
  | _ => exact z.elim
def oInt2 (C : Int → Int → Prop) (f : Int → Int → D) : O2 := fun x y h Q => match x, y with
  | .int a, .int b => C a b ∧ Q (f a b) h
  | _, _ => False
theorem ol_int2 {f : Value → Value → Sem Value} {C : Int → Int → Prop} {g : Int → Int → V} {gd : Int → Int → D} (ho : OpR X f (rI C g)) (hg : ∀ io H a b, RD io H (gd a b) (g a b)) : OpL X f (oInt2 C gd) := by
  intro io H h x y u v q Q rh dx dy z k
  cases dx with
  | int a => cases dy with
    | int b => exact ⟨_, ho, a, b, rfl, rfl, z.1, k _ _ z.2 _ io H .refl rh (hg _ _ _ _)⟩
    | _ => exact z.elim
  | _ => exact z.elim
def oInt0 (f : Int → Int → D) : O2 := fun x y h Q => match x, y with
  | .int a, .int b => Q (f a b) h
  | _, _ => False
theorem ol_int0 {f : Value → Value → Sem Value} {g : Int → Int → V} {gd : Int → Int → D} (ho : OpR X f (rI0 g)) (hg : ∀ io H a b, RD io H (gd a b) (g a b)) : OpL X f (oInt0 gd) := by
  intro io H h x y u v q Q rh dx dy z k
  cases dx with
  | int a => cases dy with
    | int b => exact ⟨_, ho, a, b, rfl, rfl, k _ _ z _ io H .refl rh (hg _ _ _ _)⟩
    | _ => exact z.elim
  | _ => exact z.elim
abbrev oSub : O2 := oInt0 fun a b => .int (a - b)
theorem ol_sub : OpL X (binaryOp .Sub) oSub := ol_int0 op_sub fun _ _ _ _ => .int _
abbrev oMod : O2 := oInt2 (fun _ b => 0 < b) fun a b => .int (a % b)
theorem ol_mod : OpL X (binaryOp .Mod) oMod := ol_int2 op_mod fun _ _ _ _ => .int _
abbrev oFdiv : O2 := oInt2 CDivW fun a b => .int (a / b)
theorem ol_fdiv : OpL X (binaryOp .FloorDiv) oFdiv := ol_int2 op_fdivW fun _ _ _ _ => .int _
/-- the order of ints and texts -/
def oOrd (f : Int → Int → Bool) (g : Str → Str → Bool) : O2 := fun x y h Q => match x, y with
  | .int a, .int b => Q (.bl (f a b)) h
  | .str a, .str b => Q (.bl (g a b)) h
  | _, _ => False
theorem ol_ord {op : CmpOp} {f : Int → Int → Bool} {g : Str → Str → Bool} (h1 : OpR X (compareOp op) (rI0 fun a b => .bl (f a b))) (h2 : OpR X (compareOp op) (fun x y H Q => ∃ i j, x = .str i ∧ y = .str j ∧ Q (.bl (g i j)) H)) : OpL X (compareOp op) (oOrd f g) := by
  intro io H h x y u v q Q rh dx dy z k
  cases dx with
  | int a => cases dy with
    | int b => exact ⟨_, h1, a, b, rfl, rfl, k _ _ z _ io H .refl rh (.bl _)⟩
    | _ => exact z.elim
  | str a => cases dy with
    | str b => exact ⟨_, h2, a, b, rfl, rfl, k _ _ z _ io H .refl rh (.bl _)⟩
    | _ => exact z.elim
  | _ => exact z.elim
def ltS (a b : Str) : Bool := decide (a.cps.toList < b.cps.toList)
abbrev oLt : O2 := oOrd (fun a b => decide (a < b)) ltS
abbrev oLe : O2 := oOrd (fun a b => decide (a ≤ b)) fun a b => !ltS b a
abbrev oGt : O2 := oOrd (fun a b => decide (b < a)) fun a b => ltS b a
abbrev oGe : O2 := oOrd (fun a b => decide (b ≤ a)) fun a b => !ltS a b
theorem ol_lt : OpL X (compareOp .Lt) oLt := ol_ord op_lt op_lt_str
theorem ol_le : OpL X (compareOp .LtE) oLe := ol_ord op_le op_le_str
theorem ol_gt : OpL X (compareOp .Gt) oGt := ol_ord op_gt op_gt_str
theorem ol_ge : OpL X (compareOp .GtE) oGe := ol_ord op_ge op_ge_str
end
end MP

set_option Elab.async false
set_option linter.all false
set_option maxRecDepth 100000
set_option maxHeartbeats 2000000
/-! MpE: in, is, ==, subscripts, slices, fields, tests, conditionals. -/
namespace MP
open PySem PySem.Spec
open PyProof.Rows hiding St
open L2

def eqF : D → D → Bool
  | .non, .non => true
  | .bl a, .bl b => a == b
  | .bl a, .int b => (if a then 1 else 0) == b
  | .int a, .bl b => a == (if b then 1 else 0)
  | .int a, .int b => a == b
  | .str a, .str b => a == b
  | _, _ => false
theorem eqF_V {x y : D} (hx : x.flat = true) (hy : y.flat = true) : eqV x.toV y.toV = eqF x y := by
  cases x <;> cases y <;> first | rfl | (simp [D.flat] at hx; done) | (simp [D.flat] at hy; done)
theorem RD.toV_of {io : List Addr} {H : Hp} {d : D} {v : V} (f : d.flat = true) (r : RD io H d v) : v = d.toV := by
  cases r <;> first | rfl | cases f
theorem flatV_of {d : D} (f : d.flat = true) : flatV d.toV = true := by
  cases d <;> first | rfl | cases f
theorem RDs.flats {io : List Addr} {H : Hp} : ∀ {ds : List D} {vs : List V}, RDs io H ds vs → ds.all D.flat = true → vs = ds.map D.toV ∧ vs.all flatV = true
  | _, _, .nil, _ => ⟨rfl, rfl⟩
  | d :: ds, _, .cons h r, f => by
    rw [List.all_cons, Bool.and_eq_true] at f
    obtain ⟨e1, e2⟩ := RDs.flats r f.2
    have e := h.toV_of f.1
    subst e
    exact ⟨by rw [e1]; rfl, by rw [List.all_cons, flatV_of f.1, e2]; rfl⟩
theorem inV_of {x : D} (fx : x.flat = true) : ∀ {ds : List D}, ds.all D.flat = true → inV x.toV (ds.map D.toV) = ds.any fun z => eqF z x
  | [], _ => rfl
  | d :: ds, f => by
    rw [List.all_cons, Bool.and_eq_true] at f
    have := inV_of fx f.2
    unfold inV at this ⊢
    rw [List.map_cons, List.any_cons, List.any_cons, this, eqF_V f.1 fx]
def inList (x : D) (xs : List D) : Option Bool := if (x.flat && xs.all D.flat) = true then some (xs.any fun z => eqF z x) else none
def inDat (h : Hd) (x y : D) : Option Bool := match y with
  | .tup xs => inList x xs
  | .ref n => match h[n]? with
    | some (.lst xs) => inList x xs
    | some (.scr xs) => inList x xs
    | some (.dct t _ kvs) => if keyOk t x = true then some (getD kvs x).isSome else none
    | _ => none
  | _ => none

/-! ### nested data, for == and repr -/
mutual
inductive PyR (h : Hd) : D → PyData → Prop
  | non : PyR h .non .none
  | bl (b : Bool) : PyR h (.bl b) (.bool b)
  | int (i : Int) : PyR h (.int i) (.int i)
  | str (x : Str) : PyR h (.str x) (.str x)
  | lst {n : Nat} {xs : List D} {ds : List PyData} : items h n = some xs → PyRs h xs ds → PyR h (.ref n) (.list ds)
  | tup {xs : List D} {ds : List PyData} : PyRs h xs ds → PyR h (.tup xs) (.tuple ds)
inductive PyRs (h : Hd) : List D → List PyData → Prop
  | nil : PyRs h [] []
  | cons {x : D} {xs : List D} {d : PyData} {ds : List PyData} : PyR h x d → PyRs h xs ds → PyRs h (x :: xs) (d :: ds)
end
section
variable {K : PySem.W.Frag} {mg : Str → Option Value} {io : List Addr} {H : Hp} {h : Hd}
mutual
theorem PyR.dp (rh : RH K mg io H h) : ∀ {x : D} {d : PyData} {v : V}, PyR h x d → RD io H x v → Dp K H v d
  | _, _, _, .non, .non => .non
  | _, _, _, .bl b, .bl _ => .bl b
  | _, _, _, .int b, .int _ => .int b
  | _, _, _, .str b, .str _ => .str b
  | _, _, _, .lst e q, .ref i => by
    obtain ⟨vs, hs, r⟩ := rh.list e i
    exact .lst hs (PyRs.dp rh q r)
  | _, _, _, .tup q, .tup e r => .tup (SqT.of e) (PyRs.dp rh q r)
theorem PyRs.dp (rh : RH K mg io H h) : ∀ {xs : List D} {ds : List PyData} {vs : List V}, PyRs h xs ds → RDs io H xs vs → DpAll K H vs ds
  | _, _, _, .nil, .nil => .nil
  | _, _, _, .cons a q, .cons b r => .cons (PyR.dp rh a b) (PyRs.dp rh q r)
end
end

section
variable {X : Cx} {j : Nat}
def oIn (neg : Bool) : O2 := fun x y h Q => ∃ b, inDat h x y = some b ∧ Q (.bl (if neg then !b else b)) h
theorem inList_some {x : D} {xs : List D} {b : Bool} (e : inList x xs = some b) : x.flat = true ∧ xs.all D.flat = true ∧ (xs.any fun z => eqF z x) = b := by
  unfold inList at e
  split at e
  · rename_i q; rw [Bool.and_eq_true] at q; cases e; exact ⟨q.1, q.2, rfl⟩
  · cases e
theorem opr_dIn (hr : Room j X.A) : OpR X (compareOp .In) (fun x y H Q => ∃ a o, y = .ref a ∧ DGet H a x o ∧ Q (.bl o.isSome) H) := by
  intro pins s σ H x y v u Q I rx ry h
  obtain ⟨a, o, rfl, g, q⟩ := h
  obtain rfl : u = Value.ref a := ry
  exact d_in (hu_of hr) I g rx fun s3 I3 => ⟨.bl o.isSome, H, I3, rfl, q⟩
theorem opr_dNotIn (hr : Room j X.A) : OpR X (compareOp .NotIn) (fun x y H Q => ∃ a o, y = .ref a ∧ DGet H a x o ∧ Q (.bl (!o.isSome)) H) := by
  intro pins s σ H x y v u Q I rx ry h
  obtain ⟨a, o, rfl, g, q⟩ := h
  obtain rfl : u = Value.ref a := ry
  exact d_notIn (hu_of hr) I g rx fun s3 I3 => ⟨.bl (!o.isSome), H, I3, rfl, q⟩
theorem RO.isSome {io : List Addr} {H : Hp} {d : Option D} {o : Option V} (r : RO io H d o) : o.isSome = d.isSome := by
  cases d <;> cases o <;> first | rfl | exact r.elim
theorem ol_in (hr : Room j X.A) (neg : Bool) : OpL X (compareOp (if neg then .NotIn else .In)) (oIn neg) := by
  intro io H h x y u v q Q rh dx dy z k
  obtain ⟨b, e, z⟩ := z
  have go : ∀ {p : Addr} {xs : List D} {vs : List V}, v = .ref p → (SqL X.K H p vs ∨ SqT X.K H p vs) → RDs io H xs vs → inList x xs = some b → OpS X (compareOp (if neg then .NotIn else .In)) u v H Q := by
    intro p xs vs ev hs r e
    obtain ⟨f1, f2, f3⟩ := inList_some e
    obtain ⟨g1, g2⟩ := r.flats f2
    have g3 := dx.toV_of f1
    have g4 := inV_of f1 f2
    cases neg with
    | false => exact ⟨_, op_in_seq, p, vs, ev, hs, by rw [g3]; exact flatV_of f1, g2, by
        rw [g1, g3, g4, f3]; exact k _ _ z _ io H .refl rh (.bl _)⟩
    | true => exact ⟨_, op_notIn_seq, p, vs, ev, hs, by rw [g3]; exact flatV_of f1, g2, by
        rw [g1, g3, g4, f3]; exact k _ _ z _ io H .refl rh (.bl _)⟩
  cases dy with
  | tup ha ra => exact go rfl (.inr (SqT.of ha)) ra e
  | @ref n a i =>
    simp only [inDat] at e
    split at e
    · rename_i xs q
      obtain ⟨vs, h1, r⟩ := lst_sq (rh.cell n _ a q i) (.inl rfl)
      exact go rfl (.inl h1) r e
    · rename_i xs q
      obtain ⟨vs, h1, r⟩ := lst_sq (rh.cell n _ a q i) (.inr rfl)
      exact go rfl (.inl h1) r e
    · rename_i t lk kvs q
      split at e
      · rename_i hk
        cases e
        obtain ⟨o, g, ro⟩ := dget_rel (rh.cell n _ a q i) hk dx
        cases neg with
        | false => exact ⟨_, opr_dIn hr, a, o, rfl, g, by rw [ro.isSome]; exact k _ _ z _ io H .refl rh (.bl _)⟩
        | true => exact ⟨_, opr_dNotIn hr, a, o, rfl, g, by rw [ro.isSome]; exact k _ _ z _ io H .refl rh (.bl _)⟩
      · cases e
    · cases e
  | _ => cases e
/-- is, is not -/
def oIs (neg : Bool) : O2 := fun x y h Q => match y with
  | .non => Q (.bl (if neg then !decide (x = .non) else decide (x = .non))) h
  | .bl b => match x with
    | .bl a => Q (.bl (if neg then !decide (a = b) else decide (a = b))) h
    | _ => False
  | _ => False
theorem rd_non {io : List Addr} {H : Hp} {x : D} {u : V} (r : RD io H x u) : decide (u = .non) = decide (x = .non) := by
  cases r <;> simp
theorem ol_is (neg : Bool) : OpL X (compareOp (if neg then .IsNot else .Is)) (oIs neg) := by
  intro io H h x y u v q Q rh dx dy z k
  cases dy with
  | non =>
    cases neg with
    | false => exact ⟨_, op_isN, rfl, by rw [rd_non dx]; exact k _ _ z _ io H .refl rh (.bl _)⟩
    | true => exact ⟨_, op_notN, rfl, by rw [rd_non dx]; exact k _ _ z _ io H .refl rh (.bl _)⟩
  | bl b =>
    cases dx with
    | bl a =>
      cases neg with
      | false => exact ⟨_, op_isBl, a, b, rfl, rfl, k _ _ z _ io H .refl rh (.bl _)⟩
      | true => exact ⟨_, op_notBl, a, b, rfl, rfl, k _ _ z _ io H .refl rh (.bl _)⟩
    | _ => exact z.elim
  | _ => exact z.elim
/-- == and != -/
def oEq (neg : Bool) : O2 := fun x y h Q => match x, y with
  | .int a, .int b => Q (.bl (if neg then !decide (a = b) else decide (a = b))) h
  | .str a, .str b => Q (.bl (if neg then !decide (a = b) else decide (a = b))) h
  | .bl a, .bl b => Q (.bl (if neg then !decide (a = b) else decide (a = b))) h
  | .non, .non => Q (.bl (!neg)) h
  | .non, .int _ => Q (.bl neg) h
  | .int _, .non => Q (.bl neg) h
  | x, y => ∃ d e, PyR h x d ∧ PyR h y e ∧ SeqAt.shaped d = true ∧ SeqAt.shaped e = true ∧ Q (.bl (if neg then !PyData.eqv d e else PyData.eqv d e)) h
theorem ol_eq (hr : Room j X.A) (neg : Bool) : OpL X (compareOp (if neg then .NotEq else .Eq)) (oEq neg) := by
  intro io H h x y u v q Q rh dx dy z k
  have hu : X.A.units + 64 < cLine := hr.units
  have deep : (∃ d e, PyR h x d ∧ PyR h y e ∧ SeqAt.shaped d = true ∧ SeqAt.shaped e = true ∧ q (.bl (if neg then !PyData.eqv d e else PyData.eqv d e)) h) → OpS X (compareOp (if neg then .NotEq else .Eq)) u v H Q := by
    rintro ⟨d, e, p1, p2, s1, s2, z⟩
    cases neg with
    | false => exact ⟨_, op_eqD hu, d, e, p1.dp rh dx, p2.dp rh dy, s1, s2, k _ _ z _ io H .refl rh (.bl _)⟩
    | true => exact ⟨_, op_neD hu, d, e, p1.dp rh dx, p2.dp rh dy, s1, s2, k _ _ z _ io H .refl rh (.bl _)⟩
  have flat : ∀ (b : Bool), scal u v = true → decide (u = v) = b → q (.bl (if neg then !b else b)) h → OpS X (compareOp (if neg then .NotEq else .Eq)) u v H Q := by
    intro b h1 h2 z
    cases neg with
    | false => exact ⟨_, op_eq, h1, by rw [h2]; exact k _ _ z _ io H .refl rh (.bl _)⟩
    | true => exact ⟨_, op_ne, h1, by rw [h2]; exact k _ _ z _ io H .refl rh (.bl _)⟩
  cases dx <;> cases dy <;> first
    | exact deep z
    | (refine flat _ rfl ?_ z; simp)
    | (refine flat true rfl (by simp) ?_; cases neg <;> exact z)
    | (refine flat false rfl (by simp) ?_; cases neg <;> exact z)
end

/-! ### subscripts -/
section
variable {X : Cx} {j : Nat} {a b e o : Expr} {pos apos : Pos}
def IxS (X : Cx) : R2 := fun x y H Q => ∃ r, IxR X r ∧ r x y H Q
theorem ixS : IxR X (IxS X) := by
  intro value slice pins s σ H x y v u Q I rx ry h hs
  obtain ⟨r, hr, z⟩ := h
  exact hr value slice pins s σ H x y v u Q I rx ry z hs
def oIx : O2 := fun x y h Q => match x with
  | .ref n => match h[n]? with
    | some (.lst xs) => ∃ i d, y = .int i ∧ atI xs i = some d ∧ Q d h
    | some (.scr xs) => ∃ i d, y = .int i ∧ atI xs i = some d ∧ Q d h
    | some (.dct t _ kvs) => keyOk t y = true ∧ ∃ d, getD kvs y = some d ∧ Q d h
    | _ => False
  | .tup xs => ∃ i d, y = .int i ∧ atI xs i = some d ∧ Q d h
  | _ => False
theorem RDs.atI {io : List Addr} {H : Hp} {ds : List D} {vs : List V} {i : Int} {d : D} (r : RDs io H ds vs) (e : atI ds i = some d) : ∃ v, L2.atI vs i = some v ∧ RD io H d v := by
  unfold L2.atI at e ⊢
  rw [← r.length]
  cases q : ixN ds.length i with
  | none => rw [q] at e; cases e
  | some j =>
    rw [q] at e
    exact r.get e
theorem ix_dict (hr : Room j X.A) : IxR X (fun x y H Q => ∃ a v, x = .ref a ∧ DGet H a y (some v) ∧ Q v H) := by
  intro value slice pins s σ H x y v u Q I rx ry h hs
  obtain ⟨a, w, rfl, g, q⟩ := h
  obtain rfl : v = Value.ref a := rx
  exact tail_any (dict_typeIs I g) PySem.F.slot_dict_getitem.lookup (d_getItem (hu_of hr) I g ry fun w' s3 I3 rw' => ⟨w, H, I3, rw', q⟩) hs
theorem ixL (hr : Room j X.A) {io : List Addr} {H : Hp} {h : Hd} {x y : D} {u v : V} {q : D → Hd → Prop} {Q : VK} (rh : RH X.K X.mg io H h) (dx : RD io H x u) (dy : RD io H y v) (z : oIx x y h q) (k : Kn X.K X.mg io H q Q) : IxS X u v H Q := by
  have go : ∀ {p : Addr} {xs : List D} {vs : List V}, u = .ref p → (SqL X.K H p vs ∨ SqT X.K H p vs) → RDs io H xs vs → (∃ i d, y = .int i ∧ atI xs i = some d ∧ q d h) → IxS X u v H Q := by
    rintro p xs vs rfl hs r ⟨i, d, rfl, e, z⟩
    obtain ⟨w, f1, f2⟩ := r.atI e
    cases dy
    rcases hs with hs | hs
    · exact ⟨_, ix_list, p, vs, i, w, rfl, rfl, hs, f1, k _ _ z _ io H .refl rh f2⟩
    · exact ⟨_, ix_tup, p, vs, i, w, rfl, rfl, hs, f1, k _ _ z _ io H .refl rh f2⟩
  cases dx with
  | tup ha ra => exact go rfl (.inr (SqT.of ha)) ra z
  | @ref n a i =>
    simp only [oIx] at z
    split at z
    · rename_i xs e
      obtain ⟨vs, h1, r⟩ := lst_sq (rh.cell n _ a e i) (.inl rfl)
      exact go rfl (.inl h1) r z
    · rename_i xs e
      obtain ⟨vs, h1, r⟩ := lst_sq (rh.cell n _ a e i) (.inr rfl)
      exact go rfl (.inl h1) r z
    · rename_i t lk kvs e
      obtain ⟨hk, d, f, z⟩ := z
      obtain ⟨o, g, ro⟩ := dget_rel (rh.cell n _ a e i) hk dy
      rw [f] at ro
      cases o with
      | none => exact ro.elim
      | some w => exact ⟨_, ix_dict hr, a, w, rfl, g, k _ _ z _ io H .refl rh ro⟩
    · exact z.elim
  | _ => exact z.elim
theorem le_ix {wa wb : WE} (hr : Room j X.A) (ha : LE X a wa) (hb : LE X b wb) (hs : PlainIx b) : LE X (.Subscript a b pos) (wBin oIx wa wb) := (pe_ix ixS ha hb hs).imp fun σ H Q z => by
  obtain ⟨sl, h, io, q, r, z, k⟩ := z
  refine tE.go r z fun x h1 z1 u i1 H1 x1 r1 d1 => ?_
  refine tE.go r1 z1 fun y h2 z2 v i2 H2 x2 r2 d2 => ?_
  exact ixL hr r2.rh (d1.mono x2) d2 z2 (k.on (x1.trans x2))

/-! ### slices -/
def SlS (X : Cx) : V → Option Int → Option Int → Hp → VK → Prop := fun x lo hi H Q => ∃ r, L2.SlR X r ∧ r x lo hi H Q
theorem slS : L2.SlR X (SlS X) := by
  intro pins s σ H x v vl vu lo hi sl Q I rx hs pl pu h
  obtain ⟨r, hr, z⟩ := h
  exact hr pins s σ H x v vl vu lo hi sl Q I rx hs pl pu z
def cutD (xs : List D) (lo hi : Option Int) : List D := (xs.drop (HT.sIx xs.length 0 lo)).take (HT.sIx xs.length xs.length hi - HT.sIx xs.length 0 lo)
theorem RDs.cut {io : List Addr} {H : Hp} {ds : List D} {vs : List V} (r : RDs io H ds vs) (lo hi : Option Int) : RDs io H (cutD ds lo hi) (cutV vs lo hi) := by
  unfold cutD cutV
  rw [← r.length]
  exact (r.drop _).take _
def oSl (x : D) (lo hi : Option Int) (h : Hd) (Q : D → Hd → Prop) : Prop := match x with
  | .ref n => ∃ xs, items h n = some xs ∧ Q (.ref h.length) (h ++ [.lst (cutD xs lo hi)])
  | .tup xs => Q (.tup (cutD xs lo hi)) h
  | .str z => z.length ≤ sizeLine ∧ Q (.str (cutS z lo hi)) h
  | _ => False
theorem cutD_whole {xs : List D} {lo hi : Option Int} (e : HT.sIx xs.length 0 lo = 0 ∧ HT.sIx xs.length xs.length hi = xs.length) : cutD xs lo hi = xs := by
  unfold cutD
  rw [e.1, e.2]; simp
theorem slL {io : List Addr} {H : Hp} {h : Hd} {x : D} {u : V} {lo hi : Option Int} {q : D → Hd → Prop} {Q : VK} (rh : RH X.K X.mg io H h) (dx : RD io H x u) (z : oSl x lo hi h q) (k : Kn X.K X.mg io H q Q) : SlS X u lo hi H Q := by
  cases dx with
  | @ref n a i =>
    obtain ⟨xs, e, z⟩ := z
    obtain ⟨vs, h1, r⟩ := rh.list e i
    refine ⟨_, sl_list, a, vs, rfl, h1, fun p hp => ?_⟩
    obtain ⟨x2, rh2, d2⟩ := new_lst rh (r.cut lo hi) hp
    exact k _ _ z _ _ _ x2 rh2 d2
  | @tup a vs xs ha ra =>
    refine ⟨_, sl_tupA, a, vs, rfl, SqT.of ha, fun e => ?_, fun e p hp => ?_⟩
    · rw [← ra.length] at e
      have z : q (.tup (cutD xs lo hi)) h := z
      rw [cutD_whole e] at z
      exact k _ _ z _ io H .refl rh (.tup ha ra)
    · exact k _ _ z _ io _ (ex_upd hp) (rh.new hp) (.tup upd_same ((ra.cut lo hi).mono (ex_upd hp)))
  | str y => exact ⟨_, sl_str, y, rfl, z.1, k _ _ z.2 _ io H .refl rh (.str _)⟩
  | _ => exact z.elim
abbrev WO := Sd → Hd → (Option Int → Hd → Prop) → Prop
def tO (K : PySem.W.Frag) (mg : Str → Option Value) (w : WO) : TO := fun σ H Q => ∃ sl h io q, Rel K mg sl σ io H h ∧ w sl h q ∧ ∀ o h', q o h' → ∀ io' H', Ex io io' H H' → RH K mg io' H' h' → Q o H'
abbrev LO (X : Cx) (e : Option Expr) (w : WO) : Prop := PO X e (tO X.K X.mg w)
theorem _root_.L2.PO.imp {e : Option Expr} {t t' : TO} (h : PO X e t) (i : ∀ σ H Q, t' σ H Q → t σ H Q) : PO X e t' := ⟨fun pins s σ H Q I z => h.run pins s σ H Q I (i σ H Q z)⟩
def wNoPart : WO := fun _ h Q => Q none h
def wPart (w : WE) : WO := fun sl h Q => w sl h fun d h1 => ∃ i, d = .int i ∧ Q (some i) h1
theorem lo_none : LO X none wNoPart := po_none.imp fun σ H Q z => by
  obtain ⟨sl, h, io, q, r, z, k⟩ := z
  exact k none h z io H .refl r.rh
theorem lo_some {w : WE} (he : LE X e w) : LO X (some e) (wPart w) := (po_some he).imp fun σ H Q z => by
  obtain ⟨sl, h, io, q, r, z, k⟩ := z
  refine tE.go r z fun x h1 z1 u i1 H1 x1 r1 d1 => ?_
  obtain ⟨i, rfl, z2⟩ := z1
  cases d1
  exact ⟨i, rfl, k _ _ z2 i1 H1 x1 r1.rh⟩
def wSlice (w : WE) (wl wh : WO) : WE := fun sl h Q => w sl h fun x h1 => wl sl h1 fun lo h2 => wh sl h2 fun hi h3 => oSl x lo hi h3 Q
theorem le_slice {lo hi : Option Expr} {p2 : Pos} {w : WE} {wl wh : WO} (he : LE X e w) (hl : LO X lo wl) (hh : LO X hi wh) : LE X (.Subscript e (.Slice lo hi none p2) pos) (wSlice w wl wh) := (pe_slice slS he hl hh).imp fun σ H Q z => by
  obtain ⟨sl, h, io, q, r, z, k⟩ := z
  refine tE.go r z fun x h1 z1 u i1 H1 x1 r1 d1 => ?_
  refine ⟨sl, h1, i1, _, r1, z1, fun lo h2 z2 i2 H2 x2 rh2 => ?_⟩
  have r2 := r1.on x2 rh2
  refine ⟨sl, h2, i2, _, r2, z2, fun hi h3 z3 i3 H3 x3 rh3 => ?_⟩
  exact slL rh3 ((d1.mono x2).mono x3) z3 (k.on ((x1.trans x2).trans x3))

/-! ### fields -/
/-- the class c is plain, and f is none of its own names -/
def Fl (K : PySem.W.Frag) (mg : Str → Option Value) (c f : Str) : Prop := ∀ C, mg c = some (.ref C) → Cls K C ∧ NoAttr K C f
def hasF (cs : List Str) (c : Str) : Bool := cs.any fun x => decide (x = c)
def wFld (cs : List Str) (f : Str) (w : WE) : WE := fun sl h Q => w sl h fun x h1 => ∃ n c fs d, x = .ref n ∧ h1[n]? = some (.ins c fs) ∧ hasF cs c = true ∧ fs.lookup f = some d ∧ Q d h1
theorem FSs.lookup {io : List Addr} {H : Hp} {f : Str} : ∀ {l : List (Str × D)} {m : List (Str × V)}, FSs io H l m → RO io H (l.lookup f) (m.lookup f)
  | _, _, .nil => trivial
  | _, _, @FSs.cons _ _ g d v l m h r => by
    cases e : f == g with
    | true => simp only [List.lookup_cons, e]; exact h
    | false => simp only [List.lookup_cons, e]; exact FSs.lookup r
theorem fl_of {cs : List Str} {c f : Str} (T : ∀ x ∈ cs, Fl X.K X.mg x f) (h : hasF cs c = true) : Fl X.K X.mg c f := by
  obtain ⟨x, hx, e⟩ := List.any_eq_true.mp h
  have := of_decide_eq_true e
  subst this
  exact T x hx
theorem le_fld {cs : List Str} {f : Str} {w : WE} (T : ∀ x ∈ cs, Fl X.K X.mg x f) (he : LE X e w) (hb : attributeBase e f X.env (eval e X.env) = eval e X.env) : LE X (.Attribute e f pos) (wFld cs f w) := (pe_fld he hb).imp fun σ H Q z => by
  obtain ⟨sl, h, io, q, r, z, k⟩ := z
  refine tE.go r z fun x h1 z1 u i1 H1 x1 r1 d1 => ?_
  obtain ⟨n, c, fs, d, rfl, e1, hc, e2, z2⟩ := z1
  cases d1 with
  | @ref _ a i =>
    obtain ⟨C, dx, gs, m1, m2, m3, fr⟩ := r1.rh.cell n _ a e1 i
    obtain ⟨t1, t2⟩ := fl_of T hc C m1
    have ro := fr.lookup (f := f)
    rw [e2] at ro
    cases q2 : gs.lookup f with
    | none => rw [q2] at ro; exact ro.elim
    | some v => rw [q2] at ro; exact ⟨a, C, dx, gs, v, rfl, m2, t1, t2, q2, k _ _ z2 _ i1 H1 x1 r1.rh ro⟩

/-! ### tests -/
def truD (h : Hd) : D → Option Bool
  | .non => some false
  | .bl b => some b
  | .int i => some (i != 0)
  | .str x => if x.length ≤ sizeLine then some ((x.length : Int) != 0) else none
  | .tup xs => some (!xs.isEmpty)
  | .ref n => match h[n]? with
    | some (.lst xs) => some (!xs.isEmpty)
    | some (.scr xs) => some (!xs.isEmpty)
    | some (.dct false false kvs) => some (!kvs.isEmpty)
    | _ => none
theorem RDs.isEmpty {io : List Addr} {H : Hp} : ∀ {ds : List D} {vs : List V}, RDs io H ds vs → vs.isEmpty = ds.isEmpty
  | _, _, .nil => rfl
  | _, _, .cons _ _ => rfl
theorem KVk.isEmpty {io : List Addr} {H : Hp} : ∀ {ds : List (D × D)} {vs : List (Key × V)}, KVk io H ds vs → vs.isEmpty = ds.isEmpty
  | _, _, .nil => rfl
  | _, _, .cons _ _ => rfl
theorem tru_of {io : List Addr} {H : Hp} {h : Hd} {x : D} {u : V} {b : Bool} (rh : RH X.K X.mg io H h) (dx : RD io H x u) (e : truD h x = some b) : TruV X.K u H b := by
  cases dx with
  | non => cases e; rfl
  | bl _ => cases e; rfl
  | int _ => cases e; rfl
  | str y =>
    simp only [truD] at e
    split at e
    · cases e; rename_i q; exact ⟨q, rfl⟩
    · cases e
  | tup ha ra => cases e; exact .inr (.inl ⟨_, SqT.of ha, by rw [ra.isEmpty]⟩)
  | @ref n a i =>
    simp only [truD] at e
    split at e
    · rename_i xs q
      obtain ⟨vs, h1, r⟩ := lst_sq (rh.cell n _ a q i) (.inl rfl)
      cases e; exact .inl ⟨vs, h1, by rw [r.isEmpty]⟩
    · rename_i xs q
      obtain ⟨vs, h1, r⟩ := lst_sq (rh.cell n _ a q i) (.inr rfl)
      cases e; exact .inl ⟨vs, h1, by rw [r.isEmpty]⟩
    · rename_i kvs q
      obtain ⟨ks, h1, r⟩ := (rh.cell n _ a q i).dK
      cases e; exact .inr (.inr ⟨ks, by simpa [DOb] using h1, by rw [r.isEmpty]⟩)
    · cases e
def wTru (w : WE) : WT := fun sl h Q => w sl h fun d h1 => ∃ b, truD h1 d = some b ∧ Q b h1
theorem lt_val {w : WE} (ha : LE X a w) (he : ∀ whole, isTrue a X.env whole = (do let v ← whole; standAt a.pos; holding [v] (truthy v))) : LT X a (wTru w) := (pt_truth ha he).imp fun σ H Q z => by
  obtain ⟨sl, h, io, q, r, z, k⟩ := z
  refine tE.go r z fun x h1 z1 u i1 H1 x1 r1 d1 => ?_
  obtain ⟨b, e, z2⟩ := z1
  exact ⟨b, tru_of r1.rh d1 e, k _ _ z2 i1 H1 x1 r1.rh⟩
def wBl (w : WE) : WT := fun sl h Q => w sl h fun d h1 => ∃ b, d = .bl b ∧ Q b h1
theorem tTest_of {w : WE} {σ : L2.St} {H : Hp} {Q : Bool → Hp → Prop} {t : TE} (i : ∀ σ H Q, tE X.K X.mg w σ H Q → t σ H Q) (z : tT X.K X.mg (wBl w) σ H Q) : tTest t σ H Q := by
  obtain ⟨sl, h, io, q, r, z, k⟩ := z
  refine i _ _ _ (tE.go r z fun x h1 z1 u i1 H1 x1 r1 d1 => ?_)
  obtain ⟨b, rfl, z2⟩ := z1
  cases d1
  exact ⟨b, rfl, k _ _ z2 i1 H1 x1 r1.rh⟩
theorem bin_imp {f : Value → Value → Sem Value} {g : O2} {wa wb : WE} (ho : OpL X f g) : ∀ σ H Q, tE X.K X.mg (wBin g wa wb) σ H Q → tOp (OpS X f) (tE X.K X.mg wa) (tE X.K X.mg wb) σ H Q := fun σ H Q z => by
  obtain ⟨sl, h, io, q, r, z, k⟩ := z
  refine tE.go r z fun x h1 z1 u i1 H1 x1 r1 d1 => ?_
  refine tE.go r1 z1 fun y h2 z2 v i2 H2 x2 r2 d2 => ?_
  exact ho r2.rh (d1.mono x2) d2 z2 (k.on (x1.trans x2))
theorem lt_cmp {op : CmpOp} {g : O2} {wa wb : WE} (ho : OpL X (compareOp op) g) (ha : LE X a wa) (hb : LE X b wb) (hm : behindInMarks op b = false) : LT X (.Compare a [op] [b] pos) (wBl (wBin g wa wb)) :=
  (pt_cmpR opS ha hb hm).imp fun σ H Q z => tTest_of (bin_imp ho) z
/-- a < b < c -/
def wChain (g g' : O2) (wa wb wc : WE) : WE := fun sl h Q => wa sl h fun x h1 => wb sl h1 fun y h2 => g x y h2 fun z h3 => ∃ b, z = .bl b ∧ (if b = true then wc sl h3 fun w h4 => g' y w h4 Q else Q (.bl false) h3)
theorem chain_imp {f f' : Value → Value → Sem Value} {g g' : O2} {wa wb wc : WE} (ho : OpL X f g) (ho' : OpL X f' g') : ∀ σ H Q, tE X.K X.mg (wChain g g' wa wb wc) σ H Q → tChain (OpS X f) (OpS X f') (tE X.K X.mg wa) (tE X.K X.mg wb) (tE X.K X.mg wc) σ H Q := fun σ H Q z => by
  obtain ⟨sl, h, io, q, r, z, k⟩ := z
  refine tE.go r z fun x h1 z1 u i1 H1 x1 r1 d1 => ?_
  refine tE.go r1 z1 fun y h2 z2 v i2 H2 x2 r2 d2 => ?_
  refine ho r2.rh (d1.mono x2) d2 z2 fun d h3 z3 w i3 H3 x3 rh3 d3 => ?_
  obtain ⟨b, rfl, z4⟩ := z3
  cases d3
  refine ⟨b, rfl, ?_⟩
  have r3 := r2.on x3 rh3
  cases b with
  | true =>
    rw [if_pos rfl] at z4 ⊢
    refine tE.go r3 z4 fun y2 h4 z5 w2 i4 H4 x4 r4 d4 => ?_
    exact ho' r4.rh ((d2.mono x3).mono x4) d4 z5 (k.on (((x1.trans x2).trans x3).trans x4))
  | false =>
    rw [if_neg Bool.false_ne_true] at z4 ⊢
    exact k _ _ z4 _ i3 H3 ((x1.trans x2).trans x3) rh3 (.bl _)
variable {c : Expr}
theorem le_chain {op op' : CmpOp} {g g' : O2} {wa wb wc : WE} (ho : OpL X (compareOp op) g) (ho' : OpL X (compareOp op') g') (ha : LE X a wa) (hb : LE X b wb) (hc : LE X c wc) (hm : lastMarks [op, op'] [b, c] = false := by with_unfolding_all rfl) :
    LE X (.Compare a [op, op'] [b, c] pos) (wChain g g' wa wb wc) := (pe_chain opS opS ha hb hc hm).imp (chain_imp ho ho')
theorem lt_chain {op op' : CmpOp} {g g' : O2} {wa wb wc : WE} (ho : OpL X (compareOp op) g) (ho' : OpL X (compareOp op') g') (ha : LE X a wa) (hb : LE X b wb) (hc : LE X c wc) (hm : lastMarks [op, op'] [b, c] = false := by with_unfolding_all rfl) :
    LT X (.Compare a [op, op'] [b, c] pos) (wBl (wChain g g' wa wb wc)) := (pt_chain opS opS ha hb hc hm).imp fun σ H Q z => tTest_of (chain_imp ho ho') z
end
end MP

set_option Elab.async false
set_option linter.all false
set_option maxRecDepth 100000
set_option maxHeartbeats 2000000
/-! MpF: and, or, not, conditionals; methods, makings; statements. -/
namespace MP
open PySem PySem.Spec
open PyProof.Rows hiding St
open L2

section
variable {X : Cx} {j : Nat} {a b c e o : Expr} {rest : List Expr} {pos apos p : Pos} {es : List Expr}
def wAnd (wa wb : WT) : WT := fun sl h Q => wa sl h fun c h1 => if c = true then wb sl h1 Q else Q false h1
def wOr (wa wb : WT) : WT := fun sl h Q => wa sl h fun c h1 => if c = true then Q true h1 else wb sl h1 Q
def wNot (wa : WT) : WT := fun sl h Q => wa sl h fun c h1 => Q (!c) h1
theorem lw_and1 {w : WT} (ha : LT X a w) : LW X (.BoolOp .And [a] pos) w := pw_and1 ha
theorem lw_or1 {w : WT} (ha : LT X a w) : LW X (.BoolOp .Or [a] pos) w := pw_or1 ha
theorem lw_and {wa wb : WT} (ha : LT X a wa) (hb : LW X (.BoolOp .And (b :: rest) pos) wb) : LW X (.BoolOp .And (a :: b :: rest) pos) (wAnd wa wb) := (pw_and ha hb).imp fun σ H Q z => by
  obtain ⟨sl, h, io, q, r, z, k⟩ := z
  refine tT.go r z fun c h1 z1 i1 H1 x1 r1 => ?_
  cases c with
  | true => exact tT.go r1 z1 fun d h2 z2 i2 H2 x2 r2 => k _ _ z2 i2 H2 (x1.trans x2) r2.rh
  | false => exact k _ _ z1 i1 H1 x1 r1.rh
theorem lw_or {wa wb : WT} (ha : LT X a wa) (hb : LW X (.BoolOp .Or (b :: rest) pos) wb) : LW X (.BoolOp .Or (a :: b :: rest) pos) (wOr wa wb) := (pw_or ha hb).imp fun σ H Q z => by
  obtain ⟨sl, h, io, q, r, z, k⟩ := z
  refine tT.go r z fun c h1 z1 i1 H1 x1 r1 => ?_
  cases c with
  | false => exact tT.go r1 z1 fun d h2 z2 i2 H2 x2 r2 => k _ _ z2 i2 H2 (x1.trans x2) r2.rh
  | true => exact k _ _ z1 i1 H1 x1 r1.rh
theorem lt_w {w : WT} (h : LW X a w) : LT X a w := h.pt
theorem lt_not {wa : WT} (ha : LT X a wa) : LT X (.UnaryOp .Not a pos) (wNot wa) := (pt_not ha).imp fun σ H Q z => by
  obtain ⟨sl, h, io, q, r, z, k⟩ := z
  exact tT.go r z fun c h1 z1 i1 H1 x1 r1 => k _ _ z1 i1 H1 x1 r1.rh
/-! values -/
def wAndV (wa wb : WE) : WE := fun sl h Q => wa sl h fun x h1 => ∃ b, truD h1 x = some b ∧ if b = true then wb sl h1 Q else Q x h1
def wOrV (wa wb : WE) : WE := fun sl h Q => wa sl h fun x h1 => ∃ b, truD h1 x = some b ∧ if b = true then Q x h1 else wb sl h1 Q
def wNotV (wa : WE) : WE := fun sl h Q => wa sl h fun x h1 => ∃ b, truD h1 x = some b ∧ Q (.bl (!b)) h1
theorem le_one {op : BoolOp} {w : WE} (ha : LE X a w) : LE X (.BoolOp op [a] pos) w := pe_one ha
theorem le_and {wa wb : WE} (ha : LE X a wa) (hb : LE X (.BoolOp .And (b :: rest) pos) wb) : LE X (.BoolOp .And (a :: b :: rest) pos) (wAndV wa wb) := (pe_andT ha hb).imp fun σ H Q z => by
  obtain ⟨sl, h, io, q, r, z, k⟩ := z
  refine tE.go r z fun x h1 z1 u i1 H1 x1 r1 d1 => ?_
  obtain ⟨b, e, z2⟩ := z1
  refine ⟨b, tru_of r1.rh d1 e, ?_⟩
  cases b with
  | true => exact tE.go r1 z2 fun d h2 z3 v i2 H2 x2 r2 d2 => k _ _ z3 v i2 H2 (x1.trans x2) r2.rh d2
  | false => exact k _ _ z2 _ i1 H1 x1 r1.rh d1
theorem le_or {wa wb : WE} (ha : LE X a wa) (hb : LE X (.BoolOp .Or (b :: rest) pos) wb) : LE X (.BoolOp .Or (a :: b :: rest) pos) (wOrV wa wb) := (pe_orT ha hb).imp fun σ H Q z => by
  obtain ⟨sl, h, io, q, r, z, k⟩ := z
  refine tE.go r z fun x h1 z1 u i1 H1 x1 r1 d1 => ?_
  obtain ⟨b, e, z2⟩ := z1
  refine ⟨b, tru_of r1.rh d1 e, ?_⟩
  cases b with
  | false => exact tE.go r1 z2 fun d h2 z3 v i2 H2 x2 r2 d2 => k _ _ z3 v i2 H2 (x1.trans x2) r2.rh d2
  | true => exact k _ _ z2 _ i1 H1 x1 r1.rh d1
theorem le_not {wa : WE} (ha : LE X a wa) : LE X (.UnaryOp .Not a pos) (wNotV wa) := (pe_notT ha).imp fun σ H Q z => by
  obtain ⟨sl, h, io, q, r, z, k⟩ := z
  refine tE.go r z fun x h1 z1 u i1 H1 x1 r1 d1 => ?_
  obtain ⟨b, e, z2⟩ := z1
  exact ⟨b, tru_of r1.rh d1 e, k _ _ z2 _ i1 H1 x1 r1.rh (.bl _)⟩
def wNegV (wa : WE) : WE := fun sl h Q => wa sl h fun x h1 => ∃ i, x = .int i ∧ Q (.int (-i)) h1
theorem le_neg {wa : WE} (ha : LE X a wa) : LE X (.UnaryOp .USub a pos) (wNegV wa) := (pe_un un_neg ha).imp fun σ H Q z => by
  obtain ⟨sl, h, io, q, r, z, k⟩ := z
  refine tE.go r z fun x h1 z1 u i1 H1 x1 r1 d1 => ?_
  obtain ⟨i, rfl, z2⟩ := z1
  cases d1
  exact ⟨i, rfl, k _ _ z2 _ i1 H1 x1 r1.rh (.int _)⟩
def wIf (wc : WT) (wa wb : WE) : WE := fun sl h Q => wc sl h fun c h1 => if c = true then wa sl h1 Q else wb sl h1 Q
theorem le_if {wc : WT} {wa wb : WE} (hc : LT X c wc) (ha : LE X a wa) (hb : LE X b wb) : LE X (.IfExp c a b pos) (wIf wc wa wb) := (pe_ifExp hc ha hb).imp fun σ H Q z => by
  obtain ⟨sl, h, io, q, r, z, k⟩ := z
  refine tT.go r z fun c h1 z1 i1 H1 x1 r1 => ?_
  cases c with
  | true => exact tE.go r1 z1 fun d h2 z2 v i2 H2 x2 r2 d2 => k _ _ z2 v i2 H2 (x1.trans x2) r2.rh d2
  | false => exact tE.go r1 z1 fun d h2 z2 v i2 H2 x2 r2 d2 => k _ _ z2 v i2 H2 (x1.trans x2) r2.rh d2

/-! ### methods -/
variable {k n : Nat} {cn m x : Str} {sp : SpD}
def wMeth (cn m : Str) (sp : SpD) (wo : WE) (wa : WA) : WE := fun sl h Q => wo sl h fun x h1 => (∃ n fs, x = .ref n ∧ h1[n]? = some (.ins cn fs) ∧ fs.lookup m = none) ∧ wa sl h1 fun ds h2 => sp (x :: ds) h2 Q
theorem le_meth {pl : Sem Bool} {wo : WE} {wa : WA} (M : MtD X.prog X.w X.K X.mg X.base k cn m n sp) (hr : Room j X.A) (hk : k ≤ j) (hgd : X.A.guards = some []) (ho : LE X o wo) (ha : LA X (e :: es) wa)
    (hst : starEach (e :: es) X.env = (false, eval e X.env) :: starEach es X.env := by rfl) (hpl : (backTo pos (starEach es X.env)).any (·.1) = false := by rfl)
    (ht : eval (.Call (.Attribute o m apos) (e :: es) [] pos) X.env = (do
      let ov ← eval o X.env
      standAt apos.atName
      let (f, first) ← holding [ov] (getMethod ov m pl)
      callWith pos f first (backTo pos (starEach (e :: es) X.env)) (backToKw pos (keywordEach [] X.env))) := by rfl) :
    LE X (.Call (.Attribute o m apos) (e :: es) [] pos) (wMeth cn m sp wo wa) := by
  obtain ⟨⟨C, f, fd, ps, hC, cl, me, G, hb, hn⟩, ar⟩ := M
  refine ⟨fun pins s σ H Q I z => ?_⟩
  obtain ⟨sl, h, io, q, r, z, kn⟩ := z
  refine PySem.W.methodCall_KW (pl := pl) (thn (ho.run pins s σ H (fun x H1 => ∃ a dx fs, x = .ref a ∧ H1 a = some (.ins C dx fs) ∧ fs.lookup m = none ∧ tA X.K X.mg wa σ H1 fun vs H2 => spD X.K X.mg n sp ((x :: vs) ++ []) H2 Q E0) I
    (tE.go r z fun x h1 z1 u i1 H1 x1 r1 d1 => ?_)) fun u s1 ⟨x, H1, I1, rx, a, dx, fs, ex, ea, l, q⟩ => ?_) ht
  · obtain ⟨⟨p, fs, rfl, e1, e2⟩, z2⟩ := z1
    cases d1 with
    | @ref _ a i =>
      obtain ⟨C', dx, gs, m1, m2, m3, fr⟩ := r1.rh.cell p _ a e1 i
      rw [hC] at m1; cases m1
      have ro := fr.lookup (f := m)
      rw [e2] at ro
      refine ⟨a, dx, gs, rfl, m2, ?_, tA.go r1 z2 fun ds h2 z3 vs i2 H2 x2 r2 d2 => ?_⟩
      · cases q2 : gs.lookup m with
        | none => rfl
        | some v => rw [q2] at ro; exact ro.elim
      · rw [List.append_nil]
        have d3 : RDs i2 H2 (.ref p :: ds) (V.ref a :: vs) := .cons ((RD.ref i).mono x2) d2
        exact ⟨by rw [← d3.length]; exact ar _ _ _ z3, _, h2, i2, _, r2.rh, d3, z3, kn.on (x1.trans x2)⟩
  · subst ex
    obtain rfl : u = Value.ref a := rx
    refine getmeth_ok I1 ea cl me l ?_
    refine PySem.W.callWith_K (first := [.ref a]) (h₀ := X.base) I.ok.mod.kin me.kp (thn (ha.run pos pins s1 σ H1 _ I1 q) fun us s2 ⟨vs, H2, I2, r, q2⟩ => ⟨I2.kIn, ?_⟩) hst hpl
    exact run_g (us := .ref a :: us) (vs := .ref a :: vs) G (hr.mono hk) hgd hb .nil pass0 I2 (.cons rfl r) q2
/-- C(..) -/
def wMake (cn : Str) (sp : SpD) (wa : WA) : WE := fun sl h Q => wa sl h fun ds h1 => sp (.ref h1.length :: ds) (h1 ++ [.ins cn []]) fun v h2 => v = .non ∧ Q (.ref h1.length) h2
theorem run_mk {C f : Addr} {fd : FuncData} {ps : List Str} {sp : Sp} {pins : List (Addr × Obj)} {σ : L2.St} {H : Hp} {s : Shared} {Q : VK} {us : List Value} {vs : List V} (M : Mk X.K C f) (F : FnG X.prog X.w X.K X.mg X.base CX0 k f fd ps sp) (hr : Room (k + 1) X.A) (hgd : X.A.guards = some []) (hb : Binds X.K fd ps [])
    (I : Inv X pins σ H s) (r : Vals vs us)
    (h : ∀ x dx, H x = none → H dx = none → dx ≠ x → sp (.ref x :: vs) (upd (upd H dx (.own x)) x (.ins C dx [])) (fun v H2 => v = .non ∧ Q (.ref x) H2) E0) :
    wpAny (model X.prog X.w) X.A (call (.ref C) us) (EP X pins σ Q) X.xe s := by
  have hq := h (s.heap.objs.size + 1) s.heap.objs.size (I.hok.fresh (Nat.le_succ _)) (I.hok.fresh (Nat.le_refl _)) (Nat.ne_of_lt (Nat.lt_succ_self _))
  have I2 := Inv.made (C := C) I
  have r2 : Vals (V.ref (s.heap.objs.size + 1) :: vs) (Value.ref (s.heap.objs.size + 1) :: us) := .cons rfl r
  have hl : (Value.ref (s.heap.objs.size + 1) :: us ++ []).length = ps.length := by
    have e := r2.length
    rw [F.len _ _ _ _ hq] at e
    rw [List.append_nil]
    exact e.symm
  have hg2 : (X.A.under (.builtin "type.__call__" ⟨.ref C :: us, []⟩)).guards = some [] := by
    simp [Around.under, Code.guards, Code.isGuard, guardIds, hgd]; rfl
  have hb2 := hb _ (Value.ref (s.heap.objs.size + 1) :: us) I2.kIn hl
  rw [List.append_nil] at hb2
  refine wpAny_call (make_map (f := f) I.kIn M.makes M.init (beq_iff_eq.mp M.fn) (codeAny_mono (F.run _ X.stack _ _ ⟨Value.ref (s.heap.objs.size + 1) :: us, []⟩ (Value.ref (s.heap.objs.size + 1) :: us) _ _ E0 (hr.make C us []) hg2
    (I2.env0.make C us []) hb2 r2 hq) fun r s' hq' => ?_))
  cases r with
  | error e => exact hq'.elim
  | ok fl =>
    cases fl with
    | ret u =>
      obtain ⟨v, H', I3, rv, ev, q3⟩ := I2.after hq'
      subst ev
      exact ⟨rv, ⟨V.ref (s.heap.objs.size + 1), H', I3, rfl, q3⟩⟩
    | next => exact False.elim hq'
    | brk => exact False.elim hq'
    | cont => exact False.elim hq'
theorem le_make {wa : WA} (M : MkD X.prog X.w X.K X.mg X.base k cn n sp) (hr : Room j X.A) (hk : k + 1 ≤ j) (hgd : X.A.guards = some []) (hg : Gl X cn) (ha : LA X (e :: es) wa) (hdb : (cn == ("__debug__" : Str)) = false := by decide)
    (he : starEach (e :: es) X.env = (false, eval e X.env) :: starEach es X.env := by rfl) (hpl : (backTo pos (starEach es X.env)).any (·.1) = false := by rfl) : LE X (.Call (.Name cn p) (e :: es) [] pos) (wMake cn sp wa) := by
  obtain ⟨⟨C, f, fd, ps, hC, mk, G, hb, hn⟩, ar⟩ := M
  refine ⟨fun pins s σ H Q I z => ?_⟩
  obtain ⟨sl, h, io, q, r, z, kn⟩ := z
  refine wpAny_Call_Name_kw (ld_glob I hg hC ?_ hdb)
  refine PySem.W.callWith_K (h₀ := X.base) I.ok.mod.kin mk.kp (thn (ha.run pos pins s σ H (fun vs H1 => ∀ x dx, H1 x = none → H1 dx = none → dx ≠ x → spD X.K X.mg n sp (.ref x :: vs) (upd (upd H1 dx (.own x)) x (.ins C dx [])) (fun v H2 => v = .non ∧ Q (.ref x) H2) E0) I
    (tA.go r z fun ds h1 z1 vs i1 H1 x1 r1 d1 => ?_)) fun us s1 ⟨vs, H1, I1, rv, q1⟩ => ⟨I1.kIn, ?_⟩) he hpl
  · intro y dx hy hdx hne
    have xa : Ex i1 i1 H1 (upd H1 dx (.own y)) := ex_upd hdx
    have ra : RH X.K X.mg i1 (upd H1 dx (.own y)) h1 := r1.rh.new hdx
    have hy2 : upd H1 dx (.own y) y = none := by rw [upd_ne (Ne.symm hne)]; exact hy
    have xb : Ex i1 (i1 ++ [y]) (upd H1 dx (.own y)) (upd (upd H1 dx (.own y)) y (.ins C dx [])) := ex_alloc hy2
    have rb := ra.alloc (o := .ins C dx []) (c := .ins cn []) hy2 ⟨C, dx, [], hC, upd_same, by rw [upd_ne hne, upd_same], .nil⟩
    have x2 := xa.trans xb
    have d3 : RDs (i1 ++ [y]) (upd (upd H1 dx (.own y)) y (.ins C dx [])) (.ref h1.length :: ds) (V.ref y :: vs) := .cons (.ref (push_at r1.rh y)) (d1.mono x2)
    refine ⟨by rw [← d3.length]; exact ar _ _ _ z1, _, _, _, _, rb, d3, z1, fun d h' z3 v i3 H3 x3 r3 d4 => ?_⟩
    obtain ⟨rfl, z4⟩ := z3
    cases d4
    exact ⟨rfl, kn _ _ z4 _ i3 H3 ((x1.trans x2).trans x3) r3 ((RD.ref (push_at r1.rh y)).mono x3)⟩
  · exact run_mk mk G (hr.mono hk) hgd hb I1 rv q1
end

/-! ### statements -/
section
variable {X : Cx} {j : Nat} {a b c e o : Expr} {pos pos' : Pos} {st : Stmt} {rest : List Stmt} {as bs : List Stmt}
def wNext : WS := fun E sl h => E.nx sl h
def wSeq (u v : WS) : WS := fun E sl h => u { E with nx := v E } sl h
theorem lss_nil : LSs X [] wNext := pss_nil.imp fun D σ H z => by
  obtain ⟨sl, h, io, q, r, z, k⟩ := z
  exact k.nx _ _ z σ io H .refl r
theorem lss_cons {u v : WS} (h1 : LS X st u) (h2 : LSs X rest v) : LSs X (st :: rest) (wSeq u v) := (pss_cons h1 h2).imp fun D σ H z => by
  obtain ⟨sl, h, io, q, r, z, k⟩ := z
  exact ⟨sl, h, io, { q with nx := v q }, r, z, ⟨fun sl' h' z' σ' io' H' x r' => ⟨sl', h', io', q, r', z', k.on x⟩, k.rt, k.bk, k.ct⟩⟩
theorem lss_one {u : WS} (h1 : LS X st u) : LSs X [st] u := pss_one h1
def wExpr (w : WE) : WS := fun E sl h => w sl h fun _ h1 => E.nx sl h1
theorem ls_expr {w : WE} (he : LE X e w) (hs : swapsWith e none pos.line X.env = pure false := by rfl) : LS X (.Expr e pos) (wExpr w) := (ps_expr he hs).imp fun D σ H z => by
  obtain ⟨sl, h, io, q, r, z, k⟩ := z
  exact tE.go r z fun x h1 z1 u i1 H1 x1 r1 d1 => k.nx _ _ z1 σ i1 H1 x1 r1
def wRet (w : WE) : WS := fun E sl h => w sl h E.rt
theorem ls_ret {w : WE} (he : LE X e w) : LS X (.Return (some e) pos) (wRet w) := (ps_ret he).imp fun D σ H z => by
  obtain ⟨sl, h, io, q, r, z, k⟩ := z
  exact tE.go r z fun x h1 z1 u i1 H1 x1 r1 d1 => k.rt _ _ z1 u i1 H1 x1 r1.rh d1
def wIfS (wc : WT) (u v : WS) : WS := fun E sl h => wc sl h fun c h1 => if c = true then u E sl h1 else v E sl h1
theorem ls_if {wc : WT} {u v : WS} (hc : LT X c wc) (ha : LSs X as u) (hb : LSs X bs v) : LS X (.If c as bs pos) (wIfS wc u v) := (ps_if hc ha hb).imp fun D σ H z => by
  obtain ⟨sl, h, io, q, r, z, k⟩ := z
  refine tT.go r z fun c h1 z1 i1 H1 x1 r1 => ?_
  cases c with
  | true => exact ⟨sl, h1, i1, q, r1, z1, k.on x1⟩
  | false => exact ⟨sl, h1, i1, q, r1, z1, k.on x1⟩
def wNever : WS := fun _ _ _ => False
theorem ls_never : LS X st wNever := ps_never.imp fun D σ H z => by
  obtain ⟨sl, h, io, q, r, z, k⟩ := z
  exact z.elim
theorem lss_never {sts : List Stmt} : LSs X sts wNever := pss_never.imp fun D σ H z => by
  obtain ⟨sl, h, io, q, r, z, k⟩ := z
  exact z.elim

/-! targets -/
abbrev WG := D → Sd → Hd → (Sd → Hd → Prop) → Prop
abbrev WGs := List D → Sd → Hd → (Sd → Hd → Prop) → Prop
def tG (K : PySem.W.Frag) (mg : Str → Option Value) (w : WG) : TG := fun v σ H Q => ∃ d sl h io q, Rel K mg sl σ io H h ∧ RD io H d v ∧ w d sl h q ∧ KnS K mg io H q Q
def tGs (K : PySem.W.Frag) (mg : Str → Option Value) (w : WGs) : TGs := fun v σ H Q => ∃ d sl h io q, Rel K mg sl σ io H h ∧ RDs io H d v ∧ w d sl h q ∧ KnS K mg io H q Q
abbrev LG (X : Cx) (e : Expr) (w : WG) : Prop := PG X e (tG X.K X.mg w)
abbrev LGs (X : Cx) (e : List Expr) (w : WGs) : Prop := PGs X e (tGs X.K X.mg w)
theorem _root_.L2.PG.imp {e : Expr} {t t' : TG} (h : PG X e t) (i : ∀ v σ H Q, t' v σ H Q → t v σ H Q) : PG X e t' := by
  obtain ⟨run⟩ := h
  exact ⟨fun pins s σ H v u Q I r z => run pins s σ H v u Q I r (i v σ H Q z)⟩
end
end MP

set_option Elab.async false
set_option linter.all false
set_option maxRecDepth 100000
set_option maxHeartbeats 2000000
/-! MpG: targets, assignments, stores, while. -/
namespace MP
open PySem PySem.Spec
open PyProof.Rows hiding St
open L2

section
variable {X : Cx} {j : Nat} {a b c e o ie : Expr} {pos pos' : Pos} {es : List Expr}
variable {K : PySem.W.Frag} {mg : Str → Option Value} {io io' : List Addr} {H H' : Hp} {h h' : Hd} {sl : Sd} {σ : L2.St}
theorem Rel.set {d : D} {v : V} (r : Rel K mg sl σ io H h) (i : Nat) (rd : RD io H d v) : Rel K mg (sl.set i (some d)) (σ.set i (some v)) io H h := by
  refine ⟨r.rh, by simp [r.len], fun k d' e => ?_⟩
  by_cases z : i = k
  · subst z
    have hl : i < sl.length := by
      have := (List.getElem?_eq_some_iff.mp e).1
      simpa using this
    rw [List.getElem?_set_self hl] at e
    cases e
    exact ⟨v, by rw [List.getElem?_set_self (by rw [← r.len]; exact hl)], rd⟩
  · rw [List.getElem?_set_ne z] at e
    obtain ⟨w, e1, e2⟩ := r.slot k d' e
    exact ⟨w, by rw [List.getElem?_set_ne z]; exact e1, e2⟩
theorem _root_.L2.PGs.imp {e : List Expr} {t t' : TGs} (h : PGs X e t) (i : ∀ v σ H Q, t' v σ H Q → t v σ H Q) : PGs X e t' := by
  obtain ⟨run⟩ := h
  exact ⟨fun pins s σ H v u Q I r z => run pins s σ H v u Q I r (i v σ H Q z)⟩
def wNm (i : Nat) : WG := fun d sl h Q => Q (sl.set i (some d)) h
theorem lg_name {i : Nat} {x : Str} (hN : X.N.Nodup) (hi : X.N[i]? = some x) (hx : Loc X.env.scope x) (hf : X.fn x = true ∨ X.env.scope.names.lookup x = some .local) : LG X (.Name x pos) (wNm i) := (pg_name hN hi hx hf).imp fun v σ H Q z => by
  obtain ⟨d, sl, h, io, q, r, rd, z, k⟩ := z
  exact k _ _ z _ _ _ .refl (r.set i rd)
def wG0 : WGs := fun ds sl h Q => ds = [] ∧ Q sl h
def wG1 (w : WG) (u : WGs) : WGs := fun ds sl h Q => ∃ d r, ds = d :: r ∧ w d sl h fun sl1 h1 => u r sl1 h1 Q
theorem lgs_nil : LGs X [] wG0 := pgs_nil.imp fun v σ H Q z => by
  obtain ⟨d, sl, h, io, q, r, rd, ⟨rfl, z⟩, k⟩ := z
  cases rd
  exact ⟨rfl, k _ _ z _ _ _ .refl r⟩
theorem lgs_cons {w : WG} {u : WGs} (h1 : LG X e w) (h2 : LGs X es u) (hs : (assignEach (e :: es) X.env).map (·.2) = assign e X.env :: (assignEach es X.env).map (·.2) := by rfl) : LGs X (e :: es) (wG1 w u) := (pgs_cons h1 h2 hs).imp fun v σ H Q z => by
  obtain ⟨ds, sl, h, io, q, r, rd, ⟨d, dr, rfl, z⟩, k⟩ := z
  cases rd with
  | cons rd rr => exact ⟨_, _, rfl, d, sl, h, io, _, r, rd, z, fun sl1 h1 z1 σ1 io1 H1 x1 r1 => ⟨dr, sl1, h1, io1, q, r1, rr.mono x1, z1, k.on x1⟩⟩
def wGT (n : Nat) (u : WGs) : WG := fun d sl h Q => ∃ ds, d = .tup ds ∧ ds.length = n ∧ u ds sl h Q
theorem lg_tup {k n : Nat} {u : WGs} (hc : X.calm = true) (h : LGs X es u) (hn : (assignEach es X.env).length = n := by rfl) (hst : (assignEach es X.env).findIdx? (·.1) = none := by rfl) : LG X (.Tuple es k pos) (wGT n u) := (pg_tup hc h hn hst).imp fun v σ H Q z => by
  obtain ⟨d, sl, h, io, q, r, rd, ⟨ds, rfl, hl, z⟩, k⟩ := z
  cases rd with
  | tup ha ra => exact ⟨_, _, rfl, SqT.of ha, by rw [← ra.length]; exact hl, ds, sl, h, io, q, r, ra, z, k⟩

/-! stores o[i] = v -/
def SetS (X : Cx) : TSet := fun o i v H Q => ∃ r, PSet X r ∧ r o i v H Q
theorem setS : PSet X (SetS X) := by
  intro pins s σ H o i v ov iv u Q I ro ri rv h
  obtain ⟨r, hr, z⟩ := h
  exact hr pins s σ H o i v ov iv u Q I ro ri rv z
def oSet (o i v : D) (h : Hd) (Q : Hd → Prop) : Prop := match o with
  | .ref n => match h[n]? with
    | some (.lst xs) => ∃ k j, i = .int k ∧ ixN xs.length k = some j ∧ Q (h.set n (.lst (xs.set j v)))
    | some (.dct t false kvs) => keyOk t i = true ∧ kvs.length < sizeLine ∧ Q (h.set n (.dct t false (putD kvs i v)))
    | _ => False
  | _ => False
theorem setL (hr : Room j X.A) {o i v : D} {ov iv u : V} {q : Hd → Prop} {Q : Hp → Prop} (rh : RH X.K X.mg io H h) (ro : RD io H o ov) (ri : RD io H i iv) (rv : RD io H v u) (z : oSet o i v h q)
    (k : ∀ h', q h' → ∀ io' H', Ex io io' H H' → RH X.K X.mg io' H' h' → Q H') : SetS X ov iv u H Q := by
  cases ro with
  | @ref n a p =>
    simp only [oSet] at z
    split at z
    · rename_i xs e
      obtain ⟨kk, jj, rfl, hj, z⟩ := z
      obtain ⟨vs, f, r⟩ := rh.lst e p
      cases ri
      obtain ⟨x, rh2⟩ := rh.write (o := .lst (vs.set jj u)) (c' := .lst (xs.set jj v)) p f (fun _ z => nomatch z) (fun _ _ z => nomatch z) (fun _ z => nomatch z) fun ex => ⟨_, upd_same, (r.mono ex).set (rv.mono ex) jj⟩
      exact ⟨_, set_list, a, vs, kk, jj, rfl, rfl, f, by rw [← r.length]; exact hj, k _ z _ _ x rh2⟩
    · rename_i t kvs e
      obtain ⟨hk, hl, z⟩ := z
      obtain ⟨H2, dp, x, rh2⟩ := dput_rel rh e p hk ri rv hl
      exact ⟨_, set_dict (hu_of hr), a, H2, rfl, dp, k _ z _ _ x rh2⟩
    · exact z.elim
  | _ => exact z.elim
def wSub (wo wi : WE) : WG := fun d sl h Q => wo sl h fun o h1 => wi sl h1 fun i h2 => oSet o i d h2 fun h3 => Q sl h3
theorem lg_sub {wo wi : WE} (hr : Room j X.A) (ho : LE X o wo) (hi : LE X ie wi)
    (ha : ∀ v, assign (.Subscript o ie pos) X.env v = (do
      let ov ← holding [v] (eval o X.env)
      let iv ← holding [v, ov] (eval ie X.env)
      standAt pos
      holding [v, ov, iv] (setItem ov iv v)
      release [v, ov, iv] []) := by intro _; rfl) : LG X (.Subscript o ie pos) (wSub wo wi) := (pg_sub ho hi setS ha).imp fun v σ H Q z => by
  obtain ⟨d, sl, h, io, q, r, rd, z, k⟩ := z
  refine tE.go r z fun x h1 z1 u i1 H1 x1 r1 d1 => ?_
  refine tE.go r1 z1 fun y h2 z2 u2 i2 H2 x2 r2 d2 => ?_
  exact setL hr r2.rh (d1.mono x2) d2 ((rd.mono x1).mono x2) z2 fun h3 z3 i3 H3 x3 rh3 => k _ _ z3 _ _ _ ((x1.trans x2).trans x3) (r2.on x3 rh3)

/-! assignments -/
def wAsg (w : WE) (g : WG) : WS := fun E sl h => w sl h fun d h1 => g d sl h1 E.nx
theorem ls_asg {w : WE} {g : WG} (he : LE X e w) (hg : LG X a g) (hs : swapsWithSole [a] e pos.line X.env = pure false := by rfl) (hw : swappedStores [a] e X.env = pure none := by rfl)
    (h1 : (assignEach [a] X.env).map (·.2) = [assign a X.env] := by rfl) : LS X (.Assign [a] e pos) (wAsg w g) := (ps_asg he hg hs hw h1).imp fun D σ H z => by
  obtain ⟨sl, h, io, q, r, z, k⟩ := z
  exact tE.go r z fun x h1 z1 u i1 H1 x1 r1 d1 => ⟨x, sl, h1, i1, _, r1, d1, z1, k.nx.on x1⟩
theorem ls_set {i : Nat} {x : Str} {w : WE} (hN : X.N.Nodup) (hi : X.N[i]? = some x) (hx : Loc X.env.scope x) (he : LE X e w) (hs : swapsWith e (some (.Name x pos')) pos.line X.env = pure false) (hf : X.fn x = true ∨ X.env.scope.names.lookup x = some .local) :
    LS X (.Assign [.Name x pos'] e pos) (wAsg w (wNm i)) := (ps_set hN hi hx he hs hf).imp fun D σ H z => by
  obtain ⟨sl, h, io, q, r, z, k⟩ := z
  exact tE.go r z fun x h1 z1 u i1 H1 x1 r1 d1 => k.nx _ _ z1 _ _ _ x1 (r1.set i d1)
/-- a, b = x, y -/
def wPar (i k : Nat) (wa : WA) : WS := fun E sl h => wa sl h fun ds h1 => ∃ d e, ds = [d, e] ∧ E.nx ((sl.set i (some d)).set k (some e)) h1
theorem ls_par {i k : Nat} {x y : Str} {a b : Expr} {wa : WA} {px py pt : Pos} {kt k2 pt2} (hc : X.calm = true) (hN : X.N.Nodup) (hi : X.N[i]? = some x) (hj : X.N[k]? = some y) (hij : i ≠ k)
    (hx : X.env.scope.names.lookup x = some .local) (hy : X.env.scope.names.lookup y = some .local) (ha : LA X [a, b] wa)
    (hw : swappedStores [.Tuple [.Name x px, .Name y py] kt pt] (.Tuple [a, b] k2 pt2) X.env = pure (some [x, y]))
    (hs : swapsWithSole [.Tuple [.Name x px, .Name y py] kt pt] (.Tuple [a, b] k2 pt2) pos.line X.env = pure false := by rfl) :
    LS X (.Assign [.Tuple [.Name x px, .Name y py] kt pt] (.Tuple [a, b] k2 pt2) pos) (wPar i k wa) := (ps_par hc hN hi hj hij hx hy ha hw hs).imp fun D σ H z => by
  obtain ⟨sl, h, io, q, r, z, kn⟩ := z
  refine tA.go r z fun ds h1 z1 vs i1 H1 x1 r1 d1 => ?_
  obtain ⟨d, e, rfl, z1⟩ := z1
  cases d1 with
  | cons p1 q1 => cases q1 with
    | cons p2 q2 =>
      cases q2
      exact ⟨_, _, rfl, kn.nx _ _ z1 _ _ _ x1 ((r1.set i p1).set k p2)⟩
def wPar3 (i k l : Nat) (wa : WA) : WS := fun E sl h => wa sl h fun ds h1 => ∃ d e f, ds = [d, e, f] ∧ E.nx (((sl.set i (some d)).set k (some e)).set l (some f)) h1
theorem ls_par3 {i k l : Nat} {x y z : Str} {a b c : Expr} {wa : WA} {px py pz pt pos : Pos} {kt k2 pt2} (hc : X.calm = true) (hN : X.N.Nodup) (hi : X.N[i]? = some x) (hj : X.N[k]? = some y) (hl : X.N[l]? = some z) (hij : i ≠ k) (hil : i ≠ l) (hjl : k ≠ l)
    (hx : X.env.scope.names.lookup x = some .local) (hy : X.env.scope.names.lookup y = some .local) (hz : X.env.scope.names.lookup z = some .local) (ha : LA X [a, b, c] wa)
    (hw : swappedStores [.Tuple [.Name x px, .Name y py, .Name z pz] kt pt] (.Tuple [a, b, c] k2 pt2) X.env = pure (some [x, y, z]))
    (hs : swapsWithSole [.Tuple [.Name x px, .Name y py, .Name z pz] kt pt] (.Tuple [a, b, c] k2 pt2) pos.line X.env = pure false := by rfl) :
    LS X (.Assign [.Tuple [.Name x px, .Name y py, .Name z pz] kt pt] (.Tuple [a, b, c] k2 pt2) pos) (wPar3 i k l wa) := (ps_par3 hc hN hi hj hl hij hil hjl hx hy hz ha hw hs).imp fun D σ H z => by
  obtain ⟨sl, h, io, q, r, z, kn⟩ := z
  refine tA.go r z fun ds h1 z1 vs i1 H1 x1 r1 d1 => ?_
  obtain ⟨d, e, f, rfl, z1⟩ := z1
  cases d1 with
  | cons p1 q1 => cases q1 with
    | cons p2 q2 => cases q2 with
      | cons p3 q3 =>
        cases q3
        exact ⟨_, _, _, rfl, kn.nx _ _ z1 _ _ _ x1 (((r1.set i p1).set k p2).set l p3)⟩
/-- name += e on integers -/
def wAug (i : Nat) (w : WE) : WS := fun E sl h => ∃ m, sl[i]? = some (some (.int m)) ∧ w sl h fun d h1 => ∃ n, d = .int n ∧ E.nx (sl.set i (some (.int (m + n)))) h1
theorem ls_aug {i : Nat} {x : Str} {w : WE} (hN : X.N.Nodup) (hi : X.N[i]? = some x) (hx : Loc X.env.scope x) (he : LE X e w) (hf : X.fn x = true ∨ X.env.scope.names.lookup x = some .local) :
    LS X (.AugAssign (.Name x pos') .Add e pos) (wAug i w) := (ps_aug hN hi hx he ip_add hf).imp fun D σ H z => by
  obtain ⟨sl, h, io, q, r, ⟨m, e1, z⟩, kn⟩ := z
  obtain ⟨v, f1, f2⟩ := r.slot i _ e1
  cases f2
  refine ⟨_, f1, tE.go r z fun d h1 z1 u i1 H1 x1 r1 d1 => ?_⟩
  obtain ⟨n, rfl, z1⟩ := z1
  cases d1
  exact ⟨m, n, rfl, rfl, kn.nx _ _ z1 _ _ _ x1 (r1.set i (.int _))⟩

/-! fields -/
def putFD (f : Str) (d : D) : List (Str × D) → List (Str × D)
  | [] => [(f, d)]
  | (g, x) :: r => if g = f then (g, d) :: r else (g, x) :: putFD f d r
theorem FSs.put {f : Str} {d : D} {v : V} (rd : RD io H d v) : ∀ {l : List (Str × D)} {m : List (Str × V)}, FSs io H l m → FSs io H (putFD f d l) (putF f v m)
  | _, _, .nil => .cons rd .nil
  | _, _, @FSs.cons _ _ g d' v' l m h r => by
    unfold putFD putF
    by_cases e : g = f
    · rw [if_pos e, if_pos e]; exact .cons rd r
    · rw [if_neg e, if_neg e]; exact .cons h (FSs.put rd r)
theorem FSs.length : ∀ {l : List (Str × D)} {m : List (Str × V)}, FSs io H l m → l.length = m.length
  | _, _, .nil => rfl
  | _, _, .cons _ r => by simp [FSs.length r]
def wFldS (cs : List Str) (f : Str) (wo wv : WE) : WS := fun E sl h => wv sl h fun d h1 => wo sl h1 fun o h2 => ∃ n c fs, o = .ref n ∧ h2[n]? = some (.ins c fs) ∧ hasF cs c = true ∧ fs.length < 1000 ∧ E.nx sl (h2.set n (.ins c (putFD f d fs)))
theorem ls_fld {cs : List Str} {f : Str} {wo wv : WE} (T : ∀ x ∈ cs, Fl X.K X.mg x f) (ho : LE X o wo) (hv : LE X e wv) (hs : swapsWith e (some (.Attribute o f pos')) pos.line X.env = pure false) : LS X (.Assign [.Attribute o f pos'] e pos) (wFldS cs f wo wv) := (ps_fld ho hv hs).imp fun D σ H z => by
  obtain ⟨sl, h, io, q, r, z, k⟩ := z
  refine tE.go r z fun d h1 z1 u i1 H1 x1 r1 d1 => ?_
  refine tE.go r1 z1 fun y h2 z2 u2 i2 H2 x2 r2 d2 => ?_
  obtain ⟨n, c, fs, rfl, e1, hc, hl, z2⟩ := z2
  cases d2 with
  | @ref _ a p =>
    obtain ⟨C, dx, gs, m1, m2, m3, fr⟩ := r2.rh.cell n _ a e1 p
    obtain ⟨t1, t2⟩ := fl_of T hc C m1
    obtain ⟨x3, rh3⟩ := r2.rh.write (o := .ins C dx (putF f u gs)) (c' := .ins c (putFD f d fs)) p m2 (fun _ z => nomatch z) (fun _ _ z => nomatch z) (fun _ z => nomatch z)
      fun ex => ⟨C, dx, _, m1, upd_same, by rw [upd_ne (fun z => by rw [z, m2] at m3; cases m3)]; exact m3, (fr.mono ex).put ((d1.mono x2).mono ex)⟩
    exact ⟨a, C, dx, gs, rfl, m2, t1, t2, by rw [← fr.length]; exact hl, k.nx _ _ z2 _ _ _ ((x1.trans x2).trans x3) (r2.on x3 rh3)⟩

/-! while -/
def wWhile (wc : WT) (wb : WS) : WS := fun E sl h => ∃ W : Nat → Sd → Hd → Prop, (∃ m, W m sl h) ∧ ∀ m sl h, W m sl h →
  wc sl h fun b h1 => if b = true then ∃ N : Sd → Hd → Prop, (∀ sl' h', N sl' h' → ∃ m', m' < m ∧ W m' sl' h') ∧ wb { E with nx := N, ct := N, bk := E.nx } sl h1 else E.nx sl h1
theorem ls_while {body : List Stmt} {wc : WT} {wb : WS} (hp : PassesOwn (model X.prog X.w) X.A X.env X.xe) (hc : LT X c wc) (hb : LSs X body wb) : LS X (.While c body [] pos) (wWhile wc wb) := (ps_while hp hc hb).imp fun D σ H z => by
  obtain ⟨sl, h, io, q, r, ⟨W, ⟨m0, w0⟩, turn⟩, k⟩ := z
  refine ⟨fun m σ' H' => ∃ sl' h' io', Ex io io' H H' ∧ Rel X.K X.mg sl' σ' io' H' h' ∧ W m sl' h', ⟨m0, sl, h, io, .refl, r, w0⟩, ?_⟩
  rintro m σ1 H1 ⟨sl1, h1, io1, x1, r1, w1⟩
  refine tT.go r1 (turn m sl1 h1 w1) fun b h2 z2 i2 H2 x2 r2 => ?_
  cases b with
  | false =>
    rw [if_neg Bool.false_ne_true] at z2 ⊢
    exact k.nx _ _ z2 _ _ _ (x1.trans x2) r2
  | true =>
    rw [if_pos rfl] at z2 ⊢
    obtain ⟨N, hN, z2⟩ := z2
    refine ⟨fun σ' H' => ∃ sl' h' io', Ex io io' H H' ∧ Rel X.K X.mg sl' σ' io' H' h' ∧ N sl' h', fun σ' H' ⟨sl', h', io', x', r', n'⟩ => ?_, sl1, h2, i2, _, r2, z2, ?_⟩
    · obtain ⟨m', hm, w'⟩ := hN sl' h' n'
      exact ⟨m', hm, sl', h', io', x', r', w'⟩
    · have x12 := x1.trans x2
      exact ⟨fun sl' h' n' σ' io' H' x' r' => ⟨sl', h', io', x12.trans x', r', n'⟩, (k.on x12).rt, (k.on x12).nx, fun sl' h' n' σ' io' H' x' r' => ⟨sl', h', io', x12.trans x', r', n'⟩⟩
end
end MP

set_option Elab.async false
set_option linter.all false
set_option maxRecDepth 100000
set_option maxHeartbeats 2000000
/-! MpH: what is walked; for. -/
namespace MP
open PySem PySem.Spec
open PyProof.Rows hiding St
open L2

/-! ### the items of a dict by tuple keys -/
section
variable {X : Cx} {pins : List (Addr × Obj)} {σ : L2.St} {H : Hp} {s : Shared} {d : Addr} {o : Obj}
theorem _root_.L2.Inv.frzT2 {kvs : List (List Key × V)} (I : L2.Inv X pins σ H s) (h : H d = some (.frz o (.dT kvs))) :
    (d == sysModules) = false ∧ s.heap.get? d = some o ∧ o.ExactDict ∧ ∃ (es : Array DictEntry) (ep : Nat), o.data = .dict es ep ∧ es.size = kvs.length ∧
      ∀ (i : Nat) (k : List Key) (v : V), kvs[i]? = some (k, v) → ∃ (en : DictEntry) (q : Addr), es[i]? = some en ∧ en.key = .ref q ∧ H q = some (.tup (k.map kV)) ∧ RelV v en.val := by
  obtain ⟨hd, z, hs, xs, pr, o', es, ep, ho, hx, hdt, he, _⟩ := I.hok d _ h
  rw [hd] at ho
  cases ho
  refine ⟨hs, hd, hx, es, ep, hdt, ?_, fun i k v e => ?_⟩
  · have l1 : es.size = xs.length := size_of_entries he
    have l2 : kvs.length = xs.length := Paired.length pr
    omega
  · obtain ⟨b, hb, e1, e2, e3⟩ := paired_get pr e
    have q := entry_at he i
    rw [hb] at q
    exact ⟨_, b.2.1, q, rfl, e2, e3⟩
end
/-- the pairs, each a new tuple of the key's own tuple and the value -/
def Itit (d : Addr) (o : Obj) (kvs : List (List Key × V)) : It :=
  ⟨fun i H => H d = some (.frz o (.dT kvs)) ∧ i < kvs.length, fun i H x H' => ∃ T k v q, kvs[i]? = some (k, v) ∧ H q = some (.tup (k.map kV)) ∧ x = .ref T ∧ H T = none ∧ H' = upd H T (.tup [.ref q, v]), fun i H => H d = some (.frz o (.dT kvs)) ∧ kvs.length ≤ i⟩
theorem turn_itemsT {P : Program} {w : World} {K : PySem.W.Frag} {d : Addr} {o : Obj} {es : Array DictEntry} {ep : Nat} {kvs : List (List Key × V)} {elts : List Expr} {kk : Nat} {tpos : Pos} (it : Addr) (hod : o.data = .dict es ep) (hes : es.size = kvs.length) :
    Turn P w K (.Tuple elts kk tpos) (Itit d o kvs) [it] it (fun i h => ∃ ok ov, IsItemIter h it d i kvs.length ep ok ov) where
  mem := by simp
  obj := fun i h st b hb => by
    have e : b = it := by simpa using hb
    subst e
    obtain ⟨ok, ov, e⟩ := st
    exact ⟨_, e, fun v z => nomatch z⟩
  keep := fun i h h' st k => let ⟨ok, ov, e⟩ := st; ⟨ok, ov, k it (by simp) _ e⟩
  item := by
    intro X hP hw hK hc i pins s σ H E I hf st hg
    subst hP hw hK
    obtain ⟨hd, hi⟩ := hg
    obtain ⟨hs, hgd, hx, es', ep', hdt, hsz, ent⟩ := I.frzT2 hd
    obtain ⟨rfl, rfl⟩ := dict_ep hod hdt
    obtain ⟨⟨k, v⟩, hkv⟩ : ∃ p, kvs[i]? = some p := ⟨kvs[i], List.getElem?_eq_getElem hi⟩
    obtain ⟨en, q, hen, hkey, hq, rv⟩ := ent i k v hkv
    have hi' : i < es'.size := by rw [hsz]; exact hi
    have hen' : es'[i] = en := by
      rw [Array.getElem?_eq_getElem hi'] at hen
      exact Option.some.inj hen
    obtain ⟨ok, ov, he⟩ := st
    rw [← hsz] at he
    have hlt : it < s.heap.objs.size := Heap.lt_size he
    refine wpAny_pyNext_items_item_raw he ⟨o, hgd, hx, hdt⟩ hi' fun h' ho hT hz hk => ?_
    refine ⟨_, rfl, wpAny_letOwnedTupleGo_items (s := { s with heap := h' }) ho fun h'' he' sb => ?_⟩
    have hT2 : h''.get? s.heap.objs.size = some { cls := .type "tuple", data := .seq #[es'[i].key, es'[i].val] } := (sb.2 _ (Nat.ne_of_gt hlt)).trans hT
    rw [hen', hkey] at hT2
    have new : ObjOk X.prog X.w (upd H s.heap.objs.size (.tup [.ref q, v])) h'' s.heap.objs.size (.tup [.ref q, v]) :=
      ⟨by show 2 ≤ sizeLine; decide, [.ref q, en.val], .cons rfl (.cons rv .nil), ⟨_, hT2, rfl, _, rfl⟩⟩
    have I1 : L2.Inv X pins σ (upd H s.heap.objs.size (.tup [.ref q, v])) { s with heap := h'' } :=
      I.turnedNew (t' := s.toks) (ch := [it]) (fun b ob hb e => (sb.2 b (by simpa using hb)).trans (hk b ob (by simpa using hb) e)) hf (Nat.le_refl _) new
    refine ⟨.ref s.heap.objs.size, _, I1, rfl, ⟨_, k, v, q, hkv, hq, rfl, I.hok.fresh (Nat.le_refl _), rfl⟩, ⟨es'[i].key, es'[i].val, ?_⟩, fun b hb => ?_⟩
    · rw [← hsz]; exact he'
    · have e : b = it := by simpa using hb
      rw [e, upd_ne (Nat.ne_of_lt hlt)]
      exact (hf it (by simp)).1
  done := by
    intro X hP hw hK hc i pins s σ H E I hf st hg
    subst hP hw hK
    obtain ⟨hd, hi⟩ := hg
    obtain ⟨f0, f1, f2, f3, f4, f5⟩ := hf it (by simp)
    obtain ⟨hs, hgd, hx, es', ep', hdt, hsz, ent⟩ := I.frzT2 hd
    obtain ⟨rfl, rfl⟩ := dict_ep hod hdt
    obtain ⟨ok, ov, he⟩ := st
    rw [← hsz] at he
    exact wpAny_pyNext_items_end_raw (I.ok.hd hc) he ⟨o, hgd, hx, hdt⟩ (by omega) fun h' eb => ⟨rfl, I.turned (t' := s.toks) (fun b ob hb e => eb b ob hb e) f0 f1 f3 f4 f5⟩
  self := fun A i s Q E st h => let ⟨_, _, e⟩ := st; PySem.W.kcp_self e h
def iItemsT (td : TE) : TI := fun σ H R => td σ H fun x H1 => ∃ d o kvs, x = .ref d ∧ H1 d = some (.frz o (.dT kvs)) ∧ R (Itit d o kvs) H1
theorem pi_itemsT {X : Cx} {e : Expr} {td : TE} {apos cpos : Pos} {elts : List Expr} {kk : Nat} {tpos : Pos} (he : PE X e td) (hbase : attributeBase e "items" X.env (eval e X.env) = eval e X.env := by rfl) (hline : (apos.endLine == cpos.line) = true := by rfl) :
    PI X (.Tuple elts kk tpos) (.Call (.Attribute e "items" apos) [] [] cpos) (iItemsT td) := by
  refine ⟨fun pins s σ H R I h => ?_⟩
  refine wpAny_Call_method (T := "dict") (id := "dict.items") hbase rfl hline F.plainAttrs_dict F.slot_dict_items F.type_dict_items (thn (he.run pins s σ H _ I h) fun u s1 ⟨x, H1, I1, rx, d, o, kvs, ex, hd, q⟩ => ?_)
  subst ex
  obtain rfl : u = Value.ref d := rx
  obtain ⟨hs, hgd, hx, es, ep, hdt, hsz, ent⟩ := I1.frzT2 hd
  have raw : s1.heap.DictRaw d es ep := ⟨o, hgd, hx, hdt⟩
  refine ⟨raw.typeIs, fun b q' => by cases q'; exact ⟨o, hgd, hx.2.1⟩, ?_⟩
  have I2 : L2.Inv X pins σ H1 { s1 with heap := s1.heap.push { cls := .type "dict_items", data := .fields #[.ref d] } } := I1.kept (t' := s1.toks) fun b ob q => Heap.get?_push_of_some _ q
  have fin : wpAny (model X.prog X.w) X.A (pyIter (.ref s1.heap.objs.size)) (PIE X pins σ (.Tuple elts kk tpos) R) X.xe { s1 with heap := s1.heap.push { cls := .type "dict_items", data := .fields #[.ref d] } } := by
    refine wpAny_pyIter_items_raw (d := d) ⟨_, Heap.get?_push_size _ rfl, rfl, rfl⟩ (raw.at fun o e => Heap.get?_push_of_some _ e) (pi_one (tk := s1.toks) I2 _ (turn_itemsT _ hdt hsz) ⟨.none, .none, ?_⟩ q)
    rw [← hsz]
    exact Heap.get?_push_size _ rfl
  show wpAny _ _ (callWith cpos (.builtin "dict.items") [.ref d] [] []) _ X.xe s1
  exact method_meetsIn F.slot_dict_items F.entry_dict_items rfl (PySem.evalArgs_none ⟨rfl, raw.typeIs, F.args_dict_items_1 _, _, meets_dict_items_raw d hs, ⟨es, ep, raw⟩, fin⟩)

/-! ### locking what an expression gives -/
def tLk (t : TE) : TE := fun σ H Q => t σ H fun x H1 => ∃ d u, x = .ref d ∧ Mut (some u) ∧ ((∃ o, H1 d = some (.frz o u) ∧ Q x H1) ∨ (H1 d = some u ∧ ∀ o, Q x (upd H1 d (.frz o u))))
theorem pe_lk {X : Cx} {e : Expr} {t : TE} (h : PE X e t) : PE X e (tLk t) := by
  refine ⟨fun pins s σ H Q I hw => thn (h.run pins s σ H _ I hw) fun v s1 ⟨x, H1, I1, r, d, u, ex, mu, q⟩ => ?_⟩
  rcases q with ⟨o, _, q⟩ | ⟨e1, q⟩
  · exact ⟨x, H1, I1, r, q⟩
  · obtain ⟨od, I2⟩ := I1.lock e1 mu
    exact ⟨x, _, I2, r, q od⟩

section
variable {X : Cx} {j : Nat} {a b c e o ie tg : Expr} {pos pos' p apos cpos tpos : Pos} {es elts : List Expr} {kk : Nat}
variable {K : PySem.W.Frag} {mg : Str → Option Value} {io io' : List Addr} {H H' : Hp} {h h' : Hd} {sl : Sd} {σ : L2.St}
theorem RH.lk {n : Nat} {d : Addr} {t lk : Bool} {kvs : List (D × D)} (r : RH K mg io H h) (e : h[n]? = some (.dct t lk kvs)) (i : io[n]? = some d) :
    ∃ u, Mut (some u) ∧ ((∃ o, H d = some (.frz o u) ∧ RH K mg io H (h.set n (.dct t true kvs))) ∨ (H d = some u ∧ ∀ o, Ex io io H (upd H d (.frz o u)) ∧ RH K mg io (upd H d (.frz o u)) (h.set n (.dct t true kvs)))) := by
  have c := r.cell n _ d e i
  cases lk with
  | true =>
    have same : h.set n (.dct t true kvs) = h := by
      have hl := (List.getElem?_eq_some_iff.mp e).1
      have := (List.getElem?_eq_some_iff.mp e).2
      rw [← this]; exact List.set_getElem_self hl
    rw [same]
    cases t with
    | true => obtain ⟨ks, f, q⟩ := c.dT; obtain ⟨o, f⟩ := (by simpa [DOb] using f : ∃ o, H d = some (.frz o (.dT ks))); exact ⟨.dT ks, trivial, .inl ⟨o, f, r⟩⟩
    | false => obtain ⟨ks, f, q⟩ := c.dK; obtain ⟨o, f⟩ := (by simpa [DOb] using f : ∃ o, H d = some (.frz o (.dK ks))); exact ⟨.dK ks, trivial, .inl ⟨o, f, r⟩⟩
  | false =>
    cases t with
    | true =>
      obtain ⟨ks, f, q⟩ := c.dT
      have f : H d = some (.dT ks) := by simpa [DOb] using f
      exact ⟨.dT ks, trivial, .inr ⟨f, fun o => r.write (o := .frz o (.dT ks)) (c' := .dct true true kvs) i f (fun _ z => nomatch z) (fun _ _ z => nomatch z) (fun _ z => nomatch z) fun ex => .ofT ⟨ks, by simp [DOb, upd_same], q.mono ex⟩⟩⟩
    | false =>
      obtain ⟨ks, f, q⟩ := c.dK
      have f : H d = some (.dK ks) := by simpa [DOb] using f
      exact ⟨.dK ks, trivial, .inr ⟨f, fun o => r.write (o := .frz o (.dK ks)) (c' := .dct false true kvs) i f (fun _ z => nomatch z) (fun _ _ z => nomatch z) (fun _ z => nomatch z) fun ex => .ofK ⟨ks, by simp [DOb, upd_same], q.mono ex⟩⟩⟩
def wLk (w : WE) : WE := fun sl h Q => w sl h fun x h1 => ∃ n t lk kvs, x = .ref n ∧ h1[n]? = some (.dct t lk kvs) ∧ Q x (h1.set n (.dct t true kvs))
theorem le_lk {w : WE} (he : LE X e w) : LE X e (wLk w) := (pe_lk he).imp fun σ H Q z => by
  obtain ⟨sl, h, io, q, r, z, k⟩ := z
  refine tE.go r z fun x h1 z1 u i1 H1 x1 r1 d1 => ?_
  obtain ⟨n, t, lk, kvs, rfl, e1, z1⟩ := z1
  cases d1 with
  | @ref _ a p =>
    obtain ⟨u, mu, q2⟩ := r1.rh.lk e1 p
    refine ⟨a, u, rfl, mu, ?_⟩
    rcases q2 with ⟨o, f, rh⟩ | ⟨f, g⟩
    · exact .inl ⟨o, f, k _ _ z1 _ _ _ x1 rh (.ref p)⟩
    · exact .inr ⟨f, fun o => k _ _ z1 _ _ _ (x1.trans (g o).1) (g o).2 (.ref p)⟩

/-! ### what is walked -/
/-- at turn i in the heap h: none, no promise; some none, it stops; some (some d), it yields d -/
abbrev ItD := Nat → Hd → Option (Option D)
def RIt (K : PySem.W.Frag) (mg : Str → Option Value) (io : List Addr) (H : Hp) (J : It) (t : ItD) : Prop := ∀ i io' H' h', Ez io io' H H' → RH K mg io' H' h' →
  (t i h' = some none → J.stop i H') ∧ ∀ d, t i h' = some (some d) → J.go i H' ∧ ∀ x H2, J.yld i H' x H2 → Ex io' io' H' H2 ∧ RH K mg io' H2 h' ∧ RD io' H2 d x
abbrev WI := Sd → Hd → (ItD → Hd → Prop) → Prop
def tI (K : PySem.W.Frag) (mg : Str → Option Value) (w : WI) : TI := fun σ H R => ∃ sl h io q, Rel K mg sl σ io H h ∧ w sl h q ∧ ∀ t h', q t h' → ∀ J io' H', Ex io io' H H' → RH K mg io' H' h' → RIt K mg io' H' J t → R J H'
abbrev LI (X : Cx) (tg e : Expr) (w : WI) : Prop := PI X tg e (tI X.K X.mg w)
theorem _root_.L2.PI.imp {t t' : TI} (h : PI X tg e t) (i : ∀ σ H R, t' σ H R → t σ H R) : PI X tg e t' := ⟨fun pins s σ H R I z => h.run pins s σ H R I (i σ H R z)⟩

/-- a fixed row of values -/
def itSeq (xs : List D) : ItD := fun i _ => some xs[i]?
/-- a list as it stands -/
def itLst (n : Nat) : ItD := fun i h => (items h n).map (·[i]?)
def itEnum (n : Nat) : ItD := fun i h => (items h n).map fun xs => (xs[i]?).map fun d => .tup [.int i, d]
def dctOf (h : Hd) (n : Nat) : Option (List (D × D)) := match h[n]? with
  | some (.dct _ true kvs) => some kvs
  | _ => none
def itKeys (n : Nat) : ItD := fun i h => (dctOf h n).map fun kvs => (kvs[i]?).map (·.1)
def itVals (n : Nat) : ItD := fun i h => (dctOf h n).map fun kvs => (kvs[i]?).map (·.2)
def itItems (n : Nat) : ItD := fun i h => (dctOf h n).map fun kvs => (kvs[i]?).map fun p => .tup [p.1, p.2]
def itZip (a b : Nat) : ItD := fun i h => (items h a).bind fun xs => (items h b).map fun ys => (xs[i]?).bind fun x => (ys[i]?).map fun y => .tup [x, y]

theorem rit_tup {a : Addr} {vs : List V} {ds : List D} (ha : H a = some (.tup vs)) (rd : RDs io H ds vs) : RIt K mg io H (Itt K a) (itSeq ds) := by
  intro i io' H' h' x r
  have ha' := x.tup _ _ ha
  have rd' := rd.monoY x.y
  refine ⟨fun e => ⟨vs, SqT.of ha', ?_⟩, fun d e => ?_⟩
  · have e' : ds[i]? = none := by simpa [itSeq] using e
    rw [← rd'.length]; exact List.getElem?_eq_none_iff.mp e'
  · have e' : ds[i]? = some d := by simpa [itSeq] using e
    obtain ⟨v, f1, f2⟩ := rd'.get e'
    refine ⟨⟨vs, v, SqT.of ha', f1⟩, fun y H2 yl => ?_⟩
    obtain ⟨rfl, yl⟩ := yl
    have := yl vs (SqT.of ha')
    rw [f1] at this; cases this
    exact ⟨.refl, r, f2⟩
theorem rit_list {a : Addr} {n : Nat} (ha : io[n]? = some a) : RIt K mg io H (Itl K a) (itLst n) := by
  intro i io' H' h' x r
  have ha' := pre_get x.pre ha
  have go : ∀ {o : Option D}, itLst n i h' = some o → ∃ xs vs, SqL K H' a vs ∧ RDs io' H' xs vs ∧ xs[i]? = o := fun {o} e => by
    unfold itLst at e
    cases q : items h' n with
    | none => rw [q] at e; cases e
    | some xs =>
      rw [q] at e
      obtain ⟨vs, f1, f2⟩ := r.list q ha'
      exact ⟨xs, vs, f1, f2, by simpa using e⟩
  refine ⟨fun e => ?_, fun d e => ?_⟩
  · obtain ⟨xs, vs, f1, f2, f3⟩ := go e
    exact ⟨vs, f1, by rw [← f2.length]; exact List.getElem?_eq_none_iff.mp f3⟩
  · obtain ⟨xs, vs, f1, f2, f3⟩ := go e
    obtain ⟨v, g1, g2⟩ := f2.get f3
    refine ⟨⟨vs, v, f1, g1⟩, fun y H2 yl => ?_⟩
    obtain ⟨rfl, yl⟩ := yl
    have := yl vs f1
    rw [g1] at this; cases this
    exact ⟨.refl, r, g2⟩
theorem rit_enum {a : Addr} {n : Nat} (ha : io[n]? = some a) : RIt K mg io H (Ite K a) (itEnum n) := by
  intro i io' H' h' x r
  have ha' := pre_get x.pre ha
  have go : ∀ {o : Option D}, itEnum n i h' = some o → ∃ xs vs, SqL K H' a vs ∧ RDs io' H' xs vs ∧ (xs[i]?).map (fun d => D.tup [.int i, d]) = o := fun {o} e => by
    unfold itEnum at e
    cases q : items h' n with
    | none => rw [q] at e; cases e
    | some xs =>
      rw [q] at e
      obtain ⟨vs, f1, f2⟩ := r.list q ha'
      exact ⟨xs, vs, f1, f2, by simpa using e⟩
  refine ⟨fun e => ?_, fun d e => ?_⟩
  · obtain ⟨xs, vs, f1, f2, f3⟩ := go e
    exact ⟨vs, f1, by rw [← f2.length]; exact List.getElem?_eq_none_iff.mp (by simpa using f3)⟩
  · obtain ⟨xs, vs, f1, f2, f3⟩ := go e
    obtain ⟨d0, e0, rfl⟩ := Option.map_eq_some_iff.mp f3
    obtain ⟨v, g1, g2⟩ := f2.get e0
    refine ⟨⟨vs, v, f1, g1⟩, fun y H2 yl => ?_⟩
    obtain ⟨T, y', rfl, hT, rfl, yl⟩ := yl
    have := yl vs f1
    rw [g1] at this; cases this
    exact ⟨ex_upd hT, r.new hT, .tup upd_same (.cons (.int _) (.cons (g2.mono (ex_upd hT)) .nil))⟩
theorem rit_zip {a b : Addr} {n m : Nat} (ha : io[n]? = some a) (hb : io[m]? = some b) : RIt K mg io H (Itz K a b) (itZip n m) := by
  intro i io' H' h' x r
  have ha' := pre_get x.pre ha
  have hb' := pre_get x.pre hb
  have go : ∀ {o : Option D}, itZip n m i h' = some o → ∃ xs vs ys us, SqL K H' a vs ∧ RDs io' H' xs vs ∧ SqL K H' b us ∧ RDs io' H' ys us ∧ ((xs[i]?).bind fun x => (ys[i]?).map fun y => D.tup [x, y]) = o := fun {o} e => by
    unfold itZip at e
    cases q : items h' n with
    | none => rw [q] at e; cases e
    | some xs =>
      cases q2 : items h' m with
      | none => rw [q, q2] at e; cases e
      | some ys =>
        rw [q, q2] at e
        obtain ⟨vs, f1, f2⟩ := r.list q ha'
        obtain ⟨us, g1, g2⟩ := r.list q2 hb'
        exact ⟨xs, vs, ys, us, f1, f2, g1, g2, by simpa using e⟩
  refine ⟨fun e => ?_, fun d e => ?_⟩
  · obtain ⟨xs, vs, ys, us, f1, f2, g1, g2, f3⟩ := go e
    refine ⟨vs, us, f1, g1, ?_⟩
    rw [← f2.length, ← g2.length]
    cases q : xs[i]? with
    | none => exact .inl (List.getElem?_eq_none_iff.mp q)
    | some x0 =>
      rw [q] at f3
      exact .inr (List.getElem?_eq_none_iff.mp (by simpa using f3))
  · obtain ⟨xs, vs, ys, us, f1, f2, g1, g2, f3⟩ := go e
    obtain ⟨x0, e0, f3⟩ := Option.bind_eq_some_iff.mp f3
    obtain ⟨y0, e1, rfl⟩ := Option.map_eq_some_iff.mp f3
    obtain ⟨v, p1, p2⟩ := f2.get e0
    obtain ⟨u, q1, q2⟩ := g2.get e1
    refine ⟨⟨vs, us, v, u, f1, g1, p1, q1⟩, fun y H2 yl => ?_⟩
    obtain ⟨T, y', z', rfl, hT, rfl, yl, zl⟩ := yl
    have := yl vs f1
    rw [p1] at this; cases this
    have := zl us g1
    rw [q1] at this; cases this
    exact ⟨ex_upd hT, r.new hT, .tup upd_same (.cons (p2.mono (ex_upd hT)) (.cons (q2.mono (ex_upd hT)) .nil))⟩
theorem rit_zipT {a b : Addr} {vs us : List V} {ds es : List D} (ha : H a = some (.tup vs)) (rd : RDs io H ds vs) (hb : H b = some (.tup us)) (re : RDs io H es us) : RIt K mg io H (RZ.ItzT K a b) (itSeq ((ds.zip es).map fun p => .tup [p.1, p.2])) := by
  intro i io' H' h' x r
  have ha' := x.tup _ _ ha
  have hb' := x.tup _ _ hb
  have rd' := rd.monoY x.y
  have re' := re.monoY x.y
  have key : ((ds.zip es).map fun p => D.tup [p.1, p.2])[i]? = (ds[i]?).bind fun x => (es[i]?).map fun y => D.tup [x, y] := by
    rw [List.getElem?_map, List.zip_eq_zipWith, List.getElem?_zipWith]
    cases ds[i]? <;> cases es[i]? <;> rfl
  refine ⟨fun e => ?_, fun d e => ?_⟩
  · have f3 := (Option.some.inj e : ((ds.zip es).map fun p => D.tup [p.1, p.2])[i]? = none)
    rw [key] at f3
    refine ⟨vs, us, SqT.of ha', SqT.of hb', ?_⟩
    rw [← rd'.length, ← re'.length]
    cases q : ds[i]? with
    | none => exact .inl (List.getElem?_eq_none_iff.mp q)
    | some x0 =>
      rw [q] at f3
      exact .inr (List.getElem?_eq_none_iff.mp (by simpa using f3))
  · have f3 := (Option.some.inj e : ((ds.zip es).map fun p => D.tup [p.1, p.2])[i]? = some d)
    rw [key] at f3
    obtain ⟨x0, e0, f3⟩ := Option.bind_eq_some_iff.mp f3
    obtain ⟨y0, e1, rfl⟩ := Option.map_eq_some_iff.mp f3
    obtain ⟨v, p1, p2⟩ := rd'.get e0
    obtain ⟨u, q1, q2⟩ := re'.get e1
    refine ⟨⟨vs, us, v, u, SqT.of ha', SqT.of hb', p1, q1⟩, fun y H2 yl => ?_⟩
    obtain ⟨T, y', z', rfl, hT, rfl, yl, zl⟩ := yl
    have := yl vs (SqT.of ha')
    rw [p1] at this; cases this
    have := zl us (SqT.of hb')
    rw [q1] at this; cases this
    exact ⟨ex_upd hT, r.new hT, .tup upd_same (.cons (p2.mono (ex_upd hT)) (.cons (q2.mono (ex_upd hT)) .nil))⟩
theorem rit_str {x : Str} : RIt K mg io H (Its x) (itSeq (x.cps.toList.map fun c => .str ⟨#[c]⟩)) := by
  intro i io' H' h' _ r
  refine ⟨fun e => ?_, fun d e => ?_⟩
  · have e' : (x.cps.toList.map fun c => D.str ⟨#[c]⟩)[i]? = none := by simpa only [itSeq, Option.some.injEq] using e
    have := List.getElem?_eq_none_iff.mp e'
    show x.cps.size ≤ i
    simpa using this
  · have e' : (x.cps.toList.map fun c => D.str ⟨#[c]⟩)[i]? = some d := by simpa only [itSeq, Option.some.injEq] using e
    rw [List.getElem?_map] at e'
    obtain ⟨c, e1, rfl⟩ := Option.map_eq_some_iff.mp e'
    have e2 : x.cps[i]? = some c := by simpa using e1
    refine ⟨show i < x.cps.size from (Array.getElem?_eq_some_iff.mp e2).1, fun y H2 yl => ?_⟩
    obtain ⟨rfl, c', e3, rfl⟩ := yl
    rw [e2] at e3; cases e3
    exact ⟨.refl, r, .str _⟩
def rngD (lo : Int) (n : Nat) : List D := (List.range n).map fun (k : Nat) => .int (lo + k)
theorem rit_range {lo : Int} {n : Nat} : RIt K mg io H (Itr lo n) (itSeq (rngD lo n)) := by
  intro i io' H' h' _ r
  have key : (rngD lo n)[i]? = if i < n then some (.int (lo + i)) else none := by
    unfold rngD
    rw [List.getElem?_map]
    by_cases hi : i < n
    · rw [List.getElem?_range hi, if_pos hi]; rfl
    · rw [List.getElem?_eq_none (by simpa using hi), if_neg hi]; rfl
  refine ⟨fun e => ?_, fun d e => ?_⟩
  · have e' : (rngD lo n)[i]? = none := by simpa only [itSeq, Option.some.injEq] using e
    rw [key] at e'
    show n ≤ i
    split at e'
    · cases e'
    · omega
  · have e' : (rngD lo n)[i]? = some d := by simpa only [itSeq, Option.some.injEq] using e
    rw [key] at e'
    split at e'
    · rename_i hi
      cases e'
      refine ⟨hi, fun y H2 yl => ?_⟩
      obtain ⟨rfl, rfl⟩ := yl
      exact ⟨.refl, r, .int _⟩
    · cases e'
end
end MP

set_option Elab.async false
set_option linter.all false
set_option maxRecDepth 100000
set_option maxHeartbeats 2000000
/-! MpI: dicts walked; for; what may be walked. -/
namespace MP
open PySem PySem.Spec
open PyProof.Rows hiding St
open L2

section
variable {X : Cx} {j : Nat} {a b c e o ie tg : Expr} {pos pos' p apos cpos tpos : Pos} {es elts : List Expr} {kk : Nat}
variable {K : PySem.W.Frag} {mg : Str → Option Value} {io io' : List Addr} {H H' : Hp} {h h' : Hd} {sl : Sd} {σ : L2.St}
theorem KVk.at : ∀ {l : List (D × D)} {m : List (Key × V)} {i : Nat} {p : D × D}, KVk io H l m → l[i]? = some p → ∃ k v, m[i]? = some (k, v) ∧ p.1 = keyD k ∧ RD io H p.2 v
  | _, _, _, _, .nil, e => by simp at e
  | _, _, 0, _, @KVk.cons _ _ k d v l m h r, e => by simp at e; subst e; exact ⟨k, v, rfl, rfl, h⟩
  | _, _, i + 1, _, .cons h r, e => by
    obtain ⟨k, v, e1, e2⟩ := KVk.at (i := i) r (by simpa using e)
    exact ⟨k, v, by simpa using e1, e2⟩
theorem KVt.at : ∀ {l : List (D × D)} {m : List (List Key × V)} {i : Nat} {p : D × D}, KVt io H l m → l[i]? = some p → ∃ k v, m[i]? = some (k, v) ∧ p.1 = .tup (k.map keyD) ∧ RD io H p.2 v
  | _, _, _, _, .nil, e => by simp at e
  | _, _, 0, _, @KVt.cons _ _ k d v l m h r, e => by simp at e; subst e; exact ⟨k, v, rfl, rfl, h⟩
  | _, _, i + 1, _, .cons h r, e => by
    obtain ⟨k, v, e1, e2⟩ := KVt.at (i := i) r (by simpa using e)
    exact ⟨k, v, by simpa using e1, e2⟩
theorem rds_keys : ∀ (ks : List Key), RDs io H (ks.map keyD) (ks.map kV)
  | [] => .nil
  | k :: ks => .cons (rd_keyD k) (rds_keys ks)
theorem lockK {o : Obj} {d : Addr} {n : Nat} {ks : List (Key × V)} {kvs : List (D × D)} (r : RH K mg io H h) (i : io[n]? = some d) (f : H d = some (.frz o (.dK ks))) (e : dctOf h n = some kvs) : KVk io H kvs ks := by
  unfold dctOf at e
  split at e
  · rename_i t kvs' q
    cases e
    have c := r.cell n _ d q i
    cases t with
    | true => obtain ⟨ks', g, _⟩ := c.dT; obtain ⟨o', g⟩ := (by simpa [DOb] using g : ∃ o, H d = some (.frz o (.dT ks'))); rw [f] at g; cases g
    | false => obtain ⟨ks', g, q⟩ := c.dK; obtain ⟨o', g⟩ := (by simpa [DOb] using g : ∃ o, H d = some (.frz o (.dK ks'))); rw [f] at g; cases g; exact q
  · cases e
theorem lockT {o : Obj} {d : Addr} {n : Nat} {ks : List (List Key × V)} {kvs : List (D × D)} (r : RH K mg io H h) (i : io[n]? = some d) (f : H d = some (.frz o (.dT ks))) (e : dctOf h n = some kvs) : KVt io H kvs ks := by
  unfold dctOf at e
  split at e
  · rename_i t kvs' q
    cases e
    have c := r.cell n _ d q i
    cases t with
    | false => obtain ⟨ks', g, _⟩ := c.dK; obtain ⟨o', g⟩ := (by simpa [DOb] using g : ∃ o, H d = some (.frz o (.dK ks'))); rw [f] at g; cases g
    | true => obtain ⟨ks', g, q⟩ := c.dT; obtain ⟨o', g⟩ := (by simpa [DOb] using g : ∃ o, H d = some (.frz o (.dT ks'))); rw [f] at g; cases g; exact q
  · cases e
theorem opt2 {α β : Type} {x : Option α} {f : α → Option β} {o : Option β} (e : x.map f = some o) : ∃ a, x = some a ∧ f a = o := Option.map_eq_some_iff.mp e
theorem rit_keys {o : Obj} {d : Addr} {n : Nat} {ks : List (Key × V)} (i0 : io[n]? = some d) (f : H d = some (.frz o (.dK ks))) : RIt K mg io H (Itk d o ks) (itKeys n) := by
  intro i io' H' h' x r
  have f' := x.lock f
  refine ⟨fun e => ?_, fun y e => ?_⟩
  · obtain ⟨kvs, e1, e2⟩ := opt2 e
    have q := lockK r (pre_get x.pre i0) f' e1
    exact ⟨f', by rw [← q.length]; exact List.getElem?_eq_none_iff.mp (by simpa using e2)⟩
  · obtain ⟨kvs, e1, e2⟩ := opt2 e
    have q := lockK r (pre_get x.pre i0) f' e1
    obtain ⟨p, e3, rfl⟩ := Option.map_eq_some_iff.mp e2
    obtain ⟨k, v, g1, g2, g3⟩ := q.at e3
    refine ⟨⟨f', (List.getElem?_eq_some_iff.mp g1).1⟩, fun y H2 yl => ?_⟩
    obtain ⟨rfl, k', v', g4, rfl⟩ := yl
    rw [g1] at g4; cases g4
    exact ⟨.refl, r, by rw [g2]; exact rd_keyD k⟩
theorem rit_keysT {o : Obj} {d : Addr} {n : Nat} {ks : List (List Key × V)} (i0 : io[n]? = some d) (f : H d = some (.frz o (.dT ks))) : RIt K mg io H (Itkt d o ks) (itKeys n) := by
  intro i io' H' h' x r
  have f' := x.lock f
  refine ⟨fun e => ?_, fun y e => ?_⟩
  · obtain ⟨kvs, e1, e2⟩ := opt2 e
    have q := lockT r (pre_get x.pre i0) f' e1
    exact ⟨f', by rw [← q.length]; exact List.getElem?_eq_none_iff.mp (by simpa using e2)⟩
  · obtain ⟨kvs, e1, e2⟩ := opt2 e
    have q := lockT r (pre_get x.pre i0) f' e1
    obtain ⟨p, e3, rfl⟩ := Option.map_eq_some_iff.mp e2
    obtain ⟨k, v, g1, g2, g3⟩ := q.at e3
    refine ⟨⟨f', (List.getElem?_eq_some_iff.mp g1).1⟩, fun y H2 yl => ?_⟩
    obtain ⟨rfl, k', v', q', g4, rfl, hq⟩ := yl
    rw [g1] at g4; cases g4
    exact ⟨.refl, r, by rw [g2]; exact .tup hq (rds_keys k)⟩
theorem rit_vals {o : Obj} {d : Addr} {n : Nat} {ks : List (Key × V)} (i0 : io[n]? = some d) (f : H d = some (.frz o (.dK ks))) : RIt K mg io H (Itd d o ks) (itVals n) := by
  intro i io' H' h' x r
  have f' := x.lock f
  refine ⟨fun e => ?_, fun y e => ?_⟩
  · obtain ⟨kvs, e1, e2⟩ := opt2 e
    have q := lockK r (pre_get x.pre i0) f' e1
    exact ⟨f', by rw [← q.length]; exact List.getElem?_eq_none_iff.mp (by simpa using e2)⟩
  · obtain ⟨kvs, e1, e2⟩ := opt2 e
    have q := lockK r (pre_get x.pre i0) f' e1
    obtain ⟨p, e3, rfl⟩ := Option.map_eq_some_iff.mp e2
    obtain ⟨k, v, g1, g2, g3⟩ := q.at e3
    refine ⟨⟨f', (List.getElem?_eq_some_iff.mp g1).1⟩, fun y H2 yl => ?_⟩
    obtain ⟨rfl, k', g4⟩ := yl
    rw [g1] at g4; cases g4
    exact ⟨.refl, r, g3⟩
theorem rit_items {o : Obj} {d : Addr} {n : Nat} {ks : List (Key × V)} (i0 : io[n]? = some d) (f : H d = some (.frz o (.dK ks))) : RIt K mg io H (Iti d o ks) (itItems n) := by
  intro i io' H' h' x r
  have f' := x.lock f
  refine ⟨fun e => ?_, fun y e => ?_⟩
  · obtain ⟨kvs, e1, e2⟩ := opt2 e
    have q := lockK r (pre_get x.pre i0) f' e1
    exact ⟨f', by rw [← q.length]; exact List.getElem?_eq_none_iff.mp (by simpa using e2)⟩
  · obtain ⟨kvs, e1, e2⟩ := opt2 e
    have q := lockK r (pre_get x.pre i0) f' e1
    obtain ⟨p, e3, rfl⟩ := Option.map_eq_some_iff.mp e2
    obtain ⟨k, v, g1, g2, g3⟩ := q.at e3
    refine ⟨⟨f', (List.getElem?_eq_some_iff.mp g1).1⟩, fun y H2 yl => ?_⟩
    obtain ⟨T, k', v', g4, rfl, hT, rfl⟩ := yl
    rw [g1] at g4; cases g4
    exact ⟨ex_upd hT, r.new hT, .tup upd_same (.cons (by rw [g2]; exact rd_keyD k) (.cons (g3.mono (ex_upd hT)) .nil))⟩
theorem rit_itemsT {o : Obj} {d : Addr} {n : Nat} {ks : List (List Key × V)} (i0 : io[n]? = some d) (f : H d = some (.frz o (.dT ks))) : RIt K mg io H (Itit d o ks) (itItems n) := by
  intro i io' H' h' x r
  have f' := x.lock f
  refine ⟨fun e => ?_, fun y e => ?_⟩
  · obtain ⟨kvs, e1, e2⟩ := opt2 e
    have q := lockT r (pre_get x.pre i0) f' e1
    exact ⟨f', by rw [← q.length]; exact List.getElem?_eq_none_iff.mp (by simpa using e2)⟩
  · obtain ⟨kvs, e1, e2⟩ := opt2 e
    have q := lockT r (pre_get x.pre i0) f' e1
    obtain ⟨p, e3, rfl⟩ := Option.map_eq_some_iff.mp e2
    obtain ⟨k, v, g1, g2, g3⟩ := q.at e3
    refine ⟨⟨f', (List.getElem?_eq_some_iff.mp g1).1⟩, fun y H2 yl => ?_⟩
    obtain ⟨T, k', v', q', g4, hq, rfl, hT, rfl⟩ := yl
    rw [g1] at g4; cases g4
    have xt := ex_upd (io := io') (o := .tup [.ref q', v]) hT
    exact ⟨xt, r.new hT, .tup upd_same (.cons (by rw [g2]; exact .tup (xt.tup _ _ hq) (rds_keys k)) (.cons (g3.mono xt) .nil))⟩

/-! ### the rules -/
def wOver (w : WE) (f : D → Hd → (ItD → Prop)  → Prop) : WI := fun sl h R => w sl h fun x h1 => f x h1 fun t => R t h1
def fTup : D → Hd → (ItD → Prop) → Prop := fun x _ R => ∃ xs, x = .tup xs ∧ R (itSeq xs)
def fLst : D → Hd → (ItD → Prop) → Prop := fun x h R => ∃ n xs, x = .ref n ∧ items h n = some xs ∧ R (itLst n)
def fStr : D → Hd → (ItD → Prop) → Prop := fun x _ R => ∃ s, x = .str s ∧ R (itSeq (s.cps.toList.map fun c => .str ⟨#[c]⟩))
theorem li_tup {w : WE} (he : LE X e w) : LI X tg e (wOver w fTup) := (pi_tup he).imp fun σ H R z => by
  obtain ⟨sl, h, io, q, r, z, k⟩ := z
  refine tE.go r z fun x h1 z1 u i1 H1 x1 r1 d1 => ?_
  obtain ⟨xs, rfl, z1⟩ := z1
  cases d1 with
  | @tup a vs _ ha ra => exact ⟨a, rfl, ⟨vs, SqT.of ha⟩, k _ _ z1 _ _ _ x1 r1.rh (rit_tup ha ra)⟩
theorem li_lst {w : WE} (he : LE X e w) : LI X tg e (wOver w fLst) := (pi_list he).imp fun σ H R z => by
  obtain ⟨sl, h, io, q, r, z, k⟩ := z
  refine tE.go r z fun x h1 z1 u i1 H1 x1 r1 d1 => ?_
  obtain ⟨n, xs, rfl, e, z1⟩ := z1
  cases d1 with
  | @ref _ a i =>
    obtain ⟨vs, f1, f2⟩ := r1.rh.list e i
    exact ⟨a, rfl, ⟨vs, f1⟩, k _ _ z1 _ _ _ x1 r1.rh (rit_list i)⟩
theorem li_str {w : WE} (he : LE X e w) : LI X tg e (wOver w fStr) := (pi_str he).imp fun σ H R z => by
  obtain ⟨sl, h, io, q, r, z, k⟩ := z
  refine tE.go r z fun x h1 z1 u i1 H1 x1 r1 d1 => ?_
  obtain ⟨s, rfl, z1⟩ := z1
  cases d1
  exact ⟨s, rfl, k _ _ z1 _ _ _ x1 r1.rh rit_str⟩
def wRange1 (wa : WA) : WI := fun sl h R => wa sl h fun ds h1 => ∃ j : Int, ds = [.int j] ∧ -(2 ^ 62) ≤ j ∧ j < 2 ^ 62 ∧ R (itSeq (rngD 0 j.toNat)) h1
theorem li_range1 {wa : WA} (hg : Gl X "range") (hm : X.mg "range" = none) (ha : LA X [a] wa) (hs : starEach [a] X.env = [(false, eval a X.env)] := by rfl) : LI X tg (.Call (.Name "range" p) [a] [] pos) (wRange1 wa) := (pi_range1 hg hm ha hs).imp fun σ H R z => by
  obtain ⟨sl, h, io, q, r, z, k⟩ := z
  refine tA.go r z fun ds h1 z1 vs i1 H1 x1 r1 d1 => ?_
  obtain ⟨j, rfl, e1, e2, z1⟩ := z1
  cases d1 with
  | cons d1 q1 =>
    cases q1; cases d1
    exact ⟨j, rfl, e1, e2, k _ _ z1 _ _ _ x1 r1.rh rit_range⟩
def wRange2 (wa : WA) : WI := fun sl h R => wa sl h fun ds h1 => ∃ i j : Int, ds = [.int i, .int j] ∧ (-(2 ^ 62) ≤ i ∧ i < 2 ^ 62 ∧ -(2 ^ 62) ≤ j ∧ j < 2 ^ 62) ∧ R (itSeq (rngD i (j - i).toNat)) h1
theorem li_range2 {wa : WA} (hg : Gl X "range") (hm : X.mg "range" = none) (ha : LA X [a, b] wa) (hs : starEach [a, b] X.env = [(false, eval a X.env), (false, eval b X.env)] := by rfl) (hs2 : starEach [b] X.env = [(false, eval b X.env)] := by rfl) : LI X tg (.Call (.Name "range" p) [a, b] [] pos) (wRange2 wa) := (pi_range2 hg hm ha hs hs2).imp fun σ H R z => by
  obtain ⟨sl, h, io, q, r, z, k⟩ := z
  refine tA.go r z fun ds h1 z1 vs i1 H1 x1 r1 d1 => ?_
  obtain ⟨i, j, rfl, e1, z1⟩ := z1
  cases d1 with
  | cons d1 q1 => cases q1 with
    | cons d2 q2 =>
      cases q2; cases d1; cases d2
      exact ⟨i, j, rfl, e1, k _ _ z1 _ _ _ x1 r1.rh rit_range⟩
def wEnum (wa : WA) : WI := fun sl h R => wa sl h fun ds h1 => ∃ n xs, ds = [.ref n] ∧ items h1 n = some xs ∧ R (itEnum n) h1
theorem li_enum {wa : WA} (hg : Gl X "enumerate") (hm : X.mg "enumerate" = none) (ha : LA X [e] wa) (hs : starEach [e] X.env = [(false, eval e X.env)] := by rfl) : LI X (.Tuple elts kk tpos) (.Call (.Name "enumerate" p) [e] [] pos) (wEnum wa) := (pi_enum hg hm ha hs).imp fun σ H R z => by
  obtain ⟨sl, h, io, q, r, z, k⟩ := z
  refine tA.go r z fun ds h1 z1 vs i1 H1 x1 r1 d1 => ?_
  obtain ⟨n, xs, rfl, e1, z1⟩ := z1
  cases d1 with
  | cons d1 q1 =>
    cases q1
    cases d1 with
    | @ref _ a i =>
      obtain ⟨vs, f1, f2⟩ := r1.rh.list e1 i
      exact ⟨a, vs, rfl, f1, k _ _ z1 _ _ _ x1 r1.rh (rit_enum i)⟩
def wZip (wa : WA) : WI := fun sl h R => wa sl h fun ds h1 => match ds with
  | [.ref a, .ref b] => ∃ xs ys, items h1 a = some xs ∧ items h1 b = some ys ∧ R (itZip a b) h1
  | [.tup xs, .tup ys] => R (itSeq ((xs.zip ys).map fun p => .tup [p.1, p.2])) h1
  | _ => False
theorem li_zip {wa : WA} (hg : Gl X "zip") (hm : X.mg "zip" = none) (ha : LA X [a, b] wa) (hs : starEach [a, b] X.env = (false, eval a X.env) :: starEach [b] X.env := by rfl) (hpl : (backTo pos (starEach [b] X.env)).any (·.1) = false := by rfl) : LI X (.Tuple elts kk tpos) (.Call (.Name "zip" p) [a, b] [] pos) (wZip wa) := (RZ.pi_zipA hg hm ha hs hpl).imp fun σ H R z => by
  obtain ⟨sl, h, io, q, r, z, k⟩ := z
  refine tA.go r z fun ds h1 z1 vs i1 H1 x1 r1 d1 => ?_
  split at z1
  · obtain ⟨xs, ys, e1, e2, z1⟩ := z1
    cases d1 with
    | cons d1 q1 => cases q1 with
      | cons d2 q2 =>
        cases q2
        cases d1 with
        | @ref _ a i => cases d2 with
          | @ref _ b i2 =>
            obtain ⟨vs, f1, f2⟩ := r1.rh.list e1 i
            obtain ⟨us, g1, g2⟩ := r1.rh.list e2 i2
            exact ⟨a, b, vs, us, rfl, .inl ⟨f1, g1, k _ _ z1 _ _ _ x1 r1.rh (rit_zip i i2)⟩⟩
  · cases d1 with
    | cons d1 q1 => cases q1 with
      | cons d2 q2 =>
        cases q2
        cases d1 with
        | @tup a vs _ ha ra => cases d2 with
          | @tup b us _ hb rb => exact ⟨a, b, vs, us, rfl, .inr ⟨SqT.of ha, SqT.of hb, k _ _ z1 _ _ _ x1 r1.rh (rit_zipT ha ra hb rb)⟩⟩
  · exact z1.elim
/-! dicts: locked as they are walked -/
def fDct (tk : Bool → Prop) (it : Nat → ItD) : D → Hd → (ItD → Hd → Prop) → Prop := fun x h R => ∃ n t lk kvs, x = .ref n ∧ h[n]? = some (.dct t lk kvs) ∧ tk t ∧ R (it n) (h.set n (.dct t true kvs))
def wOverD (w : WE) (f : D → Hd → (ItD → Hd → Prop) → Prop) : WI := fun sl h R => w sl h fun x h1 => f x h1 R
theorem set_get {n : Nat} {c c' : Cell} (e : h[n]? = some c) : (h.set n c')[n]? = some c' := List.getElem?_set_self (List.getElem?_eq_some_iff.mp e).1
theorem lockedK {d : Addr} {n : Nat} {kvs : List (D × D)} (r : RH K mg io H h) (e : h[n]? = some (.dct false true kvs)) (i : io[n]? = some d) : ∃ o ks, H d = some (.frz o (.dK ks)) := by
  obtain ⟨ks, f, q⟩ := (r.cell n _ d e i).dK
  obtain ⟨o, f⟩ := (by simpa [DOb] using f : ∃ o, H d = some (.frz o (.dK ks)))
  exact ⟨o, ks, f⟩
theorem lockedT {d : Addr} {n : Nat} {kvs : List (D × D)} (r : RH K mg io H h) (e : h[n]? = some (.dct true true kvs)) (i : io[n]? = some d) : ∃ o ks, H d = some (.frz o (.dT ks)) := by
  obtain ⟨ks, f, q⟩ := (r.cell n _ d e i).dT
  obtain ⟨o, f⟩ := (by simpa [DOb] using f : ∃ o, H d = some (.frz o (.dT ks)))
  exact ⟨o, ks, f⟩
theorem li_keys {w : WE} (he : LE X e w) : LI X tg e (wOverD w (fDct (fun _ => True) itKeys)) := (pi_keys (pe_lk he)).imp fun σ H R z => by
  obtain ⟨sl, h, io, q, r, z, k⟩ := z
  refine tE.go r z fun x h1 z1 u i1 H1 x1 r1 d1 => ?_
  obtain ⟨n, t, lk, kvs, rfl, e1, _, z1⟩ := z1
  cases d1 with
  | @ref _ a p =>
    have fin : ∀ H2, Ex i1 i1 H1 H2 → RH X.K X.mg i1 H2 (h1.set n (.dct t true kvs)) → ∃ d o, V.ref a = .ref d ∧ ((∃ kvs, H2 d = some (.frz o (.dK kvs)) ∧ R (Itk d o kvs) H2) ∨ ∃ kvs, H2 d = some (.frz o (.dT kvs)) ∧ R (Itkt d o kvs) H2) := fun H2 x2 rh2 => by
      cases t with
      | true =>
        obtain ⟨o, ks, f⟩ := lockedT rh2 (set_get e1) p
        exact ⟨a, o, rfl, .inr ⟨ks, f, k _ _ z1 _ _ _ (x1.trans x2) rh2 (rit_keysT p f)⟩⟩
      | false =>
        obtain ⟨o, ks, f⟩ := lockedK rh2 (set_get e1) p
        exact ⟨a, o, rfl, .inl ⟨ks, f, k _ _ z1 _ _ _ (x1.trans x2) rh2 (rit_keys p f)⟩⟩
    obtain ⟨v, mu, q2⟩ := r1.rh.lk e1 p
    refine ⟨a, v, rfl, mu, ?_⟩
    rcases q2 with ⟨o, f, rh⟩ | ⟨f, g⟩
    · exact .inl ⟨o, f, fin _ .refl rh⟩
    · exact .inr ⟨f, fun o => fin _ (g o).1 (g o).2⟩
theorem li_vals {w : WE} (he : LE X e w) (hbase : attributeBase e "values" X.env (eval e X.env) = eval e X.env := by rfl) (hline : (apos.endLine == cpos.line) = true := by rfl) : LI X tg (.Call (.Attribute e "values" apos) [] [] cpos) (wOverD w (fDct (· = false) itVals)) := (pi_values (pe_lk he) hbase hline).imp fun σ H R z => by
  obtain ⟨sl, h, io, q, r, z, k⟩ := z
  refine tE.go r z fun x h1 z1 u i1 H1 x1 r1 d1 => ?_
  obtain ⟨n, t, lk, kvs, rfl, e1, rfl, z1⟩ := z1
  cases d1 with
  | @ref _ a p =>
    have fin : ∀ H2, Ex i1 i1 H1 H2 → RH X.K X.mg i1 H2 (h1.set n (.dct false true kvs)) → ∃ d o kvs, V.ref a = .ref d ∧ H2 d = some (.frz o (.dK kvs)) ∧ R (Itd d o kvs) H2 := fun H2 x2 rh2 => by
      obtain ⟨o, ks, f⟩ := lockedK rh2 (set_get e1) p
      exact ⟨a, o, ks, rfl, f, k _ _ z1 _ _ _ (x1.trans x2) rh2 (rit_vals p f)⟩
    obtain ⟨v, mu, q2⟩ := r1.rh.lk e1 p
    refine ⟨a, v, rfl, mu, ?_⟩
    rcases q2 with ⟨o, f, rh⟩ | ⟨f, g⟩
    · exact .inl ⟨o, f, fin _ .refl rh⟩
    · exact .inr ⟨f, fun o => fin _ (g o).1 (g o).2⟩
theorem li_items {w : WE} (he : LE X e w) (hbase : attributeBase e "items" X.env (eval e X.env) = eval e X.env := by rfl) (hline : (apos.endLine == cpos.line) = true := by rfl) : LI X (.Tuple elts kk tpos) (.Call (.Attribute e "items" apos) [] [] cpos) (wOverD w (fDct (· = false) itItems)) := (pi_items (pe_lk he) hbase hline).imp fun σ H R z => by
  obtain ⟨sl, h, io, q, r, z, k⟩ := z
  refine tE.go r z fun x h1 z1 u i1 H1 x1 r1 d1 => ?_
  obtain ⟨n, t, lk, kvs, rfl, e1, rfl, z1⟩ := z1
  cases d1 with
  | @ref _ a p =>
    have fin : ∀ H2, Ex i1 i1 H1 H2 → RH X.K X.mg i1 H2 (h1.set n (.dct false true kvs)) → ∃ d o kvs, V.ref a = .ref d ∧ H2 d = some (.frz o (.dK kvs)) ∧ R (Iti d o kvs) H2 := fun H2 x2 rh2 => by
      obtain ⟨o, ks, f⟩ := lockedK rh2 (set_get e1) p
      exact ⟨a, o, ks, rfl, f, k _ _ z1 _ _ _ (x1.trans x2) rh2 (rit_items p f)⟩
    obtain ⟨v, mu, q2⟩ := r1.rh.lk e1 p
    refine ⟨a, v, rfl, mu, ?_⟩
    rcases q2 with ⟨o, f, rh⟩ | ⟨f, g⟩
    · exact .inl ⟨o, f, fin _ .refl rh⟩
    · exact .inr ⟨f, fun o => fin _ (g o).1 (g o).2⟩
theorem li_itemsT {w : WE} (he : LE X e w) (hbase : attributeBase e "items" X.env (eval e X.env) = eval e X.env := by rfl) (hline : (apos.endLine == cpos.line) = true := by rfl) : LI X (.Tuple elts kk tpos) (.Call (.Attribute e "items" apos) [] [] cpos) (wOverD w (fDct (· = true) itItems)) := (pi_itemsT (pe_lk he) hbase hline).imp fun σ H R z => by
  obtain ⟨sl, h, io, q, r, z, k⟩ := z
  refine tE.go r z fun x h1 z1 u i1 H1 x1 r1 d1 => ?_
  obtain ⟨n, t, lk, kvs, rfl, e1, rfl, z1⟩ := z1
  cases d1 with
  | @ref _ a p =>
    have fin : ∀ H2, Ex i1 i1 H1 H2 → RH X.K X.mg i1 H2 (h1.set n (.dct true true kvs)) → ∃ d o kvs, V.ref a = .ref d ∧ H2 d = some (.frz o (.dT kvs)) ∧ R (Itit d o kvs) H2 := fun H2 x2 rh2 => by
      obtain ⟨o, ks, f⟩ := lockedT rh2 (set_get e1) p
      exact ⟨a, o, ks, rfl, f, k _ _ z1 _ _ _ (x1.trans x2) rh2 (rit_itemsT p f)⟩
    obtain ⟨v, mu, q2⟩ := r1.rh.lk e1 p
    refine ⟨a, v, rfl, mu, ?_⟩
    rcases q2 with ⟨o, f, rh⟩ | ⟨f, g⟩
    · exact .inl ⟨o, f, fin _ .refl rh⟩
    · exact .inr ⟨f, fun o => fin _ (g o).1 (g o).2⟩

/-! ### for -/
def wFor (wi : WI) (g : WG) (wb : WS) : WS := fun E sl h => wi sl h fun t h1 => ∃ W : Nat → Nat → Sd → Hd → Prop, (∃ m, W 0 m sl h1) ∧ ∀ i m sl h, W i m sl h →
  (t i h = some none ∧ E.nx sl h) ∨ ∃ d, t i h = some (some d) ∧ ∃ N : Sd → Hd → Prop, (∀ sl' h', N sl' h' → ∃ m', m' < m ∧ W (i + 1) m' sl' h') ∧ g d sl h fun sl2 h2 => wb { E with nx := N, ct := N, bk := E.nx } sl2 h2
theorem ls_for {body : List Stmt} {wi : WI} {g : WG} {wb : WS} (hp : PassesOwn (model X.prog X.w) X.A X.env X.xe) (hc : X.calm = true) (hi : LI X tg ie wi) (hg : LG X tg g) (hb : LSs X body wb)
    (hs : ∀ x, foldedSetIterable ie X.env x = pure x := by intro _; rfl) : LS X (.For tg ie body [] pos) (wFor wi g wb) := (ps_for hp hc hi hg hb hs).imp fun D σ H z => by
  obtain ⟨sl, h, io, q, r, z, k⟩ := z
  refine ⟨sl, h, io, _, r, z, fun t h1 z1 J i1 H1 x1 rh1 rit => ?_⟩
  obtain ⟨W, ⟨m0, w0⟩, turn⟩ := z1
  refine ⟨fun i m σ' H' => ∃ sl' h' io', Ex i1 io' H1 H' ∧ Rel X.K X.mg sl' σ' io' H' h' ∧ W i m sl' h', ⟨m0, sl, h1, i1, .refl, r.on x1 rh1, w0⟩, ?_⟩
  rintro i m σ2 H2 ⟨sl2, h2, i2, x2, r2, w2⟩
  obtain ⟨st, gg⟩ := rit i i2 H2 h2 x2.z r2.rh
  rcases turn i m sl2 h2 w2 with ⟨e, z2⟩ | ⟨d, e, N, hN, z2⟩
  · exact .inl ⟨st e, k.nx _ _ z2 _ _ _ (x1.trans x2) r2⟩
  · obtain ⟨go, yl⟩ := gg d e
    refine .inr ⟨go, fun σ' H' => ∃ sl' h' io', Ex i1 io' H1 H' ∧ Rel X.K X.mg sl' σ' io' H' h' ∧ N sl' h', fun σ' H' ⟨sl', h', io', x', r', n'⟩ => ?_, fun x H3 y => ?_⟩
    · obtain ⟨m', hm, w'⟩ := hN sl' h' n'
      exact ⟨m', hm, sl', h', io', x', r', w'⟩
    · obtain ⟨x3, rh3, d3⟩ := yl x H3 y
      refine ⟨d, sl2, h2, i2, _, r2.on x3 rh3, d3, z2, fun sl4 h4 z4 σ4 i4 H4 x4 r4 => ?_⟩
      have x14 := (x2.trans x3).trans x4
      have k4 := k.on (x1.trans x14)
      exact ⟨sl4, h4, i4, _, r4, z4, ⟨fun sl' h' n' σ' io' H' x' r' => ⟨sl', h', io', x14.trans x', r', n'⟩, k4.rt, k4.nx, fun sl' h' n' σ' io' H' x' r' => ⟨sl', h', io', x14.trans x', r', n'⟩⟩⟩
end
/-- a loop over what stays a fixed row -/
theorem for_by {t : ItD} {g : WG} {wb : WS} {E : EndsD} {sl : Sd} {h : Hd} (xs : List D) (Pv : Nat → Sd → Hd → Prop) (h0 : Pv 0 sl h) (ht : ∀ i sl h, i ≤ xs.length → Pv i sl h → t i h = some xs[i]?)
    (hs : ∀ i x sl h, xs[i]? = some x → Pv i sl h → g x sl h fun sl2 h2 => wb { E with nx := Pv (i + 1), ct := Pv (i + 1), bk := E.nx } sl2 h2) (hd : ∀ sl h, Pv xs.length sl h → E.nx sl h) :
    ∃ W : Nat → Nat → Sd → Hd → Prop, (∃ m, W 0 m sl h) ∧ ∀ i m sl h, W i m sl h →
      (t i h = some none ∧ E.nx sl h) ∨ ∃ d, t i h = some (some d) ∧ ∃ N : Sd → Hd → Prop, (∀ sl' h', N sl' h' → ∃ m', m' < m ∧ W (i + 1) m' sl' h') ∧ g d sl h fun sl2 h2 => wb { E with nx := N, ct := N, bk := E.nx } sl2 h2 := by
  refine ⟨fun i m σ H => m = xs.length - i ∧ i ≤ xs.length ∧ Pv i σ H, ⟨xs.length, by simp, Nat.zero_le _, h0⟩, ?_⟩
  rintro i m σ H ⟨rfl, hi, p⟩
  have q := ht i σ H hi p
  by_cases hlt : i < xs.length
  · have e : xs[i]? = some xs[i] := List.getElem?_eq_getElem hlt
    refine .inr ⟨xs[i], by rw [q, e], Pv (i + 1), fun σ' H' p' => ⟨xs.length - (i + 1), by omega, rfl, hlt, p'⟩, hs i _ σ H e p⟩
  · have e : i = xs.length := by omega
    subst e
    exact .inl ⟨by rw [q, List.getElem?_eq_none (Nat.le_refl _)], hd σ H p⟩
end MP

set_option Elab.async false
set_option linter.all false
set_option maxRecDepth 100000
set_option maxHeartbeats 2000000
/-! MpJ: comprehensions. -/
namespace MP
open PySem PySem.Spec
open PyProof.Rows hiding St
open L2

section
variable {X : Cx} {j : Nat} {a b c e o ie tg tg1 iter iter1 elt kx vx : Expr} {pos pos' p apos cpos tpos : Pos} {es elts ifs ifs1 : List Expr} {kk : Nat} {scope : Scope} {own : List (Str × Nat)} {vs vs1 : List Nat}
variable {K : PySem.W.Frag} {mg : Str → Option Value} {io io' : List Addr} {H H' : Hp} {h h' : Hd} {sl : Sd} {σ : L2.St}
def wipeD (sl : Sd) : List Nat → Sd
  | [] => sl
  | v :: vs => (wipeD sl vs).set v none
theorem Rel.unset (r : Rel K mg sl σ io H h) (i : Nat) : Rel K mg (sl.set i none) (σ.set i none) io H h := by
  refine ⟨r.rh, by simp [r.len], fun k d' e => ?_⟩
  by_cases z : i = k
  · subst z
    have hl : i < sl.length := by
      have := (List.getElem?_eq_some_iff.mp e).1
      simpa using this
    rw [List.getElem?_set_self hl] at e
    cases e
  · rw [List.getElem?_set_ne z] at e
    obtain ⟨w, e1, e2⟩ := r.slot k d' e
    exact ⟨w, by rw [List.getElem?_set_ne z]; exact e1, e2⟩
theorem Rel.wipe (r : Rel K mg sl σ io H h) : ∀ vs : List Nat, Rel K mg (wipeD sl vs) (L2.wipe σ vs) io H h
  | [] => r
  | v :: vs => (Rel.wipe r vs).unset v
theorem wipe_ext : ∀ {vs : List Nat} {σ σ' : L2.St}, σ'.length = σ.length → (∀ i, i ∉ vs → σ'[i]? = σ[i]?) → L2.wipe σ' vs = L2.wipe σ vs := by
  intro vs σ σ' hl h
  refine List.ext_getElem? fun i => ?_
  by_cases hi : i ∈ vs
  · have g : ∀ {vs : List Nat} (τ : L2.St), i ∈ vs → (L2.wipe τ vs)[i]? = if i < τ.length then some none else none := by
      intro vs
      induction vs with
      | nil => intro τ m; cases m
      | cons v vs ih =>
        intro τ m
        unfold L2.wipe
        by_cases z : v = i
        · subst z
          by_cases hh : v < τ.length
          · rw [List.getElem?_set_self (by rw [wipe_length]; exact hh), if_pos hh]
          · rw [List.getElem?_eq_none (by rw [List.length_set, wipe_length]; omega), if_neg hh]
        · rw [List.getElem?_set_ne z]
          rcases List.mem_cons.mp m with m | m
          · exact absurd m.symm z
          · exact ih τ m
    rw [g σ' hi, g σ hi, hl]
  · rw [wipe_out hi, wipe_out hi]; exact h i hi

theorem Rel.onZ (r : Rel K mg sl σ io H h) (x : Ez io io' H H') (r' : RH K mg io' H' h') : Rel K mg sl σ io' H' h' :=
  ⟨r', r.len, fun i d e => let ⟨v, e1, e2⟩ := r.slot i d e; ⟨v, e1, e2.monoY x.y⟩⟩
/-! targets within a block: nothing but the slots vs changes -/
structure Only' (vs : List Nat) (σ σ' : L2.St) : Prop where
  len : σ'.length = σ.length
  out : ∀ i, i ∉ vs → σ'[i]? = σ[i]?
theorem Only'.refl : Only' vs σ σ := ⟨rfl, fun _ _ => rfl⟩
theorem Only'.trans {σ1 σ2 σ3 : L2.St} (a : Only' vs σ1 σ2) (b : Only' vs σ2 σ3) : Only' vs σ1 σ3 := ⟨b.len.trans a.len, fun i h => (b.out i h).trans (a.out i h)⟩
theorem Only'.wipe {σ' : L2.St} (a : Only' vs σ σ') : L2.wipe σ' vs = L2.wipe σ vs := wipe_ext a.len a.out
def KnO (K : PySem.W.Frag) (mg : Str → Option Value) (vs : List Nat) (σ : L2.St) (io : List Addr) (H : Hp) (q : Sd → Hd → Prop) (Q : L2.St → Hp → Prop) : Prop :=
  ∀ sl' h', q sl' h' → ∀ σ' io' H', Ex io io' H H' → Rel K mg sl' σ' io' H' h' → Only' vs σ σ' → Q σ' H'
def tGo (K : PySem.W.Frag) (mg : Str → Option Value) (vs : List Nat) (w : WG) : TG := fun v σ H Q => ∃ d sl h io q, Rel K mg sl σ io H h ∧ RD io H d v ∧ w d sl h q ∧ KnO K mg vs σ io H q Q
def tGos (K : PySem.W.Frag) (mg : Str → Option Value) (vs : List Nat) (w : WGs) : TGs := fun v σ H Q => ∃ d sl h io q, Rel K mg sl σ io H h ∧ RDs io H d v ∧ w d sl h q ∧ KnO K mg vs σ io H q Q
abbrev LGo (X : Cx) (vs : List Nat) (e : Expr) (w : WG) : Prop := PG X e (tGo X.K X.mg vs w)
abbrev LGos (X : Cx) (vs : List Nat) (e : List Expr) (w : WGs) : Prop := PGs X e (tGos X.K X.mg vs w)
theorem lo_name {i : Nat} {x : Str} (hv : i ∈ vs) (hN : X.N.Nodup) (hi : X.N[i]? = some x) (hx : Loc X.env.scope x) (hf : X.fn x = true ∨ X.env.scope.names.lookup x = some .local) : LGo X vs (.Name x pos) (wNm i) := (pg_name hN hi hx hf).imp fun v σ H Q z => by
  obtain ⟨d, sl, h, io, q, r, rd, z, k⟩ := z
  exact k _ _ z _ _ _ .refl (r.set i rd) ⟨by simp, fun k hk => by rw [List.getElem?_set_ne (fun e => hk (by rw [← e]; exact hv))]⟩
theorem los_nil : LGos X vs [] wG0 := pgs_nil.imp fun v σ H Q z => by
  obtain ⟨d, sl, h, io, q, r, rd, ⟨rfl, z⟩, k⟩ := z
  cases rd
  exact ⟨rfl, k _ _ z _ _ _ .refl r .refl⟩
theorem los_cons {w : WG} {u : WGs} (h1 : LGo X vs e w) (h2 : LGos X vs es u) (hs : (assignEach (e :: es) X.env).map (·.2) = assign e X.env :: (assignEach es X.env).map (·.2) := by rfl) : LGos X vs (e :: es) (wG1 w u) := (pgs_cons h1 h2 hs).imp fun v σ H Q z => by
  obtain ⟨ds, sl, h, io, q, r, rd, ⟨d, dr, rfl, z⟩, k⟩ := z
  cases rd with
  | cons rd rr => exact ⟨_, _, rfl, d, sl, h, io, _, r, rd, z, fun sl1 h1 z1 σ1 io1 H1 x1 r1 o1 => ⟨dr, sl1, h1, io1, q, r1, rr.mono x1, z1, fun sl2 h2 z2 σ2 io2 H2 x2 r2 o2 => k _ _ z2 _ _ _ (x1.trans x2) r2 (o1.trans o2)⟩⟩
theorem lo_tup {k n : Nat} {u : WGs} (hc : X.calm = true) (h : LGos X vs es u) (hn : (assignEach es X.env).length = n := by rfl) (hst : (assignEach es X.env).findIdx? (·.1) = none := by rfl) : LGo X vs (.Tuple es k pos) (wGT n u) := (pg_tup hc h hn hst).imp fun v σ H Q z => by
  obtain ⟨d, sl, h, io, q, r, rd, ⟨ds, rfl, hl, z⟩, k⟩ := z
  cases rd with
  | tup ha ra => exact ⟨_, _, rfl, SqT.of ha, by rw [← ra.length]; exact hl, ds, sl, h, io, q, r, ra, z, k⟩

/-! tests -/
abbrev LTs (X : Cx) (ifs : List Expr) (w : WT) : Prop := PTs X ifs (tT X.K X.mg w)
theorem _root_.L2.PTs.imp {e : List Expr} {t t' : TT} (h : PTs X e t) (i : ∀ σ H Q, t' σ H Q → t σ H Q) : PTs X e t' := ⟨fun pins s σ H Q I z => h.run pins s σ H Q I (i σ H Q z)⟩
def wYes : WT := fun _ h Q => Q true h
theorem lts_nil : LTs X [] wYes := pts_nil.imp fun σ H Q z => by
  obtain ⟨sl, h, io, q, r, z, k⟩ := z
  exact k _ _ z _ _ .refl r.rh
theorem lts_one {w : WT} (h : LT X c w) : LTs X [c] w := pts_one h

/-! list comprehensions -/
def wLc (wi : WI) (g : WG) (tt : WT) (te : WE) (vs : List Nat) : WE := fun sl h Q => wi sl h fun t h1 => ∃ W : Nat → Nat → List D → Hd → Prop, (∃ m, W 0 m [] h1) ∧ ∀ i m acc h, W i m acc h →
  (t i h = some none ∧ Q (.ref h.length) (h ++ [.lst acc])) ∨ ∃ d, t i h = some (some d) ∧ ∃ N : List D → Hd → Prop, (∀ acc' h', N acc' h' → ∃ m', m' < m ∧ W (i + 1) m' acc' h') ∧ g d (wipeD sl vs) h fun sl2 h2 => tt sl2 h2 fun b h3 =>
    if b = true then te sl2 h3 fun y h4 => acc.length < sizeLine ∧ N (acc ++ [y]) h4 else N acc h3
theorem lc_imp {wi : WI} {g : WG} {tt : WT} {te : WE} : ∀ σ H Q, tE K mg (wLc wi g tt te vs) σ H Q → tLc (tI K mg wi) (tGo K mg vs g) (tT K mg tt) (tE K mg te) vs σ H Q := by
  intro σ H Q z
  obtain ⟨sl, h, io, q, r, z, k⟩ := z
  refine ⟨sl, h, io, _, r, z, fun t h1 z1 J i1 H1 x1 rh1 rit D hD => ?_⟩
  obtain ⟨W, ⟨m0, w0⟩, turn⟩ := z1
  have nD : D ∉ i1 := rh1.nin hD
  refine ⟨fun i m H' => ∃ acc vs' h' io', Ex i1 io' H1 H' ∧ D ∉ io' ∧ RH K mg io' H' h' ∧ H' D = some (.lst vs') ∧ RDs io' H' acc vs' ∧ W i m acc h', ⟨m0, [], [], h1, i1, ex_upd hD, nD, rh1.new hD, upd_same, .nil, w0⟩, ?_⟩
  rintro i m H2 ⟨acc, vs2, h2, i2, x2, n2, rh2, e2, rd2, w2⟩
  have upg : ∀ {i3 : List Addr} {H3 : Hp}, Ex i2 i3 H2 H3 → Ex i1 i3 H1 H3 := fun x3 => x2.trans x3
  rcases turn i m acc h2 w2 with ⟨e, z2⟩ | ⟨d, e, N, hN, z2⟩
  · left
    refine ⟨(rit i i2 H2 h2 x2.z rh2).1 e, ?_⟩
    have xa := ex_adopt x2 hD
    exact k _ _ z2 _ _ _ (x1.trans xa) (rh2.adopt n2 ⟨vs2, e2, rd2.mono1 (List.prefix_append _ _)⟩) (.ref (push_at rh2 D))
  · right
    obtain ⟨go, yl⟩ := (rit i i2 H2 h2 x2.z rh2).2 d e
    refine ⟨go, fun H' => ∃ acc vs' h' io', Ex i1 io' H1 H' ∧ D ∉ io' ∧ RH K mg io' H' h' ∧ H' D = some (.lst vs') ∧ RDs io' H' acc vs' ∧ N acc h', fun H' ⟨acc', vs', h', io', p1, p2, p3, p4, p5, n'⟩ => ?_, fun x H3 y => ?_⟩
    · obtain ⟨m', hm, w'⟩ := hN acc' h' n'
      exact ⟨m', hm, acc', vs', h', io', p1, p2, p3, p4, p5, w'⟩
    · obtain ⟨x3, rh3, d3⟩ := yl x H3 y
      have r3 : Rel K mg (wipeD sl vs) (L2.wipe σ vs) i2 H3 h2 := (r.wipe vs).on ((x1.trans x2).trans x3) rh3
      refine ⟨d, wipeD sl vs, h2, i2, _, r3, d3, z2, fun sl4 h4 z4 σ4 i4 H4 x4 r4 o4 => ⟨?_, ?_⟩⟩
      · have := o4.wipe
        rw [this]
        exact wipe_ext (wipe_length _ _) fun i hi => wipe_out hi
      · refine tT.go r4 z4 fun b h5 z5 i5 H5 x5 r5 => ?_
        have x25 := (x3.trans x4).trans x5
        have e5 : H5 D = some (.lst vs2) := x25.oth D _ e2 n2
        cases b with
        | false =>
          rw [if_neg Bool.false_ne_true] at z5 ⊢
          exact ⟨acc, vs2, h5, i5, x2.trans x25, x25.nin e2 n2, r5.rh, e5, rd2.mono x25, z5⟩
        | true =>
          rw [if_pos rfl] at z5 ⊢
          refine tE.go r5 z5 fun y h6 z6 u i6 H6 x6 r6 d6 => ?_
          obtain ⟨hl, z6⟩ := z6
          have x26 := x25.trans x6
          have e6 : H6 D = some (.lst vs2) := x26.oth D _ e2 n2
          have n6 := x26.nin e2 n2
          have rd6 := rd2.mono x26
          have y6 := ey_priv (io := i6) (o := .lst (vs2 ++ [u])) e6 (fun _ z => nomatch z)
          refine ⟨vs2, e6, by rw [← rd2.length]; exact hl, acc ++ [y], vs2 ++ [u], h6, i6, ex_priv (x2.trans x26) hD, n6, r6.rh.priv n6 e6 (fun _ z => nomatch z) (fun _ z => nomatch z), upd_same, ?_, z6⟩
          exact (rd6.monoY y6).append (.cons (d6.monoY y6) .nil)
/-- what a block's rules are told of -/
abbrev inBlk (X : Cx) (scope : Scope) (P : Cx → Prop) : Prop := ∀ (s : Shared) (H : Hp) (C : Addr) (cl : List (Str × Addr)) (fp : List Addr), P (X.blk s H scope (compEnvC scope cl C X.env) fp)
theorem le_lc {wi : WI} {g : WG} {tt : WT} {te : WE} (hc : X.calm = true) (hN : X.N.Nodup) (hi : LI X tg iter wi) (ok : BlkOk X.N X.env.scope scope own)
    (hg : inBlk X scope fun Y => LGo Y (own.map (·.2)) tg g) (ht : inBlk X scope fun Y => LTs Y ifs tt) (he : inBlk X scope fun Y => LE Y elt te) (hs : ∀ x, foldedSetIterable iter X.env x = pure x := by intro _; rfl) :
    LE X (.ListComp elt [⟨tg, iter, ifs, 0⟩] scope pos) (wLc wi g tt te (own.map (·.2))) := (pe_lc hc hN hi ok hg ht he hs).imp lc_imp
theorem ls_setLc {i : Nat} {y : Str} {py spos : Pos} {wi : WI} {g : WG} {tt : WT} {te : WE} (hc : X.calm = true) (hN : X.N.Nodup) (hy : X.N[i]? = some y) (hyl : X.env.scope.names.lookup y = some .local)
    (hsw : swapsWith (.ListComp elt [⟨tg, iter, ifs, 0⟩] scope pos) (some (.Name y py)) spos.line X.env = pure true) (hi : LI X tg iter wi) (ok : BlkOk X.N X.env.scope scope own)
    (hg : inBlk X scope fun Y => LGo Y (own.map (·.2)) tg g) (ht : inBlk X scope fun Y => LTs Y ifs tt) (he : inBlk X scope fun Y => LE Y elt te) (hs : ∀ x, foldedSetIterable iter X.env x = pure x := by intro _; rfl) :
    LS X (.Assign [.Name y py] (.ListComp elt [⟨tg, iter, ifs, 0⟩] scope pos) spos) (wAsg (wLc wi g tt te (own.map (·.2))) (wNm i)) := (ps_setLc hc hN hy hyl hsw hi ok hg ht he hs).imp fun D σ H z => by
  obtain ⟨sl, h, io, q, r, z, k⟩ := z
  exact lc_imp σ H _ (tE.go r z fun x h1 z1 u i1 H1 x1 r1 d1 => k.nx _ _ z1 _ _ _ x1 (r1.set i d1))

/-! two clauses -/
def wLc2 (wi : WI) (g : WG) (tt : WT) (wi1 : WI) (g1 : WG) (tt1 : WT) (te : WE) (vs vs1 : List Nat) : WE := fun sl h Q => wi sl h fun t h1 => ∃ W : Nat → Nat → List D → Hd → Prop, (∃ m, W 0 m [] h1) ∧ ∀ i m acc h, W i m acc h →
  (t i h = some none ∧ Q (.ref h.length) (h ++ [.lst acc])) ∨ ∃ d, t i h = some (some d) ∧ ∃ N : List D → Hd → Prop, (∀ acc' h', N acc' h' → ∃ m', m' < m ∧ W (i + 1) m' acc' h') ∧ g d (wipeD sl vs) h fun sl2 h2 => tt sl2 h2 fun b h3 =>
    if b = true then wi1 sl2 h3 fun t1 h4 => ∃ W1 : Nat → Nat → List D → Hd → Prop, (∃ m, W1 0 m acc h4) ∧ ∀ j k acc h, W1 j k acc h →
      (t1 j h = some none ∧ N acc h) ∨ ∃ d, t1 j h = some (some d) ∧ ∃ N1 : List D → Hd → Prop, (∀ acc' h', N1 acc' h' → ∃ k', k' < k ∧ W1 (j + 1) k' acc' h') ∧ g1 d (wipeD sl2 vs1) h fun sl3 h5 => tt1 sl3 h5 fun b h6 =>
        if b = true then te sl3 h6 fun y h7 => acc.length < sizeLine ∧ N1 (acc ++ [y]) h7 else N1 acc h6
    else N acc h3
theorem lc2_imp {wi wi1 : WI} {g g1 : WG} {tt tt1 : WT} {te : WE} : ∀ σ H Q, tE K mg (wLc2 wi g tt wi1 g1 tt1 te vs vs1) σ H Q →
    tLc2 (tI K mg wi) (tGo K mg vs g) (tT K mg tt) (tI K mg wi1) (tGo K mg vs1 g1) (tT K mg tt1) (tE K mg te) vs vs1 σ H Q := by
  intro σ H Q z
  obtain ⟨sl, h, io, q, r, z, k⟩ := z
  refine ⟨sl, h, io, _, r, z, fun t h1 z1 J i1 H1 x1 rh1 rit D hD => ?_⟩
  obtain ⟨W, ⟨m0, w0⟩, turn⟩ := z1
  have nD : D ∉ i1 := rh1.nin hD
  refine ⟨fun i m H' => ∃ acc vs' h' io', Ex i1 io' H1 H' ∧ D ∉ io' ∧ RH K mg io' H' h' ∧ H' D = some (.lst vs') ∧ RDs io' H' acc vs' ∧ W i m acc h', ⟨m0, [], [], h1, i1, ex_upd hD, nD, rh1.new hD, upd_same, .nil, w0⟩, ?_⟩
  rintro i m H2 ⟨acc, vs2, h2, i2, x2, n2, rh2, e2, rd2, w2⟩
  rcases turn i m acc h2 w2 with ⟨e, z2⟩ | ⟨d, e, N, hN, z2⟩
  · left
    refine ⟨(rit i i2 H2 h2 x2.z rh2).1 e, ?_⟩
    have xa := ex_adopt x2 hD
    exact k _ _ z2 _ _ _ (x1.trans xa) (rh2.adopt n2 ⟨vs2, e2, rd2.mono1 (List.prefix_append _ _)⟩) (.ref (push_at rh2 D))
  · right
    obtain ⟨go, yl⟩ := (rit i i2 H2 h2 x2.z rh2).2 d e
    refine ⟨go, fun H' => ∃ acc vs' h' io', Ex i1 io' H1 H' ∧ D ∉ io' ∧ RH K mg io' H' h' ∧ H' D = some (.lst vs') ∧ RDs io' H' acc vs' ∧ N acc h', fun H' ⟨acc', vs', h', io', p1, p2, p3, p4, p5, n'⟩ => ?_, fun x H3 y => ?_⟩
    · obtain ⟨m', hm, w'⟩ := hN acc' h' n'
      exact ⟨m', hm, acc', vs', h', io', p1, p2, p3, p4, p5, w'⟩
    · obtain ⟨x3, rh3, d3⟩ := yl x H3 y
      have r3 : Rel K mg (wipeD sl vs) (L2.wipe σ vs) i2 H3 h2 := (r.wipe vs).on ((x1.trans x2).trans x3) rh3
      refine ⟨d, wipeD sl vs, h2, i2, _, r3, d3, z2, fun sl4 h4 z4 σ4 i4 H4 x4 r4 o4 => ⟨?_, ?_⟩⟩
      · have := o4.wipe
        rw [this]
        exact wipe_ext (wipe_length _ _) fun i hi => wipe_out hi
      · refine tT.go r4 z4 fun b h5 z5 i5 H5 x5 r5 => ?_
        have x25 := (x3.trans x4).trans x5
        have e5 : H5 D = some (.lst vs2) := x25.oth D _ e2 n2
        have n5 := x25.nin e2 n2
        cases b with
        | false =>
          rw [if_neg Bool.false_ne_true] at z5 ⊢
          exact ⟨acc, vs2, h5, i5, x2.trans x25, n5, r5.rh, e5, rd2.mono x25, z5⟩
        | true =>
          rw [if_pos rfl] at z5 ⊢
          refine ⟨sl4, h5, i5, _, r5, z5, fun t1 h6 z6 J1 i6 H6 x6 rh6 rit1 => ?_⟩
          obtain ⟨W1, ⟨k0, v0⟩, turn1⟩ := z6
          have x16 := (x2.trans x25).trans x6
          have e6 := x6.oth D _ e5 n5
          have n6 := x6.nin e5 n5
          -- what holds at the inner turns
          refine ⟨fun j k H' => ∃ acc vs' h' io', Ez i6 io' H6 H' ∧ Ex i1 io' H1 H' ∧ D ∉ io' ∧ RH K mg io' H' h' ∧ H' D = some (.lst vs') ∧ RDs io' H' acc vs' ∧ W1 j k acc h', ⟨k0, acc, vs2, h6, i6, Ex.refl.z, x16, n6, rh6, e6, (rd2.mono x25).mono x6, v0⟩, ?_⟩
          rintro j kk H7 ⟨acc7, vs7, h7, i7, y7, x7, n7, rh7, e7, rd7, v7⟩
          rcases turn1 j kk acc7 h7 v7 with ⟨e, z7⟩ | ⟨d', e, N1, hN1, z7⟩
          · exact .inl ⟨(rit1 j i7 H7 h7 y7 rh7).1 e, acc7, vs7, h7, i7, x7, n7, rh7, e7, rd7, z7⟩
          · right
            obtain ⟨go1, yl1⟩ := (rit1 j i7 H7 h7 y7 rh7).2 d' e
            refine ⟨go1, fun H' => ∃ acc vs' h' io', Ez i6 io' H6 H' ∧ Ex i1 io' H1 H' ∧ D ∉ io' ∧ RH K mg io' H' h' ∧ H' D = some (.lst vs') ∧ RDs io' H' acc vs' ∧ N1 acc h', fun H' ⟨acc', vs', h', io', p0, p1, p2, p3, p4, p5, n'⟩ => ?_, fun x H8 y => ?_⟩
            · obtain ⟨k', hk, w'⟩ := hN1 acc' h' n'
              exact ⟨k', hk, acc', vs', h', io', p0, p1, p2, p3, p4, p5, w'⟩
            · obtain ⟨x8, rh8, d8⟩ := yl1 x H8 y
              -- the slots of the block as they stood behind the first clause
              have r8 : Rel K mg (wipeD sl4 vs1) (L2.wipe σ4 vs1) i7 H8 h7 := by
                have r6 := r5.on x6 rh6
                exact (r6.onZ y7 rh7).on x8 rh8 |>.wipe vs1
              refine ⟨d', wipeD sl4 vs1, h7, i7, _, r8, d8, z7, fun sl9 h9 z9 σ9 i9 H9 x9 r9 o9 => ⟨?_, ?_⟩⟩
              · rw [o9.wipe]
                exact wipe_ext (wipe_length _ _) fun i hi => wipe_out hi
              · refine tT.go r9 z9 fun b h10 z10 i10 H10 x10 r10 => ?_
                have xx := (x8.trans x9).trans x10
                have e10 := xx.oth D _ e7 n7
                have n10 := xx.nin e7 n7
                cases b with
                | false =>
                  rw [if_neg Bool.false_ne_true] at z10 ⊢
                  exact ⟨acc7, vs7, h10, i10, y7.trans xx.z, x7.trans xx, n10, r10.rh, e10, rd7.mono xx, z10⟩
                | true =>
                  rw [if_pos rfl] at z10 ⊢
                  refine tE.go r10 z10 fun y h11 z11 u i11 H11 x11 r11 d11 => ?_
                  obtain ⟨hl, z11⟩ := z11
                  have xx2 := xx.trans x11
                  have e11 := xx2.oth D _ e7 n7
                  have n11 := xx2.nin e7 n7
                  have y11 := ey_priv (io := i11) (o := .lst (vs7 ++ [u])) e11 (fun _ z => nomatch z)
                  refine ⟨vs7, e11, by rw [← rd7.length]; exact hl, acc7 ++ [y], vs7 ++ [u], h11, i11, (y7.trans xx2.z).trans (ez_priv e11 (fun _ z => nomatch z) (fun _ _ z => nomatch z)), ex_priv (x7.trans xx2) hD, n11, r11.rh.priv n11 e11 (fun _ z => nomatch z) (fun _ z => nomatch z), upd_same, ?_, z11⟩
                  exact ((rd7.mono xx2).monoY y11).append (.cons (d11.monoY y11) .nil)
theorem le_lc2 {wi wi1 : WI} {g g1 : WG} {tt tt1 : WT} {te : WE} (hc : X.calm = true) (hN : X.N.Nodup) (hi : LI X tg iter wi) (ok : BlkOk X.N X.env.scope scope own) (hv : ∀ i ∈ vs1, i ∈ own.map (·.2))
    (hg : inBlk X scope fun Y => LGo Y (own.map (·.2)) tg g) (ht : inBlk X scope fun Y => LTs Y ifs tt) (hi1 : inBlk X scope fun Y => LI Y tg1 iter1 wi1) (hg1 : inBlk X scope fun Y => LGo Y vs1 tg1 g1) (ht1 : inBlk X scope fun Y => LTs Y ifs1 tt1)
    (he : inBlk X scope fun Y => LE Y elt te) (hs : ∀ x, foldedSetIterable iter X.env x = pure x := by intro _; rfl) (hs1 : ∀ env x, foldedSetIterable iter1 env x = pure x := by intro _ _; rfl) :
    LE X (.ListComp elt [⟨tg, iter, ifs, 0⟩, ⟨tg1, iter1, ifs1, 0⟩] scope pos) (wLc2 wi g tt wi1 g1 tt1 te (own.map (·.2)) vs1) := (pe_lc2 hc hN hi ok hv hg ht hi1 hg1 ht1 he hs hs1).imp lc2_imp
theorem ls_setLc2 {i : Nat} {y : Str} {py spos : Pos} {wi wi1 : WI} {g g1 : WG} {tt tt1 : WT} {te : WE} (hc : X.calm = true) (hN : X.N.Nodup) (hy : X.N[i]? = some y) (hyl : X.env.scope.names.lookup y = some .local)
    (hsw : swapsWith (.ListComp elt [⟨tg, iter, ifs, 0⟩, ⟨tg1, iter1, ifs1, 0⟩] scope pos) (some (.Name y py)) spos.line X.env = pure true) (hi : LI X tg iter wi) (ok : BlkOk X.N X.env.scope scope own) (hv : ∀ i ∈ vs1, i ∈ own.map (·.2))
    (hg : inBlk X scope fun Y => LGo Y (own.map (·.2)) tg g) (ht : inBlk X scope fun Y => LTs Y ifs tt) (hi1 : inBlk X scope fun Y => LI Y tg1 iter1 wi1) (hg1 : inBlk X scope fun Y => LGo Y vs1 tg1 g1) (ht1 : inBlk X scope fun Y => LTs Y ifs1 tt1)
    (he : inBlk X scope fun Y => LE Y elt te) (hs : ∀ x, foldedSetIterable iter X.env x = pure x := by intro _; rfl) (hs1 : ∀ env x, foldedSetIterable iter1 env x = pure x := by intro _ _; rfl) :
    LS X (.Assign [.Name y py] (.ListComp elt [⟨tg, iter, ifs, 0⟩, ⟨tg1, iter1, ifs1, 0⟩] scope pos) spos) (wAsg (wLc2 wi g tt wi1 g1 tt1 te (own.map (·.2)) vs1) (wNm i)) := (ps_setLc2 hc hN hy hyl hsw hi ok hv hg ht hi1 hg1 ht1 he hs hs1).imp fun D σ H z => by
  obtain ⟨sl, h, io, q, r, z, k⟩ := z
  exact lc2_imp σ H _ (tE.go r z fun x h1 z1 u i1 H1 x1 r1 d1 => k.nx _ _ z1 _ _ _ x1 (r1.set i d1))

/-! dict comprehensions -/
def wDc (wi : WI) (g : WG) (tt : WT) (tk tv : WE) (vs : List Nat) : WE := fun sl h Q => wi sl h fun t h1 => ∃ W : Nat → Nat → List (D × D) → Hd → Prop, (∃ m, W 0 m [] h1) ∧ ∀ i m acc h, W i m acc h →
  (t i h = some none ∧ Q (.ref h.length) (h ++ [.dct false false acc])) ∨ ∃ d, t i h = some (some d) ∧ ∃ N : List (D × D) → Hd → Prop, (∀ acc' h', N acc' h' → ∃ m', m' < m ∧ W (i + 1) m' acc' h') ∧ g d (wipeD sl vs) h fun sl2 h2 => tt sl2 h2 fun b h3 =>
    if b = true then tk sl2 h3 fun x h4 => tv sl2 h4 fun y h5 => keyOk false x = true ∧ acc.length < sizeLine ∧ N (putD acc x y) h5 else N acc h3
theorem KVk.monoE {l : List (D × D)} {m : List (Key × V)} (x : Ey io io' H H') (r : KVk io H l m) : KVk io' H' l m := r.monoY x
theorem dc_imp {wi : WI} {g : WG} {tt : WT} {tk tv : WE} : ∀ σ H Q, tE K mg (wDc wi g tt tk tv vs) σ H Q → tDc (tI K mg wi) (tGo K mg vs g) (tT K mg tt) (tE K mg tk) (tE K mg tv) vs σ H Q := by
  intro σ H Q z
  obtain ⟨sl, h, io, q, r, z, k⟩ := z
  refine ⟨sl, h, io, _, r, z, fun t h1 z1 J i1 H1 x1 rh1 rit D hD => ?_⟩
  obtain ⟨W, ⟨m0, w0⟩, turn⟩ := z1
  have nD : D ∉ i1 := rh1.nin hD
  refine ⟨fun i m H' => ∃ acc vs' h' io', Ex i1 io' H1 H' ∧ D ∉ io' ∧ RH K mg io' H' h' ∧ H' D = some (.dK vs') ∧ KVk io' H' acc vs' ∧ W i m acc h', ⟨m0, [], [], h1, i1, ex_upd hD, nD, rh1.new hD, upd_same, .nil, w0⟩, ?_⟩
  rintro i m H2 ⟨acc, vs2, h2, i2, x2, n2, rh2, e2, rd2, w2⟩
  rcases turn i m acc h2 w2 with ⟨e, z2⟩ | ⟨d, e, N, hN, z2⟩
  · left
    refine ⟨(rit i i2 H2 h2 x2.z rh2).1 e, ?_⟩
    have xa := ex_adopt x2 hD
    exact k _ _ z2 _ _ _ (x1.trans xa) (rh2.adopt n2 (.ofK ⟨vs2, by simp [DOb, e2], rd2.mono1 (List.prefix_append _ _)⟩)) (.ref (push_at rh2 D))
  · right
    obtain ⟨go, yl⟩ := (rit i i2 H2 h2 x2.z rh2).2 d e
    refine ⟨go, fun H' => ∃ acc vs' h' io', Ex i1 io' H1 H' ∧ D ∉ io' ∧ RH K mg io' H' h' ∧ H' D = some (.dK vs') ∧ KVk io' H' acc vs' ∧ N acc h', fun H' ⟨acc', vs', h', io', p1, p2, p3, p4, p5, n'⟩ => ?_, fun x H3 y => ?_⟩
    · obtain ⟨m', hm, w'⟩ := hN acc' h' n'
      exact ⟨m', hm, acc', vs', h', io', p1, p2, p3, p4, p5, w'⟩
    · obtain ⟨x3, rh3, d3⟩ := yl x H3 y
      have r3 : Rel K mg (wipeD sl vs) (L2.wipe σ vs) i2 H3 h2 := (r.wipe vs).on ((x1.trans x2).trans x3) rh3
      refine ⟨d, wipeD sl vs, h2, i2, _, r3, d3, z2, fun sl4 h4 z4 σ4 i4 H4 x4 r4 o4 => ⟨?_, ?_⟩⟩
      · rw [o4.wipe]
        exact wipe_ext (wipe_length _ _) fun i hi => wipe_out hi
      · refine tT.go r4 z4 fun b h5 z5 i5 H5 x5 r5 => ?_
        have x25 := (x3.trans x4).trans x5
        have e5 : H5 D = some (.dK vs2) := x25.oth D _ e2 n2
        cases b with
        | false =>
          rw [if_neg Bool.false_ne_true] at z5 ⊢
          exact ⟨acc, vs2, h5, i5, x2.trans x25, x25.nin e2 n2, r5.rh, e5, rd2.mono x25, z5⟩
        | true =>
          rw [if_pos rfl] at z5 ⊢
          refine tE.go r5 z5 fun kd h6 z6 ku i6 H6 x6 r6 d6 => ?_
          refine tE.go r6 z6 fun y h7 z7 u i7 H7 x7 r7 d7 => ?_
          obtain ⟨hk, hl, z7⟩ := z7
          obtain ⟨key, rfl⟩ := key_of_ok hk
          have x27 := (x25.trans x6).trans x7
          have e7 : H7 D = some (.dK vs2) := x27.oth D _ e2 n2
          have n7 := x27.nin e2 n2
          have y7 := ey_priv (io := i7) (o := .dK (putK vs2 key u)) e7 (fun _ z => nomatch z)
          exact ⟨vs2, key, rd_key d6, e7, by rw [← rd2.length]; exact hl, putD acc (keyD key) y, putK vs2 key u, h7, i7, ex_priv (x2.trans x27) hD, n7, r7.rh.priv n7 e7 (fun _ z => nomatch z) (fun _ z => nomatch z), upd_same, ((rd2.mono x27).put d7).monoY y7, z7⟩
theorem le_dc {wi : WI} {g : WG} {tt : WT} {tk tv : WE} (hc : X.calm = true) (hN : X.N.Nodup) (hi : LI X tg iter wi) (ok : BlkOk X.N X.env.scope scope own)
    (hg : inBlk X scope fun Y => LGo Y (own.map (·.2)) tg g) (ht : inBlk X scope fun Y => LTs Y ifs tt) (hk : inBlk X scope fun Y => LE Y kx tk) (he : inBlk X scope fun Y => LE Y vx tv) (hs : ∀ x, foldedSetIterable iter X.env x = pure x := by intro _; rfl) :
    LE X (.DictComp kx vx [⟨tg, iter, ifs, 0⟩] scope pos) (wDc wi g tt tk tv (own.map (·.2))) := (pe_dc hc hN hi ok hg ht hk he hs).imp dc_imp
end
end MP

set_option Elab.async false
set_option linter.all false
set_option maxRecDepth 100000
set_option maxHeartbeats 2000000
/-! MpK: built-in functions and types; methods of lists and dicts. -/
namespace MP
open PySem PySem.Spec
open PyProof.Rows hiding St
open L2

/-! ### sorting texts -/
def leS (a b : Str) : Bool := !ltS b a
theorem leS_iff {a b : Str} : leS a b = true ↔ a.cps.toList ≤ b.cps.toList := by
  unfold leS ltS
  simp only [Bool.not_eq_true', decide_eq_false_iff_not]
  exact List.not_lt
def sortS (xs : List Str) : List Str := xs.mergeSort leS
theorem leS_trans : ∀ (a b c : Str), leS a b = true → leS b c = true → leS a c = true := fun a b c h1 h2 => leS_iff.mpr (List.le_trans (leS_iff.mp h1) (leS_iff.mp h2))
theorem leS_total : ∀ (a b : Str), (leS a b || leS b a) = true := fun a b => by
  rw [Bool.or_eq_true, leS_iff, leS_iff]; exact List.le_total _ _
theorem leS_anti {a b : Str} (h1 : leS a b = true) (h2 : leS b a = true) : a = b := by
  have := List.le_antisymm (leS_iff.mp h1) (leS_iff.mp h2)
  cases a; cases b
  exact congrArg Str.mk (Array.toList_inj.mp this)
theorem risingS_pw : ∀ {p : Str} {l : List Str}, risingS p l = true → (p :: l).Pairwise fun a b => leS a b = true
  | p, [], _ => by simp
  | p, x :: r, h => by
    simp only [risingS, Bool.and_eq_true] at h
    have hx : leS p x = true := by
      unfold leS ltS
      have := h.1
      rw [ltCps_eq] at this
      exact this
    have q := risingS_pw h.2
    refine List.pairwise_cons.mpr ⟨fun y hy => ?_, q⟩
    rcases List.mem_cons.mp hy with rfl | hy
    · exact hx
    · exact leS_trans _ _ _ hx ((List.pairwise_cons.mp q).1 y hy)
theorem sortedS_pw {l : List Str} (h : sortedS l = true) : l.Pairwise fun a b => leS a b = true := by
  cases l with
  | nil => exact .nil
  | cons x r => exact risingS_pw h
theorem sortS_perm (xs : List Str) : (sortS xs).Perm xs := List.mergeSort_perm xs leS
theorem sortS_pw (xs : List Str) : (sortS xs).Pairwise fun a b => leS a b = true := List.pairwise_mergeSort leS_trans leS_total xs
theorem sortS_uniq {xs ys : List Str} (p : ys.Perm xs) (h : ys.Pairwise fun a b => leS a b = true) : ys = sortS xs :=
  (p.trans (sortS_perm xs).symm).eq_of_pairwise (fun a b _ _ h1 h2 => leS_anti h1 h2) h (sortS_pw xs)
theorem sortS_congr {xs ys : List Str} (p : ys.Perm xs) : sortS ys = sortS xs := sortS_uniq ((sortS_perm ys).trans p) (sortS_pw ys)
theorem sortS_self {xs : List Str} (h : xs.Pairwise fun a b => leS a b = true) : sortS xs = xs := (sortS_uniq (.refl _) h).symm
theorem sortS_length (xs : List Str) : (sortS xs).length = xs.length := (sortS_perm xs).length_eq
theorem mem_sortS {xs : List Str} {x : Str} : x ∈ sortS xs ↔ x ∈ xs := (sortS_perm xs).mem_iff

section
variable {X : Cx} {j : Nat} {a b c e f o : Expr} {pos pos' p p2 apos cpos : Pos} {es : List Expr} {x : Str} {id T : String}
variable {K : PySem.W.Frag} {mg : Str → Option Value} {io io' : List Addr} {H H' : Hp} {h h' : Hd} {sl : Sd} {σ : L2.St}
theorem rd_ints : ∀ {ns : List Int} {vs : List V}, RDs io H (ns.map D.int) vs → vs = ns.map V.int
  | [], _, .nil => rfl
  | n :: ns, _, .cons h r => by cases h; rw [rd_ints r]; rfl
theorem rd_strs : ∀ {ns : List Str} {vs : List V}, RDs io H (ns.map D.str) vs → vs = ns.map V.str
  | [], _, .nil => rfl
  | n :: ns, _, .cons h r => by cases h; rw [rd_strs r]; rfl
theorem rd_bls : ∀ {ns : List Bool} {vs : List V}, RDs io H (ns.map D.bl) vs → vs = ns.map V.bl
  | [], _, .nil => rfl
  | n :: ns, _, .cons h r => by cases h; rw [rd_bls r]; rfl
theorem to_strs : ∀ (ns : List Str), RDs io H (ns.map D.str) (ns.map V.str)
  | [] => .nil
  | n :: ns => .cons (.str n) (to_strs ns)
theorem to_ints : ∀ (ns : List Int), RDs io H (ns.map D.int) (ns.map V.int)
  | [] => .nil
  | n :: ns => .cons (.int n) (to_ints ns)

/-! ### calls of built-ins -/
def CallS (X : Cx) (f : Value) : List V → Hp → VK → Prop := fun xs H Q => ∃ r, CallR X f r ∧ r xs H Q
theorem callS {f : Value} : CallR X f (CallS X f) := by
  intro pins s σ H xs us Q I r h
  obtain ⟨g, hg, z⟩ := h
  exact hg pins s σ H xs us Q I r z
abbrev CD := List D → Hd → (D → Hd → Prop) → Prop
def CallL (X : Cx) (f : Value) (g : CD) : Prop := ∀ {io : List Addr} {H : Hp} {h : Hd} {ds : List D} {vs : List V} {q : D → Hd → Prop} {Q : VK}, RH X.K X.mg io H h → RDs io H ds vs → g ds h q → Kn X.K X.mg io H q Q → CallS X f vs H Q
def wCB (g : CD) (wa : WA) : WE := fun sl h Q => wa sl h fun ds h1 => g ds h1 Q
theorem le_callB {g : CD} {wa : WA} (hc : CallL X (.builtin id) g) (hg : Gl X x) (hm : X.mg x = none) (hv : bootBuiltins x = some (.builtin id)) (ha : LA X (e :: es) wa) (hn : x ≠ "__name__" := by decide) (hdb : (x == ("__debug__" : Str)) = false := by decide)
    (he : starEach (e :: es) X.env = (false, eval e X.env) :: starEach es X.env := by rfl) (hpl : (backTo pos (starEach es X.env)).any (·.1) = false := by rfl) : LE X (.Call (.Name x p) (e :: es) [] pos) (wCB g wa) := (pe_callB callS hg hm hv ha hn hdb he hpl).imp fun σ H Q z => by
  obtain ⟨sl, h, io, q, r, z, k⟩ := z
  exact tA.go r z fun ds h1 z1 vs i1 H1 x1 r1 d1 => hc r1.rh d1 z1 (k.on x1)
theorem le_callT {g : CD} {wa : WA} (hc : CallL X (.type T) g) (hg : Gl X x) (hm : X.mg x = none) (hv : bootBuiltins x = some (.type T)) (ha : LA X (e :: es) wa) (hn : x ≠ "__name__" := by decide) (hdb : (x == ("__debug__" : Str)) = false := by decide)
    (he : starEach (e :: es) X.env = (false, eval e X.env) :: starEach es X.env := by rfl) (hpl : (backTo pos (starEach es X.env)).any (·.1) = false := by rfl) : LE X (.Call (.Name x p) (e :: es) [] pos) (wCB g wa) := (pe_callTy callS hg hm hv ha hn hdb he hpl).imp fun σ H Q z => by
  obtain ⟨sl, h, io, q, r, z, k⟩ := z
  exact tA.go r z fun ds h1 z1 vs i1 H1 x1 r1 d1 => hc r1.rh d1 z1 (k.on x1)
def lenD (h : Hd) : D → Option Nat
  | .str x => if x.length ≤ sizeLine then some x.length else none
  | .tup xs => some xs.length
  | .ref n => match h[n]? with
    | some (.lst xs) => some xs.length
    | some (.scr xs) => some xs.length
    | some (.dct false false kvs) => some kvs.length
    | _ => none
  | _ => none
def cLen : CD := fun ds h Q => ∃ x n, ds = [x] ∧ lenD h x = some n ∧ Q (.int n) h
theorem one_rd {d : D} {vs : List V} (r : RDs io H [d] vs) : ∃ v, vs = [v] ∧ RD io H d v := by
  cases r with
  | cons h t => cases t; exact ⟨_, rfl, h⟩
theorem two_rd {d e : D} {vs : List V} (r : RDs io H [d, e] vs) : ∃ v w, vs = [v, w] ∧ RD io H d v ∧ RD io H e w := by
  cases r with
  | cons h t => cases t with
    | cons h2 t => cases t; exact ⟨_, _, rfl, h, h2⟩
theorem cl_len : CallL X (.builtin "len") cLen := by
  intro io H h ds vs q Q rh rd z k
  obtain ⟨d, n, rfl, e, z⟩ := z
  obtain ⟨v, rfl, d1⟩ := one_rd rd
  have fin := k _ _ z _ io H .refl rh (.int _)
  cases d1 with
  | str y =>
    simp only [lenD] at e
    split at e
    · rename_i hy
      cases e
      exact ⟨_, call_len, _, y.length, rfl, ⟨hy, rfl⟩, fin⟩
    · cases e
  | @tup a vs xs ha ra => cases e; exact ⟨_, call_len, _, xs.length, rfl, .inr ⟨vs, SqT.of ha, ra.length⟩, fin⟩
  | @ref m a i =>
    simp only [lenD] at e
    split at e
    · rename_i xs e1
      cases e
      obtain ⟨vs, f1, f2⟩ := lst_sq (rh.cell m _ a e1 i) (.inl rfl)
      exact ⟨_, call_len, _, xs.length, rfl, .inl ⟨vs, f1, f2.length⟩, fin⟩
    · rename_i xs e1
      cases e
      obtain ⟨vs, f1, f2⟩ := lst_sq (rh.cell m _ a e1 i) (.inr rfl)
      exact ⟨_, call_len, _, xs.length, rfl, .inl ⟨vs, f1, f2.length⟩, fin⟩
    · rename_i kvs e1
      cases e
      obtain ⟨ks, f1, f2⟩ := (rh.cell m _ a e1 i).dK
      have f1 : H a = some (.dK ks) := by simpa [DOb] using f1
      exact ⟨_, call_lenD, a, ks, rfl, f1, by rw [← f2.length]; exact fin⟩
    · cases e
  | _ => cases e
def cAll : CD := fun ds h Q => ∃ (n : Nat) (bs : List Bool), ds = [.ref n] ∧ items h n = some (bs.map D.bl) ∧ Q (.bl (bs.all (fun b => b))) h
def cAny : CD := fun ds h Q => ∃ (n : Nat) (bs : List Bool), ds = [.ref n] ∧ items h n = some (bs.map D.bl) ∧ Q (.bl (bs.any (fun b => b))) h
theorem ref_rd {n : Nat} {v : V} (r : RD io H (.ref n) v) : ∃ a, v = .ref a ∧ io[n]? = some a := by
  cases r with
  | ref i => exact ⟨_, rfl, i⟩
theorem cl_all (hc : X.calm = true) : CallL X (.builtin "all") cAll := by
  intro io H h ds vs q Q rh rd z k
  obtain ⟨n, bs, rfl, e, z⟩ := z
  obtain ⟨v, rfl, d1⟩ := one_rd rd
  obtain ⟨a, rfl, i⟩ := ref_rd d1
  obtain ⟨vs, f1, f2⟩ := rh.list e i
  obtain rfl := rd_bls f2
  exact ⟨_, cr_all hc, a, bs, rfl, f1, k _ _ z _ io H .refl rh (.bl _)⟩
theorem cl_any (hc : X.calm = true) : CallL X (.builtin "any") cAny := by
  intro io H h ds vs q Q rh rd z k
  obtain ⟨n, bs, rfl, e, z⟩ := z
  obtain ⟨v, rfl, d1⟩ := one_rd rd
  obtain ⟨a, rfl, i⟩ := ref_rd d1
  obtain ⟨vs, f1, f2⟩ := rh.list e i
  obtain rfl := rd_bls f2
  exact ⟨_, cr_any hc, a, bs, rfl, f1, k _ _ z _ io H .refl rh (.bl _)⟩
/-- the texts of a list, or the keys of a dict -/
def textsD (h : Hd) (n : Nat) (xs : List Str) : Prop := items h n = some (xs.map D.str) ∨ ∃ lk kvs, h[n]? = some (.dct false lk kvs) ∧ kvs.map (·.1) = xs.map D.str
def cSorted : CD := fun ds h Q => ∃ n xs, ds = [.ref n] ∧ textsD h n xs ∧ xs.length < 64 ∧ Q (.ref h.length) (h ++ [.lst ((sortS xs).map D.str)])
theorem KVk.keys_str : ∀ {l : List (D × D)} {m : List (Key × V)} {xs : List Str}, KVk io H l m → l.map (·.1) = xs.map D.str → m.map (·.1) = xs.map Sum.inr
  | _, _, [], .nil, _ => rfl
  | _, _, _ :: _, .nil, e => by simp at e
  | _, _, [], .cons _ _, e => by simp at e
  | _, _, x :: xs, @KVk.cons _ _ k d v l m h r, e => by
    simp only [List.map_cons, List.cons.injEq] at e
    obtain ⟨e1, e2⟩ := e
    rw [List.map_cons, List.map_cons, KVk.keys_str r e2]
    cases k with
    | inl i => cases e1
    | inr y => cases e1; rfl
theorem cl_sorted (hc : X.calm = true) : CallL X (.builtin "sorted") cSorted := by
  intro io H h ds vs q Q rh rd z k
  obtain ⟨n, xs, rfl, e, hl, z⟩ := z
  obtain ⟨v, rfl, d1⟩ := one_rd rd
  obtain ⟨a, rfl, i⟩ := ref_rd d1
  have fin : ∀ (ys : List Str) (p : Addr), ys.Perm xs → sortedS ys = true → H p = none → Q (.ref p) (upd H p (.lst (ys.map V.str))) := fun ys p p1 p2 hp => by
    obtain rfl := sortS_uniq p1 (sortedS_pw p2)
    obtain ⟨x2, rh2, d2⟩ := new_lst rh (to_strs (sortS xs)) hp
    exact k _ _ z _ _ _ x2 rh2 d2
  rcases e with e | ⟨lk, kvs, e, ek⟩
  · obtain ⟨vs, f1, f2⟩ := rh.list e i
    obtain rfl := rd_strs f2
    exact ⟨_, cr_sortedS, a, xs, rfl, f1, hl, fin⟩
  · obtain ⟨ks, f1, f2⟩ := (rh.cell n _ a e i).dK
    exact ⟨_, call_sortedD hc, a, ks, xs, rfl, f1.rd, f2.keys_str ek, hl, fin⟩
/-- list(a list, a tuple or a dict) -/
def cList : CD := fun ds h Q => match ds with
  | [.tup xs] => Q (.ref h.length) (h ++ [.lst xs])
  | [.ref n] => match h[n]? with
    | some (.dct false _ kvs) => Q (.ref h.length) (h ++ [.lst (kvs.map (·.1))])
    | _ => ∃ xs, items h n = some xs ∧ Q (.ref h.length) (h ++ [.lst xs])
  | _ => False
theorem KVk.keys_rd : ∀ {l : List (D × D)} {m : List (Key × V)}, KVk io H l m → RDs io H (l.map (·.1)) (m.map fun kv => kV kv.1)
  | _, _, .nil => .nil
  | _, _, @KVk.cons _ _ k d v l m h r => .cons (rd_keyD k) (KVk.keys_rd r)
theorem cl_list (hc : X.calm = true) : CallL X (.type "list") cList := by
  intro io H h ds vs q Q rh rd z k
  simp only [cList] at z
  split at z
  · rename_i xs
    obtain ⟨v, rfl, d1⟩ := one_rd rd
    cases d1 with
    | @tup a us _ ha ra =>
      refine ⟨_, call_list_of, a, us, rfl, .inr (SqT.of ha), fun p hp => ?_⟩
      obtain ⟨x2, rh2, d2⟩ := new_lst rh ra hp
      exact k _ _ z _ _ _ x2 rh2 d2
  · rename_i n
    obtain ⟨v, rfl, d1⟩ := one_rd rd
    obtain ⟨a, rfl, i⟩ := ref_rd d1
    split at z
    · rename_i lk kvs e
      obtain ⟨ks, f1, f2⟩ := (rh.cell n _ a e i).dK
      refine ⟨_, call_listD hc, a, ks, rfl, f1.rd, fun p hp => ?_⟩
      obtain ⟨x2, rh2, d2⟩ := new_lst rh f2.keys_rd hp
      exact k _ _ z _ _ _ x2 rh2 d2
    · obtain ⟨xs, e, z⟩ := z
      obtain ⟨us, f1, f2⟩ := rh.list e i
      refine ⟨_, call_list_of, a, us, rfl, .inl f1, fun p hp => ?_⟩
      obtain ⟨x2, rh2, d2⟩ := new_lst rh f2 hp
      exact k _ _ z _ _ _ x2 rh2 d2
  · exact z.elim
def cTuple : CD := fun ds h Q => match ds with
  | [.tup xs] => Q (.tup xs) h
  | [.ref n] => ∃ xs, items h n = some xs ∧ Q (.tup xs) h
  | _ => False
theorem cl_tuple : CallL X (.type "tuple") cTuple := by
  intro io H h ds vs q Q rh rd z k
  simp only [cTuple] at z
  split at z
  · rename_i xs
    obtain ⟨v, rfl, d1⟩ := one_rd rd
    cases d1 with
    | @tup a us _ ha ra => exact ⟨_, call_tuple_of, a, us, rfl, .inr ⟨SqT.of ha, k _ _ z _ io H .refl rh (.tup ha ra)⟩⟩
  · rename_i n
    obtain ⟨v, rfl, d1⟩ := one_rd rd
    obtain ⟨a, rfl, i⟩ := ref_rd d1
    obtain ⟨xs, e, z⟩ := z
    obtain ⟨us, f1, f2⟩ := rh.list e i
    exact ⟨_, call_tuple_of, a, us, rfl, .inl ⟨f1, fun p hp => k _ _ z _ io _ (ex_upd hp) (rh.new hp) (.tup upd_same (f2.mono (ex_upd hp)))⟩⟩
  · exact z.elim
def cAbs : CD := fun ds h Q => ∃ i, ds = [.int i] ∧ Q (.int (if i < 0 then -i else i)) h
theorem cl_abs : CallL X (.builtin "abs") cAbs := by
  intro io H h ds vs q Q rh rd z k
  obtain ⟨i, rfl, z⟩ := z
  obtain ⟨v, rfl, d1⟩ := one_rd rd
  cases d1
  exact ⟨_, call_abs, i, rfl, k _ _ z _ io H .refl rh (.int _)⟩
def cMax : CD := fun ds h Q => ∃ i j, ds = [.int i, .int j] ∧ Q (.int (if j > i then j else i)) h
def cMin : CD := fun ds h Q => ∃ i j, ds = [.int i, .int j] ∧ Q (.int (if j < i then j else i)) h
theorem cl_max (hc : X.calm = true) : CallL X (.builtin "max") cMax := by
  intro io H h ds vs q Q rh rd z k
  obtain ⟨i, j, rfl, z⟩ := z
  obtain ⟨v, w, rfl, d1, d2⟩ := two_rd rd
  cases d1; cases d2
  exact ⟨_, call_max2 hc, i, j, rfl, k _ _ z _ io H .refl rh (.int _)⟩
theorem cl_min (hc : X.calm = true) : CallL X (.builtin "min") cMin := by
  intro io H h ds vs q Q rh rd z k
  obtain ⟨i, j, rfl, z⟩ := z
  obtain ⟨v, w, rfl, d1, d2⟩ := two_rd rd
  cases d1; cases d2
  exact ⟨_, call_min2 hc, i, j, rfl, k _ _ z _ io H .refl rh (.int _)⟩
def cInt : CD := fun ds h Q => (∃ i, ds = [.int i] ∧ Q (.int i) h) ∨ ∃ b, ds = [.bl b] ∧ Q (.int (if b then 1 else 0)) h
theorem cl_int : CallL X (.type "int") cInt := by
  intro io H h ds vs q Q rh rd z k
  rcases z with ⟨i, rfl, z⟩ | ⟨b, rfl, z⟩
  · obtain ⟨v, rfl, d1⟩ := one_rd rd
    cases d1
    exact ⟨_, call_int1, .inl ⟨i, rfl, k _ _ z _ io H .refl rh (.int _)⟩⟩
  · obtain ⟨v, rfl, d1⟩ := one_rd rd
    cases d1
    exact ⟨_, call_int1, .inr ⟨b, rfl, k _ _ z _ io H .refl rh (.int _)⟩⟩
/-- dict(a list of pairs) by plain keys -/
def dictOfPairs (kvs : List (D × D)) : List (D × D) := kvs.foldl (fun acc p => putD acc p.1 p.2) []
def cDict : CD := fun ds h Q => ∃ n kvs, ds = [.ref n] ∧ items h n = some (kvs.map fun p => .tup [p.1, p.2]) ∧ (kvs.all fun p => keyOk false p.1) = true ∧ Q (.ref h.length) (h ++ [.dct false false (dictOfPairs kvs)])
theorem KVk.merge {more : List (D × D)} : ∀ {rs : List (Key × V)} {l : List (D × D)} {m : List (Key × V)}, KVk io H more rs → KVk io H l m → KVk io H (more.foldl (fun acc p => putD acc p.1 p.2) l) (mergeK m rs) := by
  induction more with
  | nil => intro rs l m r q; cases r; exact q
  | cons p more ih =>
    intro rs l m r q
    cases r with
    | @cons k d v _ m' hd r =>
      have := ih r (KVk.put (k := k) hd q)
      exact this
theorem pairs_rd : ∀ {kvs : List (D × D)} {vs : List V}, RDs io H (kvs.map fun p => .tup [p.1, p.2]) vs → (kvs.all fun p => keyOk false p.1) = true →
    ∃ (ps : List Addr) (ks : List (Key × V)), vs = ps.map V.ref ∧ Paired (fun p kv => SqT K H p [kV kv.1, kv.2]) ps ks ∧ KVk io H kvs ks
  | [], _, .nil, _ => ⟨[], [], rfl, .nil, .nil⟩
  | p :: kvs, _, .cons h r, e => by
    simp only [List.all_cons, Bool.and_eq_true] at e
    obtain ⟨ps, ks, rfl, q1, q2⟩ := pairs_rd r e.2
    obtain ⟨k, ek⟩ := key_of_ok e.1
    cases h with
    | @tup a us _ ha ra =>
      obtain ⟨v, w, rfl, d1, d2⟩ := two_rd ra
      rw [ek] at d1
      have := rd_key d1
      subst this
      refine ⟨a :: ps, (k, w) :: ks, rfl, .cons (SqT.of ha) q1, ?_⟩
      have : p = (keyD k, p.2) := by rw [← ek]
      rw [this]
      exact .cons d2 q2
theorem cl_dict (hc : X.calm = true) : CallL X (.type "dict") cDict := by
  intro io H h ds vs q Q rh rd z k
  obtain ⟨n, kvs, rfl, e, hk, z⟩ := z
  obtain ⟨v, rfl, d1⟩ := one_rd rd
  obtain ⟨a, rfl, i⟩ := ref_rd d1
  obtain ⟨us, f1, f2⟩ := rh.list e i
  obtain ⟨ps, ks, rfl, q1, q2⟩ := pairs_rd (K := X.K) f2 hk
  refine ⟨_, call_dictP hc, a, ps, ks, rfl, f1, q1, fun p hp => ?_⟩
  have x := ex_alloc (io := io) (o := .dK (mergeK [] ks)) hp
  exact k _ _ z _ _ _ x (rh.alloc hp (.ofK ⟨_, by simp [DOb, upd_same], (q2.mono x).merge .nil⟩)) (.ref (push_at rh p))
end
end MP

set_option Elab.async false
set_option linter.all false
set_option maxRecDepth 100000
set_option maxHeartbeats 2000000
/-! MpL: products, powers; repr; isinstance; methods of lists and dicts; displays of dicts; stars. -/
namespace MP
open PySem PySem.Spec
open PyProof.Rows hiding St
open L2

section
variable {X : Cx} {j : Nat} {a b c e f o : Expr} {pos pos' p p2 p3 apos cpos : Pos} {es : List Expr} {x : Str} {id T : String}
variable {K : PySem.W.Frag} {mg : Str → Option Value} {io io' : List Addr} {H H' : Hp} {h h' : Hd} {sl : Sd} {σ : L2.St}
/-! products and powers -/
def repD (k : Nat) (xs : List D) : List D := (List.replicate k xs).flatten
theorem RDs.rep {ds : List D} {vs : List V} (r : RDs io H ds vs) : ∀ k : Nat, RDs io H (repD k ds) (List.replicate k vs).flatten
  | 0 => .nil
  | k + 1 => by
    unfold repD
    rw [List.replicate_succ, List.replicate_succ, List.flatten_cons, List.flatten_cons]
    exact r.append (RDs.rep r k)
def oMul : O2 := fun x y h Q => match x, y with
  | .int a, .int b => CMulW a b ∧ Q (.int (a * b)) h
  | .tup xs, .int k => xs ≠ [] ∧ 2 ≤ k ∧ k ≤ 1000 ∧ xs.length ≤ 1000 ∧ Q (.tup (repD k.toNat xs)) h
  | .ref n, .int k => ∃ xs, h[n]? = some (.lst xs) ∧ -(2 ^ 63) ≤ k ∧ k < 2 ^ 63 ∧ xs.length * k.toNat ≤ sizeLine ∧ Q (.ref h.length) (h ++ [.lst (repD k.toNat xs)])
  | _, _ => False
theorem ol_mul : OpL X (binaryOp .Mult) oMul := by
  intro io H h x y u v q Q rh dx dy z k
  cases dx with
  | int a => cases dy with
    | int b => exact ⟨_, op_mulW, a, b, rfl, rfl, z.1, k _ _ z.2 _ io H .refl rh (.int _)⟩
    | _ => exact z.elim
  | @tup a vs xs ha ra => cases dy with
    | int n =>
      obtain ⟨h1, h2, h3, h4, z⟩ := z
      refine ⟨_, op_repT, a, n, vs, rfl, rfl, SqT.of ha, fun e => h1 (List.eq_nil_of_length_eq_zero (by rw [ra.length, e]; rfl)), h2, h3, by rw [← ra.length]; exact h4, fun p hp => ?_⟩
      exact k _ _ z _ io _ (ex_upd hp) (rh.new hp) (.tup upd_same ((ra.rep _).mono (ex_upd hp)))
    | _ => exact z.elim
  | @ref m a i => cases dy with
    | int n =>
      obtain ⟨xs, e, h1, h2, h3, z⟩ := z
      obtain ⟨vs, f1, r1⟩ := rh.lst e i
      refine ⟨_, op_rep, a, n, vs, rfl, rfl, f1, h1, h2, by rw [← r1.length]; exact h3, fun p hp => ?_⟩
      obtain ⟨x2, rh2, d2⟩ := new_lst rh (r1.rep n.toNat) hp
      exact k _ _ z _ _ _ x2 rh2 d2
    | _ => exact z.elim
  | _ => exact z.elim
def CPowW (i j : Int) : Prop := 0 ≤ j ∧ (Builtin.Int.intBits i : Int) * j ≤ 2 ^ 27
theorem op_powW : OpR X (binaryOp .Pow) (rI CPowW fun i j => .int (i ^ j.toNat)) := opI fun _ _ _ _ _ _ _ hc q => pow_int hc.1 hc.2 q
abbrev oPow : O2 := oInt2 CPowW fun a b => .int (a ^ b.toNat)
theorem ol_pow : OpL X (binaryOp .Pow) oPow := ol_int2 op_powW fun _ _ _ _ => .int _

/-! repr -/
theorem call_reprD (hr : Room j X.A) (hgd : X.A.guards = some []) : CallR X (.builtin "repr") (fun xs H Q => ∃ x d, xs = [x] ∧ Dp X.K H x d ∧ PyData.showable d = true ∧ PyData.hasDict d = false ∧ d.shown.length ≤ sizeLine ∧ d.depth ≤ 60 ∧ Q (.str d.shown) H) := by
  intro pins s σ H xs us Q I r q
  obtain ⟨x, d, rfl, dp, hs, hn, hz, hd, q⟩ := q
  obtain ⟨u, rfl, rx⟩ := vals1 r
  have hu := hr.units
  obtain ⟨as, rd⟩ := Dp.reads I d x u dp rx
  cases dp with
  | non => cases (show u = Value.none from rx); exact PySem.P.repr_of_none ⟨.str _, H, I.tok _, ⟨_, rfl⟩, q⟩
  | bl b =>
    cases (show u = Value.bool b from rx)
    refine PySem.P.repr_of_bool ⟨.str _, H, I.tok _, ⟨_, rfl⟩, ?_⟩
    cases b <;> exact q
  | int i =>
    obtain ⟨t, rfl⟩ := (show ∃ t, u = Value.int i t from rx)
    exact PySem.P.repr_of_int (by simpa [PyData.showable] using hs) ⟨.str _, H, I.tok _, ⟨_, rfl⟩, q⟩
  | str y =>
    obtain ⟨t, rfl⟩ := (show ∃ t, u = Value.str y t from rx)
    exact PySem.P.repr_of_str ⟨.str _, H, I.tok _, ⟨_, rfl⟩, q⟩ hz
  | lst hq hall =>
    cases (show u = Value.ref _ from rx)
    exact repr_of_reads' rd hs (PyData.noDict_hsm hn) hgd (by omega) (fun _ _ e => e) (fun h' t tk hk => ⟨.str _, H, I.kept hk, ⟨_, rfl⟩, q⟩) hz
  | tup hq hall =>
    cases (show u = Value.ref _ from rx)
    exact repr_of_reads' rd hs (PyData.noDict_hsm hn) hgd (by omega) (fun _ _ e => e) (fun h' t tk hk => ⟨.str _, H, I.kept hk, ⟨_, rfl⟩, q⟩) hz
def cRepr : CD := fun ds h Q => ∃ x d, ds = [x] ∧ PyR h x d ∧ PyData.showable d = true ∧ PyData.hasDict d = false ∧ d.shown.length ≤ sizeLine ∧ d.depth ≤ 60 ∧ Q (.str d.shown) h
theorem cl_repr (hr : Room j X.A) (hgd : X.A.guards = some []) : CallL X (.builtin "repr") cRepr := by
  intro io H h ds vs q Q rh rd z k
  obtain ⟨x, d, rfl, pr, h1, h2, h3, h4, z⟩ := z
  obtain ⟨v, rfl, d1⟩ := one_rd rd
  exact ⟨_, call_reprD hr hgd, v, d, rfl, pr.dp rh d1, h1, h2, h3, h4, k _ _ z _ io H .refl rh (.str _)⟩

/-! isinstance -/
abbrev TyN := String ⊕ Str
def tyD (h : Hd) : D → Option TyN
  | .non => some (.inl "NoneType")
  | .bl _ => some (.inl "bool")
  | .int _ => some (.inl "int")
  | .str _ => some (.inl "str")
  | .tup _ => some (.inl "tuple")
  | .ref n => match h[n]? with
    | some (.lst _) => some (.inl "list")
    | some (.scr _) => some (.inl "list")
    | some (.dct false _ _) => some (.inl "dict")
    | some (.dct true false _) => some (.inl "dict")
    | some (.ins c _) => some (.inr c)
    | _ => none
/-- what isinstance asks of an own class -/
def InsOk (K : PySem.W.Frag) (C : Addr) : Prop := Cls K C ∧ PySem.W.findIn K (.ref C) "__class__" = some (some (.builtin "object.__class__")) ∧
  PySem.W.specialIn K (.builtin "object.__class__") "__get__" = some (some (.builtin "getset_descriptor.__get__")) ∧ PySem.W.takesIn K (.builtin "object.__class__") = some true ∧ PySem.W.mroIn K C (.type "object") = some true
/-- a table of answers of isinstance(.., cv) -/
structure IsTab (K : PySem.W.Frag) (mg : Str → Option Value) (cv : Value) (tab : TyN → Option Bool) : Prop where
  blt : ∀ T b, tab (.inl T) = some b → PySem.W.kitOne K (.type T) cv = some b
  own : ∀ c b C, tab (.inr c) = some b → mg c = some (.ref C) → InsOk K C ∧ PySem.W.kitOne K (.ref C) cv = some b
def wIsi (tab : TyN → Option Bool) (w : WE) : WE := fun sl h Q => w sl h fun x h1 => ∃ t b, tyD h1 x = some t ∧ tab t = some b ∧ Q (.bl b) h1
theorem le_isi {tab : TyN → Option Bool} {cu : V} {cv : Value} {w : WE} (tb : IsTab X.K X.mg cv tab) (hg : Gl X "isinstance") (hm : X.mg "isinstance" = none) (hv : bootBuiltins "isinstance" = some (.builtin "isinstance")) (hc : PE X c (tC cu)) (hcv : ClsV cu cv) (ha : LE X a w)
    (hs1 : starEach [a, c] X.env = (false, eval a X.env) :: starEach [c] X.env := by rfl) (hs2 : starEach [c] X.env = (false, eval c X.env) :: starEach [] X.env := by rfl) (hpl : (backTo pos (starEach [c] X.env)).any (·.1) = false := by rfl) :
    LE X (.Call (.Name "isinstance" p) [a, c] [] pos) (wIsi tab w) := (pe_callB call_isi hg hm hv (pa_cons ha (pa_cons hc pa_nil hs2) hs1) (by decide) (by decide) hs1 hpl).imp fun σ H Q z => by
  obtain ⟨sl, h, io, q, r, z, k⟩ := z
  refine tE.go r z fun x h1 z1 u i1 H1 x1 r1 d1 => ?_
  obtain ⟨t, b, e1, e2, z1⟩ := z1
  have fin := k _ _ z1 _ i1 H1 x1 r1.rh (.bl b)
  have go : ∀ (tv : Value), TyX X.K H1 u tv → PySem.W.kitOne X.K tv cv = some b → rIsi X.K [u, cu] H1 Q := fun tv ty kk => ⟨u, cu, tv, cv, b, rfl, hcv, ty, kk, fin⟩
  cases d1 with
  | non => cases e1; exact go _ (.base .non) (tb.blt _ _ e2)
  | bl y => cases e1; exact go _ (.base (.bl y)) (tb.blt _ _ e2)
  | int y => cases e1; exact go _ (.base (.int y)) (tb.blt _ _ e2)
  | str y => cases e1; exact go _ (.base (.str y)) (tb.blt _ _ e2)
  | tup ha ra => cases e1; exact go _ (.base (.tup ha)) (tb.blt _ _ e2)
  | @ref n a i =>
    simp only [tyD] at e1
    split at e1
    · rename_i xs e
      cases e1
      obtain ⟨vs, f1, _⟩ := r1.rh.cell n _ a e i
      exact go _ (.base (.lst f1)) (tb.blt _ _ e2)
    · rename_i xs e
      cases e1
      obtain ⟨o, vs, f1, _⟩ := r1.rh.cell n _ a e i
      exact go _ (.base (.frz f1)) (tb.blt _ _ e2)
    · rename_i lk kvs e
      cases e1
      obtain ⟨ks, f1, _⟩ := (r1.rh.cell n _ a e i).dK
      cases lk with
      | false => exact go _ (.base (.dK (by simpa [DOb] using f1))) (tb.blt _ _ e2)
      | true =>
        obtain ⟨o, f1⟩ := (by simpa [DOb] using f1 : ∃ o, H1 a = some (.frz o (.dK ks)))
        exact go _ (.fDict f1) (tb.blt _ _ e2)
    · rename_i kvs e
      cases e1
      obtain ⟨ks, f1, _⟩ := (r1.rh.cell n _ a e i).dT
      exact go _ (.base (.dT (by simpa [DOb] using f1))) (tb.blt _ _ e2)
    · rename_i cn fs e
      cases e1
      obtain ⟨C, dx, gs, m1, m2, m3, fr⟩ := r1.rh.cell n _ a e i
      obtain ⟨⟨o1, o2, o3, o4, o5⟩, kk⟩ := tb.own _ _ C e2 m1
      exact go _ (.base (.ins m2 o1 o2 o3 o4 o5)) kk
    · cases e1

/-! heaps that only grow -/
theorem ex_grow (k : ∀ b o, H b = some o → H' b = some o) : Ex io io H H' := ⟨List.prefix_refl _, fun a xs e => k _ _ e, fun a o u e => ⟨u, k _ _ e, rfl⟩, fun a o e _ => k _ _ e, fun _ h => .inl h⟩
theorem RH.grow (r : RH K mg io H h) (k : ∀ b o, H b = some o → H' b = some o) : RH K mg io H' h :=
  ⟨r.len, r.inj, fun n c a e i => (r.cell n c a e i).stay (ex_grow k) (fun o q => k _ _ q) fun b q => k _ _ q⟩

/-! list(d.items()) -/
def wListItems (w : WE) : WE := fun sl h Q => w sl h fun x h1 => ∃ n kvs, x = .ref n ∧ h1[n]? = some (.dct false false kvs) ∧ Q (.ref h1.length) (h1 ++ [.lst (kvs.map fun p => .tup [p.1, p.2])])
theorem le_listItems {w : WE} (hc : X.calm = true) (he : LE X e w) (hg : Gl X "list") (hm : X.mg "list" = none) (hv : bootBuiltins "list" = some (.type "list")) (hbase : attributeBase e "items" X.env (eval e X.env) = eval e X.env := by rfl) (hline : (apos.endLine == cpos.line) = true := by rfl)
    (hs : starEach [.Call (.Attribute e "items" apos) [] [] cpos] X.env = (false, eval (.Call (.Attribute e "items" apos) [] [] cpos) X.env) :: starEach [] X.env := by rfl) :
    LE X (.Call (.Name "list" p) [.Call (.Attribute e "items" apos) [] [] cpos] [] pos) (wListItems w) := (LiI.pe_listItems hc he hg hm hv hbase hline hs).imp fun σ H Q z => by
  obtain ⟨sl, h, io, q, r, z, k⟩ := z
  refine tE.go r z fun x h1 z1 u i1 H1 x1 r1 d1 => ?_
  obtain ⟨n, kvs, rfl, e1, z1⟩ := z1
  obtain ⟨a, rfl, i⟩ := ref_rd d1
  obtain ⟨ks, f1, f2⟩ := (r1.rh.cell n _ a e1 i).dK
  refine ⟨a, ks, rfl, by simpa [DOb] using f1, fun H2 p ts k2 hp ht hpt hl pr => ?_⟩
  have xg : Ex i1 i1 H1 H2 := ex_grow k2
  have rh2 := r1.rh.grow k2
  have xa := ex_adopt xg hp
  have pn : p ∉ i1 := r1.rh.nin hp
  have rd : ∀ {l : List (D × D)} {m : List (Key × V)} {ts : List Addr}, KVk i1 H2 l m → Paired (fun (t : Addr) (q : Key × V) => H2 t = some (.tup [kV q.1, q.2])) ts m → RDs i1 H2 (l.map fun p => .tup [p.1, p.2]) (ts.map V.ref) := by
    intro l m ts r
    induction r generalizing ts with
    | nil => intro q; cases q; exact .nil
    | @cons kk d v l m hd r ih =>
      intro q
      cases q with
      | cons q1 q2 => exact .cons (.tup q1 (.cons (rd_keyD kk) (.cons hd .nil))) (ih q2)
  exact k _ _ z1 _ _ _ (x1.trans xa) (rh2.adopt pn ⟨_, hl, (rd (f2.mono xg) pr).mono1 (List.prefix_append _ _)⟩) (.ref (push_at rh2 p))

/-! dict.get -/
def isDct (h : Hd) (n : Nat) (x : D) (kvs : List (D × D)) : Prop := ∃ t lk, h[n]? = some (.dct t lk kvs) ∧ keyOk t x = true
theorem isD_of {n : Nat} {t lk : Bool} {kvs : List (D × D)} {a : Addr} (r : RH K mg io H h) (e : h[n]? = some (.dct t lk kvs)) (i : io[n]? = some a) : IsD H a := by
  cases t with
  | false => obtain ⟨ks, f, _⟩ := (r.cell n _ a e i).dK; exact .inl ⟨ks, f.rd⟩
  | true => obtain ⟨ks, f, _⟩ := (r.cell n _ a e i).dT; exact .inr ⟨ks, f.rd⟩
def wGet1 (wd wy : WE) : WE := fun sl h Q => wd sl h fun x h1 => (∃ n t lk kvs, x = .ref n ∧ h1[n]? = some (.dct t lk kvs)) ∧ wy sl h1 fun y h2 => ∃ n kvs, x = .ref n ∧ isDct h2 n y kvs ∧ Q ((getD kvs y).getD .non) h2
def wGet2 (wd wy wz : WE) : WE := fun sl h Q => wd sl h fun x h1 => (∃ n t lk kvs, x = .ref n ∧ h1[n]? = some (.dct t lk kvs)) ∧ wy sl h1 fun y h2 => wz sl h2 fun z h3 => ∃ n kvs, x = .ref n ∧ isDct h3 n y kvs ∧ Q ((getD kvs y).getD z) h3
theorem RO.getD {d : Option D} {o : Option V} {z : D} {w : V} (r : RO io H d o) (rz : RD io H z w) : RD io H (d.getD z) (o.getD w) := by
  cases d <;> cases o <;> first | exact rz | exact r | exact r.elim
theorem le_get1 {wd wy : WE} (hr : Room j X.A) (ho : LE X o wd) (he : LE X e wy) (m : M1 X o "get" apos e cpos) : LE X (.Call (.Attribute o "get" apos) [e] [] cpos) (wGet1 wd wy) := (pe_dget1 (hu_of hr) ho he m).imp fun σ H Q z => by
  obtain ⟨sl, h, io, q, r, z, k⟩ := z
  refine tE.go r z fun x h1 z1 u i1 H1 x1 r1 d1 => ?_
  obtain ⟨⟨n, t, lk, kvs, rfl, e1⟩, z1⟩ := z1
  obtain ⟨a, rfl, i⟩ := ref_rd d1
  refine ⟨a, rfl, isD_of r1.rh e1 i, tE.go r1 z1 fun y h2 z2 v i2 H2 x2 r2 d2 => ?_⟩
  obtain ⟨n', kvs', en, ⟨t', lk', e2, hk⟩, z2⟩ := z2
  cases en
  obtain ⟨o, g, ro⟩ := dget_rel (r2.rh.cell n _ a e2 (pre_get x2.pre i)) hk d2
  exact ⟨o, g, k _ _ z2 _ _ _ (x1.trans x2) r2.rh (ro.getD .non)⟩
theorem le_get2 {wd wy wz : WE} (hr : Room j X.A) (ho : LE X o wd) (he : LE X e wy) (hf : LE X f wz) (m : M2 X o "get" apos e f cpos) : LE X (.Call (.Attribute o "get" apos) [e, f] [] cpos) (wGet2 wd wy wz) := (pe_dget2 (hu_of hr) ho he hf m).imp fun σ H Q z => by
  obtain ⟨sl, h, io, q, r, z, k⟩ := z
  refine tE.go r z fun x h1 z1 u i1 H1 x1 r1 d1 => ?_
  obtain ⟨⟨n, t, lk, kvs, rfl, e1⟩, z1⟩ := z1
  obtain ⟨a, rfl, i⟩ := ref_rd d1
  refine ⟨a, rfl, isD_of r1.rh e1 i, tE.go r1 z1 fun y h2 z2 v i2 H2 x2 r2 d2 => tE.go r2 z2 fun w h3 z3 v3 i3 H3 x3 r3 d3 => ?_⟩
  obtain ⟨n', kvs', en, ⟨t', lk', e2, hk⟩, z3⟩ := z3
  cases en
  obtain ⟨o, g, ro⟩ := dget_rel (r3.rh.cell n _ a e2 (pre_get (x2.trans x3).pre i)) hk (d2.mono x3)
  exact ⟨o, g, k _ _ z3 _ _ _ ((x1.trans x2).trans x3) r3.rh (ro.getD d3)⟩

/-! methods of lists -/
def MtS (X : Cx) (id : String) : V → List V → Hp → VK → Prop := fun x xs H Q => ∃ r, MtR X id r ∧ r x xs H Q
theorem mtS : MtR X id (MtS X id) := by
  intro pins s σ H x xs v us Q I rx rxs h
  obtain ⟨r, hr, z⟩ := h
  exact hr pins s σ H x xs v us Q I rx rxs z
abbrev MD := D → List D → Hd → (D → Hd → Prop) → Prop
def MtL (X : Cx) (T id : String) (g : MD) : Prop := ∀ {io : List Addr} {H : Hp} {h : Hd} {x : D} {ds : List D} {v : V} {vs : List V} {q : D → Hd → Prop} {Q : VK}, RH X.K X.mg io H h → RD io H x v → RDs io H ds vs → g x ds h q → Kn X.K X.mg io H q Q → MtS X id v vs H Q
/-- x is a list that may be written -/
def isLst (h : Hd) (x : D) : Prop := ∃ n xs, x = .ref n ∧ h[n]? = some (.lst xs)
def wBM (g : MD) (wo : WE) (wa : WA) : WE := fun sl h Q => wo sl h fun x h1 => isLst h1 x ∧ wa sl h1 fun ds h2 => g x ds h2 Q
def wBM0 (g : MD) (wo : WE) : WE := fun sl h Q => wo sl h fun x h1 => isLst h1 x ∧ g x [] h1 Q
theorem tyV_lst {x : D} {v : V} (r : RH K mg io H h) (d : RD io H x v) (l : isLst h x) : tyV K "list" v H := by
  obtain ⟨n, xs, rfl, e⟩ := l
  obtain ⟨a, rfl, i⟩ := ref_rd d
  obtain ⟨vs, f1, _⟩ := r.lst e i
  exact .inl ⟨rfl, vs, SqL.of f1⟩
theorem le_bm {g : MD} {wo : WE} {wa : WA} {name : Str} (pa : PlainAttrs "list") (slot : Slot "list" name id) (hty : typeOf (.builtin id) = pure (.type "method_descriptor")) (hm : MtL X "list" id g) (ho : LE X o wo) (ha : LA X (e :: es) wa)
    (hbase : attributeBase o name X.env (eval o X.env) = eval o X.env := by rfl)
    (hfew : ((backTo cpos (starEach (e :: es) X.env)).all (fun x => !x.1) && (backToKw cpos (keywordEach [] X.env)).all (fun x => x.1.isSome)
      && decide ((e :: es).length + ([] : List Keyword).length + (if ([] : List Keyword).isEmpty then 0 else 1) < 30)) = true := by rfl)
    (hline : (apos.endLine == cpos.line) = true := by rfl) (hs : starEach (e :: es) X.env = (false, eval e X.env) :: starEach es X.env := by rfl) (hplain : (backTo cpos (starEach es X.env)).any (·.1) = false := by rfl) :
    LE X (.Call (.Attribute o name apos) (e :: es) [] cpos) (wBM g wo wa) := (pe_bm pa slot hty mtS ho ha hbase hfew hline hs hplain).imp fun σ H Q z => by
  obtain ⟨sl, h, io, q, r, z, k⟩ := z
  refine tE.go r z fun x h1 z1 u i1 H1 x1 r1 d1 => ?_
  exact ⟨tyV_lst r1.rh d1 z1.1, tA.go r1 z1.2 fun ds h2 z2 vs i2 H2 x2 r2 d2 => hm r2.rh (d1.mono x2) d2 z2 (k.on (x1.trans x2))⟩
theorem le_bm0 {g : MD} {wo : WE} {name : Str} (pa : PlainAttrs "list") (slot : Slot "list" name id) (hty : typeOf (.builtin id) = pure (.type "method_descriptor")) (hm : MtL X "list" id g) (ho : LE X o wo)
    (hbase : attributeBase o name X.env (eval o X.env) = eval o X.env := by rfl) (hline : (apos.endLine == cpos.line) = true := by rfl) :
    LE X (.Call (.Attribute o name apos) [] [] cpos) (wBM0 g wo) := (pe_bm0 pa slot hty mtS ho hbase hline).imp fun σ H Q z => by
  obtain ⟨sl, h, io, q, r, z, k⟩ := z
  refine tE.go r z fun x h1 z1 u i1 H1 x1 r1 d1 => ?_
  exact ⟨tyV_lst r1.rh d1 z1.1, hm r1.rh d1 .nil z1.2 (k.on x1)⟩
def mAppend : MD := fun x ds h Q => ∃ n xs y, x = .ref n ∧ ds = [y] ∧ h[n]? = some (.lst xs) ∧ xs.length < sizeLine ∧ Q .non (h.set n (.lst (xs ++ [y])))
theorem RH.setLst {n : Nat} {a : Addr} {xs ys : List D} {vs ws : List V} (rh : RH K mg io H h) (i : io[n]? = some a) (f : H a = some (.lst vs)) (r : RDs io H ys ws) : Ex io io H (upd H a (.lst ws)) ∧ RH K mg io (upd H a (.lst ws)) (h.set n (.lst ys)) :=
  rh.write (o := .lst ws) (c' := .lst ys) i f (fun _ z => nomatch z) (fun _ _ z => nomatch z) (fun _ z => nomatch z) fun ex => ⟨_, upd_same, r.mono ex⟩
theorem ml_append : MtL X "list" "list.append" mAppend := by
  intro io H h x ds v vs q Q rh dx dds z k
  obtain ⟨n, xs, y, rfl, rfl, e, hl, z⟩ := z
  obtain ⟨a, rfl, i⟩ := ref_rd dx
  obtain ⟨w, rfl, d1⟩ := one_rd dds
  obtain ⟨us, f1, f2⟩ := rh.lst e i
  obtain ⟨x2, rh2⟩ := rh.setLst (xs := xs) i f1 (f2.append (.cons d1 .nil))
  exact ⟨_, mt_append, a, us, w, rfl, rfl, f1, by rw [← f2.length]; exact hl, k _ _ z _ _ _ x2 rh2 .non⟩
def mExtend : MD := fun x ds h Q => ∃ n m xs ys, x = .ref n ∧ ds = [.ref m] ∧ h[n]? = some (.lst xs) ∧ h[m]? = some (.lst ys) ∧ xs.length + ys.length ≤ sizeLine ∧ Q .non (h.set n (.lst (xs ++ ys)))
theorem ml_extend : MtL X "list" "list.extend" mExtend := by
  intro io H h x ds v vs q Q rh dx dds z k
  obtain ⟨n, m, xs, ys, rfl, rfl, e, e2, hl, z⟩ := z
  obtain ⟨a, rfl, i⟩ := ref_rd dx
  obtain ⟨w, rfl, d1⟩ := one_rd dds
  obtain ⟨b, rfl, i2⟩ := ref_rd d1
  obtain ⟨us, f1, f2⟩ := rh.lst e i
  obtain ⟨ws, g1, g2⟩ := rh.lst e2 i2
  obtain ⟨x2, rh2⟩ := rh.setLst (xs := xs) i f1 (f2.append g2)
  exact ⟨_, mt_extend, a, b, us, ws, rfl, rfl, f1, g1, by rw [← f2.length, ← g2.length]; exact hl, k _ _ z _ _ _ x2 rh2 .non⟩
theorem RDs.erase {ds : List D} {vs : List V} (r : RDs io H ds vs) : ∀ k : Nat, RDs io H (ds.eraseIdx k) (vs.eraseIdx k) := by
  induction r using RDs.rec (motive_1 := fun _ _ _ => True) with
  | nil => intro k; exact .nil
  | cons h r _ ih =>
    intro k
    cases k with
    | zero => exact r
    | succ k => exact .cons h (ih k)
  | _ => trivial
def mPopAt : MD := fun x ds h Q => ∃ n xs i k y, x = .ref n ∧ ds = [.int i] ∧ h[n]? = some (.lst xs) ∧ -(2 ^ 63) ≤ i ∧ i < 2 ^ 63 ∧ seqIndex? i xs.length = some k ∧ xs[k]? = some y ∧ Q y (h.set n (.lst (xs.eraseIdx k)))
theorem ml_popAt : MtL X "list" "list.pop" mPopAt := by
  intro io H h x ds v vs q Q rh dx dds z k
  obtain ⟨n, xs, i0, kk, y, rfl, rfl, e, h1, h2, h3, h4, z⟩ := z
  obtain ⟨a, rfl, i⟩ := ref_rd dx
  obtain ⟨w, rfl, d1⟩ := one_rd dds
  cases d1
  obtain ⟨us, f1, f2⟩ := rh.lst e i
  obtain ⟨u, g1, g2⟩ := f2.get h4
  obtain ⟨x2, rh2⟩ := rh.setLst (xs := xs) i f1 (f2.erase kk)
  exact ⟨_, mt_popAt, a, us, i0, kk, u, rfl, rfl, f1, h1, h2, by rw [← f2.length]; exact h3, g1, k _ _ z _ _ _ x2 rh2 (g2.mono x2)⟩

/-! stars -/
def wStar (w : WE) (wr : WA) : WA := fun sl h Q => w sl h fun x h1 => (∃ xs, (x = .tup xs ∨ ∃ n, x = .ref n ∧ items h1 n = some xs) ∧ wr sl h1 fun ys h2 => Q (xs ++ ys) h2)
theorem la_star {w : WE} {wr : WA} (he : LE X e w) (hr : LA X es wr) (hs : starEach (.Starred e p :: es) X.env = (true, eval e X.env) :: starEach es X.env := by rfl) : LA X (.Starred e p :: es) (wStar w wr) := (StX.pa_star he hr hs).imp fun σ H Q z => by
  obtain ⟨sl, h, io, q, r, z, k⟩ := z
  refine tE.go r z fun x h1 z1 u i1 H1 x1 r1 d1 => ?_
  obtain ⟨xs, hx, z1⟩ := z1
  rcases hx with rfl | ⟨n, rfl, e1⟩
  · cases d1 with
    | @tup a vs _ ha ra => exact ⟨a, vs, rfl, .inl (SqT.of ha), tA.go r1 z1 fun ys h2 z2 ws i2 H2 x2 r2 d2 => k _ _ z2 _ _ _ (x1.trans x2) r2.rh ((ra.mono x2).append d2)⟩
  · obtain ⟨a, rfl, i⟩ := ref_rd d1
    obtain ⟨vs, f1, f2⟩ := r1.rh.list e1 i
    exact ⟨a, vs, rfl, .inr f1, tA.go r1 z1 fun ys h2 z2 ws i2 H2 x2 r2 d2 => k _ _ z2 _ _ _ (x1.trans x2) r2.rh ((f2.mono x2).append d2)⟩

/-! displays of dicts -/
def wDNew (t : Bool) : WE := fun _ h Q => Q (.ref h.length) (h ++ [.dct t false []])
theorem le_dnewK : LE X (.Dict [] [] pos) (wDNew false) := pe_dnewK.imp fun σ H Q z => by
  obtain ⟨sl, h, io, q, r, z, k⟩ := z
  intro p hp
  have x := ex_alloc (io := io) (o := .dK []) hp
  exact k _ _ z _ _ _ x (r.rh.alloc hp (.ofK ⟨[], by simp [DOb, upd_same], .nil⟩)) (.ref (push_at r.rh p))
theorem le_dnewT : LE X (.Dict [] [] pos) (wDNew true) := pe_dnewT.imp fun σ H Q z => by
  obtain ⟨sl, h, io, q, r, z, k⟩ := z
  intro p hp
  have x := ex_alloc (io := io) (o := .dT []) hp
  exact k _ _ z _ _ _ x (r.rh.alloc hp (.ofT ⟨[], by simp [DOb, upd_same], .nil⟩)) (.ref (push_at r.rh p))
/-- {k: v}, one pair, the key a number or a text -/
def wD1 (wk wv : WE) : WE := fun sl h Q => wk sl h fun x h1 => wv sl h1 fun y h2 => keyOk false x = true ∧ Q (.ref h2.length) (h2 ++ [.dct false false [(x, y)]])
theorem le_d1 {wk wv : WE} (hk : LE X a wk) (hv : LE X b wv) : LE X (.Dict [some a] [b] pos) (wD1 wk wv) := (pe_disp (pps_cons hk hv pps_nil) rfl rfl (by simp) (by show 1 ≤ 15; decide)).imp fun σ H Q z => by
  obtain ⟨sl, h, io, q, r, z, k⟩ := z
  intro p hp
  have rn := r.on (ex_upd (o := .dK []) hp) (r.rh.new (o := .dK []) hp)
  have pn : p ∉ io := r.rh.nin hp
  refine tE.go rn z fun x h1 z1 u i1 H1 x1 r1 d1 => tE.go r1 z1 fun y h2 z2 v i2 H2 x2 r2 d2 => ?_
  obtain ⟨hk, z2⟩ := z2
  obtain ⟨key, rfl⟩ := key_of_ok hk
  have := rd_key d1
  subst this
  have x12 := x1.trans x2
  have e2 := x12.oth p _ upd_same pn
  have n2 := x12.nin upd_same pn
  refine ⟨e2, [(key, v)], rfl, by show 1 ≤ 15; decide, ?_⟩
  have y2 := ey_priv (io := i2) (o := .dK (mergeK [] [(key, v)])) e2 (fun _ z => nomatch z)
  have xa : Ex io i2 H (upd H2 p (.dK (mergeK [] [(key, v)]))) := ex_priv ((ex_upd hp).trans x12) hp
  have rh2 := r2.rh.priv (o := .dK (mergeK [] [(key, v)])) n2 e2 (fun _ z => nomatch z) (fun _ z => nomatch z)
  exact k _ _ z2 _ _ _ (ex_adopt xa hp) (rh2.adopt n2 (.ofK ⟨_, by simp only [DOb]; exact upd_same, ((KVk.nil.put (k := key) (d2.monoY y2)).mono1 (List.prefix_append _ _))⟩)) (.ref (push_at rh2 p))
end
end MP

set_option Elab.async false
set_option linter.all false
set_option maxRecDepth 100000
set_option maxHeartbeats 2000000
/-! MpM: a dict comprehension of two clauses; a display of a dict by tuples. -/
namespace MP2
open PySem PySem.Spec PyProof.Rows L2
theorem dTurn2_out (kx vx t0 i0 t1 i1 : Expr) (ifs0 ifs1 : List Expr) (scope : Scope) (pos : Pos) (it : Value) (D : Addr) (env : Env) :
    compTurn (.DictComp kx vx [⟨t0, i0, ifs0, 0⟩, ⟨t1, i1, ifs1, 0⟩] scope pos) 0 it (.ref D) env = (do
      standAt i0.pos
      match ← pyNext it with
      | none => pure (.done .next)
      | some v =>
        letOwnedTupleGo t0 it v
        assign t0 env v
        let mut ok := true
        for c in ifs0 do
          if ok then ok ← isTrue c env (eval c env)
        if ok then
          let x ← eval i1 env
          standAt i1.pos
          let x ← foldedSetIterable i1 env x
          let _ ← runOwn (.compStart (.DictComp kx vx [⟨t0, i0, ifs0, 0⟩, ⟨t1, i1, ifs1, 0⟩] scope pos) 1 (← holding [x] (pyIter x)) (.ref D) env) env
        again (.compLoop (.DictComp kx vx [⟨t0, i0, ifs0, 0⟩, ⟨t1, i1, ifs1, 0⟩] scope pos) 0 it (.ref D) env)) := by rfl
theorem dTurn2_in (kx vx t0 i0 t1 i1 : Expr) (ifs0 ifs1 : List Expr) (scope : Scope) (pos : Pos) (it : Value) (D : Addr) (env : Env) :
    compTurn (.DictComp kx vx [⟨t0, i0, ifs0, 0⟩, ⟨t1, i1, ifs1, 0⟩] scope pos) 1 it (.ref D) env = (do
      standAt i1.pos
      match ← pyNext it with
      | none => pure (.done .next)
      | some v =>
        letOwnedTupleGo t1 it v
        assign t1 env v
        let mut ok := true
        for c in ifs1 do
          if ok then ok ← isTrue c env (eval c env)
        if ok then
          (do
            let kv ← eval kx env
            let vv ← holding [kv] (eval vx env)
            standAt { kx.pos with endLine := vx.pos.endLine, endCol := vx.pos.endCol }
            holding [kv, vv] (dictSet D kv vv))
        again (.compLoop (.DictComp kx vx [⟨t0, i0, ifs0, 0⟩, ⟨t1, i1, ifs1, 0⟩] scope pos) 1 it (.ref D) env)) := by rfl

section
variable {prog : Program} {w : World} {A : Around} {R : Result → Shared → Prop} {s : Shared} {kx vx t0 i0 t1 i1 : Expr} {ifs0 ifs1 : List Expr} {scope : Scope} {pos : Pos} {it : Value} {D : Addr} {env : Env}
/-- the loop of the first clause -/
theorem dLoop2_out (hs : ∀ x, foldedSetIterable i1 env x = pure x) (I : Nat → Shared → Prop)
    (turn : ∀ n s, I n s → wpAny (model prog w) A (pyNext it) (fun r s₁ => match r with
      | none => R (.ok .next) s₁
      | some v => wpAny (model prog w) A (letOwnedTupleGo t0 it v) (fun _ s₁' => wpAny (model prog w) A (assign t0 env v) (fun _ s₂ =>
          wpAny (model prog w) A (forIn ifs0 true fun c r => if r = true then do let ok ← isTrue c env (eval c env); pure (ForInStep.yield ok) else pure (ForInStep.yield r)) (fun ok s₃ =>
            if ok = true then wpAny (model prog w) A (eval i1 env) (fun x s₄ => wpAny (model prog w) A (pyIter x) (fun it1 s₅ =>
              codeAny (model prog w) A (.compStart (.DictComp kx vx [⟨t0, i0, ifs0, 0⟩, ⟨t1, i1, ifs1, 0⟩] scope pos) 1 it1 (.ref D) env) (fun r s' => match r with
                | .ok _ => ∃ m, m < n ∧ I m s'
                | .error _ => False) s₅) (notedBy (model prog w) A env fun e s' => R (.error e) s') s₄) (notedBy (model prog w) A env fun e s' => R (.error e) s') s₃
            else ∃ m, m < n ∧ I m s₃) (notedBy (model prog w) A env fun e s' => R (.error e) s') s₂) (notedBy (model prog w) A env fun e s' => R (.error e) s') s₁') (notedBy (model prog w) A env fun e s' => R (.error e) s') s₁) (notedBy (model prog w) A env fun e s' => R (.error e) s') s)
    (n : Nat) (h : I n s) :
    codeAny (model prog w) A (.compLoop (.DictComp kx vx [⟨t0, i0, ifs0, 0⟩, ⟨t1, i1, ifs1, 0⟩] scope pos) 0 it (.ref D) env) R s := by
  refine codeAny_loop rfl I (fun n s hI => ?_) n h
  show wpAny _ A ((compTurn (.DictComp kx vx [⟨t0, i0, ifs0, 0⟩, ⟨t1, i1, ifs1, 0⟩] scope pos) 0 it (.ref D) env).onRaise (fun x => do noteFrame x env; theTreesLotGoes x)) _ _ s
  refine wpAny_noted ?_
  rw [dTurn2_out]
  refine wpAny_bind (wpAny_standAt (wpAny_bind (wpAny_mono (turn n s hI) (fun r s₁ h₁ => ?_) fun _ _ h' => h')))
  cases r with
  | none => exact wpAny_pure h₁
  | some v =>
    refine wpAny_bind (wpAny_mono h₁ (fun _ s₁' h₁' => ?_) fun _ _ h' => h')
    refine wpAny_bind (wpAny_mono h₁' (fun _ s₂ h₂ => wpAny_bind (wpAny_mono h₂ (fun ok s₃ h₃ => ?_) fun _ _ h' => h')) fun _ _ h' => h')
    cases ok with
    | false => exact wpAny_pure ⟨rfl, h₃⟩
    | true =>
      refine wpAny_bind (wpAny_mono h₃ (fun x s₄ h₄ => ?_) fun _ _ h' => h')
      refine wpAny_bind (wpAny_standAt (wpAny_bind (wpAny_of_eq (hs x) (wpAny_bind (wpAny_holding (wpAny_mono h₄ (fun it1 s₅ h₅ => ?_) fun _ _ h' => h'))))))
      refine wpAny_bind (wpAny_runOwn ?_)
      rw [Around.mark_none]
      refine codeAny_mono h₅ fun r s' hr => ?_
      cases r with
      | ok f =>
        first
          | exact wpAny_pure ⟨rfl, hr⟩
          | exact wpAny_bind (wpAny_pure (wpAny_pure ⟨rfl, hr⟩))
      | error e => exact hr.elim
/-- the loop of the second -/
theorem dLoop2_in (I : Nat → Shared → Prop)
    (turn : ∀ n s, I n s → wpAny (model prog w) A (pyNext it) (fun r s₁ => match r with
      | none => R (.ok .next) s₁
      | some v => wpAny (model prog w) A (letOwnedTupleGo t1 it v) (fun _ s₁' => wpAny (model prog w) A (assign t1 env v) (fun _ s₂ =>
          wpAny (model prog w) A (forIn ifs1 true fun c r => if r = true then do let ok ← isTrue c env (eval c env); pure (ForInStep.yield ok) else pure (ForInStep.yield r)) (fun ok s₃ =>
            if ok = true then wpAny (model prog w) A (eval kx env) (fun kv s₄ => wpAny (model prog w) A (eval vx env) (fun vv s₅ =>
              wpAny (model prog w) A (dictSet D kv vv) (fun _ s₆ => ∃ m, m < n ∧ I m s₆) (notedBy (model prog w) A env fun e s' => R (.error e) s') s₅) (notedBy (model prog w) A env fun e s' => R (.error e) s') s₄) (notedBy (model prog w) A env fun e s' => R (.error e) s') s₃
            else ∃ m, m < n ∧ I m s₃) (notedBy (model prog w) A env fun e s' => R (.error e) s') s₂) (notedBy (model prog w) A env fun e s' => R (.error e) s') s₁') (notedBy (model prog w) A env fun e s' => R (.error e) s') s₁) (notedBy (model prog w) A env fun e s' => R (.error e) s') s)
    (n : Nat) (h : I n s) :
    codeAny (model prog w) A (.compLoop (.DictComp kx vx [⟨t0, i0, ifs0, 0⟩, ⟨t1, i1, ifs1, 0⟩] scope pos) 1 it (.ref D) env) R s := by
  refine codeAny_loop rfl I (fun n s hI => ?_) n h
  show wpAny _ A ((compTurn (.DictComp kx vx [⟨t0, i0, ifs0, 0⟩, ⟨t1, i1, ifs1, 0⟩] scope pos) 1 it (.ref D) env).onRaise (fun x => do noteFrame x env; theTreesLotGoes x)) _ _ s
  refine wpAny_noted ?_
  rw [dTurn2_in]
  refine wpAny_bind (wpAny_standAt (wpAny_bind (wpAny_mono (turn n s hI) (fun r s₁ h₁ => ?_) fun _ _ h' => h')))
  cases r with
  | none => exact wpAny_pure h₁
  | some v =>
    refine wpAny_bind (wpAny_mono h₁ (fun _ s₁' h₁' => ?_) fun _ _ h' => h')
    refine wpAny_bind (wpAny_mono h₁' (fun _ s₂ h₂ => wpAny_bind (wpAny_mono h₂ (fun ok s₃ h₃ => ?_) fun _ _ h' => h')) fun _ _ h' => h')
    cases ok with
    | false => exact wpAny_pure ⟨rfl, h₃⟩
    | true =>
      exact wpAny_bind (wpAny_bind (wpAny_mono h₃ (fun kv s₄ h₄ => wpAny_bind (wpAny_holding (wpAny_mono h₄ (fun vv s₅ h₅ => wpAny_bind (wpAny_standAt (wpAny_holding (wpAny_mono h₅ (fun _ s₆ h₆ => wpAny_pure ⟨rfl, h₆⟩) fun _ _ h' => h')))) fun _ _ h' => h'))) fun _ _ h' => h'))
/-- the second clause's start -/
theorem dStart1_ok (h0 : codeAny (model prog w) A (.compLoop (.DictComp kx vx [⟨t0, i0, ifs0, 0⟩, ⟨t1, i1, ifs1, 0⟩] scope pos) 1 it (.ref D) env) R s)
    (h : wpAny (model prog w) A (pyIter it) (fun it' s' => codeAny (model prog w) A (.compLoop (.DictComp kx vx [⟨t0, i0, ifs0, 0⟩, ⟨t1, i1, ifs1, 0⟩] scope pos) 1 it' (.ref D) env) R s')
      (notedBy (model prog w) A env fun x s' => R (.error x) s') s) :
    codeAny (model prog w) A (.compStart (.DictComp kx vx [⟨t0, i0, ifs0, 0⟩, ⟨t1, i1, ifs1, 0⟩] scope pos) 1 it (.ref D) env) R s := by
  refine codeAny_of_tree ?_
  show wpAny _ _ ((compStart (.DictComp kx vx [⟨t0, i0, ifs0, 0⟩, ⟨t1, i1, ifs1, 0⟩] scope pos) 1 it (.ref D) env).onRaise (fun x => do noteFrame x env; standAt theWindowsPlace)) _ _ s
  refine wpAny_notedAt ?_
  unfold compStart
  show wpAny _ _ (ask >>= _) _ _ s
  refine wpAny_bind (wpAny_askSetting (wpAny_ite ?_))
  split
  · first
      | exact wpAny_bind (wpAny_pure (wpAny_pure (And.intro rfl h0)))
      | exact wpAny_pure (And.intro rfl h0)
  · first
      | exact wpAny_bind (wpAny_rule (wpAny_bind (wpAny_standAt (wpAny_bind (wpAny_mono h (fun it' s' h' => wpAny_pure (And.intro rfl h')) fun _ _ x => x)))))
      | (refine wpAny_bind (wpAny_rule ?_); show wpAny _ _ (standAt i1.pos >>= _) _ _ s; exact wpAny_bind (wpAny_standAt (wpAny_bind (wpAny_mono h (fun it' s' h' => wpAny_pure (And.intro rfl h')) fun _ _ x => x))))
end

section
variable {X : Cx}
def tDc2 (wi : TI) (g : TG) (tt : TT) (wi1 : TI) (g1 : TG) (tt1 : TT) (tk tv : TE) (vs vs1 : List Nat) : TE := fun σ H Q => wi σ H fun J H1 => ∀ D, H1 D = none → ∃ W : Nat → Nat → Hp → Prop, (∃ m, W 0 m (upd H1 D (.dK []))) ∧ ∀ i m H, W i m H →
  (J.stop i H ∧ Q (.ref D) H) ∨ (J.go i H ∧ ∃ Nx : Hp → Prop, (∀ H', Nx H' → ∃ m', m' < m ∧ W (i + 1) m' H') ∧ ∀ x H', J.yld i H x H' → g x (wipe σ vs) H' fun σ2 H2 => wipe σ2 vs = wipe σ vs ∧ tt σ2 H2 fun b H3 =>
    if b = true then wi1 σ2 H3 fun J1 H4 => ∃ W1 : Nat → Nat → Hp → Prop, (∃ m, W1 0 m H4) ∧ ∀ j k H, W1 j k H →
      (J1.stop j H ∧ Nx H) ∨ (J1.go j H ∧ ∃ Nx1 : Hp → Prop, (∀ H', Nx1 H' → ∃ k', k' < k ∧ W1 (j + 1) k' H') ∧ ∀ x H', J1.yld j H x H' → g1 x (wipe σ2 vs1) H' fun σ3 H5 => wipe σ3 vs1 = wipe σ2 vs1 ∧ tt1 σ3 H5 fun b H6 =>
        if b = true then tk σ3 H6 fun y H7 => tv σ3 H7 fun z H8 => ∃ kvs k, y = kV k ∧ H8 D = some (.dK kvs) ∧ kvs.length < sizeLine ∧ Nx1 (upd H8 D (.dK (putK kvs k z))) else Nx1 H6)
    else Nx H3)
theorem dc2_core {pins : List (Addr × Obj)} {s : Shared} {σ : L2.St} {H : Hp} {Q : VK} {kx vx tg iter tg1 iter1 : Expr} {ifs ifs1 : List Expr} {scope : Scope} {own : List (Str × Nat)} {vs1 : List Nat} {pos pos' : Pos} {wi wi1 : TI} {g g1 : TG} {tt tt1 : TT} {tk tv : TE} {use : Option (Value → Sem Unit)} {Qf : Value → Shared → Prop}
    (hc : X.calm = true) (hN : X.N.Nodup) (I : Inv X pins σ H s) (hi : PI X tg iter wi) (ok : BlkOk X.N X.env.scope scope own) (hv : ∀ i ∈ vs1, i ∈ own.map (·.2))
    (hg : ∀ (s : Shared) (H : Hp) (C : Addr) (cl : List (Str × Addr)) (fp : List Addr), PG (X.blk s H scope (compEnvC scope cl C X.env) fp) tg g) (ht : ∀ (s : Shared) (H : Hp) (C : Addr) (cl : List (Str × Addr)) (fp : List Addr), PTs (X.blk s H scope (compEnvC scope cl C X.env) fp) ifs tt)
    (hk : ∀ (s : Shared) (H : Hp) (C : Addr) (cl : List (Str × Addr)) (fp : List Addr), PE (X.blk s H scope (compEnvC scope cl C X.env) fp) kx tk)
    (he : ∀ (s : Shared) (H : Hp) (C : Addr) (cl : List (Str × Addr)) (fp : List Addr), PE (X.blk s H scope (compEnvC scope cl C X.env) fp) vx tv) (hs : ∀ x, foldedSetIterable iter X.env x = pure x)
    (hi1 : ∀ (s : Shared) (H : Hp) (C : Addr) (cl : List (Str × Addr)) (fp : List Addr), PI (X.blk s H scope (compEnvC scope cl C X.env) fp) tg1 iter1 wi1)
    (hg1 : ∀ (s : Shared) (H : Hp) (C : Addr) (cl : List (Str × Addr)) (fp : List Addr), PG (X.blk s H scope (compEnvC scope cl C X.env) fp) tg1 g1)
    (ht1 : ∀ (s : Shared) (H : Hp) (C : Addr) (cl : List (Str × Addr)) (fp : List Addr), PTs (X.blk s H scope (compEnvC scope cl C X.env) fp) ifs1 tt1)
    (hs1 : ∀ env x, foldedSetIterable iter1 env x = pure x)
    (h : tDc2 wi g tt wi1 g1 tt1 tk tv (own.map (·.2)) vs1 σ H Q)
    (hRR : ∀ D C s' m H', Inv X pins σ H' s' → Q (.ref D) H' → s'.heap.Ns C m → FpOk X pins H' C → compPost (model X.prog X.w) X.A X.xe use Qf (.ref D) C (.ok .next) s') :
    wpAny (model X.prog X.w) X.A (comprehension (.DictComp kx vx [⟨tg, iter, ifs, 0⟩, ⟨tg1, iter1, ifs1, 0⟩] scope pos) scope X.env pos' newDict false (eval iter X.env) use) Qf X.xe s := by
  have hfree : ∀ y ∈ scope.names, y.2 = .free → ∃ c, X.env.cells.lookup y.1 = some c := fun y hy e => by
    rcases ok.free y hy e with k | k
    · exact I.ok.has _ (.inl k)
    · exact I.ok.has _ (.inr k)
  refine wpAny_comprehension_free (use := use) rfl hs (closure_ok hfree) ok.kind (fun y hy e => by rw [ok.uniq y hy, e])
    (thn (hi.run pins s σ H _ I h) fun xv s1 hx => thn hx fun itv s2 h2 => ?_)
  obtain ⟨it, fp, tn, J, H2, e, I2, T, st2, f2, q⟩ := h2
  subst e
  refine wpAny_newObj_type (newEnv_comp ?_)
  generalize hD : s2.heap.objs.size = D
  have hDn : H2 D = none := I2.hok.fresh (Nat.le_of_eq hD)
  obtain ⟨W, ⟨m0, w0⟩, turn⟩ := q D hDn
  -- the new list
  generalize hs3 : ({ s2 with heap := s2.heap.push { cls := .type "dict", data := .dict #[] } } : Shared) = s3
  have I3 : Inv X pins σ (upd H2 D (.dK [])) s3 := by
    rw [← hs3]
    refine I2.laid (t' := s2.toks) (fun b o e => Heap.get?_push_of_some _ e) (Nat.le_of_eq hD) ?_
    rw [← hD]
    exact dk_empty s2.heap I2.big
  have h3 : s3.heap = s2.heap.push { cls := .type "dict", data := .dict #[] } := by rw [← hs3]
  have sz : ∀ b ∈ fp, b < s2.heap.objs.size := fun b hb => by
    obtain ⟨o, e, _⟩ := T.obj _ _ st2 b hb
    exact Heap.lt_size e
  have f3 : ∀ b ∈ fp, FpOk X pins (upd H2 D (.dK [])) b ∧ b < s3.heap.objs.size := fun b hb => by
    have hlt := sz b hb
    refine ⟨⟨?_, (f2 b hb).2⟩, by rw [h3, Heap.size_push]; exact Nat.lt_succ_of_lt hlt⟩
    rw [upd_ne (by rw [← hD]; exact Nat.ne_of_lt hlt)]
    exact (f2 b hb).1
  have st3 : tn 0 s3.heap := T.keep _ _ _ st2 fun b _ o e => by rw [h3]; exact Heap.get?_push_of_some _ e
  have I4 := block_start I3 ok hN f3
  have pg := hg s3 (upd H2 D (.dK [])) s3.heap.objs.size (cellsFrom (s3.heap.objs.size + 1) scope.names (cloFrom X.env.cells scope.names [])) fp
  have pt := ht s3 (upd H2 D (.dK [])) s3.heap.objs.size (cellsFrom (s3.heap.objs.size + 1) scope.names (cloFrom X.env.cells scope.names [])) fp
  have pk := hk s3 (upd H2 D (.dK [])) s3.heap.objs.size (cellsFrom (s3.heap.objs.size + 1) scope.names (cloFrom X.env.cells scope.names [])) fp
  have pe := he s3 (upd H2 D (.dK [])) s3.heap.objs.size (cellsFrom (s3.heap.objs.size + 1) scope.names (cloFrom X.env.cells scope.names [])) fp
  have pi1 := hi1 s3 (upd H2 D (.dK [])) s3.heap.objs.size (cellsFrom (s3.heap.objs.size + 1) scope.names (cloFrom X.env.cells scope.names [])) fp
  have pg1 := hg1 s3 (upd H2 D (.dK [])) s3.heap.objs.size (cellsFrom (s3.heap.objs.size + 1) scope.names (cloFrom X.env.cells scope.names [])) fp
  have pt1 := ht1 s3 (upd H2 D (.dK [])) s3.heap.objs.size (cellsFrom (s3.heap.objs.size + 1) scope.names (cloFrom X.env.cells scope.names [])) fp
  show codeAny _ _ (.compStart (.DictComp kx vx [⟨tg, iter, ifs, 0⟩, ⟨tg1, iter1, ifs1, 0⟩] scope pos) 0 (.ref it) (.ref D) (compEnvC scope (cellsFrom (s3.heap.objs.size + 1) scope.names (cloFrom X.env.cells scope.names [])) s3.heap.objs.size X.env)) (compPost (model X.prog X.w) X.A X.xe use Qf (.ref D) s3.heap.objs.size) { s3 with heap := pushCells (s3.heap.push { cls := .type "dict", data := .dict #[] }) scope.names }
  have nfp : ∀ b ∈ fp, (upd H2 D (.dK [])) b = none := fun b hb => (f3 b hb).1.1
  generalize hce : compEnvC scope (cellsFrom (s3.heap.objs.size + 1) scope.names (cloFrom X.env.cells scope.names [])) s3.heap.objs.size X.env = ce at I4 pg pt pk pe pi1 pg1 pt1 ⊢
  have cL : ce.locals = s3.heap.objs.size := by subst hce; rfl
  generalize hH3 : upd H2 D (.dK []) = H3 at I3 I4 pg pt pk pe pi1 pg1 pt1 w0 nfp f3
  generalize hs4 : ({ s3 with heap := pushCells (s3.heap.push { cls := .type "dict", data := .dict #[] }) scope.names } : Shared) = s4 at I4 ⊢
  have st4 : tn 0 s4.heap := T.keep _ _ _ st3 fun b _ o e => by rw [← hs4]; exact pushCells_keeps _ _ _ _ (Heap.get?_push_of_some _ e)
  have stat : ∀ {σ' : L2.St} {H' : Hp} {s' : Shared}, Inv (X.blk s3 H3 scope ce fp) [] σ' H' s' → (∀ b ∈ fp, H' b = none) → ∀ b ∈ fp, FpOk (X.blk s3 H3 scope ce fp) [] H' b := fun {σ' H' s'} I' hn b hb =>
    ⟨hn b hb, (I'.ok.exf b hb).1, I'.ok.exfs b hb, .inl hb, fun x c e => (I'.ok.exf b hb).2 x c e, fun p hp => absurd (show p ∈ ([] : List (Addr × Obj)) ++ [] from hp) (by simp)⟩
  have loop : codeAny (model X.prog X.w) X.A (.compLoop (.DictComp kx vx [⟨tg, iter, ifs, 0⟩, ⟨tg1, iter1, ifs1, 0⟩] scope pos) 0 (.ref it) (.ref D) ce) (compPost (model X.prog X.w) X.A X.xe use Qf (.ref D) s3.heap.objs.size) s4 := by
    refine dLoop2_out (hs1 ce) (fun n s' => ∃ i H', Inv (X.blk s3 H3 scope ce fp) [] (wipe σ (own.map (·.2))) H' s' ∧ tn i s'.heap ∧ (∀ b ∈ fp, H' b = none) ∧ W i n H') ?_ m0 ⟨0, H3, I4, st4, nfp, w0⟩
    rintro n s5 ⟨i, H5, I5, st5, n5, w5⟩
    rcases turn i n H5 w5 with ⟨stop, qq⟩ | ⟨go, Nx, hNx, step⟩
    · have td := T.done (X.blk s3 H3 scope ce fp) rfl rfl rfl hc i [] s5 _ H5 (fun _ _ => False) I5 (stat I5 n5) st5 stop
      refine thnF td fun r s6 ⟨hr, I6⟩ => ?_
      subst hr
      -- back in the def's context
      have I7 : Inv X pins σ H5 s6 := I3.call' (ch := fp) I6.os I6.base I6.hok I6.bare fun b hb => ⟨(f3 b hb).1.2.2.2.1, (f3 b hb).1.2.1, (f3 b hb).1.2.2.2.2.1, (f3 b hb).1.2.2.2.2.2⟩
      have nC : H5 s3.heap.objs.size = none := by
        have z : H5 ce.locals = none := I6.free
        rw [cL] at z
        exact z
      obtain ⟨m, hn, _⟩ := I6.loc
      have hn : s6.heap.Ns ce.locals m := hn
      rw [cL] at hn
      exact hRR D s3.heap.objs.size s6 m H5 I7 qq hn (I3.fpOk (Nat.le_refl _) nC)
    · have ti := T.item (X.blk s3 H3 scope ce fp) rfl rfl rfl hc i [] s5 _ H5 (fun _ _ => False) I5 (stat I5 n5) st5 go
      refine thnF ti fun r s6 ⟨u, hr, h6⟩ => ?_
      subst hr
      refine thnF h6 fun _ s7 ⟨x, H7, I7, r7, y7, st7, n7⟩ => ?_
      have I7' := I7.pinned (stat I7 n7) (T.obj _ _ st7)
      refine thnF (pg.run _ s7 _ H7 x u _ I7' r7 (step x H7 y7)) fun _ s8 ⟨σ8, H8, I8, hw8, q8⟩ => ?_
      refine thnF (pt.run _ s8 σ8 H8 _ I8 q8) fun b s9 ⟨H9, I9, q9⟩ => ?_
      -- the turn's end, from any slots that know what the block knew at its start
      have fin : ∀ {σ9 : L2.St} {s' : Shared} {H' : Hp}, Inv (X.blk s3 H3 scope ce fp) ([] ++ pinsAt fp s7.heap) σ9 H' s' → (wipe σ (own.map (·.2))).length = σ9.length → (∀ (j : Nat) v, (wipe σ (own.map (·.2)))[j]? = some (some v) → σ9[j]? = some (some v)) → Nx H' →
          ∃ m, m < n ∧ ∃ i H', Inv (X.blk s3 H3 scope ce fp) [] (wipe σ (own.map (·.2))) H' s' ∧ tn i s'.heap ∧ (∀ b ∈ fp, H' b = none) ∧ W i m H' := fun {σ9 s' H'} I' hl hk nx => by
        obtain ⟨m', hm, w'⟩ := hNx H' nx
        have pin' : ∀ b ∈ fp, ∀ o, s7.heap.get? b = some o → s'.heap.get? b = some o ∧ H' b = none := fun b hb o e =>
          let z := I'.pin (b, o) (List.mem_append_right _ (List.mem_append_right _ (mem_pinsAt hb e)))
          ⟨z.1, z.2.1⟩
        refine ⟨m', hm, i + 1, H', (I'.unpinned (pins := [])).weak hl hk, T.keep _ _ _ st7 fun b hb o e => (pin' b hb o e).1, fun b hb => ?_, w'⟩
        obtain ⟨o, e, _⟩ := T.obj _ _ st7 b hb
        exact (pin' b hb o e).2
      have hl8 : (wipe σ (own.map (·.2))).length = σ8.length := by rw [← hw8, wipe_length]
      have hk8 : ∀ (j : Nat) v, (wipe σ (own.map (·.2)))[j]? = some (some v) → σ8[j]? = some (some v) := fun j v e => by
        rw [← hw8] at e
        exact (wipe_some e).1
      have hk9 : ∀ (j : Nat) v, (wipe σ (own.map (·.2)))[j]? = some (some v) → (wipe σ8 vs1)[j]? = some (some v) := fun j v e => by
        rw [← hw8] at e
        obtain ⟨e1, e2⟩ := wipe_some e
        rw [wipe_out fun z => e2 (hv j z)]
        exact e1
      cases b with
      | false =>
        simp only [Bool.false_eq_true, if_false] at q9 ⊢
        exact fin I9 hl8 hk8 q9
      | true =>
        simp only [if_true] at q9 ⊢
        refine thnF (pi1.run _ s9 σ8 H9 _ I9 q9) fun xv s10 hx => thnF hx fun itv s11 h11 => ?_
        obtain ⟨it1, fp1, tn1, J1, H11, e1, I11, T1, st11, f11, W1, ⟨m1, w1⟩, turn1⟩ := h11
        subst e1
        -- the inner loop
        have stat1 : ∀ {H' : Hp}, (∀ b ∈ fp1, H' b = none) → ∀ b ∈ fp1, FpOk (X.blk s3 H3 scope ce fp) ([] ++ pinsAt fp s7.heap) H' b := fun hn b hb => ⟨hn b hb, (f11 b hb).2⟩
        have loop1 : codeAny (model X.prog X.w) X.A (.compLoop (.DictComp kx vx [⟨tg, iter, ifs, 0⟩, ⟨tg1, iter1, ifs1, 0⟩] scope pos) 1 (.ref it1) (.ref D) ce)
            (fun r s' => match r with
              | .ok _ => ∃ m, m < n ∧ ∃ i H', Inv (X.blk s3 H3 scope ce fp) [] (wipe σ (own.map (·.2))) H' s' ∧ tn i s'.heap ∧ (∀ b ∈ fp, H' b = none) ∧ W i m H'
              | .error _ => False) s11 := by
          refine dLoop2_in (fun k s' => ∃ j H', Inv (X.blk s3 H3 scope ce fp) ([] ++ pinsAt fp s7.heap) (wipe σ8 vs1) H' s' ∧ tn1 j s'.heap ∧ (∀ b ∈ fp1, H' b = none) ∧ W1 j k H') ?_ m1 ⟨0, H11, I11.weak (wipe_length _ _) (fun j v e => (wipe_some e).1), st11, fun b hb => (f11 b hb).1, w1⟩
          rintro k s12 ⟨j, H12, I12, st12, n12, w12⟩
          rcases turn1 j k H12 w12 with ⟨stop1, nx1⟩ | ⟨go1, Nx1, hNx1, step1⟩
          · refine thnF (T1.done (X.blk s3 H3 scope ce fp) rfl rfl rfl hc j _ s12 (wipe σ8 vs1) H12 (fun _ _ => False) I12 (stat1 n12) st12 stop1) fun r s13 ⟨hr, I13⟩ => ?_
            subst hr
            exact fin I13 (hl8.trans (wipe_length σ8 vs1).symm) hk9 nx1
          · refine thnF (T1.item (X.blk s3 H3 scope ce fp) rfl rfl rfl hc j _ s12 (wipe σ8 vs1) H12 (fun _ _ => False) I12 (stat1 n12) st12 go1) fun r s13 ⟨u1, hr, h13⟩ => ?_
            subst hr
            refine thnF h13 fun _ s14 ⟨x1, H14, I14, r14, y14, st14, n14⟩ => ?_
            have I14' := I14.pinned (stat1 n14) (T1.obj _ _ st14)
            refine thnF (pg1.run _ s14 (wipe σ8 vs1) H14 x1 u1 _ I14' r14 (step1 x1 H14 y14)) fun _ s15 ⟨σ15, H15, I15, hw15, q15⟩ => ?_
            refine thnF (pt1.run _ s15 σ15 H15 _ I15 q15) fun b1 s16 ⟨H16, I16, q16⟩ => ?_
            have fin1 : ∀ {s' : Shared} {H' : Hp}, Inv (X.blk s3 H3 scope ce fp) (([] ++ pinsAt fp s7.heap) ++ pinsAt fp1 s14.heap) σ15 H' s' → Nx1 H' → ∃ m, m < k ∧ ∃ j H', Inv (X.blk s3 H3 scope ce fp) ([] ++ pinsAt fp s7.heap) (wipe σ8 vs1) H' s' ∧ tn1 j s'.heap ∧ (∀ b ∈ fp1, H' b = none) ∧ W1 j m H' := fun {s' H'} I' nx => by
              obtain ⟨m', hm, w'⟩ := hNx1 H' nx
              have pin' : ∀ b ∈ fp1, ∀ o, s14.heap.get? b = some o → s'.heap.get? b = some o ∧ H' b = none := fun b hb o e =>
                let z := I'.pin (b, o) (List.mem_append_right _ (List.mem_append_right _ (mem_pinsAt hb e)))
                ⟨z.1, z.2.1⟩
              refine ⟨m', hm, j + 1, H', I'.unpinned.weak (by rw [← hw15, wipe_length]) (fun j v e => by rw [← hw15] at e; exact (wipe_some e).1), T1.keep _ _ _ st14 fun b hb o e => (pin' b hb o e).1, fun b hb => ?_, w'⟩
              obtain ⟨o, e, _⟩ := T1.obj _ _ st14 b hb
              exact (pin' b hb o e).2
            cases b1 with
            | false =>
              simp only [Bool.false_eq_true, if_false] at q16 ⊢
              exact fin1 I16 q16
            | true =>
              simp only [if_true] at q16 ⊢
              refine thnF (pk.run _ s16 σ15 H16 _ I16 q16) fun z s17 ⟨yk, H17, I17, r17, q17⟩ => ?_
              refine thnF (pe.run _ s17 σ15 H17 _ I17 q17) fun z2 s18 ⟨yv, H18, I18, r18, kvs, k, ek, hD18, hz18, nx⟩ => ?_
              subst ek
              exact d_dictSet (X := X.blk s3 H3 scope ce fp) I18 hD18 hz18 r17 r18 fun s19 I19 => fin1 I19 nx
        exact dStart1_ok loop1 (T1.self X.A 0 _ _ _ st11 loop1)
  exact codeAny_compStart_dict loop (T.self X.A 0 _ _ _ st4 loop)

theorem pe_dc2 {kx vx tg iter tg1 iter1 : Expr} {ifs ifs1 : List Expr} {scope : Scope} {own : List (Str × Nat)} {vs1 : List Nat} {pos : Pos} {wi wi1 : TI} {g g1 : TG} {tt tt1 : TT} {tk tv : TE} (hc : X.calm = true) (hN : X.N.Nodup) (hi : PI X tg iter wi) (ok : BlkOk X.N X.env.scope scope own) (hv : ∀ i ∈ vs1, i ∈ own.map (·.2))
    (hg : ∀ (s : Shared) (H : Hp) (C : Addr) (cl : List (Str × Addr)) (fp : List Addr), PG (X.blk s H scope (compEnvC scope cl C X.env) fp) tg g) (ht : ∀ (s : Shared) (H : Hp) (C : Addr) (cl : List (Str × Addr)) (fp : List Addr), PTs (X.blk s H scope (compEnvC scope cl C X.env) fp) ifs tt)
    (hi1 : ∀ (s : Shared) (H : Hp) (C : Addr) (cl : List (Str × Addr)) (fp : List Addr), PI (X.blk s H scope (compEnvC scope cl C X.env) fp) tg1 iter1 wi1)
    (hg1 : ∀ (s : Shared) (H : Hp) (C : Addr) (cl : List (Str × Addr)) (fp : List Addr), PG (X.blk s H scope (compEnvC scope cl C X.env) fp) tg1 g1) (ht1 : ∀ (s : Shared) (H : Hp) (C : Addr) (cl : List (Str × Addr)) (fp : List Addr), PTs (X.blk s H scope (compEnvC scope cl C X.env) fp) ifs1 tt1)
    (hk : ∀ (s : Shared) (H : Hp) (C : Addr) (cl : List (Str × Addr)) (fp : List Addr), PE (X.blk s H scope (compEnvC scope cl C X.env) fp) kx tk)
    (he : ∀ (s : Shared) (H : Hp) (C : Addr) (cl : List (Str × Addr)) (fp : List Addr), PE (X.blk s H scope (compEnvC scope cl C X.env) fp) vx tv) (hs : ∀ x, foldedSetIterable iter X.env x = pure x := by intro _; rfl) (hs1 : ∀ env x, foldedSetIterable iter1 env x = pure x := by intro _ _; rfl) :
    PE X (.DictComp kx vx [⟨tg, iter, ifs, 0⟩, ⟨tg1, iter1, ifs1, 0⟩] scope pos) (tDc2 wi g tt wi1 g1 tt1 tk tv (own.map (·.2)) vs1) := by
  refine ⟨fun pins s σ H Q I h => ?_⟩
  rw [arm_eval_DictComp]
  refine dc2_core hc hN I hi ok hv hg ht hk he hs hi1 hg1 ht1 hs1 h fun D C s' m H' I' q hn f => ⟨m, hn, fun h'' sb => ?_⟩
  obtain ⟨f0, f1, f2, f3, f4, f5⟩ := f
  exact ⟨.ref D, H', I'.turned (t' := s'.toks) (fun b o hb e => (sb.2 b hb).trans e) f0 f1 f3 f4 f5, rfl, q⟩
end
end MP2

set_option Elab.async false
set_option linter.all false
set_option maxRecDepth 100000
set_option maxHeartbeats 2000000
/-! MpN: the dict comprehension of two clauses; a display of one pair with a tuple key. -/
namespace MP
open PySem PySem.Spec
open PyProof.Rows hiding St
open L2

section
variable {X : Cx} {j : Nat} {a b c e o ie tg tg1 iter iter1 elt kx vx : Expr} {pos pos' p apos cpos tpos : Pos} {es elts ifs ifs1 : List Expr} {kk : Nat} {scope : Scope} {own : List (Str × Nat)} {vs vs1 : List Nat}
variable {K : PySem.W.Frag} {mg : Str → Option Value} {io io' : List Addr} {H H' : Hp} {h h' : Hd} {sl : Sd} {σ : L2.St}
def wDc2 (wi : WI) (g : WG) (tt : WT) (wi1 : WI) (g1 : WG) (tt1 : WT) (tk tv : WE) (vs vs1 : List Nat) : WE := fun sl h Q => wi sl h fun t h1 => ∃ W : Nat → Nat → List (D × D) → Hd → Prop, (∃ m, W 0 m [] h1) ∧ ∀ i m acc h, W i m acc h →
  (t i h = some none ∧ Q (.ref h.length) (h ++ [.dct false false acc])) ∨ ∃ d, t i h = some (some d) ∧ ∃ N : List (D × D) → Hd → Prop, (∀ acc' h', N acc' h' → ∃ m', m' < m ∧ W (i + 1) m' acc' h') ∧ g d (wipeD sl vs) h fun sl2 h2 => tt sl2 h2 fun b h3 =>
    if b = true then wi1 sl2 h3 fun t1 h4 => ∃ W1 : Nat → Nat → List (D × D) → Hd → Prop, (∃ m, W1 0 m acc h4) ∧ ∀ j k acc h, W1 j k acc h →
      (t1 j h = some none ∧ N acc h) ∨ ∃ d, t1 j h = some (some d) ∧ ∃ N1 : List (D × D) → Hd → Prop, (∀ acc' h', N1 acc' h' → ∃ k', k' < k ∧ W1 (j + 1) k' acc' h') ∧ g1 d (wipeD sl2 vs1) h fun sl3 h5 => tt1 sl3 h5 fun b h6 =>
        if b = true then tk sl3 h6 fun x h7 => tv sl3 h7 fun y h8 => keyOk false x = true ∧ acc.length < sizeLine ∧ N1 (putD acc x y) h8 else N1 acc h6
    else N acc h3
theorem dc2_imp {wi wi1 : WI} {g g1 : WG} {tt tt1 : WT} {tk tv : WE} : ∀ σ H Q, tE K mg (wDc2 wi g tt wi1 g1 tt1 tk tv vs vs1) σ H Q →
    MP2.tDc2 (tI K mg wi) (tGo K mg vs g) (tT K mg tt) (tI K mg wi1) (tGo K mg vs1 g1) (tT K mg tt1) (tE K mg tk) (tE K mg tv) vs vs1 σ H Q := by
  intro σ H Q z
  obtain ⟨sl, h, io, q, r, z, k⟩ := z
  refine ⟨sl, h, io, _, r, z, fun t h1 z1 J i1 H1 x1 rh1 rit D hD => ?_⟩
  obtain ⟨W, ⟨m0, w0⟩, turn⟩ := z1
  have nD : D ∉ i1 := rh1.nin hD
  refine ⟨fun i m H' => ∃ acc vs' h' io', Ex i1 io' H1 H' ∧ D ∉ io' ∧ RH K mg io' H' h' ∧ H' D = some (.dK vs') ∧ KVk io' H' acc vs' ∧ W i m acc h', ⟨m0, [], [], h1, i1, ex_upd hD, nD, rh1.new hD, upd_same, .nil, w0⟩, ?_⟩
  rintro i m H2 ⟨acc, vs2, h2, i2, x2, n2, rh2, e2, rd2, w2⟩
  rcases turn i m acc h2 w2 with ⟨e, z2⟩ | ⟨d, e, N, hN, z2⟩
  · left
    refine ⟨(rit i i2 H2 h2 x2.z rh2).1 e, ?_⟩
    have xa := ex_adopt x2 hD
    exact k _ _ z2 _ _ _ (x1.trans xa) (rh2.adopt n2 (.ofK ⟨vs2, by simp [DOb, e2], rd2.mono1 (List.prefix_append _ _)⟩)) (.ref (push_at rh2 D))
  · right
    obtain ⟨go, yl⟩ := (rit i i2 H2 h2 x2.z rh2).2 d e
    refine ⟨go, fun H' => ∃ acc vs' h' io', Ex i1 io' H1 H' ∧ D ∉ io' ∧ RH K mg io' H' h' ∧ H' D = some (.dK vs') ∧ KVk io' H' acc vs' ∧ N acc h', fun H' ⟨acc', vs', h', io', p1, p2, p3, p4, p5, n'⟩ => ?_, fun x H3 y => ?_⟩
    · obtain ⟨m', hm, w'⟩ := hN acc' h' n'
      exact ⟨m', hm, acc', vs', h', io', p1, p2, p3, p4, p5, w'⟩
    · obtain ⟨x3, rh3, d3⟩ := yl x H3 y
      have r3 : Rel K mg (wipeD sl vs) (L2.wipe σ vs) i2 H3 h2 := (r.wipe vs).on ((x1.trans x2).trans x3) rh3
      refine ⟨d, wipeD sl vs, h2, i2, _, r3, d3, z2, fun sl4 h4 z4 σ4 i4 H4 x4 r4 o4 => ⟨?_, ?_⟩⟩
      · rw [o4.wipe]
        exact wipe_ext (wipe_length _ _) fun i hi => wipe_out hi
      · refine tT.go r4 z4 fun b h5 z5 i5 H5 x5 r5 => ?_
        have x25 := (x3.trans x4).trans x5
        have e5 : H5 D = some (.dK vs2) := x25.oth D _ e2 n2
        have n5 := x25.nin e2 n2
        cases b with
        | false =>
          rw [if_neg Bool.false_ne_true] at z5 ⊢
          exact ⟨acc, vs2, h5, i5, x2.trans x25, n5, r5.rh, e5, rd2.mono x25, z5⟩
        | true =>
          rw [if_pos rfl] at z5 ⊢
          refine ⟨sl4, h5, i5, _, r5, z5, fun t1 h6 z6 J1 i6 H6 x6 rh6 rit1 => ?_⟩
          obtain ⟨W1, ⟨k0, v0⟩, turn1⟩ := z6
          have x16 := (x2.trans x25).trans x6
          have e6 := x6.oth D _ e5 n5
          have n6 := x6.nin e5 n5
          refine ⟨fun j k H' => ∃ acc vs' h' io', Ez i6 io' H6 H' ∧ Ex i1 io' H1 H' ∧ D ∉ io' ∧ RH K mg io' H' h' ∧ H' D = some (.dK vs') ∧ KVk io' H' acc vs' ∧ W1 j k acc h', ⟨k0, acc, vs2, h6, i6, Ex.refl.z, x16, n6, rh6, e6, (rd2.mono x25).mono x6, v0⟩, ?_⟩
          rintro j kk H7 ⟨acc7, vs7, h7, i7, y7, x7, n7, rh7, e7, rd7, v7⟩
          rcases turn1 j kk acc7 h7 v7 with ⟨e, z7⟩ | ⟨d', e, N1, hN1, z7⟩
          · exact .inl ⟨(rit1 j i7 H7 h7 y7 rh7).1 e, acc7, vs7, h7, i7, x7, n7, rh7, e7, rd7, z7⟩
          · right
            obtain ⟨go1, yl1⟩ := (rit1 j i7 H7 h7 y7 rh7).2 d' e
            refine ⟨go1, fun H' => ∃ acc vs' h' io', Ez i6 io' H6 H' ∧ Ex i1 io' H1 H' ∧ D ∉ io' ∧ RH K mg io' H' h' ∧ H' D = some (.dK vs') ∧ KVk io' H' acc vs' ∧ N1 acc h', fun H' ⟨acc', vs', h', io', p0, p1, p2, p3, p4, p5, n'⟩ => ?_, fun x H8 y => ?_⟩
            · obtain ⟨k', hk, w'⟩ := hN1 acc' h' n'
              exact ⟨k', hk, acc', vs', h', io', p0, p1, p2, p3, p4, p5, w'⟩
            · obtain ⟨x8, rh8, d8⟩ := yl1 x H8 y
              have r8 : Rel K mg (wipeD sl4 vs1) (L2.wipe σ4 vs1) i7 H8 h7 := by
                have r6 := r5.on x6 rh6
                exact (r6.onZ y7 rh7).on x8 rh8 |>.wipe vs1
              refine ⟨d', wipeD sl4 vs1, h7, i7, _, r8, d8, z7, fun sl9 h9 z9 σ9 i9 H9 x9 r9 o9 => ⟨?_, ?_⟩⟩
              · rw [o9.wipe]
                exact wipe_ext (wipe_length _ _) fun i hi => wipe_out hi
              · refine tT.go r9 z9 fun b h10 z10 i10 H10 x10 r10 => ?_
                have xx := (x8.trans x9).trans x10
                have e10 := xx.oth D _ e7 n7
                have n10 := xx.nin e7 n7
                cases b with
                | false =>
                  rw [if_neg Bool.false_ne_true] at z10 ⊢
                  exact ⟨acc7, vs7, h10, i10, y7.trans xx.z, x7.trans xx, n10, r10.rh, e10, rd7.mono xx, z10⟩
                | true =>
                  rw [if_pos rfl] at z10 ⊢
                  refine tE.go r10 z10 fun kd h11 z11 ku i11 H11 x11 r11 d11 => ?_
                  refine tE.go r11 z11 fun y h12 z12 u i12 H12 x12 r12 d12 => ?_
                  obtain ⟨hk, hl, z12⟩ := z12
                  obtain ⟨key, rfl⟩ := key_of_ok hk
                  have xx2 := (xx.trans x11).trans x12
                  have e12 := xx2.oth D _ e7 n7
                  have n12 := xx2.nin e7 n7
                  have y12 := ey_priv (io := i12) (o := .dK (putK vs7 key u)) e12 (fun _ z => nomatch z)
                  exact ⟨vs7, key, rd_key d11, e12, by rw [← rd7.length]; exact hl, putD acc7 (keyD key) y, putK vs7 key u, h12, i12, (y7.trans xx2.z).trans (ez_priv e12 (fun _ z => nomatch z) (fun _ _ z => nomatch z)), ex_priv (x7.trans xx2) hD, n12, r12.rh.priv n12 e12 (fun _ z => nomatch z) (fun _ z => nomatch z), upd_same, ((rd7.mono xx2).put d12).monoY y12, z12⟩
theorem le_dc2 {wi wi1 : WI} {g g1 : WG} {tt tt1 : WT} {tk tv : WE} (hc : X.calm = true) (hN : X.N.Nodup) (hi : LI X tg iter wi) (ok : BlkOk X.N X.env.scope scope own) (hv : ∀ i ∈ vs1, i ∈ own.map (·.2))
    (hg : inBlk X scope fun Y => LGo Y (own.map (·.2)) tg g) (ht : inBlk X scope fun Y => LTs Y ifs tt) (hi1 : inBlk X scope fun Y => LI Y tg1 iter1 wi1) (hg1 : inBlk X scope fun Y => LGo Y vs1 tg1 g1) (ht1 : inBlk X scope fun Y => LTs Y ifs1 tt1)
    (hk : inBlk X scope fun Y => LE Y kx tk) (he : inBlk X scope fun Y => LE Y vx tv) (hs : ∀ x, foldedSetIterable iter X.env x = pure x := by intro _; rfl) (hs1 : ∀ env x, foldedSetIterable iter1 env x = pure x := by intro _ _; rfl) :
    LE X (.DictComp kx vx [⟨tg, iter, ifs, 0⟩, ⟨tg1, iter1, ifs1, 0⟩] scope pos) (wDc2 wi g tt wi1 g1 tt1 tk tv (own.map (·.2)) vs1) := (MP2.pe_dc2 hc hN hi ok hv hg ht hi1 hg1 ht1 hk he hs hs1).imp dc2_imp

/-! {k: v}, k a tuple of numbers and texts -/
theorem d_dictSetT {pins : List (Addr × Obj)} {s : Shared} {E : Value → Shared → Prop} {D b : Addr} {kvs : List (List Key × V)} {k : List Key} {v : V} {r : Value} {Q : Unit → Shared → Prop} (hu : X.A.units < cLine) (I : L2.Inv X pins σ H s) (hD : H D = some (.dT kvs)) (hz : kvs.length < sizeLine)
    (eb : H b = some (.tup (k.map kV))) (rv : RelV v r) (h : ∀ s', L2.Inv X pins σ (upd H D (.dT (putK kvs k v))) s' → Q () s') : wpAny (model X.prog X.w) X.A (dictSet D (.ref b) r) Q E s := by
  obtain ⟨z, hd, xs, rel, dd⟩ := dt_of I.hok hD
  have hzv : xs.length ≤ sizeLine := by rw [← Paired.length rel]; exact z
  have hl : (putK kvs k v).length ≤ sizeLine := by have := length_putK kvs k v; omega
  refine wpAny_dictSet_heap (hsz := hzv) hu (key_of I.hok eb) dd fun h' dd' hs => h _ ?_
  obtain ⟨q, es, ep, hq, h2, h3, h4, _, h5⟩ := dd'
  refine d_write I (by rw [hD]; exact True.intro) hs ⟨q, hq⟩ ⟨hl, hd, _, (rel.put k eb rv).keeps fun c ys ec => ?_, q, es, ep, hq, h2, h3, h4, h5⟩
  rw [upd_ne (ne_of ec hD (fun z => nomatch z))]
  exact ec
def tD1T (tk tv : TE) : TE := fun σ H Q => ∀ p, H p = none → tk σ (upd H p (.dT [])) fun x H1 => tv σ H1 fun y H2 => ∃ b k, x = .ref b ∧ H2 b = some (.tup (k.map kV)) ∧ H2 p = some (.dT []) ∧ Q (.ref p) (upd H2 p (.dT [(k, y)]))
theorem pe_d1T {tk tv : TE} (hu : X.A.units < cLine) (hk : PE X a tk) (hv : PE X b tv) : PE X (.Dict [some a] [b] pos) (tD1T tk tv) := by
  refine ⟨fun pins s σ H Q I q => ?_⟩
  have hn := I.hok.fresh (Nat.le_refl s.heap.objs.size)
  have I1 := I.laid (a := s.heap.objs.size) (o := .dT []) (h' := s.heap.push { cls := .type "dict", data := .dict #[] }) (t' := s.toks) (fun _ _ q => Heap.get?_push_of_some _ q) (Nat.le_refl _) (dt_empty s.heap I.big)
  refine wpAny_Dict_any rfl rfl (by simp) (by show 1 ≤ 15; decide) (pairTrees_cons_walk (thn (hk.run pins _ σ _ _ I1 (q _ hn)) fun u s1 ⟨x, H1, I1, rx, q1⟩ => thn (hv.run pins s1 σ H1 _ I1 q1) fun w2 s2 ⟨y, H2, I2, ry, q2⟩ =>
    pairTrees_nil_walk ?_))
  obtain ⟨b', k, ex, eb, ep, q3⟩ := q2
  subst ex
  obtain rfl : u = Value.ref b' := rx
  show wpAny _ _ (storeAll s.heap.objs.size [(.ref b', w2)]) _ _ s2
  unfold storeAll
  rw [List.forIn_cons]
  refine wpAny_bind (wpAny_bind (d_dictSetT hu I2 ep (by show 0 < sizeLine; decide) eb ry fun s3 I3 => wpAny_pure ?_))
  exact wpAny_pure ⟨.ref s.heap.objs.size, _, I3, rfl, q3⟩
def wD1T (wk wv : WE) : WE := fun sl h Q => wk sl h fun x h1 => wv sl h1 fun y h2 => keyOk true x = true ∧ Q (.ref h2.length) (h2 ++ [.dct true false [(x, y)]])
theorem le_d1T {wk wv : WE} (hr : Room j X.A) (hk : LE X a wk) (hv : LE X b wv) : LE X (.Dict [some a] [b] pos) (wD1T wk wv) := (pe_d1T hr.units0 hk hv).imp fun σ H Q z => by
  obtain ⟨sl, h, io, q, r, z, k⟩ := z
  intro p hp
  have rn := r.on (ex_upd (o := .dT []) hp) (r.rh.new (o := .dT []) hp)
  have pn : p ∉ io := r.rh.nin hp
  refine tE.go rn z fun x h1 z1 u i1 H1 x1 r1 d1 => tE.go r1 z1 fun y h2 z2 v i2 H2 x2 r2 d2 => ?_
  obtain ⟨hk, z2⟩ := z2
  cases x with
  | tup xs =>
    obtain ⟨key, rfl⟩ := keys_of_ok hk
    have x12 := x1.trans x2
    have e2 := x12.oth p _ upd_same pn
    have n2 := x12.nin upd_same pn
    cases d1.mono x2 with
    | @tup ab vs _ ha ra =>
      have := rd_keys ra
      subst this
      refine ⟨ab, key, rfl, ha, e2, ?_⟩
      have y2 := ey_priv (io := i2) (o := .dT [(key, v)]) e2 (fun _ z => nomatch z)
      have xa : Ex io i2 H (upd H2 p (.dT [(key, v)])) := ex_priv ((ex_upd hp).trans x12) hp
      have rh2 := r2.rh.priv (o := .dT [(key, v)]) n2 e2 (fun _ z => nomatch z) (fun _ z => nomatch z)
      exact k _ _ z2 _ _ _ (ex_adopt xa hp) (rh2.adopt n2 (.ofT ⟨_, by simp only [DOb]; exact upd_same, (KVt.nil.put (k := key) (d2.monoY y2)).mono1 (List.prefix_append _ _)⟩)) (.ref (push_at rh2 p))
  | _ => cases hk
end
end MP

set_option Elab.async false
set_option linter.all false
set_option maxRecDepth 100000
set_option maxHeartbeats 2000000
/-! MpO: names for the generator; defs, methods, makings from their bodies. -/
namespace MP
open PySem PySem.Spec
open PyProof.Rows hiding St
open L2

section
variable {X : Cx} {j : Nat} {a b c e o ie tg tg1 iter iter1 elt kx vx : Expr} {pos pos' p apos cpos tpos : Pos} {es elts ifs ifs1 : List Expr} {kk : Nat} {scope : Scope} {own : List (Str × Nat)} {vs vs1 : List Nat}
variable {K : PySem.W.Frag} {mg : Str → Option Value} {io io' : List Addr} {H H' : Hp} {h h' : Hd} {sl : Sd} {σ : L2.St}
theorem sl_ (i : Nat) {x : Str} (hN : X.N[i]? = some x := by rfl) (hv : Vis X.env.scope x := by first | exact Or.inl rfl | exact Or.inr (Or.inl rfl) | exact Or.inr (Or.inr rfl)) (hd : (x == ("__debug__" : Str)) = false := by decide)
    (hcd : (x == ("__classdict__" : Str)) = false := by decide) : LE X (.Name x pos) (wSlot i) := le_slot hN hv hd hcd
theorem gn_ (i : Nat) {x : Str} (nd : X.N.Nodup) (hi : X.N[i]? = some x := by rfl) (hx : Loc X.env.scope x := by first | exact Or.inl rfl | exact Or.inr rfl) (hf : X.fn x = true ∨ X.env.scope.names.lookup x = some .local := by first | exact Or.inr rfl | exact Or.inl rfl) : LG X (.Name x pos) (wNm i) := lg_name nd hi hx hf
theorem go_ (i : Nat) {x : Str} (nd : X.N.Nodup) (hv : i ∈ vs := by decide) (hi : X.N[i]? = some x := by rfl) (hx : Loc X.env.scope x := by first | exact Or.inl rfl | exact Or.inr rfl) (hf : X.fn x = true ∨ X.env.scope.names.lookup x = some .local := by first | exact Or.inr rfl | exact Or.inl rfl) : LGo X vs (.Name x pos) (wNm i) := lo_name hv nd hi hx hf
theorem ks_ (i : Nat) {x : Str} {w : WE} (nd : X.N.Nodup) (he : LE X e w) (hi : X.N[i]? = some x := by rfl) (hx : Loc X.env.scope x := by first | exact Or.inl rfl | exact Or.inr rfl) (hs : swapsWith e (some (.Name x pos')) pos.line X.env = pure false := by rfl) (hf : X.fn x = true ∨ X.env.scope.names.lookup x = some .local := by first | exact Or.inr rfl | exact Or.inl rfl) :
    LS X (.Assign [.Name x pos'] e pos) (wAsg w (wNm i)) := ls_set nd hi hx he hs hf
theorem ka_ (i : Nat) {x : Str} {w : WE} (nd : X.N.Nodup) (he : LE X e w) (hi : X.N[i]? = some x := by rfl) (hx : Loc X.env.scope x := by first | exact Or.inl rfl | exact Or.inr rfl) (hf : X.fn x = true ∨ X.env.scope.names.lookup x = some .local := by first | exact Or.inr rfl | exact Or.inl rfl) :
    LS X (.AugAssign (.Name x pos') .Add e pos) (wAug i w) := ls_aug nd hi hx he hf
/-- name = {..} on one line -/
theorem ps_setDc {i : Nat} {y : Str} {py : Pos} {spos : Pos} {wi : TI} {g : TG} {tt : TT} {tk tv : TE} (hc : X.calm = true) (hN : X.N.Nodup) (hy : X.N[i]? = some y) (hyl : X.env.scope.names.lookup y = some .local)
    (hsw : swapsWith (.DictComp kx vx [⟨tg, iter, ifs, 0⟩] scope pos) (some (.Name y py)) spos.line X.env = pure true) (hi : PI X tg iter wi) (ok : BlkOk X.N X.env.scope scope own)
    (hg : inBlk X scope fun Y => PG Y tg g) (ht : inBlk X scope fun Y => PTs Y ifs tt) (hk : inBlk X scope fun Y => PE Y kx tk) (he : inBlk X scope fun Y => PE Y vx tv) (hs : ∀ x, foldedSetIterable iter X.env x = pure x := by intro _; rfl) :
    PS X (.Assign [.Name y py] (.DictComp kx vx [⟨tg, iter, ifs, 0⟩] scope pos) spos) (tAsg (tDc wi g tt tk tv (own.map (·.2))) (gName i)) := by
  refine ⟨fun pins s σ H D I h => ?_⟩
  rw [exec_Assign_Name_used _ _ _ _ hsw]
  refine wpAny_bind (wpAny_standAt (wpAny_bind ?_))
  show wpAny _ X.A (do let _ ← comprehension (.DictComp kx vx [⟨tg, iter, ifs, 0⟩] scope pos) scope X.env (firstIterPos [⟨tg, iter, ifs, 0⟩] pos) newDict false (eval iter X.env) (some (assign (.Name y py) X.env))) _ _ s
  have h : tDc wi g tt tk tv (own.map (·.2)) σ H (fun x H1 => gName i x σ H1 D.nx) := h
  refine wpAny_bind (thn (dc_core (Qf := fun _ s' => SP X pins D .next s') hc hN I hi ok hg ht hk he hs h fun L C s' m H' I' q hn f => ?_) fun _ s' hq => wpAny_pure (wpAny_pure hq))
  show wpAny _ _ (assign (.Name y py) X.env (.ref L)) _ _ _
  refine wpAny_assign_Name (store_ok2 (v := V.ref L) I' hN hy (.inl hyl) rfl (fun s2 I2 ⟨a, sb, ha⟩ => ?_) (.inr hyl))
  obtain ⟨f0, f1, f2, f3, f4, f5⟩ := f
  have haC : C ≠ a := by
    rcases ha with z | z
    · rw [z]; exact f1
    · exact fun e => f4 y a z e.symm
  refine ⟨m, hn.sameBut sb haC, fun h3 sb3 => ?_⟩
  exact ⟨_, H', I2.turned (t' := s2.toks) (fun b o hb e => (sb3.2 b hb).trans e) f0 f1 f3 f4 f5, q⟩
theorem ls_setDc {i : Nat} {y : Str} {py spos : Pos} {wi : WI} {g : WG} {tt : WT} {tk tv : WE} (hc : X.calm = true) (hN : X.N.Nodup) (hy : X.N[i]? = some y) (hyl : X.env.scope.names.lookup y = some .local)
    (hsw : swapsWith (.DictComp kx vx [⟨tg, iter, ifs, 0⟩] scope pos) (some (.Name y py)) spos.line X.env = pure true) (hi : LI X tg iter wi) (ok : BlkOk X.N X.env.scope scope own)
    (hg : inBlk X scope fun Y => LGo Y (own.map (·.2)) tg g) (ht : inBlk X scope fun Y => LTs Y ifs tt) (hk : inBlk X scope fun Y => LE Y kx tk) (he : inBlk X scope fun Y => LE Y vx tv) (hs : ∀ x, foldedSetIterable iter X.env x = pure x := by intro _; rfl) :
    LS X (.Assign [.Name y py] (.DictComp kx vx [⟨tg, iter, ifs, 0⟩] scope pos) spos) (wAsg (wDc wi g tt tk tv (own.map (·.2))) (wNm i)) := (ps_setDc hc hN hy hyl hsw hi ok hg ht hk he hs).imp fun D σ H z => by
  obtain ⟨sl, h, io, q, r, z, k⟩ := z
  exact dc_imp σ H _ (tE.go r z fun x h1 z1 u i1 H1 x1 r1 d1 => k.nx _ _ z1 _ _ _ x1 (r1.set i d1))
theorem ps_setDc2 {i : Nat} {y : Str} {py : Pos} {spos : Pos} {wi wi1 : TI} {g g1 : TG} {tt tt1 : TT} {tk tv : TE} (hc : X.calm = true) (hN : X.N.Nodup) (hy : X.N[i]? = some y) (hyl : X.env.scope.names.lookup y = some .local)
    (hsw : swapsWith (.DictComp kx vx [⟨tg, iter, ifs, 0⟩, ⟨tg1, iter1, ifs1, 0⟩] scope pos) (some (.Name y py)) spos.line X.env = pure true) (hi : PI X tg iter wi) (ok : BlkOk X.N X.env.scope scope own) (hv : ∀ i ∈ vs1, i ∈ own.map (·.2))
    (hg : inBlk X scope fun Y => PG Y tg g) (ht : inBlk X scope fun Y => PTs Y ifs tt) (hi1 : inBlk X scope fun Y => PI Y tg1 iter1 wi1) (hg1 : inBlk X scope fun Y => PG Y tg1 g1) (ht1 : inBlk X scope fun Y => PTs Y ifs1 tt1)
    (hk : inBlk X scope fun Y => PE Y kx tk) (he : inBlk X scope fun Y => PE Y vx tv) (hs : ∀ x, foldedSetIterable iter X.env x = pure x := by intro _; rfl) (hs1 : ∀ env x, foldedSetIterable iter1 env x = pure x := by intro _ _; rfl) :
    PS X (.Assign [.Name y py] (.DictComp kx vx [⟨tg, iter, ifs, 0⟩, ⟨tg1, iter1, ifs1, 0⟩] scope pos) spos) (tAsg (MP2.tDc2 wi g tt wi1 g1 tt1 tk tv (own.map (·.2)) vs1) (gName i)) := by
  refine ⟨fun pins s σ H D I h => ?_⟩
  rw [exec_Assign_Name_used _ _ _ _ hsw]
  refine wpAny_bind (wpAny_standAt (wpAny_bind ?_))
  show wpAny _ X.A (do let _ ← comprehension (.DictComp kx vx [⟨tg, iter, ifs, 0⟩, ⟨tg1, iter1, ifs1, 0⟩] scope pos) scope X.env (firstIterPos [⟨tg, iter, ifs, 0⟩, ⟨tg1, iter1, ifs1, 0⟩] pos) newDict false (eval iter X.env) (some (assign (.Name y py) X.env))) _ _ s
  have h : MP2.tDc2 wi g tt wi1 g1 tt1 tk tv (own.map (·.2)) vs1 σ H (fun x H1 => gName i x σ H1 D.nx) := h
  refine wpAny_bind (thn (MP2.dc2_core (Qf := fun _ s' => SP X pins D .next s') hc hN I hi ok hv hg ht hk he hs hi1 hg1 ht1 hs1 h fun L C s' m H' I' q hn f => ?_) fun _ s' hq => wpAny_pure (wpAny_pure hq))
  show wpAny _ _ (assign (.Name y py) X.env (.ref L)) _ _ _
  refine wpAny_assign_Name (store_ok2 (v := V.ref L) I' hN hy (.inl hyl) rfl (fun s2 I2 ⟨a, sb, ha⟩ => ?_) (.inr hyl))
  obtain ⟨f0, f1, f2, f3, f4, f5⟩ := f
  have haC : C ≠ a := by
    rcases ha with z | z
    · rw [z]; exact f1
    · exact fun e => f4 y a z e.symm
  refine ⟨m, hn.sameBut sb haC, fun h3 sb3 => ?_⟩
  exact ⟨_, H', I2.turned (t' := s2.toks) (fun b o hb e => (sb3.2 b hb).trans e) f0 f1 f3 f4 f5, q⟩
theorem ls_setDc2 {i : Nat} {y : Str} {py spos : Pos} {wi wi1 : WI} {g g1 : WG} {tt tt1 : WT} {tk tv : WE} (hc : X.calm = true) (hN : X.N.Nodup) (hy : X.N[i]? = some y) (hyl : X.env.scope.names.lookup y = some .local)
    (hsw : swapsWith (.DictComp kx vx [⟨tg, iter, ifs, 0⟩, ⟨tg1, iter1, ifs1, 0⟩] scope pos) (some (.Name y py)) spos.line X.env = pure true) (hi : LI X tg iter wi) (ok : BlkOk X.N X.env.scope scope own) (hv : ∀ i ∈ vs1, i ∈ own.map (·.2))
    (hg : inBlk X scope fun Y => LGo Y (own.map (·.2)) tg g) (ht : inBlk X scope fun Y => LTs Y ifs tt) (hi1 : inBlk X scope fun Y => LI Y tg1 iter1 wi1) (hg1 : inBlk X scope fun Y => LGo Y vs1 tg1 g1) (ht1 : inBlk X scope fun Y => LTs Y ifs1 tt1)
    (hk : inBlk X scope fun Y => LE Y kx tk) (he : inBlk X scope fun Y => LE Y vx tv) (hs : ∀ x, foldedSetIterable iter X.env x = pure x := by intro _; rfl) (hs1 : ∀ env x, foldedSetIterable iter1 env x = pure x := by intro _ _; rfl) :
    LS X (.Assign [.Name y py] (.DictComp kx vx [⟨tg, iter, ifs, 0⟩, ⟨tg1, iter1, ifs1, 0⟩] scope pos) spos) (wAsg (wDc2 wi g tt wi1 g1 tt1 tk tv (own.map (·.2)) vs1) (wNm i)) := (ps_setDc2 hc hN hy hyl hsw hi ok hv hg ht hi1 hg1 ht1 hk he hs hs1).imp fun D σ H z => by
  obtain ⟨sl, h, io, q, r, z, k⟩ := z
  exact dc2_imp σ H _ (tE.go r z fun x h1 z1 u i1 H1 x1 r1 d1 => k.nx _ _ z1 _ _ _ x1 (r1.set i d1))
theorem sw_trueD {gs : List Comprehension} {py : Pos} {y : Str} {l : Nat} {env : Env} (hk : env.scope.kind = .function) (hy : env.scope.names.lookup y = some .local) (hl : (py.line == pos.line) = true)
    (ha : (scope.names.any fun (n, k) => n == y && (k == .local || k == .cell)) = false) : swapsWith (.DictComp kx vx gs scope pos) (some (.Name y py)) l env = pure true := by
  have ky : env.kindOf y = some .local := hy
  have hb : env.blockKind = .function := by unfold Env.blockKind; rw [hk]; rfl
  unfold swapsWith
  simp only [hb, ky, ha, Expr.pos, hl]
  rfl
end

theorem ol_eqA {X : Cx} {j : Nat} {A : Around} (hr : Room j A) (neg : Bool) (hA : X.A = A := by rfl) : OpL X (compareOp (if neg then .NotEq else .Eq)) (oEq neg) := by
  subst hA; exact ol_eq hr neg
theorem ol_inA {X : Cx} {j : Nat} {A : Around} (hr : Room j A) (neg : Bool) (hA : X.A = A := by rfl) : OpL X (compareOp (if neg then .NotIn else .In)) (oIn neg) := by
  subst hA; exact ol_in hr neg
/-! ### a def from its body -/
def startD (N : List Str) (ds : List D) : Sd := ds.map some ++ List.replicate (N.length - ds.length) none
theorem startD_len {N : List Str} {ds : List D} (h : ds.length ≤ N.length) : (startD N ds).length = N.length := by
  unfold startD; simp; omega
theorem rds_startD {io : List Addr} {H : Hp} {N : List Str} {ds : List D} {vs : List V} {K : PySem.W.Frag} {mg : Str → Option Value} {h : Hd} (rh : RH K mg io H h) (r : RDs io H ds vs) : Rel K mg (startD N ds) (L2.start N vs) io H h := by
  refine ⟨rh, by unfold startD L2.start; simp [r.length], fun i d e => ?_⟩
  unfold startD at e
  by_cases hi : i < ds.length
  · rw [List.getElem?_append_left (by simpa using hi)] at e
    simp only [List.getElem?_map] at e
    obtain ⟨d', e1, e2⟩ := Option.map_eq_some_iff.mp e
    cases e2
    obtain ⟨v, f1, f2⟩ := r.get e1
    refine ⟨v, ?_, f2⟩
    unfold L2.start
    rw [List.getElem?_append_left (by rw [List.length_map, ← r.length]; exact hi), List.getElem?_map, f1]
    rfl
  · rw [List.getElem?_append_right (by simpa using hi)] at e
    rw [List.getElem?_replicate] at e
    split at e <;> cases e
abbrev endR (q : D → Hd → Prop) : EndsD := { nx := fun _ h' => q .non h', rt := q }
theorem endR_ok {K : PySem.W.Frag} {mg : Str → Option Value} {io : List Addr} {H : Hp} {q : D → Hd → Prop} {Q : VK} (k : Kn K mg io H q Q) : KnE K mg io H (endR q) { nx := fun _ H' => Q .non H', rt := Q } :=
  ⟨fun sl h z σ io' H' x r => k _ _ z _ _ _ x r.rh .non, k, fun _ _ z => z.elim, fun _ _ z => z.elim⟩
/-- the context of a def's body -/
abbrev cxD (P : Program) (w : World) (K : PySem.W.Frag) (mg : Str → Option Value) (base : Heap) (N : List Str) (qual : Str) (scope : Scope) (f : Addr) (cd : Value) (A : Around) (outer : List Env) (s : Shared) (H : Hp) (E : XK) : Cx := (cxOf CX0 P w K mg base N qual scope f cd A outer s H E).nox
section
variable {P : Program} {w : World} {K : PySem.W.Frag} {mg : Str → Option Value} {base : Heap} {x qual cn : Str} {params : Arguments} {body : List Stmt} {scope : Scope} {dvs : List V} {kws : List (Str × V)} {f C : Addr} {fd : FuncData} {N ps : List Str} {k : Nat} {sp : SpD}
theorem fnG_of (F : FunD K x qual params body scope dvs kws f fd) (S : FnScope N ps scope) (ar : ∀ ds h q, sp ds h q → ds.length = ps.length)
    (hw : ∀ (cd : Value) (A : Around) (outer : List Env) (s : Shared) (H : Hp) (E : XK), Room k (cxD P w K mg base N qual scope f cd A outer s H E).A → (cxD P w K mg base N qual scope f cd A outer s H E).A.guards = some [] →
      ∃ wb : WS, LSs (cxD P w K mg base N qual scope f cd A outer s H E) body wb ∧ ∀ ds h q, sp ds h q → wb (endR q) (startD N ds) h) : FnG P w K mg base CX0 (k + 1) f fd ps (spD K mg ps.length sp) := by
  obtain ⟨oc, od, dV, kV, doc, pm, an, cdv, ct, osl, rfl, lk, hcd, _, _⟩ := F.ex
  refine fn_g lk hcd S (fun vs H Q E h => h.1) fun A outer s H vs Q E hr hg hsp => ?_
  obtain ⟨wb, hl, hp⟩ := hw cdv A outer s H E hr hg
  refine ⟨_, hl.nox, ?_⟩
  obtain ⟨_, ds, h, io, q, rh, rd, z, kn⟩ := hsp
  exact ⟨startD N ds, h, io, endR q, rds_startD rh rd, hp ds h q z, endR_ok kn⟩
theorem fnD_of (F : FunD K x x params body scope [] [] f fd) (hx : mg x = some (.ref f)) (S : FnScope N ps scope) (hb : Binds K fd ps []) (ar : ∀ ds h q, sp ds h q → ds.length = ps.length)
    (hw : ∀ (cd : Value) (A : Around) (outer : List Env) (s : Shared) (H : Hp) (E : XK), Room k (cxD P w K mg base N x scope f cd A outer s H E).A → (cxD P w K mg base N x scope f cd A outer s H E).A.guards = some [] →
      ∃ wb : WS, LSs (cxD P w K mg base N x scope f cd A outer s H E) body wb ∧ ∀ ds h q, sp ds h q → wb (endR q) (startD N ds) h) : FnD P w K mg base (k + 1) x ps.length sp :=
  ⟨⟨f, fd, ps, fnG_of F S ar hw, hx, F.kp, hb, rfl⟩, ar⟩
theorem mtD_of (F : FunD K x qual params body scope dvs kws f fd) (hC : mg cn = some (.ref C)) (cl : Cls K C) (me : Meth K C x f) (S : FnScope N ps scope) (hb : Binds K fd ps []) (ar : ∀ ds h q, sp ds h q → ds.length = ps.length)
    (hw : ∀ (cd : Value) (A : Around) (outer : List Env) (s : Shared) (H : Hp) (E : XK), Room k (cxD P w K mg base N qual scope f cd A outer s H E).A → (cxD P w K mg base N qual scope f cd A outer s H E).A.guards = some [] →
      ∃ wb : WS, LSs (cxD P w K mg base N qual scope f cd A outer s H E) body wb ∧ ∀ ds h q, sp ds h q → wb (endR q) (startD N ds) h) : MtD P w K mg base (k + 1) cn x ps.length sp :=
  ⟨⟨C, f, fd, ps, hC, cl, me, fnG_of F S ar hw, hb, rfl⟩, ar⟩
theorem mkD_of (F : FunD K x qual params body scope dvs kws f fd) (hC : mg cn = some (.ref C)) (mk : Mk K C f) (S : FnScope N ps scope) (hb : Binds K fd ps []) (ar : ∀ ds h q, sp ds h q → ds.length = ps.length)
    (hw : ∀ (cd : Value) (A : Around) (outer : List Env) (s : Shared) (H : Hp) (E : XK), Room k (cxD P w K mg base N qual scope f cd A outer s H E).A → (cxD P w K mg base N qual scope f cd A outer s H E).A.guards = some [] →
      ∃ wb : WS, LSs (cxD P w K mg base N qual scope f cd A outer s H E) body wb ∧ ∀ ds h q, sp ds h q → wb (endR q) (startD N ds) h) : MkD P w K mg base (k + 1) cn ps.length sp :=
  ⟨⟨C, f, fd, ps, hC, mk, fnG_of F S ar hw, hb, rfl⟩, ar⟩
end
end MP

set_option Elab.async false
set_option linter.all false
set_option maxRecDepth 100000
set_option maxHeartbeats 2000000
/-! MpP: sorted(set(a tuple of numbers)). -/
namespace MP
open PySem PySem.Spec
open PyProof.Rows hiding St
open L2

section
variable {X : Cx} {j : Nat} {a b c e o : Expr} {pos pos' p p2 : Pos}
variable {K : PySem.W.Frag} {mg : Str → Option Value} {io io' : List Addr} {H H' : Hp} {h h' : Hd} {sl : Sd} {σ : L2.St}
theorem cr_setTupI (hc : X.calm = true) : CallR X (.type "set") (fun xs H Q => ∃ (p0 : Addr) (ns : List Int), xs = [.ref p0] ∧ SqT X.K H p0 (ns.map V.int) ∧ ns.length ≤ 1000 ∧ ∀ (q : Addr) (c : Nat), H q = none → c ≤ ns.length → Q (.ref q) (upd H q (SetO X.w q (fun j => decide (j ∈ ns)) c))) := by
  intro pins s σ H xs us Q I r h
  obtain ⟨p0, ns, rfl, hq, hl, q⟩ := h
  obtain ⟨u, rfl, rx⟩ := vals1 r
  cases (show u = Value.ref p0 from rx)
  obtain ⟨its, rv, pt, hz⟩ := I.tuple hq
  have hi : IntsAre its.toArray.toList ns := ints_of_vals rv
  refine call_set_tupI ns (I.ok.hd hc) (show s.heap.IsTuple p0 its.toArray from pt) hi (by unfold scanBound; omega) fun h' tk c R1 hcn k => ?_
  exact ⟨.ref _, _, I.laid (t' := tk) k (Nat.le_refl _) (setO_new R1), rfl, q _ c (I.hok.fresh (Nat.le_refl _)) hcn⟩
/-- the numbers of a row, each once, ascending -/
def sortZ (ns : List Int) : List Int := (ns.eraseDups).mergeSort (fun a b => decide (a ≤ b))
def wSortedSet (w : WE) : WE := fun sl h Q => w sl h fun x h1 => ∃ ns : List Int, x = .tup (ns.map .int) ∧ ns.length < 64 ∧ ∀ out : List Int, out.Pairwise (· < ·) → (∀ k, k ∈ out ↔ k ∈ ns) → Q (.ref h1.length) (h1 ++ [.lst (out.map .int)])
theorem le_sortedSet {w : WE} (hc : X.calm = true) (hg : Gl X "sorted") (hm : X.mg "sorted" = none) (hg2 : Gl X "set") (hm2 : X.mg "set" = none) (he : LE X e w)
    (hs : starEach [.Call (.Name "set" p2) [e] [] pos'] X.env = (false, eval (.Call (.Name "set" p2) [e] [] pos') X.env) :: starEach [] X.env := by rfl) (hs2 : starEach [e] X.env = (false, eval e X.env) :: starEach [] X.env := by rfl) :
    LE X (.Call (.Name "sorted" p) [.Call (.Name "set" p2) [e] [] pos'] [] pos) (wSortedSet w) := (pe_callB (cr_sortedSet hc) hg hm boot_sorted (pa_cons (pe_callTy (cr_setTupI hc) hg2 hm2 PyProof.Rows.boot_set (pa_cons he pa_nil hs2) (by decide) (by decide) hs2 rfl) pa_nil hs) (by decide) (by decide) hs rfl).imp fun σ H Q z => by
  obtain ⟨sl, h, io, q, r, z, k⟩ := z
  refine tE.go r z fun x h1 z1 u i1 H1 x1 r1 d1 => ?_
  obtain ⟨ns, rfl, hl, z1⟩ := z1
  cases d1 with
  | @tup a vs _ ha ra =>
    obtain rfl := rd_ints ra
    refine ⟨a, ns, rfl, SqT.of ha, by omega, fun q0 c hq0 hcn => ⟨q0, _, c, rfl, upd_same, by omega, fun out p0 pw mem hlen hp0 => ?_⟩⟩
    have mem' : ∀ k, k ∈ out ↔ k ∈ ns := fun k => by rw [mem k, decide_eq_true_eq]
    obtain ⟨x2, rh2, d2⟩ := new_lst (r1.rh.new (o := SetO X.w q0 (fun j => decide (j ∈ ns)) c) hq0) (to_ints out) hp0
    exact k _ _ (z1 out pw mem') _ _ _ ((x1.trans (ex_upd hq0)).trans x2) rh2 d2

/-! list(d.items()), the dict locked or not -/
def rItemsR : V → Hp → VK → Prop := fun x H Q => ∃ (d : Addr) (kvs : List (Key × V)), x = .ref d ∧ Rd H d (.dK kvs) ∧
  ∀ (H' : Hp) (p : Addr) (ts : List Addr), (∀ b o, H b = some o → H' b = some o) → H p = none → (∀ t ∈ ts, H t = none) → p ∉ ts → H' p = some (.lst (ts.map V.ref)) → Paired (fun (t : Addr) (q : Key × V) => H' t = some (.tup [kV q.1, q.2])) ts kvs → Q (.ref p) H'
def tItemsR (te : TE) : TE := fun σ H Q => te σ H fun x H1 => rItemsR x H1 Q
variable {apos cpos : Pos} {te : TE}
theorem pe_listItemsR (hc : X.calm = true) (he : PE X e te) (hg : Gl X "list") (hm : X.mg "list" = none) (hv : bootBuiltins "list" = some (.type "list")) (hbase : attributeBase e "items" X.env (eval e X.env) = eval e X.env := by rfl) (hline : (apos.endLine == cpos.line) = true := by rfl)
    (hs : starEach [.Call (.Attribute e "items" apos) [] [] cpos] X.env = (false, eval (.Call (.Attribute e "items" apos) [] [] cpos) X.env) :: starEach [] X.env := by rfl) :
    PE X (.Call (.Name "list" p) [.Call (.Attribute e "items" apos) [] [] cpos] [] pos) (tItemsR te) := by
  refine ⟨fun pins s σ H Q I hq => ?_⟩
  refine wpAny_Call_Name_kw (ld_blt I hg hm hv ?_)
  refine PyProof.Rows.callWith_type1 ?_ hs rfl
  rw [hs]
  show wpAny _ _ (spliced ((false, eval (.Call (.Attribute e "items" apos) [] [] cpos) X.env) :: backTo pos (starEach [] X.env))) _ _ s
  refine Calls.spliced_cons ?_
  refine wpAny_Call_method (T := "dict") (id := "dict.items") hbase rfl hline F.plainAttrs_dict F.slot_dict_items F.type_dict_items (thn (he.run pins s σ H _ I hq) fun u s1 ⟨x, H1, I1, rx, d, kvs, ex, hd, q⟩ => ?_)
  subst ex
  obtain rfl : u = Value.ref d := rx
  obtain ⟨hz, hs0, vs, kv, hdo⟩ := dk_rd I1.hok hd
  obtain ⟨ep, hat⟩ := hdo.dictAt
  have lk : kvs.length = vs.length := Paired.length kv
  have I2 : L2.Inv X pins σ H1 { s1 with heap := s1.heap.push { cls := .type "dict_items", data := .fields #[.ref d] } } := I1.kept (t' := s1.toks) fun b ob q => Heap.get?_push_of_some _ q
  refine ⟨hdo.typeIs, hdo.mapOf.noDict, ?_⟩
  show wpAny _ _ (callWith cpos (.builtin "dict.items") [.ref d] [] []) _ X.xe s1
  refine method_meetsIn F.slot_dict_items F.entry_dict_items rfl (PySem.evalArgs_none ⟨rfl, hdo.typeIs, F.args_dict_items_1 _, _, meets_dict_items (mixKind X.prog X.w) d hs0, ⟨vs, hdo⟩, ?_⟩)
  refine Calls.spliced_nil ?_
  refine PySem.W.kdx_call (knd := mixKind X.prog X.w) (kvs := vs) (ep := ep) (I1.ok.hd hc) ⟨_, Heap.get?_push_size _ rfl, rfl, rfl⟩ (hat.push _) (by omega) fun h' tk acc c as hk hS hl hG hacc => ?_
  obtain ⟨H', k1, k2, k3, k4, k5, k6, J⟩ := LiI.items_laid (tk := tk) I2 hz kv hk hS hl hG hacc
  exact ⟨.ref _, H', J, rfl, q H' _ as k1 k2 k3 k4 k5 k6⟩
def wListItemsR (w : WE) : WE := fun sl h Q => w sl h fun x h1 => ∃ n lk kvs, x = .ref n ∧ h1[n]? = some (.dct false lk kvs) ∧ Q (.ref h1.length) (h1 ++ [.lst (kvs.map fun p => .tup [p.1, p.2])])
theorem le_listItemsR {w : WE} (hc : X.calm = true) (he : LE X e w) (hg : Gl X "list") (hm : X.mg "list" = none) (hv : bootBuiltins "list" = some (.type "list")) (hbase : attributeBase e "items" X.env (eval e X.env) = eval e X.env := by rfl) (hline : (apos.endLine == cpos.line) = true := by rfl)
    (hs : starEach [.Call (.Attribute e "items" apos) [] [] cpos] X.env = (false, eval (.Call (.Attribute e "items" apos) [] [] cpos) X.env) :: starEach [] X.env := by rfl) :
    LE X (.Call (.Name "list" p) [.Call (.Attribute e "items" apos) [] [] cpos] [] pos) (wListItemsR w) := (pe_listItemsR hc he hg hm hv hbase hline hs).imp fun σ H Q z => by
  obtain ⟨sl, h, io, q, r, z, k⟩ := z
  refine tE.go r z fun x h1 z1 u i1 H1 x1 r1 d1 => ?_
  obtain ⟨n, lk, kvs, rfl, e1, z1⟩ := z1
  obtain ⟨a, rfl, i⟩ := ref_rd d1
  obtain ⟨ks, f1, f2⟩ := (r1.rh.cell n _ a e1 i).dK
  refine ⟨a, ks, rfl, f1.rd, fun H2 p ts k2 hp ht hpt hl pr => ?_⟩
  have xg : Ex i1 i1 H1 H2 := ex_grow k2
  have rh2 := r1.rh.grow k2
  have xa := ex_adopt xg hp
  have pn : p ∉ i1 := r1.rh.nin hp
  have rd : ∀ {l : List (D × D)} {m : List (Key × V)} {ts : List Addr}, KVk i1 H2 l m → Paired (fun (t : Addr) (q : Key × V) => H2 t = some (.tup [kV q.1, q.2])) ts m → RDs i1 H2 (l.map fun p => .tup [p.1, p.2]) (ts.map V.ref) := by
    intro l m ts r
    induction r generalizing ts with
    | nil => intro q; cases q; exact .nil
    | @cons kk d v l m hd r ih =>
      intro q
      cases q with
      | cons q1 q2 => exact .cons (.tup q1 (.cons (rd_keyD kk) (.cons hd .nil))) (ih q2)
  exact k _ _ z1 _ _ _ (x1.trans xa) (rh2.adopt pn ⟨_, hl, (rd (f2.mono xg) pr).mono1 (List.prefix_append _ _)⟩) (.ref (push_at rh2 p))
end
end MP

set_option Elab.async false
set_option linter.all false
set_option maxRecDepth 100000
set_option maxHeartbeats 2000000
/-! MpV: the readings once more, as abbrevs (printed by mkv.py). -/
namespace MV
open PySem PySem.Spec
open PyProof.Rows hiding St
open L2
open MP hiding wSlot wC wBin wNil wCons wTup wLst wCall oAdd oInt2 oInt0 oSub oMod oFdiv oOrd oLt oLe oGt oGe oIn oIs oEq oIx oSl wNoPart wPart wSlice wFld wTru wBl wChain wAnd wOr wNot wAndV wOrV wNotV wNegV wIf wMeth wMake wNext wSeq wExpr wRet wIfS wNever wNm wG0 wG1 wGT oSet wSub wAsg wPar wPar3 wAug wFldS wWhile wLk wOver fTup fLst fStr wRange1 wRange2 wEnum wZip fDct wOverD wFor wYes wLc wLc2 wDc wCB cLen cAll cAny cSorted cList cTuple cAbs cMax cMin cInt cDict oMul oPow cRepr wIsi wListItems wGet1 wGet2 wBM wBM0 mAppend mExtend mPopAt wStar wDNew wD1 wDc2 wD1T wSortedSet wListItemsR
abbrev wSlot (i : Nat) : WE := fun sl h Q => ∃ d, sl[i]? = some (some d) ∧ Q d h
abbrev wC (d : D) : WE := fun _ h Q => Q d h
abbrev wBin (g : O2) (wa wb : WE) : WE := fun sl h Q => wa sl h fun x h1 => wb sl h1 fun y h2 => g x y h2 Q
abbrev wNil : WA := fun _ h Q => Q [] h
abbrev wCons (w : WE) (wr : WA) : WA := fun sl h Q => w sl h fun d h1 => wr sl h1 fun ds h2 => Q (d :: ds) h2
abbrev wTup (wa : WA) : WE := fun sl h Q => wa sl h fun ds h1 => ds.length ≤ sizeLine ∧ Q (.tup ds) h1
abbrev wLst (wa : WA) : WE := fun sl h Q => wa sl h fun ds h1 => ds.length ≤ sizeLine ∧ Q (.ref h1.length) (h1 ++ [.lst ds])
abbrev wCall (sp : SpD) (wa : WA) : WE := fun sl h Q => wa sl h fun ds h1 => sp ds h1 Q
abbrev oAdd : O2 := fun x y h Q => match x, y with
  | .int a, .int b => Q (.int (a + b)) h
  | .str a, .str b => a.length + b.length ≤ sizeLine ∧ Q (.str (a ++ b)) h
  | .tup xs, .tup ys => xs.length + ys.length ≤ sizeLine ∧ Q (.tup (xs ++ ys)) h
  | .ref m, .ref n => ∃ xs ys, h[m]? = some (.lst xs) ∧ h[n]? = some (.lst ys) ∧ xs.length + ys.length ≤ sizeLine ∧ Q (.ref h.length) (h ++ [.lst (xs ++ ys)])
  | _, _ => False
abbrev oInt2 (C : Int → Int → Prop) (f : Int → Int → D) : O2 := fun x y h Q => match x, y with
  | .int a, .int b => C a b ∧ Q (f a b) h
  | _, _ => False
abbrev oInt0 (f : Int → Int → D) : O2 := fun x y h Q => match x, y with
  | .int a, .int b => Q (f a b) h
  | _, _ => False
abbrev oSub : O2 := oInt0 fun a b => .int (a - b)
abbrev oMod : O2 := oInt2 (fun _ b => 0 < b) fun a b => .int (a % b)
abbrev oFdiv : O2 := oInt2 CDivW fun a b => .int (a / b)
abbrev oOrd (f : Int → Int → Bool) (g : Str → Str → Bool) : O2 := fun x y h Q => match x, y with
  | .int a, .int b => Q (.bl (f a b)) h
  | .str a, .str b => Q (.bl (g a b)) h
  | _, _ => False
abbrev oLt : O2 := oOrd (fun a b => decide (a < b)) ltS
abbrev oLe : O2 := oOrd (fun a b => decide (a ≤ b)) fun a b => !ltS b a
abbrev oGt : O2 := oOrd (fun a b => decide (b < a)) fun a b => ltS b a
abbrev oGe : O2 := oOrd (fun a b => decide (b ≤ a)) fun a b => !ltS a b
abbrev oIn (neg : Bool) : O2 := fun x y h Q => ∃ b, inDat h x y = some b ∧ Q (.bl (if neg then !b else b)) h
abbrev oIs (neg : Bool) : O2 := fun x y h Q => match y with
  | .non => Q (.bl (if neg then !decide (x = .non) else decide (x = .non))) h
  | .bl b => match x with
    | .bl a => Q (.bl (if neg then !decide (a = b) else decide (a = b))) h
    | _ => False
  | _ => False
abbrev oEq (neg : Bool) : O2 := fun x y h Q => match x, y with
  | .int a, .int b => Q (.bl (if neg then !decide (a = b) else decide (a = b))) h
  | .str a, .str b => Q (.bl (if neg then !decide (a = b) else decide (a = b))) h
  | .bl a, .bl b => Q (.bl (if neg then !decide (a = b) else decide (a = b))) h
  | .non, .non => Q (.bl (!neg)) h
  | .non, .int _ => Q (.bl neg) h
  | .int _, .non => Q (.bl neg) h
  | x, y => ∃ d e, PyR h x d ∧ PyR h y e ∧ SeqAt.shaped d = true ∧ SeqAt.shaped e = true ∧ Q (.bl (if neg then !PyData.eqv d e else PyData.eqv d e)) h
abbrev oIx : O2 := fun x y h Q => match x with
  | .ref n => match h[n]? with
    | some (.lst xs) => ∃ i d, y = .int i ∧ atI xs i = some d ∧ Q d h
    | some (.scr xs) => ∃ i d, y = .int i ∧ atI xs i = some d ∧ Q d h
    | some (.dct t _ kvs) => keyOk t y = true ∧ ∃ d, getD kvs y = some d ∧ Q d h
    | _ => False
  | .tup xs => ∃ i d, y = .int i ∧ atI xs i = some d ∧ Q d h
  | _ => False
abbrev oSl (x : D) (lo hi : Option Int) (h : Hd) (Q : D → Hd → Prop) : Prop := match x with
  | .ref n => ∃ xs, items h n = some xs ∧ Q (.ref h.length) (h ++ [.lst (cutD xs lo hi)])
  | .tup xs => Q (.tup (cutD xs lo hi)) h
  | .str z => z.length ≤ sizeLine ∧ Q (.str (cutS z lo hi)) h
  | _ => False
abbrev wNoPart : WO := fun _ h Q => Q none h
abbrev wPart (w : WE) : WO := fun sl h Q => w sl h fun d h1 => ∃ i, d = .int i ∧ Q (some i) h1
abbrev wSlice (w : WE) (wl wh : WO) : WE := fun sl h Q => w sl h fun x h1 => wl sl h1 fun lo h2 => wh sl h2 fun hi h3 => oSl x lo hi h3 Q
abbrev wFld (cs : List Str) (f : Str) (w : WE) : WE := fun sl h Q => w sl h fun x h1 => ∃ n c fs d, x = .ref n ∧ h1[n]? = some (.ins c fs) ∧ hasF cs c = true ∧ fs.lookup f = some d ∧ Q d h1
abbrev wTru (w : WE) : WT := fun sl h Q => w sl h fun d h1 => ∃ b, truD h1 d = some b ∧ Q b h1
abbrev wBl (w : WE) : WT := fun sl h Q => w sl h fun d h1 => ∃ b, d = .bl b ∧ Q b h1
abbrev wChain (g g' : O2) (wa wb wc : WE) : WE := fun sl h Q => wa sl h fun x h1 => wb sl h1 fun y h2 => g x y h2 fun z h3 => ∃ b, z = .bl b ∧ (if b = true then wc sl h3 fun w h4 => g' y w h4 Q else Q (.bl false) h3)
abbrev wAnd (wa wb : WT) : WT := fun sl h Q => wa sl h fun c h1 => if c = true then wb sl h1 Q else Q false h1
abbrev wOr (wa wb : WT) : WT := fun sl h Q => wa sl h fun c h1 => if c = true then Q true h1 else wb sl h1 Q
abbrev wNot (wa : WT) : WT := fun sl h Q => wa sl h fun c h1 => Q (!c) h1
abbrev wAndV (wa wb : WE) : WE := fun sl h Q => wa sl h fun x h1 => ∃ b, truD h1 x = some b ∧ if b = true then wb sl h1 Q else Q x h1
abbrev wOrV (wa wb : WE) : WE := fun sl h Q => wa sl h fun x h1 => ∃ b, truD h1 x = some b ∧ if b = true then Q x h1 else wb sl h1 Q
abbrev wNotV (wa : WE) : WE := fun sl h Q => wa sl h fun x h1 => ∃ b, truD h1 x = some b ∧ Q (.bl (!b)) h1
abbrev wNegV (wa : WE) : WE := fun sl h Q => wa sl h fun x h1 => ∃ i, x = .int i ∧ Q (.int (-i)) h1
abbrev wIf (wc : WT) (wa wb : WE) : WE := fun sl h Q => wc sl h fun c h1 => if c = true then wa sl h1 Q else wb sl h1 Q
abbrev wMeth (cn m : Str) (sp : SpD) (wo : WE) (wa : WA) : WE := fun sl h Q => wo sl h fun x h1 => (∃ n fs, x = .ref n ∧ h1[n]? = some (.ins cn fs) ∧ fs.lookup m = none) ∧ wa sl h1 fun ds h2 => sp (x :: ds) h2 Q
abbrev wMake (cn : Str) (sp : SpD) (wa : WA) : WE := fun sl h Q => wa sl h fun ds h1 => sp (.ref h1.length :: ds) (h1 ++ [.ins cn []]) fun v h2 => v = .non ∧ Q (.ref h1.length) h2
abbrev wNext : WS := fun E sl h => E.nx sl h
abbrev wSeq (u v : WS) : WS := fun E sl h => u { E with nx := v E } sl h
abbrev wExpr (w : WE) : WS := fun E sl h => w sl h fun _ h1 => E.nx sl h1
abbrev wRet (w : WE) : WS := fun E sl h => w sl h E.rt
abbrev wIfS (wc : WT) (u v : WS) : WS := fun E sl h => wc sl h fun c h1 => if c = true then u E sl h1 else v E sl h1
abbrev wNever : WS := fun _ _ _ => False
abbrev wNm (i : Nat) : WG := fun d sl h Q => Q (sl.set i (some d)) h
abbrev wG0 : WGs := fun ds sl h Q => ds = [] ∧ Q sl h
abbrev wG1 (w : WG) (u : WGs) : WGs := fun ds sl h Q => ∃ d r, ds = d :: r ∧ w d sl h fun sl1 h1 => u r sl1 h1 Q
abbrev wGT (n : Nat) (u : WGs) : WG := fun d sl h Q => ∃ ds, d = .tup ds ∧ ds.length = n ∧ u ds sl h Q
abbrev oSet (o i v : D) (h : Hd) (Q : Hd → Prop) : Prop := match o with
  | .ref n => match h[n]? with
    | some (.lst xs) => ∃ k j, i = .int k ∧ ixN xs.length k = some j ∧ Q (h.set n (.lst (xs.set j v)))
    | some (.dct t false kvs) => keyOk t i = true ∧ kvs.length < sizeLine ∧ Q (h.set n (.dct t false (putD kvs i v)))
    | _ => False
  | _ => False
abbrev wSub (wo wi : WE) : WG := fun d sl h Q => wo sl h fun o h1 => wi sl h1 fun i h2 => oSet o i d h2 fun h3 => Q sl h3
abbrev wAsg (w : WE) (g : WG) : WS := fun E sl h => w sl h fun d h1 => g d sl h1 E.nx
abbrev wPar (i k : Nat) (wa : WA) : WS := fun E sl h => wa sl h fun ds h1 => ∃ d e, ds = [d, e] ∧ E.nx ((sl.set i (some d)).set k (some e)) h1
abbrev wPar3 (i k l : Nat) (wa : WA) : WS := fun E sl h => wa sl h fun ds h1 => ∃ d e f, ds = [d, e, f] ∧ E.nx (((sl.set i (some d)).set k (some e)).set l (some f)) h1
abbrev wAug (i : Nat) (w : WE) : WS := fun E sl h => ∃ m, sl[i]? = some (some (.int m)) ∧ w sl h fun d h1 => ∃ n, d = .int n ∧ E.nx (sl.set i (some (.int (m + n)))) h1
abbrev wFldS (cs : List Str) (f : Str) (wo wv : WE) : WS := fun E sl h => wv sl h fun d h1 => wo sl h1 fun o h2 => ∃ n c fs, o = .ref n ∧ h2[n]? = some (.ins c fs) ∧ hasF cs c = true ∧ fs.length < 1000 ∧ E.nx sl (h2.set n (.ins c (putFD f d fs)))
abbrev wWhile (wc : WT) (wb : WS) : WS := fun E sl h => ∃ W : Nat → Sd → Hd → Prop, (∃ m, W m sl h) ∧ ∀ m sl h, W m sl h →
  wc sl h fun b h1 => if b = true then ∃ N : Sd → Hd → Prop, (∀ sl' h', N sl' h' → ∃ m', m' < m ∧ W m' sl' h') ∧ wb { E with nx := N, ct := N, bk := E.nx } sl h1 else E.nx sl h1
abbrev wLk (w : WE) : WE := fun sl h Q => w sl h fun x h1 => ∃ n t lk kvs, x = .ref n ∧ h1[n]? = some (.dct t lk kvs) ∧ Q x (h1.set n (.dct t true kvs))
abbrev wOver (w : WE) (f : D → Hd → (ItD → Prop)  → Prop) : WI := fun sl h R => w sl h fun x h1 => f x h1 fun t => R t h1
abbrev fTup : D → Hd → (ItD → Prop) → Prop := fun x _ R => ∃ xs, x = .tup xs ∧ R (itSeq xs)
abbrev fLst : D → Hd → (ItD → Prop) → Prop := fun x h R => ∃ n xs, x = .ref n ∧ items h n = some xs ∧ R (itLst n)
abbrev fStr : D → Hd → (ItD → Prop) → Prop := fun x _ R => ∃ s, x = .str s ∧ R (itSeq (s.cps.toList.map fun c => .str ⟨#[c]⟩))
abbrev wRange1 (wa : WA) : WI := fun sl h R => wa sl h fun ds h1 => ∃ j : Int, ds = [.int j] ∧ -(2 ^ 62) ≤ j ∧ j < 2 ^ 62 ∧ R (itSeq (rngD 0 j.toNat)) h1
abbrev wRange2 (wa : WA) : WI := fun sl h R => wa sl h fun ds h1 => ∃ i j : Int, ds = [.int i, .int j] ∧ (-(2 ^ 62) ≤ i ∧ i < 2 ^ 62 ∧ -(2 ^ 62) ≤ j ∧ j < 2 ^ 62) ∧ R (itSeq (rngD i (j - i).toNat)) h1
abbrev wEnum (wa : WA) : WI := fun sl h R => wa sl h fun ds h1 => ∃ n xs, ds = [.ref n] ∧ items h1 n = some xs ∧ R (itEnum n) h1
abbrev wZip (wa : WA) : WI := fun sl h R => wa sl h fun ds h1 => match ds with
  | [.ref a, .ref b] => ∃ xs ys, items h1 a = some xs ∧ items h1 b = some ys ∧ R (itZip a b) h1
  | [.tup xs, .tup ys] => R (itSeq ((xs.zip ys).map fun p => .tup [p.1, p.2])) h1
  | _ => False
abbrev fDct (tk : Bool → Prop) (it : Nat → ItD) : D → Hd → (ItD → Hd → Prop) → Prop := fun x h R => ∃ n t lk kvs, x = .ref n ∧ h[n]? = some (.dct t lk kvs) ∧ tk t ∧ R (it n) (h.set n (.dct t true kvs))
abbrev wOverD (w : WE) (f : D → Hd → (ItD → Hd → Prop) → Prop) : WI := fun sl h R => w sl h fun x h1 => f x h1 R
abbrev wFor (wi : WI) (g : WG) (wb : WS) : WS := fun E sl h => wi sl h fun t h1 => ∃ W : Nat → Nat → Sd → Hd → Prop, (∃ m, W 0 m sl h1) ∧ ∀ i m sl h, W i m sl h →
  (t i h = some none ∧ E.nx sl h) ∨ ∃ d, t i h = some (some d) ∧ ∃ N : Sd → Hd → Prop, (∀ sl' h', N sl' h' → ∃ m', m' < m ∧ W (i + 1) m' sl' h') ∧ g d sl h fun sl2 h2 => wb { E with nx := N, ct := N, bk := E.nx } sl2 h2
abbrev wYes : WT := fun _ h Q => Q true h
abbrev wLc (wi : WI) (g : WG) (tt : WT) (te : WE) (vs : List Nat) : WE := fun sl h Q => wi sl h fun t h1 => ∃ W : Nat → Nat → List D → Hd → Prop, (∃ m, W 0 m [] h1) ∧ ∀ i m acc h, W i m acc h →
  (t i h = some none ∧ Q (.ref h.length) (h ++ [.lst acc])) ∨ ∃ d, t i h = some (some d) ∧ ∃ N : List D → Hd → Prop, (∀ acc' h', N acc' h' → ∃ m', m' < m ∧ W (i + 1) m' acc' h') ∧ g d (wipeD sl vs) h fun sl2 h2 => tt sl2 h2 fun b h3 =>
    if b = true then te sl2 h3 fun y h4 => acc.length < sizeLine ∧ N (acc ++ [y]) h4 else N acc h3
abbrev wLc2 (wi : WI) (g : WG) (tt : WT) (wi1 : WI) (g1 : WG) (tt1 : WT) (te : WE) (vs vs1 : List Nat) : WE := fun sl h Q => wi sl h fun t h1 => ∃ W : Nat → Nat → List D → Hd → Prop, (∃ m, W 0 m [] h1) ∧ ∀ i m acc h, W i m acc h →
  (t i h = some none ∧ Q (.ref h.length) (h ++ [.lst acc])) ∨ ∃ d, t i h = some (some d) ∧ ∃ N : List D → Hd → Prop, (∀ acc' h', N acc' h' → ∃ m', m' < m ∧ W (i + 1) m' acc' h') ∧ g d (wipeD sl vs) h fun sl2 h2 => tt sl2 h2 fun b h3 =>
    if b = true then wi1 sl2 h3 fun t1 h4 => ∃ W1 : Nat → Nat → List D → Hd → Prop, (∃ m, W1 0 m acc h4) ∧ ∀ j k acc h, W1 j k acc h →
      (t1 j h = some none ∧ N acc h) ∨ ∃ d, t1 j h = some (some d) ∧ ∃ N1 : List D → Hd → Prop, (∀ acc' h', N1 acc' h' → ∃ k', k' < k ∧ W1 (j + 1) k' acc' h') ∧ g1 d (wipeD sl2 vs1) h fun sl3 h5 => tt1 sl3 h5 fun b h6 =>
        if b = true then te sl3 h6 fun y h7 => acc.length < sizeLine ∧ N1 (acc ++ [y]) h7 else N1 acc h6
    else N acc h3
abbrev wDc (wi : WI) (g : WG) (tt : WT) (tk tv : WE) (vs : List Nat) : WE := fun sl h Q => wi sl h fun t h1 => ∃ W : Nat → Nat → List (D × D) → Hd → Prop, (∃ m, W 0 m [] h1) ∧ ∀ i m acc h, W i m acc h →
  (t i h = some none ∧ Q (.ref h.length) (h ++ [.dct false false acc])) ∨ ∃ d, t i h = some (some d) ∧ ∃ N : List (D × D) → Hd → Prop, (∀ acc' h', N acc' h' → ∃ m', m' < m ∧ W (i + 1) m' acc' h') ∧ g d (wipeD sl vs) h fun sl2 h2 => tt sl2 h2 fun b h3 =>
    if b = true then tk sl2 h3 fun x h4 => tv sl2 h4 fun y h5 => keyOk false x = true ∧ acc.length < sizeLine ∧ N (putD acc x y) h5 else N acc h3
abbrev wCB (g : CD) (wa : WA) : WE := fun sl h Q => wa sl h fun ds h1 => g ds h1 Q
abbrev cLen : CD := fun ds h Q => ∃ x n, ds = [x] ∧ lenD h x = some n ∧ Q (.int n) h
abbrev cAll : CD := fun ds h Q => ∃ (n : Nat) (bs : List Bool), ds = [.ref n] ∧ items h n = some (bs.map D.bl) ∧ Q (.bl (bs.all (fun b => b))) h
abbrev cAny : CD := fun ds h Q => ∃ (n : Nat) (bs : List Bool), ds = [.ref n] ∧ items h n = some (bs.map D.bl) ∧ Q (.bl (bs.any (fun b => b))) h
abbrev cSorted : CD := fun ds h Q => ∃ n xs, ds = [.ref n] ∧ textsD h n xs ∧ xs.length < 64 ∧ Q (.ref h.length) (h ++ [.lst ((sortS xs).map D.str)])
abbrev cList : CD := fun ds h Q => match ds with
  | [.tup xs] => Q (.ref h.length) (h ++ [.lst xs])
  | [.ref n] => match h[n]? with
    | some (.dct false _ kvs) => Q (.ref h.length) (h ++ [.lst (kvs.map (·.1))])
    | _ => ∃ xs, items h n = some xs ∧ Q (.ref h.length) (h ++ [.lst xs])
  | _ => False
abbrev cTuple : CD := fun ds h Q => match ds with
  | [.tup xs] => Q (.tup xs) h
  | [.ref n] => ∃ xs, items h n = some xs ∧ Q (.tup xs) h
  | _ => False
abbrev cAbs : CD := fun ds h Q => ∃ i, ds = [.int i] ∧ Q (.int (if i < 0 then -i else i)) h
abbrev cMax : CD := fun ds h Q => ∃ i j, ds = [.int i, .int j] ∧ Q (.int (if j > i then j else i)) h
abbrev cMin : CD := fun ds h Q => ∃ i j, ds = [.int i, .int j] ∧ Q (.int (if j < i then j else i)) h
abbrev cInt : CD := fun ds h Q => (∃ i, ds = [.int i] ∧ Q (.int i) h) ∨ ∃ b, ds = [.bl b] ∧ Q (.int (if b then 1 else 0)) h
abbrev cDict : CD := fun ds h Q => ∃ n kvs, ds = [.ref n] ∧ items h n = some (kvs.map fun p => .tup [p.1, p.2]) ∧ (kvs.all fun p => keyOk false p.1) = true ∧ Q (.ref h.length) (h ++ [.dct false false (dictOfPairs kvs)])
abbrev oMul : O2 := fun x y h Q => match x, y with
  | .int a, .int b => CMulW a b ∧ Q (.int (a * b)) h
  | .tup xs, .int k => xs ≠ [] ∧ 2 ≤ k ∧ k ≤ 1000 ∧ xs.length ≤ 1000 ∧ Q (.tup (repD k.toNat xs)) h
  | .ref n, .int k => ∃ xs, h[n]? = some (.lst xs) ∧ -(2 ^ 63) ≤ k ∧ k < 2 ^ 63 ∧ xs.length * k.toNat ≤ sizeLine ∧ Q (.ref h.length) (h ++ [.lst (repD k.toNat xs)])
  | _, _ => False
abbrev oPow : O2 := oInt2 CPowW fun a b => .int (a ^ b.toNat)
abbrev cRepr : CD := fun ds h Q => ∃ x d, ds = [x] ∧ PyR h x d ∧ PyData.showable d = true ∧ PyData.hasDict d = false ∧ d.shown.length ≤ sizeLine ∧ d.depth ≤ 60 ∧ Q (.str d.shown) h
abbrev wIsi (tab : TyN → Option Bool) (w : WE) : WE := fun sl h Q => w sl h fun x h1 => ∃ t b, tyD h1 x = some t ∧ tab t = some b ∧ Q (.bl b) h1
abbrev wListItems (w : WE) : WE := fun sl h Q => w sl h fun x h1 => ∃ n kvs, x = .ref n ∧ h1[n]? = some (.dct false false kvs) ∧ Q (.ref h1.length) (h1 ++ [.lst (kvs.map fun p => .tup [p.1, p.2])])
abbrev wGet1 (wd wy : WE) : WE := fun sl h Q => wd sl h fun x h1 => (∃ n t lk kvs, x = .ref n ∧ h1[n]? = some (.dct t lk kvs)) ∧ wy sl h1 fun y h2 => ∃ n kvs, x = .ref n ∧ isDct h2 n y kvs ∧ Q ((getD kvs y).getD .non) h2
abbrev wGet2 (wd wy wz : WE) : WE := fun sl h Q => wd sl h fun x h1 => (∃ n t lk kvs, x = .ref n ∧ h1[n]? = some (.dct t lk kvs)) ∧ wy sl h1 fun y h2 => wz sl h2 fun z h3 => ∃ n kvs, x = .ref n ∧ isDct h3 n y kvs ∧ Q ((getD kvs y).getD z) h3
abbrev wBM (g : MD) (wo : WE) (wa : WA) : WE := fun sl h Q => wo sl h fun x h1 => isLst h1 x ∧ wa sl h1 fun ds h2 => g x ds h2 Q
abbrev wBM0 (g : MD) (wo : WE) : WE := fun sl h Q => wo sl h fun x h1 => isLst h1 x ∧ g x [] h1 Q
abbrev mAppend : MD := fun x ds h Q => ∃ n xs y, x = .ref n ∧ ds = [y] ∧ h[n]? = some (.lst xs) ∧ xs.length < sizeLine ∧ Q .non (h.set n (.lst (xs ++ [y])))
abbrev mExtend : MD := fun x ds h Q => ∃ n m xs ys, x = .ref n ∧ ds = [.ref m] ∧ h[n]? = some (.lst xs) ∧ h[m]? = some (.lst ys) ∧ xs.length + ys.length ≤ sizeLine ∧ Q .non (h.set n (.lst (xs ++ ys)))
abbrev mPopAt : MD := fun x ds h Q => ∃ n xs i k y, x = .ref n ∧ ds = [.int i] ∧ h[n]? = some (.lst xs) ∧ -(2 ^ 63) ≤ i ∧ i < 2 ^ 63 ∧ seqIndex? i xs.length = some k ∧ xs[k]? = some y ∧ Q y (h.set n (.lst (xs.eraseIdx k)))
abbrev wStar (w : WE) (wr : WA) : WA := fun sl h Q => w sl h fun x h1 => (∃ xs, (x = .tup xs ∨ ∃ n, x = .ref n ∧ items h1 n = some xs) ∧ wr sl h1 fun ys h2 => Q (xs ++ ys) h2)
abbrev wDNew (t : Bool) : WE := fun _ h Q => Q (.ref h.length) (h ++ [.dct t false []])
abbrev wD1 (wk wv : WE) : WE := fun sl h Q => wk sl h fun x h1 => wv sl h1 fun y h2 => keyOk false x = true ∧ Q (.ref h2.length) (h2 ++ [.dct false false [(x, y)]])
abbrev wDc2 (wi : WI) (g : WG) (tt : WT) (wi1 : WI) (g1 : WG) (tt1 : WT) (tk tv : WE) (vs vs1 : List Nat) : WE := fun sl h Q => wi sl h fun t h1 => ∃ W : Nat → Nat → List (D × D) → Hd → Prop, (∃ m, W 0 m [] h1) ∧ ∀ i m acc h, W i m acc h →
  (t i h = some none ∧ Q (.ref h.length) (h ++ [.dct false false acc])) ∨ ∃ d, t i h = some (some d) ∧ ∃ N : List (D × D) → Hd → Prop, (∀ acc' h', N acc' h' → ∃ m', m' < m ∧ W (i + 1) m' acc' h') ∧ g d (wipeD sl vs) h fun sl2 h2 => tt sl2 h2 fun b h3 =>
    if b = true then wi1 sl2 h3 fun t1 h4 => ∃ W1 : Nat → Nat → List (D × D) → Hd → Prop, (∃ m, W1 0 m acc h4) ∧ ∀ j k acc h, W1 j k acc h →
      (t1 j h = some none ∧ N acc h) ∨ ∃ d, t1 j h = some (some d) ∧ ∃ N1 : List (D × D) → Hd → Prop, (∀ acc' h', N1 acc' h' → ∃ k', k' < k ∧ W1 (j + 1) k' acc' h') ∧ g1 d (wipeD sl2 vs1) h fun sl3 h5 => tt1 sl3 h5 fun b h6 =>
        if b = true then tk sl3 h6 fun x h7 => tv sl3 h7 fun y h8 => keyOk false x = true ∧ acc.length < sizeLine ∧ N1 (putD acc x y) h8 else N1 acc h6
    else N acc h3
abbrev wD1T (wk wv : WE) : WE := fun sl h Q => wk sl h fun x h1 => wv sl h1 fun y h2 => keyOk true x = true ∧ Q (.ref h2.length) (h2 ++ [.dct true false [(x, y)]])
abbrev wSortedSet (w : WE) : WE := fun sl h Q => w sl h fun x h1 => ∃ ns : List Int, x = .tup (ns.map .int) ∧ ns.length < 64 ∧ ∀ out : List Int, out.Pairwise (· < ·) → (∀ k, k ∈ out ↔ k ∈ ns) → Q (.ref h1.length) (h1 ++ [.lst (out.map .int)])
abbrev wListItemsR (w : WE) : WE := fun sl h Q => w sl h fun x h1 => ∃ n lk kvs, x = .ref n ∧ h1[n]? = some (.dct false lk kvs) ∧ Q (.ref h1.length) (h1 ++ [.lst (kvs.map fun p => .tup [p.1, p.2])])
end MV

set_option Elab.async false
set_option linter.all false
set_option maxRecDepth 100000
set_option maxHeartbeats 2000000
/-! K07W: the readings of the defs (printed by k07gen.py). -/
namespace K07
open PySem PySem.Spec
open PyProof.Rows hiding St
open L2 MP
abbrev P7 : Program := PySem.Challenge.pw_whatparts_k07_differences_of_parts
def top (i : Nat) : Stmt := P7.main.body.getD i (.Pass ⟨0, 0, 0, 0⟩)
def cls (i j : Nat) : Stmt := match top i with
  | .ClassDef _ _ _ b _ _ _ _ _ _ _ => b.getD j (.Pass ⟨0, 0, 0, 0⟩)
  | _ => .Pass ⟨0, 0, 0, 0⟩
def tabB (c : String) (T : TyN) : Option Bool := match T with
  | .inl n => kitB n c
  | .inr c => if c = "Part" then some false else none
def tabStr : TyN → Option Bool := tabB "str"
def tabInt : TyN → Option Bool := tabB "int"
def tabBool : TyN → Option Bool := tabB "bool"
def tabTuple : TyN → Option Bool := tabB "tuple"
def tabDict : TyN → Option Bool := tabB "dict"
def tabRows : TyN → Option Bool
  | .inl "tuple" => some false
  | _ => none
def tabPart : TyN → Option Bool
  | .inr "Part" => some true
  | _ => none
theorem b_str : bootBuiltins "str" = some (.type "str") := by decide +kernel
theorem b_int : bootBuiltins "int" = some (.type "int") := by decide +kernel
theorem b_bool : bootBuiltins "bool" = some (.type "bool") := by decide +kernel
theorem b_tuple : bootBuiltins "tuple" = some (.type "tuple") := by decide +kernel
theorem b_dict : bootBuiltins "dict" = some (.type "dict") := by decide +kernel
section
variable {P : Program} {w : World} {K : PySem.W.Frag} {mg : Str → Option Value} {base : Heap} {f : Addr} {cd : Value} {A : Around} {outer : List Env} {s : Shared} {H : Hp} {E : XK}
/-! is_name -/
abbrev N_is_name : List Str := ["value", "letter"]
abbrev P_is_name : List Str := ["value"]
def w_is_name : WS := (wSeq (wIfS (wOr (wNot (wTru (wIsi tabStr (wSlot 0)))) (wNot (wBl (wChain oLe oLe (wC (.int 1)) (wCB cLen (wCons (wSlot 0) wNil)) (wC (.int 8)))))) (wRet (wC (.bl false))) wNext)
    (wRet (wCB cAll (wCons (wLc (wOver (wSlot 0) fStr) (wNm 1) wYes (wChain oLe oLe (wC (.str "a")) (wSlot 1) (wC (.str "z"))) [1]) wNil))))
theorem nd_is_name : N_is_name.Nodup := by decide +kernel
theorem l_is_name (hr : Room 0 (cxD P7 w K mg base N_is_name "is_name" (defScope (top 11)) f cd A outer s H E).A) (hgd : (cxD P7 w K mg base N_is_name "is_name" (defScope (top 11)) f cd A outer s H E).A.guards = some []) (g_len : mg "len" = none) (g_isinstance : mg "isinstance" = none) (g_str : mg "str" = none) (g_all : mg "all" = none) {tk_MAX_LETTERS : Tok} (m_MAX_LETTERS : mg "MAX_LETTERS" = some (.int 8 tk_MAX_LETTERS)) (t_str : IsTab K mg (.type "str") tabStr) :
    LSs (cxD P7 w K mg base N_is_name "is_name" (defScope (top 11)) f cd A outer s H E) (defBody (top 11)) (w_is_name) := by
  have nd := nd_is_name
  exact (lss_cons (ls_if (lt_w (lw_or (lt_not (lt_val (le_isi t_str (by rfl) g_isinstance boot_isinstance (pe_bltn (v := .ty "str") (by rfl) g_str b_str rfl) (.ty _) (sl_ 0)) (by intro _; rfl))) (lw_or1 (lt_not (lt_chain ol_le ol_le le_int (le_callB cl_len (by rfl) g_len boot_len (la_cons (sl_ 0) la_nil)) (le_glob (d := .int 8) rfl (by rfl) m_MAX_LETTERS ⟨_, rfl⟩)))))) (lss_one (ls_ret le_bl)) lss_nil)
    (lss_one (ls_ret (le_callB (cl_all rfl) (by rfl) g_all boot_all (la_cons (le_lc rfl nd (li_str (sl_ 0)) (blkOk_by (own := [("letter", 1)]) (by kernel_rfl)) (fun _ _ _ _ _ => (go_ 1 nd)) (fun _ _ _ _ _ => lts_nil) (fun _ _ _ _ _ => (le_chain ol_le ol_le le_str (sl_ 1) le_str))) la_nil)))))

/-! is_ascending -/
abbrev N_is_ascending : List Str := ["items", "one", "other"]
abbrev P_is_ascending : List Str := ["items"]
def w_is_ascending : WS := (wRet (wCB cAll (wCons (wLc (wZip (wCons (wSlot 0) (wCons (wSlice (wSlot 0) (wPart (wC (.int 1))) wNoPart) wNil))) (wGT 2 (wG1 (wNm 1) (wG1 (wNm 2) wG0))) wYes (wBin oLt (wSlot 1) (wSlot 2)) [1, 2]) wNil)))
theorem nd_is_ascending : N_is_ascending.Nodup := by decide +kernel
theorem l_is_ascending (hr : Room 0 (cxD P7 w K mg base N_is_ascending "is_ascending" (defScope (top 12)) f cd A outer s H E).A) (hgd : (cxD P7 w K mg base N_is_ascending "is_ascending" (defScope (top 12)) f cd A outer s H E).A.guards = some []) (g_all : mg "all" = none) (g_zip : mg "zip" = none) :
    LSs (cxD P7 w K mg base N_is_ascending "is_ascending" (defScope (top 12)) f cd A outer s H E) (defBody (top 12)) (w_is_ascending) := by
  have nd := nd_is_ascending
  exact (lss_one (ls_ret (le_callB (cl_all rfl) (by rfl) g_all boot_all (la_cons (le_lc rfl nd (li_zip (by rfl) g_zip (la_cons (sl_ 0) (la_cons (le_slice (sl_ 0) (lo_some le_int) lo_none) la_nil))) (blkOk_by (own := [("one", 1), ("other", 2)]) (by kernel_rfl)) (fun _ _ _ _ _ => (lo_tup rfl (los_cons (go_ 1 nd) (los_cons (go_ 2 nd) los_nil)))) (fun _ _ _ _ _ => lts_nil) (fun _ _ _ _ _ => (le_cmp ol_lt (sl_ 1) (sl_ 2) (nomark _)))) la_nil))))

/-! is_index -/
abbrev N_is_index : List Str := ["value", "total"]
abbrev P_is_index : List Str := ["value", "total"]
def w_is_index : WS := (wRet (wAndV (wIsi tabInt (wSlot 0)) (wAndV (wNotV (wIsi tabBool (wSlot 0))) (wChain oLe oLt (wC (.int 0)) (wSlot 0) (wSlot 1)))))
theorem nd_is_index : N_is_index.Nodup := by decide +kernel
theorem l_is_index (hr : Room 0 (cxD P7 w K mg base N_is_index "is_index" (defScope (top 13)) f cd A outer s H E).A) (hgd : (cxD P7 w K mg base N_is_index "is_index" (defScope (top 13)) f cd A outer s H E).A.guards = some []) (g_isinstance : mg "isinstance" = none) (g_bool : mg "bool" = none) (g_int : mg "int" = none) (t_bool : IsTab K mg (.type "bool") tabBool) (t_int : IsTab K mg (.type "int") tabInt) :
    LSs (cxD P7 w K mg base N_is_index "is_index" (defScope (top 13)) f cd A outer s H E) (defBody (top 13)) (w_is_index) := by
  have nd := nd_is_index
  exact (lss_one (ls_ret (le_and (le_isi t_int (by rfl) g_isinstance boot_isinstance (pe_bltn (v := .ty "int") (by rfl) g_int b_int rfl) (.ty _) (sl_ 0)) (le_and (le_not (le_isi t_bool (by rfl) g_isinstance boot_isinstance (pe_bltn (v := .ty "bool") (by rfl) g_bool b_bool rfl) (.ty _) (sl_ 0))) (le_one (le_chain ol_le ol_lt le_int (sl_ 0) (sl_ 1)))))))

/-! is_word -/
abbrev N_is_word : List Str := ["value", "name"]
abbrev P_is_word : List Str := ["value"]
def w_is_word (s_is_name : SpD) : WS := (wRet (wAndV (wIsi tabTuple (wSlot 0)) (wCB cAll (wCons (wLc (wOver (wSlot 0) fTup) (wNm 1) wYes (wCall s_is_name (wCons (wSlot 1) wNil)) [1]) wNil))))
theorem nd_is_word : N_is_word.Nodup := by decide +kernel
theorem l_is_word {s_is_name : SpD} (hr : Room 1 (cxD P7 w K mg base N_is_word "is_word" (defScope (top 14)) f cd A outer s H E).A) (hgd : (cxD P7 w K mg base N_is_word "is_word" (defScope (top 14)) f cd A outer s H E).A.guards = some []) (g_all : mg "all" = none) (g_isinstance : mg "isinstance" = none) (g_tuple : mg "tuple" = none) (t_tuple : IsTab K mg (.type "tuple") tabTuple) (F_is_name : FnD P7 w K mg base 1 "is_name" 1 s_is_name) :
    LSs (cxD P7 w K mg base N_is_word "is_word" (defScope (top 14)) f cd A outer s H E) (defBody (top 14)) (w_is_word s_is_name) := by
  have nd := nd_is_word
  exact (lss_one (ls_ret (le_and (le_isi t_tuple (by rfl) g_isinstance boot_isinstance (pe_bltn (v := .ty "tuple") (by rfl) g_tuple b_tuple rfl) (.ty _) (sl_ 0)) (le_one (le_callB (cl_all rfl) (by rfl) g_all boot_all (la_cons (le_lc rfl nd (li_tup (sl_ 0)) (blkOk_by (own := [("name", 1)]) (by kernel_rfl)) (fun _ _ _ _ _ => (go_ 1 nd)) (fun _ _ _ _ _ => lts_nil) (fun _ _ _ _ _ => (le_call F_is_name hr (by decide) hgd (by rfl) (la_cons (sl_ 1) la_nil)))) la_nil))))))

/-! require_word -/
abbrev N_require_word : List Str := ["value"]
abbrev P_require_word : List Str := ["value"]
def w_require_word (s_is_word : SpD) : WS := (wIfS (wNot (wTru (wCall s_is_word (wCons (wSlot 0) wNil)))) wNever wNext)
theorem nd_require_word : N_require_word.Nodup := by decide +kernel
theorem l_require_word {s_is_word : SpD} (hr : Room 2 (cxD P7 w K mg base N_require_word "require_word" (defScope (top 15)) f cd A outer s H E).A) (hgd : (cxD P7 w K mg base N_require_word "require_word" (defScope (top 15)) f cd A outer s H E).A.guards = some []) (F_is_word : FnD P7 w K mg base 2 "is_word" 1 s_is_word) :
    LSs (cxD P7 w K mg base N_require_word "require_word" (defScope (top 15)) f cd A outer s H E) (defBody (top 15)) (w_require_word s_is_word) := by
  have nd := nd_require_word
  exact (lss_one (ls_if (lt_not (lt_val (le_call F_is_word hr (by decide) hgd (by rfl) (la_cons (sl_ 0) la_nil)) (by intro _; rfl))) (lss_one ls_never) lss_nil))

/-! actions_in -/
abbrev N_actions_in : List Str := ["steps", "found", "row", "action"]
abbrev P_actions_in : List Str := ["steps"]
def w_actions_in : WS := (wSeq (wAsg (wDc2 (wOver (wSlot 0) fTup) (wNm 2) wYes (wOverD (wSlot 2) (fDct (fun _ => True) itKeys)) (wNm 3) wYes (wSlot 3) (wC (.bl true)) [2, 3] [3]) (wNm 1))
    (wRet (wCB cTuple (wCons (wCB cSorted (wCons (wCB cList (wCons (wSlot 1) wNil)) wNil)) wNil))))
theorem nd_actions_in : N_actions_in.Nodup := by decide +kernel
theorem l_actions_in (hr : Room 0 (cxD P7 w K mg base N_actions_in "actions_in" (defScope (top 19)) f cd A outer s H E).A) (hgd : (cxD P7 w K mg base N_actions_in "actions_in" (defScope (top 19)) f cd A outer s H E).A.guards = some []) (g_tuple : mg "tuple" = none) (g_sorted : mg "sorted" = none) (g_list : mg "list" = none) :
    LSs (cxD P7 w K mg base N_actions_in "actions_in" (defScope (top 19)) f cd A outer s H E) (defBody (top 19)) (w_actions_in) := by
  have nd := nd_actions_in
  exact (lss_cons (ls_setDc2 (i := 1) rfl nd rfl rfl (sw_trueD rfl rfl rfl rfl) (li_tup (sl_ 0)) (blkOk_by (own := [("row", 2), ("action", 3)]) (by kernel_rfl)) (by decide) (fun _ _ _ _ _ => (go_ 2 nd)) (fun _ _ _ _ _ => lts_nil) (fun _ _ _ _ _ => (li_keys (sl_ 2))) (fun _ _ _ _ _ => (go_ 3 nd)) (fun _ _ _ _ _ => lts_nil) (fun _ _ _ _ _ => (sl_ 3)) (fun _ _ _ _ _ => le_bl))
    (lss_one (ls_ret (le_callT cl_tuple (by rfl) g_tuple boot_tuple (la_cons (le_callB (cl_sorted rfl) (by rfl) g_sorted boot_sorted (la_cons (le_callT (cl_list rfl) (by rfl) g_list boot_list (la_cons (sl_ 1) la_nil)) la_nil)) la_nil)))))

/-! are_rows -/
abbrev N_are_rows : List Str := ["value", "keys", "targets", "row", "action", "state"]
abbrev P_are_rows : List Str := ["value"]
def w_are_rows (s_is_index s_is_name : SpD) : WS := (wSeq (wIfS (wOr (wNot (wTru (wIsi tabTuple (wSlot 0)))) (wNot (wBl (wChain oLe oLe (wC (.int 1)) (wCB cLen (wCons (wSlot 0) wNil)) (wC (.int 8)))))) (wRet (wC (.bl false))) wNext)
    (wSeq (wIfS (wNot (wTru (wCB cAll (wCons (wLc (wOver (wSlot 0) fTup) (wNm 3) wYes (wIsi tabDict (wSlot 3)) [3]) wNil)))) (wRet (wC (.bl false))) wNext)
    (wSeq (wAsg (wLc2 (wOver (wSlot 0) fTup) (wNm 3) wYes (wOverD (wSlot 3) (fDct (fun _ => True) itKeys)) (wNm 4) wYes (wSlot 4) [3, 4] [4]) (wNm 1))
    (wSeq (wAsg (wLc2 (wOver (wSlot 0) fTup) (wNm 3) wYes (wOverD (wSlot 3) (fDct (· = false) itVals)) (wNm 5) wYes (wSlot 5) [3, 5] [5]) (wNm 2))
    (wRet (wAndV (wCB cAll (wCons (wLc (wOver (wSlot 1) fLst) (wNm 4) wYes (wCall s_is_name (wCons (wSlot 4) wNil)) [4]) wNil)) (wCB cAll (wCons (wLc (wOver (wSlot 2) fLst) (wNm 5) wYes (wCall s_is_index (wCons (wSlot 5) (wCons (wCB cLen (wCons (wSlot 0) wNil)) wNil))) [5]) wNil))))))))
theorem nd_are_rows : N_are_rows.Nodup := by decide +kernel
theorem l_are_rows {s_is_index s_is_name : SpD} (hr : Room 1 (cxD P7 w K mg base N_are_rows "are_rows" (defScope (top 20)) f cd A outer s H E).A) (hgd : (cxD P7 w K mg base N_are_rows "are_rows" (defScope (top 20)) f cd A outer s H E).A.guards = some []) (g_len : mg "len" = none) (g_isinstance : mg "isinstance" = none) (g_tuple : mg "tuple" = none) (g_all : mg "all" = none) (g_dict : mg "dict" = none) {tk_MAX_STATES : Tok} (m_MAX_STATES : mg "MAX_STATES" = some (.int 8 tk_MAX_STATES)) (t_tuple : IsTab K mg (.type "tuple") tabTuple) (t_dict : IsTab K mg (.type "dict") tabDict) (F_is_index : FnD P7 w K mg base 1 "is_index" 2 s_is_index) (F_is_name : FnD P7 w K mg base 1 "is_name" 1 s_is_name) :
    LSs (cxD P7 w K mg base N_are_rows "are_rows" (defScope (top 20)) f cd A outer s H E) (defBody (top 20)) (w_are_rows s_is_index s_is_name) := by
  have nd := nd_are_rows
  exact (lss_cons (ls_if (lt_w (lw_or (lt_not (lt_val (le_isi t_tuple (by rfl) g_isinstance boot_isinstance (pe_bltn (v := .ty "tuple") (by rfl) g_tuple b_tuple rfl) (.ty _) (sl_ 0)) (by intro _; rfl))) (lw_or1 (lt_not (lt_chain ol_le ol_le le_int (le_callB cl_len (by rfl) g_len boot_len (la_cons (sl_ 0) la_nil)) (le_glob (d := .int 8) rfl (by rfl) m_MAX_STATES ⟨_, rfl⟩)))))) (lss_one (ls_ret le_bl)) lss_nil)
    (lss_cons (ls_if (lt_not (lt_val (le_callB (cl_all rfl) (by rfl) g_all boot_all (la_cons (le_lc rfl nd (li_tup (sl_ 0)) (blkOk_by (own := [("row", 3)]) (by kernel_rfl)) (fun _ _ _ _ _ => (go_ 3 nd)) (fun _ _ _ _ _ => lts_nil) (fun _ _ _ _ _ => (le_isi t_dict (by rfl) g_isinstance boot_isinstance (pe_bltn (v := .ty "dict") (by rfl) g_dict b_dict rfl) (.ty _) (sl_ 3)))) la_nil)) (by intro _; rfl))) (lss_one (ls_ret le_bl)) lss_nil)
    (lss_cons (ls_setLc2 (i := 1) rfl nd rfl rfl (sw_true rfl rfl rfl rfl) (li_tup (sl_ 0)) (blkOk_by (own := [("row", 3), ("action", 4)]) (by kernel_rfl)) (by decide) (fun _ _ _ _ _ => (go_ 3 nd)) (fun _ _ _ _ _ => lts_nil) (fun _ _ _ _ _ => (li_keys (sl_ 3))) (fun _ _ _ _ _ => (go_ 4 nd)) (fun _ _ _ _ _ => lts_nil) (fun _ _ _ _ _ => (sl_ 4)))
    (lss_cons (ls_setLc2 (i := 2) rfl nd rfl rfl (sw_true rfl rfl rfl rfl) (li_tup (sl_ 0)) (blkOk_by (own := [("row", 3), ("state", 5)]) (by kernel_rfl)) (by decide) (fun _ _ _ _ _ => (go_ 3 nd)) (fun _ _ _ _ _ => lts_nil) (fun _ _ _ _ _ => (li_vals (sl_ 3))) (fun _ _ _ _ _ => (go_ 5 nd)) (fun _ _ _ _ _ => lts_nil) (fun _ _ _ _ _ => (sl_ 5)))
    (lss_one (ls_ret (le_and (le_callB (cl_all rfl) (by rfl) g_all boot_all (la_cons (le_lc rfl nd (li_lst (sl_ 1)) (blkOk_by (own := [("action", 4)]) (by kernel_rfl)) (fun _ _ _ _ _ => (go_ 4 nd)) (fun _ _ _ _ _ => lts_nil) (fun _ _ _ _ _ => (le_call F_is_name hr (by decide) hgd (by rfl) (la_cons (sl_ 4) la_nil)))) la_nil)) (le_one (le_callB (cl_all rfl) (by rfl) g_all boot_all (la_cons (le_lc rfl nd (li_lst (sl_ 2)) (blkOk_by (own := [("state", 5)]) (by kernel_rfl)) (fun _ _ _ _ _ => (go_ 5 nd)) (fun _ _ _ _ _ => lts_nil) (fun _ _ _ _ _ => (le_call F_is_index hr (by decide) hgd (by rfl) (la_cons (sl_ 5) (la_cons (le_callB cl_len (by rfl) g_len boot_len (la_cons (sl_ 0) la_nil)) la_nil))))) la_nil))))))))))

/-! is_rests -/
abbrev N_is_rests : List Str := ["value", "total", "state"]
abbrev P_is_rests : List Str := ["value", "total"]
def w_is_rests (s_is_index s_is_ascending : SpD) : WS := (wSeq (wIfS (wOr (wNot (wTru (wIsi tabTuple (wSlot 0)))) (wNot (wTru (wCB cAll (wCons (wLc (wOver (wSlot 0) fTup) (wNm 2) wYes (wCall s_is_index (wCons (wSlot 2) (wCons (wSlot 1) wNil))) [2]) wNil))))) (wRet (wC (.bl false))) wNext)
    (wRet (wCall s_is_ascending (wCons (wSlot 0) wNil))))
theorem nd_is_rests : N_is_rests.Nodup := by decide +kernel
theorem l_is_rests {s_is_index s_is_ascending : SpD} (hr : Room 1 (cxD P7 w K mg base N_is_rests "is_rests" (defScope (top 21)) f cd A outer s H E).A) (hgd : (cxD P7 w K mg base N_is_rests "is_rests" (defScope (top 21)) f cd A outer s H E).A.guards = some []) (g_all : mg "all" = none) (g_isinstance : mg "isinstance" = none) (g_tuple : mg "tuple" = none) (t_tuple : IsTab K mg (.type "tuple") tabTuple) (F_is_index : FnD P7 w K mg base 1 "is_index" 2 s_is_index) (F_is_ascending : FnD P7 w K mg base 1 "is_ascending" 1 s_is_ascending) :
    LSs (cxD P7 w K mg base N_is_rests "is_rests" (defScope (top 21)) f cd A outer s H E) (defBody (top 21)) (w_is_rests s_is_index s_is_ascending) := by
  have nd := nd_is_rests
  exact (lss_cons (ls_if (lt_w (lw_or (lt_not (lt_val (le_isi t_tuple (by rfl) g_isinstance boot_isinstance (pe_bltn (v := .ty "tuple") (by rfl) g_tuple b_tuple rfl) (.ty _) (sl_ 0)) (by intro _; rfl))) (lw_or1 (lt_not (lt_val (le_callB (cl_all rfl) (by rfl) g_all boot_all (la_cons (le_lc rfl nd (li_tup (sl_ 0)) (blkOk_by (own := [("state", 2)]) (by kernel_rfl)) (fun _ _ _ _ _ => (go_ 2 nd)) (fun _ _ _ _ _ => lts_nil) (fun _ _ _ _ _ => (le_call F_is_index hr (by decide) hgd (by rfl) (la_cons (sl_ 2) (la_cons (sl_ 1) la_nil))))) la_nil)) (by intro _; rfl)))))) (lss_one (ls_ret le_bl)) lss_nil)
    (lss_one (ls_ret (le_call F_is_ascending hr (by decide) hgd (by rfl) (la_cons (sl_ 0) la_nil)))))

/-! sorted_rows -/
abbrev N_sorted_rows : List Str := ["steps", "row", "action"]
abbrev P_sorted_rows : List Str := ["steps"]
def w_sorted_rows : WS := (wRet (wCB cTuple (wCons (wLc (wOver (wSlot 0) fTup) (wNm 1) wYes (wDc (wOver (wCB cSorted (wCons (wCB cList (wCons (wSlot 1) wNil)) wNil)) fLst) (wNm 2) wYes (wSlot 2) (wBin oIx (wSlot 1) (wSlot 2)) [2]) [1]) wNil)))
theorem nd_sorted_rows : N_sorted_rows.Nodup := by decide +kernel
theorem l_sorted_rows (hr : Room 0 (cxD P7 w K mg base N_sorted_rows "sorted_rows" (defScope (top 22)) f cd A outer s H E).A) (hgd : (cxD P7 w K mg base N_sorted_rows "sorted_rows" (defScope (top 22)) f cd A outer s H E).A.guards = some []) (g_tuple : mg "tuple" = none) (g_sorted : mg "sorted" = none) (g_list : mg "list" = none) :
    LSs (cxD P7 w K mg base N_sorted_rows "sorted_rows" (defScope (top 22)) f cd A outer s H E) (defBody (top 22)) (w_sorted_rows) := by
  have nd := nd_sorted_rows
  exact (lss_one (ls_ret (le_callT cl_tuple (by rfl) g_tuple boot_tuple (la_cons (le_lc rfl nd (li_tup (sl_ 0)) (blkOk_by (own := [("row", 1)]) (by kernel_rfl)) (fun _ _ _ _ _ => (go_ 1 nd)) (fun _ _ _ _ _ => lts_nil) (fun _ _ _ _ _ => (le_dc rfl nd (li_lst (le_callB (cl_sorted rfl) (by rfl) g_sorted boot_sorted (la_cons (le_callT (cl_list rfl) (by rfl) g_list boot_list (la_cons (sl_ 1) la_nil)) la_nil))) (blkOk_by (own := [("action", 2)]) (by kernel_rfl)) (fun _ _ _ _ _ => (go_ 2 nd)) (fun _ _ _ _ _ => lts_nil) (fun _ _ _ _ _ => (sl_ 2)) (fun _ _ _ _ _ => (le_ix hr (sl_ 1) (sl_ 2) (fun _ _ => rfl)))))) la_nil))))

/-! next_state -/
abbrev N_next_state : List Str := ["part", "state", "action"]
abbrev P_next_state : List Str := ["part", "state", "action"]
def w_next_state : WS := (wRet (wIf (wBl (wBin (oIs false) (wSlot 1) (wC .non))) (wC .non) (wGet2 (wBin oIx (wFld ["Part", "Rows"] "own_steps" (wSlot 0)) (wSlot 1)) (wSlot 2) (wC .non))))
theorem nd_next_state : N_next_state.Nodup := by decide +kernel
theorem l_next_state (hr : Room 0 (cxD P7 w K mg base N_next_state "next_state" (defScope (top 27)) f cd A outer s H E).A) (hgd : (cxD P7 w K mg base N_next_state "next_state" (defScope (top 27)) f cd A outer s H E).A.guards = some []) (T_own_steps : ∀ x ∈ (["Part", "Rows"] : List Str), Fl K mg x "own_steps") :
    LSs (cxD P7 w K mg base N_next_state "next_state" (defScope (top 27)) f cd A outer s H E) (defBody (top 27)) (w_next_state) := by
  have nd := nd_next_state
  exact (lss_one (ls_ret (le_if (lt_cmp (ol_is false) (sl_ 1) le_non (nomark _)) le_non (le_get2 hr (le_ix hr (le_fld T_own_steps (sl_ 0) rfl) (sl_ 1) (fun _ _ => rfl)) (sl_ 2) le_non ⟨rfl, rfl, rfl, rfl⟩))))

/-! Rows_init -/
abbrev N_Rows_init : List Str := ["self", "steps", "rests"]
abbrev P_Rows_init : List Str := ["self", "steps", "rests"]
def w_Rows_init (s_sorted_rows : SpD) : WS := (wSeq (wFldS ["Part", "Rows"] "own_steps" (wSlot 0) (wCall s_sorted_rows (wCons (wSlot 1) wNil)))
    (wFldS ["Part", "Rows"] "own_rests" (wSlot 0) (wCB cTuple (wCons (wSortedSet (wSlot 2)) wNil))))
theorem nd_Rows_init : N_Rows_init.Nodup := by decide +kernel
theorem l_Rows_init {s_sorted_rows : SpD} (hr : Room 1 (cxD P7 w K mg base N_Rows_init "Rows.__init__" (defScope (cls 32 0)) f cd A outer s H E).A) (hgd : (cxD P7 w K mg base N_Rows_init "Rows.__init__" (defScope (cls 32 0)) f cd A outer s H E).A.guards = some []) (g_tuple : mg "tuple" = none) (g_sorted : mg "sorted" = none) (g_set : mg "set" = none) (T_own_steps : ∀ x ∈ (["Part", "Rows"] : List Str), Fl K mg x "own_steps") (T_own_rests : ∀ x ∈ (["Part", "Rows"] : List Str), Fl K mg x "own_rests") (F_sorted_rows : FnD P7 w K mg base 1 "sorted_rows" 1 s_sorted_rows) :
    LSs (cxD P7 w K mg base N_Rows_init "Rows.__init__" (defScope (cls 32 0)) f cd A outer s H E) (defBody (cls 32 0)) (w_Rows_init s_sorted_rows) := by
  have nd := nd_Rows_init
  exact (lss_cons (ls_fld T_own_steps (sl_ 0) (le_call F_sorted_rows hr (by decide) hgd (by rfl) (la_cons (sl_ 1) la_nil)) rfl)
    (lss_one (ls_fld T_own_rests (sl_ 0) (le_callT cl_tuple (by rfl) g_tuple boot_tuple (la_cons (le_sortedSet rfl (by rfl) g_sorted (by rfl) g_set (sl_ 2)) la_nil)) rfl)))

/-! checked_rows -/
abbrev N_checked_rows : List Str := ["steps", "rests"]
abbrev P_checked_rows : List Str := ["steps", "rests"]
def w_checked_rows (s_actions_in s_are_rows s_is_rests s_Rows : SpD) : WS := (wSeq (wIfS (wOr (wNot (wTru (wCall s_are_rows (wCons (wSlot 0) wNil)))) (wBl (wBin oGt (wCB cLen (wCons (wCall s_actions_in (wCons (wSlot 0) wNil)) wNil)) (wC (.int 4))))) wNever wNext)
    (wSeq (wIfS (wNot (wTru (wCall s_is_rests (wCons (wSlot 1) (wCons (wCB cLen (wCons (wSlot 0) wNil)) wNil))))) wNever wNext)
    (wRet (wMake "Rows" s_Rows (wCons (wSlot 0) (wCons (wSlot 1) wNil))))))
theorem nd_checked_rows : N_checked_rows.Nodup := by decide +kernel
theorem l_checked_rows {s_actions_in s_are_rows s_is_rests s_Rows : SpD} (hr : Room 3 (cxD P7 w K mg base N_checked_rows "checked_rows" (defScope (top 33)) f cd A outer s H E).A) (hgd : (cxD P7 w K mg base N_checked_rows "checked_rows" (defScope (top 33)) f cd A outer s H E).A.guards = some []) (g_len : mg "len" = none) {tk_MAX_ACTIONS : Tok} (m_MAX_ACTIONS : mg "MAX_ACTIONS" = some (.int 4 tk_MAX_ACTIONS)) (F_actions_in : FnD P7 w K mg base 1 "actions_in" 1 s_actions_in) (F_are_rows : FnD P7 w K mg base 2 "are_rows" 1 s_are_rows) (F_is_rests : FnD P7 w K mg base 2 "is_rests" 2 s_is_rests) (F_Rows : MkD P7 w K mg base 2 "Rows" 3 s_Rows) :
    LSs (cxD P7 w K mg base N_checked_rows "checked_rows" (defScope (top 33)) f cd A outer s H E) (defBody (top 33)) (w_checked_rows s_actions_in s_are_rows s_is_rests s_Rows) := by
  have nd := nd_checked_rows
  exact (lss_cons (ls_if (lt_w (lw_or (lt_not (lt_val (le_call F_are_rows hr (by decide) hgd (by rfl) (la_cons (sl_ 0) la_nil)) (by intro _; rfl))) (lw_or1 (lt_cmp ol_gt (le_callB cl_len (by rfl) g_len boot_len (la_cons (le_call F_actions_in hr (by decide) hgd (by rfl) (la_cons (sl_ 0) la_nil)) la_nil)) (le_glob (d := .int 4) rfl (by rfl) m_MAX_ACTIONS ⟨_, rfl⟩) (nomark _))))) (lss_one ls_never) lss_nil)
    (lss_cons (ls_if (lt_not (lt_val (le_call F_is_rests hr (by decide) hgd (by rfl) (la_cons (sl_ 1) (la_cons (le_callB cl_len (by rfl) g_len boot_len (la_cons (sl_ 0) la_nil)) la_nil))) (by intro _; rfl))) (lss_one ls_never) lss_nil)
    (lss_one (ls_ret (le_make F_Rows hr (by decide) hgd (by rfl) (la_cons (sl_ 0) (la_cons (sl_ 1) la_nil)))))))

/-! Part_init -/
abbrev N_Part_init : List Str := ["self", "steps", "rests", "rows"]
abbrev P_Part_init : List Str := ["self", "steps", "rests"]
def w_Part_init (s_checked_rows s_actions_in : SpD) : WS := (wSeq (wAsg (wIf (wTru (wIsi tabRows (wSlot 1))) (wSlot 1) (wCall s_checked_rows (wCons (wSlot 1) (wCons (wSlot 2) wNil)))) (wNm 3))
    (wSeq (wFldS ["Part", "Rows"] "own_steps" (wSlot 0) (wFld ["Part", "Rows"] "own_steps" (wSlot 3)))
    (wSeq (wFldS ["Part", "Rows"] "own_rests" (wSlot 0) (wFld ["Part", "Rows"] "own_rests" (wSlot 3)))
    (wFldS ["Part"] "own_actions" (wSlot 0) (wCall s_actions_in (wCons (wFld ["Part", "Rows"] "own_steps" (wSlot 3)) wNil))))))
theorem nd_Part_init : N_Part_init.Nodup := by decide +kernel
theorem l_Part_init {s_checked_rows s_actions_in : SpD} (hr : Room 4 (cxD P7 w K mg base N_Part_init "Part.__init__" (defScope (cls 34 0)) f cd A outer s H E).A) (hgd : (cxD P7 w K mg base N_Part_init "Part.__init__" (defScope (cls 34 0)) f cd A outer s H E).A.guards = some []) (g_isinstance : mg "isinstance" = none) (T_own_steps : ∀ x ∈ (["Part", "Rows"] : List Str), Fl K mg x "own_steps") (T_own_rests : ∀ x ∈ (["Part", "Rows"] : List Str), Fl K mg x "own_rests") (T_own_actions : ∀ x ∈ (["Part"] : List Str), Fl K mg x "own_actions") {C_Rows : Addr} (m_Rows : mg "Rows" = some (.ref C_Rows)) (t_Rows : IsTab K mg (.ref C_Rows) tabRows) (F_checked_rows : FnD P7 w K mg base 4 "checked_rows" 2 s_checked_rows) (F_actions_in : FnD P7 w K mg base 1 "actions_in" 1 s_actions_in) :
    LSs (cxD P7 w K mg base N_Part_init "Part.__init__" (defScope (cls 34 0)) f cd A outer s H E) (defBody (cls 34 0)) (w_Part_init s_checked_rows s_actions_in) := by
  have nd := nd_Part_init
  exact (lss_cons (ks_ 3 nd (le_if (lt_val (le_isi t_Rows (by rfl) g_isinstance boot_isinstance (pe_glob (v := .ref C_Rows) (by rfl) m_Rows rfl) (.own _) (sl_ 1)) (by intro _; rfl)) (sl_ 1) (le_call F_checked_rows hr (by decide) hgd (by rfl) (la_cons (sl_ 1) (la_cons (sl_ 2) la_nil)))))
    (lss_cons (ls_fld T_own_steps (sl_ 0) (le_fld T_own_steps (sl_ 3) rfl) rfl)
    (lss_cons (ls_fld T_own_rests (sl_ 0) (le_fld T_own_rests (sl_ 3) rfl) rfl)
    (lss_one (ls_fld T_own_actions (sl_ 0) (le_call F_actions_in hr (by decide) hgd (by rfl) (la_cons (le_fld T_own_steps (sl_ 3) rfl) la_nil)) rfl)))))

/-! state_after -/
abbrev N_state_after : List Str := ["part", "word", "state", "action"]
abbrev P_state_after : List Str := ["part", "word"]
def w_state_after (s_next_state : SpD) : WS := (wSeq (wAsg (wC (.int 0)) (wNm 2))
    (wSeq (wFor (wOver (wSlot 1) fTup) (wNm 3)
      (wAsg (wCall s_next_state (wCons (wSlot 0) (wCons (wSlot 2) (wCons (wSlot 3) wNil)))) (wNm 2)))
    (wRet (wSlot 2))))
theorem nd_state_after : N_state_after.Nodup := by decide +kernel
theorem l_state_after {s_next_state : SpD} (hr : Room 1 (cxD P7 w K mg base N_state_after "state_after" (defScope (top 38)) f cd A outer s H E).A) (hgd : (cxD P7 w K mg base N_state_after "state_after" (defScope (top 38)) f cd A outer s H E).A.guards = some []) (F_next_state : FnD P7 w K mg base 1 "next_state" 3 s_next_state) :
    LSs (cxD P7 w K mg base N_state_after "state_after" (defScope (top 38)) f cd A outer s H E) (defBody (top 38)) (w_state_after s_next_state) := by
  have nd := nd_state_after
  exact (lss_cons (ks_ 2 nd le_int)
    (lss_cons (ls_for PassesOwn.never rfl (li_tup (sl_ 1)) (gn_ 3 nd)
      (lss_one (ks_ 2 nd (le_call F_next_state hr (by decide) hgd (by rfl) (la_cons (sl_ 0) (la_cons (sl_ 2) (la_cons (sl_ 3) la_nil)))))))
    (lss_one (ls_ret (sl_ 2)))))

/-! Part_after -/
abbrev N_Part_after : List Str := ["self", "word"]
abbrev P_Part_after : List Str := ["self", "word"]
def w_Part_after (s_require_word s_state_after : SpD) : WS := (wSeq (wExpr (wCall s_require_word (wCons (wSlot 1) wNil)))
    (wRet (wCall s_state_after (wCons (wSlot 0) (wCons (wSlot 1) wNil)))))
theorem nd_Part_after : N_Part_after.Nodup := by decide +kernel
theorem l_Part_after {s_require_word s_state_after : SpD} (hr : Room 3 (cxD P7 w K mg base N_Part_after "Part.after" (defScope (cls 34 7)) f cd A outer s H E).A) (hgd : (cxD P7 w K mg base N_Part_after "Part.after" (defScope (cls 34 7)) f cd A outer s H E).A.guards = some []) (F_require_word : FnD P7 w K mg base 3 "require_word" 1 s_require_word) (F_state_after : FnD P7 w K mg base 2 "state_after" 2 s_state_after) :
    LSs (cxD P7 w K mg base N_Part_after "Part.after" (defScope (cls 34 7)) f cd A outer s H E) (defBody (cls 34 7)) (w_Part_after s_require_word s_state_after) := by
  have nd := nd_Part_after
  exact (lss_cons (ls_expr (le_call F_require_word hr (by decide) hgd (by rfl) (la_cons (sl_ 1) la_nil)))
    (lss_one (ls_ret (le_call F_state_after hr (by decide) hgd (by rfl) (la_cons (sl_ 0) (la_cons (sl_ 1) la_nil))))))

/-! require_part -/
abbrev N_require_part : List Str := ["value"]
abbrev P_require_part : List Str := ["value"]
def w_require_part : WS := (wIfS (wNot (wTru (wIsi tabPart (wSlot 0)))) wNever wNext)
theorem nd_require_part : N_require_part.Nodup := by decide +kernel
theorem l_require_part (hr : Room 0 (cxD P7 w K mg base N_require_part "require_part" (defScope (top 36)) f cd A outer s H E).A) (hgd : (cxD P7 w K mg base N_require_part "require_part" (defScope (top 36)) f cd A outer s H E).A.guards = some []) (g_isinstance : mg "isinstance" = none) {C_Part : Addr} (m_Part : mg "Part" = some (.ref C_Part)) (t_Part : IsTab K mg (.ref C_Part) tabPart) :
    LSs (cxD P7 w K mg base N_require_part "require_part" (defScope (top 36)) f cd A outer s H E) (defBody (top 36)) (w_require_part) := by
  have nd := nd_require_part
  exact (lss_one (ls_if (lt_not (lt_val (le_isi t_Part (by rfl) g_isinstance boot_isinstance (pe_glob (v := .ref C_Part) (by rfl) m_Part rfl) (.own _) (sl_ 0)) (by intro _; rfl))) (lss_one ls_never) lss_nil))

/-! offer_at -/
abbrev N_offer_at : List Str := ["part", "state"]
abbrev P_offer_at : List Str := ["part", "state"]
def w_offer_at : WS := (wRet (wTup (wCons (wCB cTuple (wCons (wCB cList (wCons (wBin oIx (wFld ["Part", "Rows"] "own_steps" (wSlot 0)) (wSlot 1)) wNil)) wNil)) (wCons (wBin (oIn false) (wSlot 1) (wFld ["Part", "Rows"] "own_rests" (wSlot 0))) wNil))))
theorem nd_offer_at : N_offer_at.Nodup := by decide +kernel
theorem l_offer_at (hr : Room 0 (cxD P7 w K mg base N_offer_at "offer_at" (defScope (top 37)) f cd A outer s H E).A) (hgd : (cxD P7 w K mg base N_offer_at "offer_at" (defScope (top 37)) f cd A outer s H E).A.guards = some []) (g_tuple : mg "tuple" = none) (g_list : mg "list" = none) (T_own_rests : ∀ x ∈ (["Part", "Rows"] : List Str), Fl K mg x "own_rests") (T_own_steps : ∀ x ∈ (["Part", "Rows"] : List Str), Fl K mg x "own_steps") :
    LSs (cxD P7 w K mg base N_offer_at "offer_at" (defScope (top 37)) f cd A outer s H E) (defBody (top 37)) (w_offer_at) := by
  have nd := nd_offer_at
  exact (lss_one (ls_ret (le_tup (la_cons (le_callT cl_tuple (by rfl) g_tuple boot_tuple (la_cons (le_callT (cl_list rfl) (by rfl) g_list boot_list (la_cons (le_ix hr (le_fld T_own_steps (sl_ 0) rfl) (sl_ 1) (fun _ _ => rfl)) la_nil)) la_nil)) (la_cons (le_cmp (ol_inA hr false) (sl_ 1) (le_fld T_own_rests (sl_ 0) rfl) (by with_unfolding_all rfl)) la_nil)))))

/-! both_walked -/
abbrev N_both_walked : List Str := ["one", "other", "words", "waiting", "at", "action", "left", "right", "pair"]
abbrev P_both_walked : List Str := ["one", "other"]
def w_both_walked : WS := (wSeq (wPar3 2 3 4 (wCons (wD1T (wTup (wCons (wC (.int 0)) (wCons (wC (.int 0)) wNil))) (wTup wNil)) (wCons (wLst (wCons (wTup (wCons (wC (.int 0)) (wCons (wC (.int 0)) wNil))) wNil)) (wCons (wC (.int 0)) wNil))))
    (wSeq (wWhile (wBl (wBin oLt (wSlot 4) (wCB cLen (wCons (wSlot 3) wNil)))) (wSeq (wAsg (wBin oIx (wSlot 3) (wSlot 4)) (wGT 2 (wG1 (wNm 6) (wG1 (wNm 7) wG0))))
    (wSeq (wFor (wOver (wCB cSorted (wCons (wCB cList (wCons (wBin oIx (wFld ["Part", "Rows"] "own_steps" (wSlot 0)) (wSlot 6)) wNil)) wNil)) fLst) (wNm 5)
      (wIfS (wBl (wBin (oIn false) (wSlot 5) (wBin oIx (wFld ["Part", "Rows"] "own_steps" (wSlot 1)) (wSlot 7)))) (wSeq (wAsg (wTup (wCons (wBin oIx (wBin oIx (wFld ["Part", "Rows"] "own_steps" (wSlot 0)) (wSlot 6)) (wSlot 5)) (wCons (wBin oIx (wBin oIx (wFld ["Part", "Rows"] "own_steps" (wSlot 1)) (wSlot 7)) (wSlot 5)) wNil))) (wNm 8))
    (wIfS (wBl (wBin (oIn true) (wSlot 8) (wSlot 2))) (wSeq (wAsg (wTup (wStar (wBin oIx (wSlot 2) (wTup (wCons (wSlot 6) (wCons (wSlot 7) wNil)))) (wCons (wSlot 5) wNil))) (wSub (wSlot 2) (wSlot 8)))
    (wExpr (wBM mAppend (wSlot 3) (wCons (wSlot 8) wNil)))) wNext)) wNext))
    (wAug 4 (wC (.int 1))))))
    (wRet (wSlot 2))))
theorem nd_both_walked : N_both_walked.Nodup := by decide +kernel
theorem l_both_walked (hr : Room 0 (cxD P7 w K mg base N_both_walked "both_walked" (defScope (top 41)) f cd A outer s H E).A) (hgd : (cxD P7 w K mg base N_both_walked "both_walked" (defScope (top 41)) f cd A outer s H E).A.guards = some []) (g_len : mg "len" = none) (g_sorted : mg "sorted" = none) (g_list : mg "list" = none) (T_own_steps : ∀ x ∈ (["Part", "Rows"] : List Str), Fl K mg x "own_steps") :
    LSs (cxD P7 w K mg base N_both_walked "both_walked" (defScope (top 41)) f cd A outer s H E) (defBody (top 41)) (w_both_walked) := by
  have nd := nd_both_walked
  exact (lss_cons (ls_par3 (i := 2) (k := 3) (l := 4) rfl nd rfl rfl rfl (by decide) (by decide) (by decide) rfl rfl rfl (la_cons (le_d1T hr (le_tup (la_cons le_int (la_cons le_int la_nil))) (le_tup la_nil)) (la_cons (le_lst (la_cons (le_tup (la_cons le_int (la_cons le_int la_nil))) la_nil)) (la_cons le_int la_nil))) rfl)
    (lss_cons (ls_while PassesOwn.never (lt_cmp ol_lt (sl_ 4) (le_callB cl_len (by rfl) g_len boot_len (la_cons (sl_ 3) la_nil)) (nomark _)) (lss_cons (ls_asg (le_ix hr (sl_ 3) (sl_ 4) (fun _ _ => rfl)) (lg_tup rfl (lgs_cons (gn_ 6 nd) (lgs_cons (gn_ 7 nd) lgs_nil))))
    (lss_cons (ls_for PassesOwn.never rfl (li_lst (le_callB (cl_sorted rfl) (by rfl) g_sorted boot_sorted (la_cons (le_callT (cl_list rfl) (by rfl) g_list boot_list (la_cons (le_ix hr (le_fld T_own_steps (sl_ 0) rfl) (sl_ 6) (fun _ _ => rfl)) la_nil)) la_nil))) (gn_ 5 nd)
      (lss_one (ls_if (lt_cmp (ol_inA hr false) (sl_ 5) (le_ix hr (le_fld T_own_steps (sl_ 1) rfl) (sl_ 7) (fun _ _ => rfl)) (by with_unfolding_all rfl)) (lss_cons (ks_ 8 nd (le_tup (la_cons (le_ix hr (le_ix hr (le_fld T_own_steps (sl_ 0) rfl) (sl_ 6) (fun _ _ => rfl)) (sl_ 5) (fun _ _ => rfl)) (la_cons (le_ix hr (le_ix hr (le_fld T_own_steps (sl_ 1) rfl) (sl_ 7) (fun _ _ => rfl)) (sl_ 5) (fun _ _ => rfl)) la_nil))))
    (lss_one (ls_if (lt_cmp (ol_inA hr true) (sl_ 8) (sl_ 2) (by with_unfolding_all rfl)) (lss_cons (ls_asg (le_tup (la_star (le_ix hr (sl_ 2) (le_tup (la_cons (sl_ 6) (la_cons (sl_ 7) la_nil))) (fun _ _ => rfl)) (la_cons (sl_ 5) la_nil))) (lg_sub hr (sl_ 2) (sl_ 8)))
    (lss_one (ls_expr (le_bm F.plainAttrs_list F.slot_list_append F.type_list_append ml_append (sl_ 3) (la_cons (sl_ 8) la_nil))))) lss_nil))) lss_nil)))
    (lss_one (ka_ 4 nd le_int)))))
    (lss_one (ls_ret (sl_ 2)))))

/-! are_unlike -/
abbrev N_are_unlike : List Str := ["one", "other", "pair", "left", "right"]
abbrev P_are_unlike : List Str := ["one", "other", "pair"]
def w_are_unlike (s_offer_at : SpD) : WS := (wSeq (wAsg (wSlot 2) (wGT 2 (wG1 (wNm 3) (wG1 (wNm 4) wG0))))
    (wRet (wBin (oEq true) (wCall s_offer_at (wCons (wSlot 0) (wCons (wSlot 3) wNil))) (wCall s_offer_at (wCons (wSlot 1) (wCons (wSlot 4) wNil))))))
theorem nd_are_unlike : N_are_unlike.Nodup := by decide +kernel
theorem l_are_unlike {s_offer_at : SpD} (hr : Room 1 (cxD P7 w K mg base N_are_unlike "are_unlike" (defScope (top 42)) f cd A outer s H E).A) (hgd : (cxD P7 w K mg base N_are_unlike "are_unlike" (defScope (top 42)) f cd A outer s H E).A.guards = some []) (F_offer_at : FnD P7 w K mg base 1 "offer_at" 2 s_offer_at) :
    LSs (cxD P7 w K mg base N_are_unlike "are_unlike" (defScope (top 42)) f cd A outer s H E) (defBody (top 42)) (w_are_unlike s_offer_at) := by
  have nd := nd_are_unlike
  exact (lss_cons (ls_asg (sl_ 2) (lg_tup rfl (lgs_cons (gn_ 3 nd) (lgs_cons (gn_ 4 nd) lgs_nil))))
    (lss_one (ls_ret (le_cmp (ol_eqA hr true) (le_call F_offer_at hr (by decide) hgd (by rfl) (la_cons (sl_ 0) (la_cons (sl_ 3) la_nil))) (le_call F_offer_at hr (by decide) hgd (by rfl) (la_cons (sl_ 1) (la_cons (sl_ 4) la_nil))) (nomark _)))))

/-! difference -/
abbrev N_difference : List Str := ["one", "other", "pair", "word"]
abbrev P_difference : List Str := ["one", "other"]
def w_difference (s_require_part s_both_walked s_are_unlike : SpD) : WS := (wSeq (wExpr (wCall s_require_part (wCons (wSlot 0) wNil)))
    (wSeq (wExpr (wCall s_require_part (wCons (wSlot 1) wNil)))
    (wSeq (wFor (wOverD (wCall s_both_walked (wCons (wSlot 0) (wCons (wSlot 1) wNil))) (fDct (· = true) itItems)) (wGT 2 (wG1 (wNm 2) (wG1 (wNm 3) wG0)))
      (wIfS (wTru (wCall s_are_unlike (wCons (wSlot 0) (wCons (wSlot 1) (wCons (wSlot 2) wNil))))) (wRet (wSlot 3)) wNext))
    (wRet (wC .non)))))
theorem nd_difference : N_difference.Nodup := by decide +kernel
theorem l_difference {s_require_part s_both_walked s_are_unlike : SpD} (hr : Room 2 (cxD P7 w K mg base N_difference "difference" (defScope (top 43)) f cd A outer s H E).A) (hgd : (cxD P7 w K mg base N_difference "difference" (defScope (top 43)) f cd A outer s H E).A.guards = some []) (F_require_part : FnD P7 w K mg base 1 "require_part" 1 s_require_part) (F_both_walked : FnD P7 w K mg base 1 "both_walked" 2 s_both_walked) (F_are_unlike : FnD P7 w K mg base 2 "are_unlike" 3 s_are_unlike) :
    LSs (cxD P7 w K mg base N_difference "difference" (defScope (top 43)) f cd A outer s H E) (defBody (top 43)) (w_difference s_require_part s_both_walked s_are_unlike) := by
  have nd := nd_difference
  exact (lss_cons (ls_expr (le_call F_require_part hr (by decide) hgd (by rfl) (la_cons (sl_ 0) la_nil)))
    (lss_cons (ls_expr (le_call F_require_part hr (by decide) hgd (by rfl) (la_cons (sl_ 1) la_nil)))
    (lss_cons (ls_for PassesOwn.never rfl (li_itemsT (le_call F_both_walked hr (by decide) hgd (by rfl) (la_cons (sl_ 0) (la_cons (sl_ 1) la_nil)))) (lg_tup rfl (lgs_cons (gn_ 2 nd) (lgs_cons (gn_ 3 nd) lgs_nil)))
      (lss_one (ls_if (lt_val (le_call F_are_unlike hr (by decide) hgd (by rfl) (la_cons (sl_ 0) (la_cons (sl_ 1) (la_cons (sl_ 2) la_nil)))) (by intro _; rfl)) (lss_one (ls_ret (sl_ 3))) lss_nil)))
    (lss_one (ls_ret le_non)))))

/-! are_alike -/
abbrev N_are_alike : List Str := ["one", "other"]
abbrev P_are_alike : List Str := ["one", "other"]
def w_are_alike (s_difference : SpD) : WS := (wRet (wBin (oIs false) (wCall s_difference (wCons (wSlot 0) (wCons (wSlot 1) wNil))) (wC .non)))
theorem nd_are_alike : N_are_alike.Nodup := by decide +kernel
theorem l_are_alike {s_difference : SpD} (hr : Room 3 (cxD P7 w K mg base N_are_alike "are_alike" (defScope (top 44)) f cd A outer s H E).A) (hgd : (cxD P7 w K mg base N_are_alike "are_alike" (defScope (top 44)) f cd A outer s H E).A.guards = some []) (F_difference : FnD P7 w K mg base 3 "difference" 2 s_difference) :
    LSs (cxD P7 w K mg base N_are_alike "are_alike" (defScope (top 44)) f cd A outer s H E) (defBody (top 44)) (w_are_alike s_difference) := by
  have nd := nd_are_alike
  exact (lss_one (ls_ret (le_cmp (ol_is false) (le_call F_difference hr (by decide) hgd (by rfl) (la_cons (sl_ 0) (la_cons (sl_ 1) la_nil))) le_non (nomark _))))

/-! is_difference -/
abbrev N_is_difference : List Str := ["one", "other", "value", "pair"]
abbrev P_is_difference : List Str := ["one", "other", "value"]
def w_is_difference (s_require_part s_is_word s_are_unlike s_Part_after : SpD) : WS := (wSeq (wExpr (wCall s_require_part (wCons (wSlot 0) wNil)))
    (wSeq (wExpr (wCall s_require_part (wCons (wSlot 1) wNil)))
    (wSeq (wIfS (wNot (wTru (wCall s_is_word (wCons (wSlot 2) wNil)))) (wRet (wC (.bl false))) wNext)
    (wSeq (wAsg (wTup (wCons (wMeth "Part" "after" s_Part_after (wSlot 0) (wCons (wSlot 2) wNil)) (wCons (wMeth "Part" "after" s_Part_after (wSlot 1) (wCons (wSlot 2) wNil)) wNil))) (wNm 3))
    (wRet (wAndV (wBin (oIn true) (wC .non) (wSlot 3)) (wCall s_are_unlike (wCons (wSlot 0) (wCons (wSlot 1) (wCons (wSlot 3) wNil))))))))))
theorem nd_is_difference : N_is_difference.Nodup := by decide +kernel
theorem l_is_difference {s_require_part s_is_word s_are_unlike s_Part_after : SpD} (hr : Room 4 (cxD P7 w K mg base N_is_difference "is_difference" (defScope (top 45)) f cd A outer s H E).A) (hgd : (cxD P7 w K mg base N_is_difference "is_difference" (defScope (top 45)) f cd A outer s H E).A.guards = some []) (F_require_part : FnD P7 w K mg base 1 "require_part" 1 s_require_part) (F_is_word : FnD P7 w K mg base 2 "is_word" 1 s_is_word) (F_are_unlike : FnD P7 w K mg base 2 "are_unlike" 3 s_are_unlike) (F_Part_after : MtD P7 w K mg base 4 "Part" "after" 2 s_Part_after) :
    LSs (cxD P7 w K mg base N_is_difference "is_difference" (defScope (top 45)) f cd A outer s H E) (defBody (top 45)) (w_is_difference s_require_part s_is_word s_are_unlike s_Part_after) := by
  have nd := nd_is_difference
  exact (lss_cons (ls_expr (le_call F_require_part hr (by decide) hgd (by rfl) (la_cons (sl_ 0) la_nil)))
    (lss_cons (ls_expr (le_call F_require_part hr (by decide) hgd (by rfl) (la_cons (sl_ 1) la_nil)))
    (lss_cons (ls_if (lt_not (lt_val (le_call F_is_word hr (by decide) hgd (by rfl) (la_cons (sl_ 2) la_nil)) (by intro _; rfl))) (lss_one (ls_ret le_bl)) lss_nil)
    (lss_cons (ks_ 3 nd (le_tup (la_cons (le_meth F_Part_after hr (by decide) hgd (sl_ 0) (la_cons (sl_ 2) la_nil)) (la_cons (le_meth F_Part_after hr (by decide) hgd (sl_ 1) (la_cons (sl_ 2) la_nil)) la_nil))))
    (lss_one (ls_ret (le_and (le_cmp (ol_inA hr true) le_non (sl_ 3) (by with_unfolding_all rfl)) (le_one (le_call F_are_unlike hr (by decide) hgd (by rfl) (la_cons (sl_ 0) (la_cons (sl_ 1) (la_cons (sl_ 3) la_nil))))))))))))

/-! _law_dice -/
abbrev N__law_dice : List Str := ["script", "at", "cell", "great", "left", "mixed"]
abbrev P__law_dice : List Str := ["script", "at"]
def w__law_dice : WS := (wSeq (wAsg (wBin oAdd (wBin oMul (wC (.int 47)) (wSlot 1)) (wC (.int 13))) (wNm 2))
    (wSeq (wIfS (wBl (wBin oLt (wSlot 1) (wCB cLen (wCons (wSlot 0) wNil)))) (wAsg (wBin oIx (wSlot 0) (wSlot 1)) (wNm 2)) wNext)
    (wSeq (wAsg (wBin oMod (wCB cInt (wCons (wCB cAbs (wCons (wSlot 2) wNil)) wNil)) (wBin oPow (wBin oPow (wC (.int 10)) (wC (.int 60))) (wC (.int 10)))) (wNm 3))
    (wSeq (wAsg (wBin oFdiv (wSlot 3) (wBin oPow (wC (.int 10)) (wC (.int 18)))) (wNm 4))
    (wSeq (wAsg (wBin oAdd (wBin oAdd (wBin oAdd (wBin oMul (wBin oMod (wSlot 3) (wC (.int 2147483477))) (wC (.int 50021))) (wBin oMul (wC (.int 3001)) (wSlot 1))) (wBin oMul (wC (.int 29)) (wCB cInt (wCons (wBin oLt (wSlot 2) (wC (.int 0))) wNil)))) (wC (.int 71))) (wNm 5))
    (wRet (wLst (wCons (wSlot 4) (wCons (wBin oMod (wSlot 5) (wC (.int 2147483399))) (wCons (wC (.int 0)) wNil))))))))))
theorem nd__law_dice : N__law_dice.Nodup := by decide +kernel
theorem l__law_dice (hr : Room 0 (cxD P7 w K mg base N__law_dice "_law_dice" (defScope (top 47)) f cd A outer s H E).A) (hgd : (cxD P7 w K mg base N__law_dice "_law_dice" (defScope (top 47)) f cd A outer s H E).A.guards = some []) (g_len : mg "len" = none) (g_int : mg "int" = none) (g_abs : mg "abs" = none) :
    LSs (cxD P7 w K mg base N__law_dice "_law_dice" (defScope (top 47)) f cd A outer s H E) (defBody (top 47)) (w__law_dice) := by
  have nd := nd__law_dice
  exact (lss_cons (ks_ 2 nd (le_bin ol_add (le_bin ol_mul le_int (sl_ 1)) le_int))
    (lss_cons (ls_if (lt_cmp ol_lt (sl_ 1) (le_callB cl_len (by rfl) g_len boot_len (la_cons (sl_ 0) la_nil)) (nomark _)) (lss_one (ks_ 2 nd (le_ix hr (sl_ 0) (sl_ 1) (fun _ _ => rfl)))) lss_nil)
    (lss_cons (ks_ 3 nd (le_bin ol_mod (le_callT cl_int (by rfl) g_int boot_int (la_cons (le_callB cl_abs (by rfl) g_abs boot_abs (la_cons (sl_ 2) la_nil)) la_nil)) (le_bin ol_pow (le_bin ol_pow le_int le_int) le_int)))
    (lss_cons (ks_ 4 nd (le_bin ol_fdiv (sl_ 3) (le_bin ol_pow le_int le_int)))
    (lss_cons (ks_ 5 nd (le_bin ol_add (le_bin ol_add (le_bin ol_add (le_bin ol_mul (le_bin ol_mod (sl_ 3) le_int) le_int) (le_bin ol_mul le_int (sl_ 1))) (le_bin ol_mul le_int (le_callT cl_int (by rfl) g_int boot_int (la_cons (le_cmp ol_lt (sl_ 2) le_int (nomark _)) la_nil)))) le_int))
    (lss_one (ls_ret (le_lst (la_cons (sl_ 4) (la_cons (le_bin ol_mod (sl_ 5) le_int) (la_cons le_int la_nil)))))))))))

/-! _law_roll -/
abbrev N__law_roll : List Str := ["dice", "total", "number", "one", "two", "drawn"]
abbrev P__law_roll : List Str := ["dice", "total"]
def w__law_roll : WS := (wSeq (wAsg (wCB cInt (wCons (wSlot 1) wNil)) (wNm 2))
    (wSeq (wIfS (wBl (wBin oGt (wBin oIx (wSlot 0) (wC (.int 0))) (wC (.int 0)))) (wSeq (wAsg (wBin oMod (wBin oIx (wSlot 0) (wC (.int 0))) (wSlot 2)) (wNm 5))
    (wSeq (wAsg (wBin oFdiv (wBin oIx (wSlot 0) (wC (.int 0))) (wSlot 2)) (wSub (wSlot 0) (wC (.int 0))))
    (wRet (wCB cInt (wCons (wSlot 5) wNil))))) wNext)
    (wSeq (wAsg (wBin oAdd (wBin oIx (wSlot 0) (wC (.int 2))) (wC (.int 1))) (wSub (wSlot 0) (wC (.int 2))))
    (wSeq (wAsg (wBin oMod (wBin oAdd (wBin oIx (wSlot 0) (wC (.int 1))) (wBin oMul (wC (.int 1000081)) (wBin oIx (wSlot 0) (wC (.int 2))))) (wC (.int 2305843009213693951))) (wNm 3))
    (wSeq (wAsg (wBin oAdd (wBin oMul (wBin oMod (wBin oMul (wSlot 3) (wSlot 3)) (wC (.int 2305843009213693921))) (wSlot 3)) (wBin oMul (wC (.int 8171)) (wBin oIx (wSlot 0) (wC (.int 2))))) (wNm 4))
    (wSeq (wAsg (wBin oMod (wSlot 4) (wC (.int 2305843009213693907))) (wNm 4))
    (wRet (wCB cInt (wCons (wBin oMod (wBin oFdiv (wSlot 4) (wC (.int 4096))) (wSlot 2)) wNil)))))))))
theorem nd__law_roll : N__law_roll.Nodup := by decide +kernel
theorem l__law_roll (hr : Room 0 (cxD P7 w K mg base N__law_roll "_law_roll" (defScope (top 48)) f cd A outer s H E).A) (hgd : (cxD P7 w K mg base N__law_roll "_law_roll" (defScope (top 48)) f cd A outer s H E).A.guards = some []) (g_int : mg "int" = none) :
    LSs (cxD P7 w K mg base N__law_roll "_law_roll" (defScope (top 48)) f cd A outer s H E) (defBody (top 48)) (w__law_roll) := by
  have nd := nd__law_roll
  exact (lss_cons (ks_ 2 nd (le_callT cl_int (by rfl) g_int boot_int (la_cons (sl_ 1) la_nil)))
    (lss_cons (ls_if (lt_cmp ol_gt (le_ix hr (sl_ 0) le_int (fun _ _ => rfl)) le_int (nomark _)) (lss_cons (ks_ 5 nd (le_bin ol_mod (le_ix hr (sl_ 0) le_int (fun _ _ => rfl)) (sl_ 2)))
    (lss_cons (ls_asg (le_bin ol_fdiv (le_ix hr (sl_ 0) le_int (fun _ _ => rfl)) (sl_ 2)) (lg_sub hr (sl_ 0) le_int))
    (lss_one (ls_ret (le_callT cl_int (by rfl) g_int boot_int (la_cons (sl_ 5) la_nil)))))) lss_nil)
    (lss_cons (ls_asg (le_bin ol_add (le_ix hr (sl_ 0) le_int (fun _ _ => rfl)) le_int) (lg_sub hr (sl_ 0) le_int))
    (lss_cons (ks_ 3 nd (le_bin ol_mod (le_bin ol_add (le_ix hr (sl_ 0) le_int (fun _ _ => rfl)) (le_bin ol_mul le_int (le_ix hr (sl_ 0) le_int (fun _ _ => rfl)))) le_int))
    (lss_cons (ks_ 4 nd (le_bin ol_add (le_bin ol_mul (le_bin ol_mod (le_bin ol_mul (sl_ 3) (sl_ 3)) le_int) (sl_ 3)) (le_bin ol_mul le_int (le_ix hr (sl_ 0) le_int (fun _ _ => rfl)))))
    (lss_cons (ks_ 4 nd (le_bin ol_mod (sl_ 4) le_int))
    (lss_one (ls_ret (le_callT cl_int (by rfl) g_int boot_int (la_cons (le_bin ol_mod (le_bin ol_fdiv (sl_ 4) le_int) (sl_ 2)) la_nil))))))))))

/-! _law_one_of -/
abbrev N__law_one_of : List Str := ["dice", "items"]
abbrev P__law_one_of : List Str := ["dice", "items"]
def w__law_one_of (s__law_roll : SpD) : WS := (wRet (wBin oIx (wSlot 1) (wCall s__law_roll (wCons (wSlot 0) (wCons (wCB cLen (wCons (wSlot 1) wNil)) wNil)))))
theorem nd__law_one_of : N__law_one_of.Nodup := by decide +kernel
theorem l__law_one_of {s__law_roll : SpD} (hr : Room 1 (cxD P7 w K mg base N__law_one_of "_law_one_of" (defScope (top 49)) f cd A outer s H E).A) (hgd : (cxD P7 w K mg base N__law_one_of "_law_one_of" (defScope (top 49)) f cd A outer s H E).A.guards = some []) (g_len : mg "len" = none) (F__law_roll : FnD P7 w K mg base 1 "_law_roll" 2 s__law_roll) :
    LSs (cxD P7 w K mg base N__law_one_of "_law_one_of" (defScope (top 49)) f cd A outer s H E) (defBody (top 49)) (w__law_one_of s__law_roll) := by
  have nd := nd__law_one_of
  exact (lss_one (ls_ret (le_ix hr (sl_ 1) (le_call F__law_roll hr (by decide) hgd (by rfl) (la_cons (sl_ 0) (la_cons (le_callB cl_len (by rfl) g_len boot_len (la_cons (sl_ 1) la_nil)) la_nil))) (fun _ _ => rfl))))

/-! _law_mixed -/
abbrev N__law_mixed : List Str := ["dice", "items", "left", "found"]
abbrev P__law_mixed : List Str := ["dice", "items"]
def w__law_mixed (s__law_roll : SpD) : WS := (wSeq (wPar 2 3 (wCons (wCB cList (wCons (wSlot 1) wNil)) (wCons (wLst wNil) wNil)))
    (wSeq (wWhile (wBl (wBin (oEq true) (wSlot 2) (wLst wNil))) (wExpr (wBM mAppend (wSlot 3) (wCons (wBM mPopAt (wSlot 2) (wCons (wCall s__law_roll (wCons (wSlot 0) (wCons (wCB cLen (wCons (wSlot 2) wNil)) wNil))) wNil)) wNil))))
    (wRet (wSlot 3))))
theorem nd__law_mixed : N__law_mixed.Nodup := by decide +kernel
theorem l__law_mixed {s__law_roll : SpD} (hr : Room 1 (cxD P7 w K mg base N__law_mixed "_law_mixed" (defScope (top 50)) f cd A outer s H E).A) (hgd : (cxD P7 w K mg base N__law_mixed "_law_mixed" (defScope (top 50)) f cd A outer s H E).A.guards = some []) (g_list : mg "list" = none) (g_len : mg "len" = none) (F__law_roll : FnD P7 w K mg base 1 "_law_roll" 2 s__law_roll) :
    LSs (cxD P7 w K mg base N__law_mixed "_law_mixed" (defScope (top 50)) f cd A outer s H E) (defBody (top 50)) (w__law_mixed s__law_roll) := by
  have nd := nd__law_mixed
  exact (lss_cons (ls_par (i := 2) (k := 3) rfl nd rfl rfl (by decide) rfl rfl (la_cons (le_callT (cl_list rfl) (by rfl) g_list boot_list (la_cons (sl_ 1) la_nil)) (la_cons (le_lst la_nil) la_nil)) rfl)
    (lss_cons (ls_while PassesOwn.never (lt_cmp (ol_eqA hr true) (sl_ 2) (le_lst la_nil) (nomark _)) (lss_one (ls_expr (le_bm F.plainAttrs_list F.slot_list_append F.type_list_append ml_append (sl_ 3) (la_cons (le_bm F.plainAttrs_list F.slot_list_pop F.type_list_pop ml_popAt (sl_ 2) (la_cons (le_call F__law_roll hr (by decide) hgd (by rfl) (la_cons (sl_ 0) (la_cons (le_callB cl_len (by rfl) g_len boot_len (la_cons (sl_ 2) la_nil)) la_nil))) la_nil)) la_nil)))))
    (lss_one (ls_ret (sl_ 3)))))

/-! _law_actions -/
abbrev N__law_actions : List Str := ["dice", "total"]
abbrev P__law_actions : List Str := ["dice", "total"]
def w__law_actions (s__law_mixed : SpD) : WS := (wRet (wCB cSorted (wCons (wSlice (wCall s__law_mixed (wCons (wSlot 0) (wCons (wLst (wCons (wC (.str "a")) (wCons (wC (.str "b")) (wCons (wC (.str "ab")) (wCons (wC (.str "go")) (wCons (wC (.str "put")) (wCons (wC (.str "take")) (wCons (wC (.str "x")) (wCons (wC (.str "zzzzzzzz")) wNil))))))))) wNil))) wNoPart (wPart (wSlot 1))) wNil)))
theorem nd__law_actions : N__law_actions.Nodup := by decide +kernel
theorem l__law_actions {s__law_mixed : SpD} (hr : Room 2 (cxD P7 w K mg base N__law_actions "_law_actions" (defScope (top 51)) f cd A outer s H E).A) (hgd : (cxD P7 w K mg base N__law_actions "_law_actions" (defScope (top 51)) f cd A outer s H E).A.guards = some []) (g_sorted : mg "sorted" = none) (F__law_mixed : FnD P7 w K mg base 2 "_law_mixed" 2 s__law_mixed) :
    LSs (cxD P7 w K mg base N__law_actions "_law_actions" (defScope (top 51)) f cd A outer s H E) (defBody (top 51)) (w__law_actions s__law_mixed) := by
  have nd := nd__law_actions
  exact (lss_one (ls_ret (le_callB (cl_sorted rfl) (by rfl) g_sorted boot_sorted (la_cons (le_slice (le_call F__law_mixed hr (by decide) hgd (by rfl) (la_cons (sl_ 0) (la_cons (le_lst (la_cons le_str (la_cons le_str (la_cons le_str (la_cons le_str (la_cons le_str (la_cons le_str (la_cons le_str (la_cons le_str la_nil))))))))) la_nil))) lo_none (lo_some (sl_ 1))) la_nil))))

/-! _law_part -/
abbrev N__law_part : List Str := ["dice", "names", "most", "state", "total", "found", "row", "name", "target"]
abbrev P__law_part : List Str := ["dice", "names", "most"]
def w__law_part (s__law_roll : SpD) : WS := (wSeq (wPar 4 5 (wCons (wBin oAdd (wC (.int 1)) (wCall s__law_roll (wCons (wSlot 0) (wCons (wSlot 2) wNil)))) (wCons (wLst wNil) wNil)))
    (wSeq (wFor (wRange1 (wCons (wSlot 4) wNil)) (wNm 3)
      (wSeq (wAsg (wDNew false) (wNm 6))
    (wSeq (wFor (wOver (wSlot 1) fLst) (wNm 7)
      (wSeq (wAsg (wCall s__law_roll (wCons (wSlot 0) (wCons (wBin oAdd (wSlot 4) (wC (.int 1))) wNil))) (wNm 8))
    (wIfS (wBl (wBin oLt (wSlot 8) (wSlot 4))) (wAsg (wSlot 8) (wSub (wSlot 6) (wSlot 7))) wNext)))
    (wExpr (wBM mAppend (wSlot 5) (wCons (wTup (wCons (wSlot 6) (wCons (wBin (oEq false) (wCall s__law_roll (wCons (wSlot 0) (wCons (wC (.int 2)) wNil))) (wC (.int 0))) wNil))) wNil))))))
    (wRet (wSlot 5))))
theorem nd__law_part : N__law_part.Nodup := by decide +kernel
theorem l__law_part {s__law_roll : SpD} (hr : Room 1 (cxD P7 w K mg base N__law_part "_law_part" (defScope (top 52)) f cd A outer s H E).A) (hgd : (cxD P7 w K mg base N__law_part "_law_part" (defScope (top 52)) f cd A outer s H E).A.guards = some []) (g_range : mg "range" = none) (F__law_roll : FnD P7 w K mg base 1 "_law_roll" 2 s__law_roll) :
    LSs (cxD P7 w K mg base N__law_part "_law_part" (defScope (top 52)) f cd A outer s H E) (defBody (top 52)) (w__law_part s__law_roll) := by
  have nd := nd__law_part
  exact (lss_cons (ls_par (i := 4) (k := 5) rfl nd rfl rfl (by decide) rfl rfl (la_cons (le_bin ol_add le_int (le_call F__law_roll hr (by decide) hgd (by rfl) (la_cons (sl_ 0) (la_cons (sl_ 2) la_nil)))) (la_cons (le_lst la_nil) la_nil)) rfl)
    (lss_cons (ls_for PassesOwn.never rfl (li_range1 (by rfl) g_range (la_cons (sl_ 4) la_nil)) (gn_ 3 nd)
      (lss_cons (ks_ 6 nd le_dnewK)
    (lss_cons (ls_for PassesOwn.never rfl (li_lst (sl_ 1)) (gn_ 7 nd)
      (lss_cons (ks_ 8 nd (le_call F__law_roll hr (by decide) hgd (by rfl) (la_cons (sl_ 0) (la_cons (le_bin ol_add (sl_ 4) le_int) la_nil))))
    (lss_one (ls_if (lt_cmp ol_lt (sl_ 8) (sl_ 4) (nomark _)) (lss_one (ls_asg (sl_ 8) (lg_sub hr (sl_ 6) (sl_ 7)))) lss_nil))))
    (lss_one (ls_expr (le_bm F.plainAttrs_list F.slot_list_append F.type_list_append ml_append (sl_ 5) (la_cons (le_tup (la_cons (sl_ 6) (la_cons (le_cmp (ol_eqA hr false) (le_call F__law_roll hr (by decide) hgd (by rfl) (la_cons (sl_ 0) (la_cons le_int la_nil))) le_int (nomark _)) la_nil))) la_nil)))))))
    (lss_one (ls_ret (sl_ 5)))))

/-! _law_made_part -/
abbrev N__law_made_part : List Str := ["plain", "rests", "at", "row"]
abbrev P__law_made_part : List Str := ["plain"]
def w__law_made_part (s_Part : SpD) : WS := (wSeq (wAsg (wCB cTuple (wCons (wLc (wEnum (wCons (wSlot 0) wNil)) (wGT 2 (wG1 (wNm 2) (wG1 (wNm 3) wG0))) (wTru (wBin oIx (wSlot 3) (wC (.int 1)))) (wSlot 2) [2, 3]) wNil)) (wNm 1))
    (wRet (wMake "Part" s_Part (wCons (wCB cTuple (wCons (wLc (wOver (wSlot 0) fLst) (wNm 3) wYes (wCB cDict (wCons (wListItemsR (wBin oIx (wSlot 3) (wC (.int 0)))) wNil)) [3]) wNil)) (wCons (wSlot 1) wNil)))))
theorem nd__law_made_part : N__law_made_part.Nodup := by decide +kernel
theorem l__law_made_part {s_Part : SpD} (hr : Room 6 (cxD P7 w K mg base N__law_made_part "_law_made_part" (defScope (top 53)) f cd A outer s H E).A) (hgd : (cxD P7 w K mg base N__law_made_part "_law_made_part" (defScope (top 53)) f cd A outer s H E).A.guards = some []) (g_tuple : mg "tuple" = none) (g_enumerate : mg "enumerate" = none) (g_dict : mg "dict" = none) (g_list : mg "list" = none) (F_Part : MkD P7 w K mg base 5 "Part" 3 s_Part) :
    LSs (cxD P7 w K mg base N__law_made_part "_law_made_part" (defScope (top 53)) f cd A outer s H E) (defBody (top 53)) (w__law_made_part s_Part) := by
  have nd := nd__law_made_part
  exact (lss_cons (ks_ 1 nd (le_callT cl_tuple (by rfl) g_tuple boot_tuple (la_cons (le_lc rfl nd (li_enum (by rfl) g_enumerate (la_cons (sl_ 0) la_nil)) (blkOk_by (own := [("at", 2), ("row", 3)]) (by kernel_rfl)) (fun _ _ _ _ _ => (lo_tup rfl (los_cons (go_ 2 nd) (los_cons (go_ 3 nd) los_nil)))) (fun _ _ _ _ _ => (lts_one (lt_val (le_ix hr (sl_ 3) le_int (fun _ _ => rfl)) (by intro _; rfl)))) (fun _ _ _ _ _ => (sl_ 2))) la_nil)))
    (lss_one (ls_ret (le_make F_Part hr (by decide) hgd (by rfl) (la_cons (le_callT cl_tuple (by rfl) g_tuple boot_tuple (la_cons (le_lc rfl nd (li_lst (sl_ 0)) (blkOk_by (own := [("row", 3)]) (by kernel_rfl)) (fun _ _ _ _ _ => (go_ 3 nd)) (fun _ _ _ _ _ => lts_nil) (fun _ _ _ _ _ => (le_callT (cl_dict rfl) (by rfl) g_dict boot_dict (la_cons (le_listItemsR rfl (le_ix hr (sl_ 3) le_int (fun _ _ => rfl)) (by rfl) g_list boot_list) la_nil)))) la_nil)) (la_cons (sl_ 1) la_nil))))))

/-! _law_offer -/
abbrev N__law_offer : List Str := ["plain", "state"]
abbrev P__law_offer : List Str := ["plain", "state"]
def w__law_offer : WS := (wRet (wTup (wCons (wCB cTuple (wCons (wCB cSorted (wCons (wBin oIx (wBin oIx (wSlot 0) (wSlot 1)) (wC (.int 0))) wNil)) wNil)) (wCons (wBin oIx (wBin oIx (wSlot 0) (wSlot 1)) (wC (.int 1))) wNil))))
theorem nd__law_offer : N__law_offer.Nodup := by decide +kernel
theorem l__law_offer (hr : Room 0 (cxD P7 w K mg base N__law_offer "_law_offer" (defScope (top 54)) f cd A outer s H E).A) (hgd : (cxD P7 w K mg base N__law_offer "_law_offer" (defScope (top 54)) f cd A outer s H E).A.guards = some []) (g_tuple : mg "tuple" = none) (g_sorted : mg "sorted" = none) :
    LSs (cxD P7 w K mg base N__law_offer "_law_offer" (defScope (top 54)) f cd A outer s H E) (defBody (top 54)) (w__law_offer) := by
  have nd := nd__law_offer
  exact (lss_one (ls_ret (le_tup (la_cons (le_callT cl_tuple (by rfl) g_tuple boot_tuple (la_cons (le_callB (cl_sorted rfl) (by rfl) g_sorted boot_sorted (la_cons (le_ix hr (le_ix hr (sl_ 0) (sl_ 1) (fun _ _ => rfl)) le_int (fun _ _ => rfl)) la_nil)) la_nil)) (la_cons (le_ix hr (le_ix hr (sl_ 0) (sl_ 1) (fun _ _ => rfl)) le_int (fun _ _ => rfl)) la_nil)))))

/-! _law_near_part -/
abbrev N__law_near_part : List Str := ["dice", "names", "plain", "at", "way", "found", "row", "rests", "rest", "name", "target", "steps", "other", "one"]
abbrev P__law_near_part : List Str := ["dice", "names", "plain"]
def w__law_near_part (s__law_roll s__law_one_of s__law_part : SpD) : WS := (wSeq (wPar 4 5 (wCons (wCall s__law_roll (wCons (wSlot 0) (wCons (wC (.int 5)) wNil))) (wCons (wLc (wOver (wSlot 2) fLst) (wGT 2 (wG1 (wNm 6) (wG1 (wNm 7) wG0))) wYes (wTup (wCons (wCB cDict (wCons (wListItemsR (wSlot 6)) wNil)) (wCons (wSlot 7) wNil))) [6, 7]) wNil)))
    (wSeq (wAsg (wCall s__law_roll (wCons (wSlot 0) (wCons (wCB cLen (wCons (wSlot 5) wNil)) wNil))) (wNm 3))
    (wSeq (wAsg (wBin oIx (wSlot 5) (wSlot 3)) (wGT 2 (wG1 (wNm 6) (wG1 (wNm 7) wG0))))
    (wSeq (wIfS (wBl (wBin (oEq false) (wSlot 4) (wC (.int 0)))) (wAsg (wTup (wCons (wSlot 6) (wCons (wNotV (wSlot 7)) wNil))) (wSub (wSlot 5) (wSlot 3))) wNext)
    (wSeq (wIfS (wBl (wBin (oEq false) (wSlot 4) (wC (.int 1)))) (wSeq (wAsg (wTup (wCons (wCall s__law_one_of (wCons (wSlot 0) (wCons (wSlot 1) wNil))) (wCons (wCall s__law_roll (wCons (wSlot 0) (wCons (wBin oAdd (wCB cLen (wCons (wSlot 5) wNil)) (wC (.int 1))) wNil))) wNil))) (wGT 2 (wG1 (wNm 9) (wG1 (wNm 10) wG0))))
    (wSeq (wAsg (wLc (wOverD (wSlot 6) (fDct (fun _ => True) itKeys)) (wNm 13) (wBl (wBin (oEq true) (wSlot 13) (wSlot 9))) (wTup (wCons (wSlot 13) (wCons (wBin oIx (wSlot 6) (wSlot 13)) wNil))) [13]) (wNm 8))
    (wAsg (wTup (wCons (wCB cDict (wCons (wBin oAdd (wSlot 8) (wIf (wBl (wBin oLt (wSlot 10) (wCB cLen (wCons (wSlot 5) wNil)))) (wLst (wCons (wTup (wCons (wSlot 9) (wCons (wSlot 10) wNil))) wNil)) (wLst wNil))) wNil)) (wCons (wSlot 7) wNil))) (wSub (wSlot 5) (wSlot 3))))) wNext)
    (wSeq (wIfS (wOr (wBl (wBin (oEq false) (wSlot 4) (wC (.int 2)))) (wBl (wBin (oEq false) (wSlot 4) (wC (.int 3))))) (wSeq (wExpr (wBM mAppend (wSlot 5) (wCons (wTup (wCons (wCB cDict (wCons (wListItemsR (wSlot 6)) wNil)) (wCons (wSlot 7) wNil))) wNil)))
    (wFor (wOver (wSlot 5) fLst) (wGT 2 (wG1 (wNm 11) (wG1 (wNm 12) wG0)))
      (wFor (wOver (wSlot 1) fLst) (wNm 9)
      (wIfS (wAnd (wBl (wBin (oEq false) (wGet2 (wSlot 11) (wSlot 9) (wNegV (wC (.int 1)))) (wSlot 3))) (wBl (wBin (oEq false) (wCall s__law_roll (wCons (wSlot 0) (wCons (wC (.int 2)) wNil))) (wC (.int 0))))) (wAsg (wBin oSub (wCB cLen (wCons (wSlot 5) wNil)) (wC (.int 1))) (wSub (wSlot 11) (wSlot 9))) wNext)))) wNext)
    (wRet (wIf (wBl (wBin oLt (wSlot 4) (wC (.int 4)))) (wSlot 5) (wCall s__law_part (wCons (wSlot 0) (wCons (wSlot 1) (wCons (wC (.int 6)) wNil))))))))))))
theorem nd__law_near_part : N__law_near_part.Nodup := by decide +kernel
theorem l__law_near_part {s__law_roll s__law_one_of s__law_part : SpD} (hr : Room 2 (cxD P7 w K mg base N__law_near_part "_law_near_part" (defScope (top 55)) f cd A outer s H E).A) (hgd : (cxD P7 w K mg base N__law_near_part "_law_near_part" (defScope (top 55)) f cd A outer s H E).A.guards = some []) (g_dict : mg "dict" = none) (g_list : mg "list" = none) (g_len : mg "len" = none) (F__law_roll : FnD P7 w K mg base 1 "_law_roll" 2 s__law_roll) (F__law_one_of : FnD P7 w K mg base 2 "_law_one_of" 2 s__law_one_of) (F__law_part : FnD P7 w K mg base 2 "_law_part" 3 s__law_part) :
    LSs (cxD P7 w K mg base N__law_near_part "_law_near_part" (defScope (top 55)) f cd A outer s H E) (defBody (top 55)) (w__law_near_part s__law_roll s__law_one_of s__law_part) := by
  have nd := nd__law_near_part
  exact (lss_cons (ls_par (i := 4) (k := 5) rfl nd rfl rfl (by decide) rfl rfl (la_cons (le_call F__law_roll hr (by decide) hgd (by rfl) (la_cons (sl_ 0) (la_cons le_int la_nil))) (la_cons (le_lc rfl nd (li_lst (sl_ 2)) (blkOk_by (own := [("row", 6), ("rests", 7)]) (by kernel_rfl)) (fun _ _ _ _ _ => (lo_tup rfl (los_cons (go_ 6 nd) (los_cons (go_ 7 nd) los_nil)))) (fun _ _ _ _ _ => lts_nil) (fun _ _ _ _ _ => (le_tup (la_cons (le_callT (cl_dict rfl) (by rfl) g_dict boot_dict (la_cons (le_listItemsR rfl (sl_ 6) (by rfl) g_list boot_list) la_nil)) (la_cons (sl_ 7) la_nil))))) la_nil)) rfl)
    (lss_cons (ks_ 3 nd (le_call F__law_roll hr (by decide) hgd (by rfl) (la_cons (sl_ 0) (la_cons (le_callB cl_len (by rfl) g_len boot_len (la_cons (sl_ 5) la_nil)) la_nil))))
    (lss_cons (ls_asg (le_ix hr (sl_ 5) (sl_ 3) (fun _ _ => rfl)) (lg_tup rfl (lgs_cons (gn_ 6 nd) (lgs_cons (gn_ 7 nd) lgs_nil))))
    (lss_cons (ls_if (lt_cmp (ol_eqA hr false) (sl_ 4) le_int (nomark _)) (lss_one (ls_asg (le_tup (la_cons (sl_ 6) (la_cons (le_not (sl_ 7)) la_nil))) (lg_sub hr (sl_ 5) (sl_ 3)))) lss_nil)
    (lss_cons (ls_if (lt_cmp (ol_eqA hr false) (sl_ 4) le_int (nomark _)) (lss_cons (ls_asg (le_tup (la_cons (le_call F__law_one_of hr (by decide) hgd (by rfl) (la_cons (sl_ 0) (la_cons (sl_ 1) la_nil))) (la_cons (le_call F__law_roll hr (by decide) hgd (by rfl) (la_cons (sl_ 0) (la_cons (le_bin ol_add (le_callB cl_len (by rfl) g_len boot_len (la_cons (sl_ 5) la_nil)) le_int) la_nil))) la_nil))) (lg_tup rfl (lgs_cons (gn_ 9 nd) (lgs_cons (gn_ 10 nd) lgs_nil))))
    (lss_cons (ls_setLc (i := 8) rfl nd rfl rfl (sw_true rfl rfl rfl rfl) (li_keys (sl_ 6)) (blkOk_by (own := [("one", 13)]) (by kernel_rfl)) (fun _ _ _ _ _ => (go_ 13 nd)) (fun _ _ _ _ _ => (lts_one (lt_cmp (ol_eqA hr true) (sl_ 13) (sl_ 9) (nomark _)))) (fun _ _ _ _ _ => (le_tup (la_cons (sl_ 13) (la_cons (le_ix hr (sl_ 6) (sl_ 13) (fun _ _ => rfl)) la_nil)))))
    (lss_one (ls_asg (le_tup (la_cons (le_callT (cl_dict rfl) (by rfl) g_dict boot_dict (la_cons (le_bin ol_add (sl_ 8) (le_if (lt_cmp ol_lt (sl_ 10) (le_callB cl_len (by rfl) g_len boot_len (la_cons (sl_ 5) la_nil)) (nomark _)) (le_lst (la_cons (le_tup (la_cons (sl_ 9) (la_cons (sl_ 10) la_nil))) la_nil)) (le_lst la_nil))) la_nil)) (la_cons (sl_ 7) la_nil))) (lg_sub hr (sl_ 5) (sl_ 3)))))) lss_nil)
    (lss_cons (ls_if (lt_w (lw_or (lt_cmp (ol_eqA hr false) (sl_ 4) le_int (nomark _)) (lw_or1 (lt_cmp (ol_eqA hr false) (sl_ 4) le_int (nomark _))))) (lss_cons (ls_expr (le_bm F.plainAttrs_list F.slot_list_append F.type_list_append ml_append (sl_ 5) (la_cons (le_tup (la_cons (le_callT (cl_dict rfl) (by rfl) g_dict boot_dict (la_cons (le_listItemsR rfl (sl_ 6) (by rfl) g_list boot_list) la_nil)) (la_cons (sl_ 7) la_nil))) la_nil)))
    (lss_one (ls_for PassesOwn.never rfl (li_lst (sl_ 5)) (lg_tup rfl (lgs_cons (gn_ 11 nd) (lgs_cons (gn_ 12 nd) lgs_nil)))
      (lss_one (ls_for PassesOwn.never rfl (li_lst (sl_ 1)) (gn_ 9 nd)
      (lss_one (ls_if (lt_w (lw_and (lt_cmp (ol_eqA hr false) (le_get2 hr (sl_ 11) (sl_ 9) (le_neg le_int) ⟨rfl, rfl, rfl, rfl⟩) (sl_ 3) (nomark _)) (lw_and1 (lt_cmp (ol_eqA hr false) (le_call F__law_roll hr (by decide) hgd (by rfl) (la_cons (sl_ 0) (la_cons le_int la_nil))) le_int (nomark _))))) (lss_one (ls_asg (le_bin ol_sub (le_callB cl_len (by rfl) g_len boot_len (la_cons (sl_ 5) la_nil)) le_int) (lg_sub hr (sl_ 11) (sl_ 9)))) lss_nil))))))) lss_nil)
    (lss_one (ls_ret (le_if (lt_cmp ol_lt (sl_ 4) le_int (nomark _)) (sl_ 5) (le_call F__law_part hr (by decide) hgd (by rfl) (la_cons (sl_ 0) (la_cons (sl_ 1) (la_cons le_int la_nil)))))))))))))

/-! _law_both -/
abbrev N__law_both : List Str := ["one", "other", "found", "known", "at", "name", "pair", "word", "left", "right", "goal"]
abbrev P__law_both : List Str := ["one", "other"]
def w__law_both : WS := (wSeq (wPar3 2 3 4 (wCons (wLst (wCons (wTup (wCons (wTup (wCons (wC (.int 0)) (wCons (wC (.int 0)) wNil))) (wCons (wTup wNil) wNil))) wNil)) (wCons (wD1T (wTup (wCons (wC (.int 0)) (wCons (wC (.int 0)) wNil))) (wC (.bl true))) (wCons (wC (.int 0)) wNil))))
    (wSeq (wWhile (wBl (wBin oLt (wSlot 4) (wCB cLen (wCons (wSlot 2) wNil)))) (wSeq (wAsg (wBin oIx (wSlot 2) (wSlot 4)) (wGT 2 (wG1 (wNm 6) (wG1 (wNm 7) wG0))))
    (wSeq (wPar 8 9 (wCons (wBin oIx (wBin oIx (wSlot 0) (wBin oIx (wSlot 6) (wC (.int 0)))) (wC (.int 0))) (wCons (wBin oIx (wBin oIx (wSlot 1) (wBin oIx (wSlot 6) (wC (.int 1)))) (wC (.int 0))) wNil)))
    (wSeq (wAsg (wBin oAdd (wSlot 4) (wC (.int 1))) (wNm 4))
    (wFor (wOver (wCB cSorted (wCons (wSlot 8) wNil)) fLst) (wNm 5)
      (wIfS (wBl (wBin (oIn false) (wSlot 5) (wSlot 9))) (wSeq (wAsg (wTup (wCons (wBin oIx (wSlot 8) (wSlot 5)) (wCons (wBin oIx (wSlot 9) (wSlot 5)) wNil))) (wNm 10))
    (wIfS (wBl (wBin (oIn true) (wSlot 10) (wSlot 3))) (wSeq (wAsg (wC (.bl true)) (wSub (wSlot 3) (wSlot 10)))
    (wExpr (wBM mAppend (wSlot 2) (wCons (wTup (wCons (wSlot 10) (wCons (wBin oAdd (wSlot 7) (wTup (wCons (wSlot 5) wNil))) wNil))) wNil)))) wNext)) wNext))))))
    (wRet (wSlot 2))))
theorem nd__law_both : N__law_both.Nodup := by decide +kernel
theorem l__law_both (hr : Room 0 (cxD P7 w K mg base N__law_both "_law_both" (defScope (top 56)) f cd A outer s H E).A) (hgd : (cxD P7 w K mg base N__law_both "_law_both" (defScope (top 56)) f cd A outer s H E).A.guards = some []) (g_len : mg "len" = none) (g_sorted : mg "sorted" = none) :
    LSs (cxD P7 w K mg base N__law_both "_law_both" (defScope (top 56)) f cd A outer s H E) (defBody (top 56)) (w__law_both) := by
  have nd := nd__law_both
  exact (lss_cons (ls_par3 (i := 2) (k := 3) (l := 4) rfl nd rfl rfl rfl (by decide) (by decide) (by decide) rfl rfl rfl (la_cons (le_lst (la_cons (le_tup (la_cons (le_tup (la_cons le_int (la_cons le_int la_nil))) (la_cons (le_tup la_nil) la_nil))) la_nil)) (la_cons (le_d1T hr (le_tup (la_cons le_int (la_cons le_int la_nil))) le_bl) (la_cons le_int la_nil))) rfl)
    (lss_cons (ls_while PassesOwn.never (lt_cmp ol_lt (sl_ 4) (le_callB cl_len (by rfl) g_len boot_len (la_cons (sl_ 2) la_nil)) (nomark _)) (lss_cons (ls_asg (le_ix hr (sl_ 2) (sl_ 4) (fun _ _ => rfl)) (lg_tup rfl (lgs_cons (gn_ 6 nd) (lgs_cons (gn_ 7 nd) lgs_nil))))
    (lss_cons (ls_par (i := 8) (k := 9) rfl nd rfl rfl (by decide) rfl rfl (la_cons (le_ix hr (le_ix hr (sl_ 0) (le_ix hr (sl_ 6) le_int (fun _ _ => rfl)) (fun _ _ => rfl)) le_int (fun _ _ => rfl)) (la_cons (le_ix hr (le_ix hr (sl_ 1) (le_ix hr (sl_ 6) le_int (fun _ _ => rfl)) (fun _ _ => rfl)) le_int (fun _ _ => rfl)) la_nil)) rfl)
    (lss_cons (ks_ 4 nd (le_bin ol_add (sl_ 4) le_int))
    (lss_one (ls_for PassesOwn.never rfl (li_lst (le_callB (cl_sorted rfl) (by rfl) g_sorted boot_sorted (la_cons (sl_ 8) la_nil))) (gn_ 5 nd)
      (lss_one (ls_if (lt_cmp (ol_inA hr false) (sl_ 5) (sl_ 9) (by with_unfolding_all rfl)) (lss_cons (ks_ 10 nd (le_tup (la_cons (le_ix hr (sl_ 8) (sl_ 5) (fun _ _ => rfl)) (la_cons (le_ix hr (sl_ 9) (sl_ 5) (fun _ _ => rfl)) la_nil))))
    (lss_one (ls_if (lt_cmp (ol_inA hr true) (sl_ 10) (sl_ 3) (by with_unfolding_all rfl)) (lss_cons (ls_asg le_bl (lg_sub hr (sl_ 3) (sl_ 10)))
    (lss_one (ls_expr (le_bm F.plainAttrs_list F.slot_list_append F.type_list_append ml_append (sl_ 2) (la_cons (le_tup (la_cons (sl_ 10) (la_cons (le_bin ol_add (sl_ 7) (le_tup (la_cons (sl_ 5) la_nil))) la_nil))) la_nil))))) lss_nil))) lss_nil))))))))
    (lss_one (ls_ret (sl_ 2)))))

/-! _law_after -/
abbrev N__law_after : List Str := ["plain", "word", "state", "name"]
abbrev P__law_after : List Str := ["plain", "word"]
def w__law_after : WS := (wSeq (wAsg (wC (.int 0)) (wNm 2))
    (wSeq (wFor (wOver (wSlot 1) fTup) (wNm 3)
      (wIfS (wBl (wBin (oIs true) (wSlot 2) (wC .non))) (wAsg (wGet2 (wBin oIx (wBin oIx (wSlot 0) (wSlot 2)) (wC (.int 0))) (wSlot 3) (wC .non)) (wNm 2)) wNext))
    (wRet (wSlot 2))))
theorem nd__law_after : N__law_after.Nodup := by decide +kernel
theorem l__law_after (hr : Room 0 (cxD P7 w K mg base N__law_after "_law_after" (defScope (top 57)) f cd A outer s H E).A) (hgd : (cxD P7 w K mg base N__law_after "_law_after" (defScope (top 57)) f cd A outer s H E).A.guards = some []) :
    LSs (cxD P7 w K mg base N__law_after "_law_after" (defScope (top 57)) f cd A outer s H E) (defBody (top 57)) (w__law_after) := by
  have nd := nd__law_after
  exact (lss_cons (ks_ 2 nd le_int)
    (lss_cons (ls_for PassesOwn.never rfl (li_tup (sl_ 1)) (gn_ 3 nd)
      (lss_one (ls_if (lt_cmp (ol_is true) (sl_ 2) le_non (nomark _)) (lss_one (ks_ 2 nd (le_get2 hr (le_ix hr (le_ix hr (sl_ 0) (sl_ 2) (fun _ _ => rfl)) le_int (fun _ _ => rfl)) (sl_ 3) le_non ⟨rfl, rfl, rfl, rfl⟩))) lss_nil)))
    (lss_one (ls_ret (sl_ 2)))))

/-! _law_words -/
abbrev N__law_words : List Str := ["names", "most", "turn", "found", "layer", "longer", "word", "name"]
abbrev P__law_words : List Str := ["names", "most"]
def w__law_words : WS := (wSeq (wPar 3 4 (wCons (wLst (wCons (wTup wNil) wNil)) (wCons (wLst (wCons (wTup wNil) wNil)) wNil)))
    (wSeq (wFor (wRange1 (wCons (wSlot 1) wNil)) (wNm 2)
      (wSeq (wAsg (wLst wNil) (wNm 5))
    (wSeq (wFor (wOver (wSlot 4) fLst) (wNm 6)
      (wExpr (wBM mExtend (wSlot 5) (wCons (wLc (wOver (wSlot 0) fLst) (wNm 7) wYes (wBin oAdd (wSlot 6) (wTup (wCons (wSlot 7) wNil))) [7]) wNil))))
    (wSeq (wAsg (wCB cList (wCons (wSlot 5) wNil)) (wNm 4))
    (wAsg (wBin oAdd (wSlot 3) (wSlot 4)) (wNm 3))))))
    (wRet (wSlot 3))))
theorem nd__law_words : N__law_words.Nodup := by decide +kernel
theorem l__law_words (hr : Room 0 (cxD P7 w K mg base N__law_words "_law_words" (defScope (top 58)) f cd A outer s H E).A) (hgd : (cxD P7 w K mg base N__law_words "_law_words" (defScope (top 58)) f cd A outer s H E).A.guards = some []) (g_range : mg "range" = none) (g_list : mg "list" = none) :
    LSs (cxD P7 w K mg base N__law_words "_law_words" (defScope (top 58)) f cd A outer s H E) (defBody (top 58)) (w__law_words) := by
  have nd := nd__law_words
  exact (lss_cons (ls_par (i := 3) (k := 4) rfl nd rfl rfl (by decide) rfl rfl (la_cons (le_lst (la_cons (le_tup la_nil) la_nil)) (la_cons (le_lst (la_cons (le_tup la_nil) la_nil)) la_nil)) rfl)
    (lss_cons (ls_for PassesOwn.never rfl (li_range1 (by rfl) g_range (la_cons (sl_ 1) la_nil)) (gn_ 2 nd)
      (lss_cons (ks_ 5 nd (le_lst la_nil))
    (lss_cons (ls_for PassesOwn.never rfl (li_lst (sl_ 4)) (gn_ 6 nd)
      (lss_one (ls_expr (le_bm F.plainAttrs_list F.slot_list_extend F.type_list_extend ml_extend (sl_ 5) (la_cons (le_lc rfl nd (li_lst (sl_ 0)) (blkOk_by (own := [("name", 7)]) (by kernel_rfl)) (fun _ _ _ _ _ => (go_ 7 nd)) (fun _ _ _ _ _ => lts_nil) (fun _ _ _ _ _ => (le_bin ol_add (sl_ 6) (le_tup (la_cons (sl_ 7) la_nil))))) la_nil)))))
    (lss_cons (ks_ 4 nd (le_callT (cl_list rfl) (by rfl) g_list boot_list (la_cons (sl_ 5) la_nil)))
    (lss_one (ks_ 3 nd (le_bin ol_add (sl_ 3) (sl_ 4))))))))
    (lss_one (ls_ret (sl_ 3)))))

/-! _law_first -/
abbrev N__law_first : List Str := ["one", "other", "pair", "word"]
abbrev P__law_first : List Str := ["one", "other"]
def w__law_first (s__law_both s__law_offer : SpD) : WS := (wSeq (wFor (wOver (wCall s__law_both (wCons (wSlot 0) (wCons (wSlot 1) wNil))) fLst) (wGT 2 (wG1 (wNm 2) (wG1 (wNm 3) wG0)))
      (wIfS (wBl (wBin (oEq true) (wCall s__law_offer (wCons (wSlot 0) (wCons (wBin oIx (wSlot 2) (wC (.int 0))) wNil))) (wCall s__law_offer (wCons (wSlot 1) (wCons (wBin oIx (wSlot 2) (wC (.int 1))) wNil))))) (wRet (wSlot 3)) wNext))
    (wRet (wC .non)))
theorem nd__law_first : N__law_first.Nodup := by decide +kernel
theorem l__law_first {s__law_both s__law_offer : SpD} (hr : Room 1 (cxD P7 w K mg base N__law_first "_law_first" (defScope (top 59)) f cd A outer s H E).A) (hgd : (cxD P7 w K mg base N__law_first "_law_first" (defScope (top 59)) f cd A outer s H E).A.guards = some []) (F__law_both : FnD P7 w K mg base 1 "_law_both" 2 s__law_both) (F__law_offer : FnD P7 w K mg base 1 "_law_offer" 2 s__law_offer) :
    LSs (cxD P7 w K mg base N__law_first "_law_first" (defScope (top 59)) f cd A outer s H E) (defBody (top 59)) (w__law_first s__law_both s__law_offer) := by
  have nd := nd__law_first
  exact (lss_cons (ls_for PassesOwn.never rfl (li_lst (le_call F__law_both hr (by decide) hgd (by rfl) (la_cons (sl_ 0) (la_cons (sl_ 1) la_nil)))) (lg_tup rfl (lgs_cons (gn_ 2 nd) (lgs_cons (gn_ 3 nd) lgs_nil)))
      (lss_one (ls_if (lt_cmp (ol_eqA hr true) (le_call F__law_offer hr (by decide) hgd (by rfl) (la_cons (sl_ 0) (la_cons (le_ix hr (sl_ 2) le_int (fun _ _ => rfl)) la_nil))) (le_call F__law_offer hr (by decide) hgd (by rfl) (la_cons (sl_ 1) (la_cons (le_ix hr (sl_ 2) le_int (fun _ _ => rfl)) la_nil))) (nomark _)) (lss_one (ls_ret (sl_ 3))) lss_nil)))
    (lss_one (ls_ret le_non)))

/-! _law_due -/
abbrev N__law_due : List Str := ["one", "other", "word", "left", "right"]
abbrev P__law_due : List Str := ["one", "other", "word"]
def w__law_due (s__law_after s__law_offer : SpD) : WS := (wSeq (wPar 3 4 (wCons (wCall s__law_after (wCons (wSlot 0) (wCons (wSlot 2) wNil))) (wCons (wCall s__law_after (wCons (wSlot 1) (wCons (wSlot 2) wNil))) wNil)))
    (wSeq (wIfS (wOr (wBl (wBin (oIs false) (wSlot 3) (wC .non))) (wBl (wBin (oIs false) (wSlot 4) (wC .non)))) (wRet (wC (.bl false))) wNext)
    (wRet (wBin (oEq true) (wCall s__law_offer (wCons (wSlot 0) (wCons (wSlot 3) wNil))) (wCall s__law_offer (wCons (wSlot 1) (wCons (wSlot 4) wNil)))))))
theorem nd__law_due : N__law_due.Nodup := by decide +kernel
theorem l__law_due {s__law_after s__law_offer : SpD} (hr : Room 1 (cxD P7 w K mg base N__law_due "_law_due" (defScope (top 60)) f cd A outer s H E).A) (hgd : (cxD P7 w K mg base N__law_due "_law_due" (defScope (top 60)) f cd A outer s H E).A.guards = some []) (F__law_after : FnD P7 w K mg base 1 "_law_after" 2 s__law_after) (F__law_offer : FnD P7 w K mg base 1 "_law_offer" 2 s__law_offer) :
    LSs (cxD P7 w K mg base N__law_due "_law_due" (defScope (top 60)) f cd A outer s H E) (defBody (top 60)) (w__law_due s__law_after s__law_offer) := by
  have nd := nd__law_due
  exact (lss_cons (ls_par (i := 3) (k := 4) rfl nd rfl rfl (by decide) rfl rfl (la_cons (le_call F__law_after hr (by decide) hgd (by rfl) (la_cons (sl_ 0) (la_cons (sl_ 2) la_nil))) (la_cons (le_call F__law_after hr (by decide) hgd (by rfl) (la_cons (sl_ 1) (la_cons (sl_ 2) la_nil))) la_nil)) rfl)
    (lss_cons (ls_if (lt_w (lw_or (lt_cmp (ol_is false) (sl_ 3) le_non (nomark _)) (lw_or1 (lt_cmp (ol_is false) (sl_ 4) le_non (nomark _))))) (lss_one (ls_ret le_bl)) lss_nil)
    (lss_one (ls_ret (le_cmp (ol_eqA hr true) (le_call F__law_offer hr (by decide) hgd (by rfl) (la_cons (sl_ 0) (la_cons (sl_ 3) la_nil))) (le_call F__law_offer hr (by decide) hgd (by rfl) (la_cons (sl_ 1) (la_cons (sl_ 4) la_nil))) (nomark _))))))

/-! _law_right -/
abbrev N__law_right : List Str := ["dice", "names", "one", "other", "word", "some", "one_word", "value", "left", "right"]
abbrev P__law_right : List Str := ["dice"]
def w__law_right (s__law_actions s__law_roll s__law_part s__law_near_part s__law_made_part s__law_first s_difference s_are_alike s__law_words s_is_difference s__law_due : SpD) : WS := (wSeq (wAsg (wCall s__law_actions (wCons (wSlot 0) (wCons (wBin oAdd (wC (.int 1)) (wCall s__law_roll (wCons (wSlot 0) (wCons (wC (.int 3)) wNil)))) wNil))) (wNm 1))
    (wSeq (wAsg (wCall s__law_part (wCons (wSlot 0) (wCons (wSlot 1) (wCons (wC (.int 6)) wNil)))) (wNm 2))
    (wSeq (wAsg (wCall s__law_near_part (wCons (wSlot 0) (wCons (wSlot 1) (wCons (wSlot 2) wNil)))) (wNm 3))
    (wSeq (wPar 8 9 (wCons (wCall s__law_made_part (wCons (wSlot 2) wNil)) (wCons (wCall s__law_made_part (wCons (wSlot 3) wNil)) wNil)))
    (wSeq (wAsg (wCall s__law_first (wCons (wSlot 2) (wCons (wSlot 3) wNil))) (wNm 4))
    (wSeq (wIfS (wBl (wBin (oEq true) (wCB cRepr (wCons (wLst (wCons (wCall s_difference (wCons (wSlot 8) (wCons (wSlot 9) wNil))) (wCons (wCall s_difference (wCons (wSlot 9) (wCons (wSlot 8) wNil))) wNil))) wNil)) (wCB cRepr (wCons (wLst (wCons (wSlot 4) (wCons (wSlot 4) wNil))) wNil)))) (wRet (wC (.bl false))) wNext)
    (wSeq (wIfS (wBl (wBin (oEq true) (wCB cRepr (wCons (wLst (wCons (wCall s_are_alike (wCons (wSlot 8) (wCons (wSlot 9) wNil))) (wCons (wCall s_are_alike (wCons (wSlot 9) (wCons (wSlot 8) wNil))) wNil))) wNil)) (wCB cRepr (wCons (wLst (wCons (wBin (oIs false) (wSlot 4) (wC .non)) (wCons (wBin (oIs false) (wSlot 4) (wC .non)) wNil))) wNil)))) (wRet (wC (.bl false))) wNext)
    (wSeq (wIfS (wOr (wBl (wBin (oIs true) (wCall s_difference (wCons (wSlot 8) (wCons (wSlot 8) wNil))) (wC .non))) (wBl (wBin (oIs true) (wCall s_are_alike (wCons (wSlot 9) (wCons (wSlot 9) wNil))) (wC (.bl true))))) (wRet (wC (.bl false))) wNext)
    (wSeq (wAsg (wCall s__law_words (wCons (wSlot 1) (wCons (wC (.int 3)) wNil))) (wNm 5))
    (wSeq (wIfS (wBl (wBin (oIs true) (wSlot 4) (wC .non))) (wAsg (wBin oAdd (wSlot 5) (wLst (wCons (wSlot 4) (wCons (wBin oAdd (wSlot 4) (wTup (wCons (wBin oIx (wSlot 1) (wC (.int 0))) wNil))) (wCons (wSlice (wSlot 4) wNoPart (wPart (wNegV (wC (.int 1))))) (wCons (wBin oAdd (wSlot 4) (wSlot 4)) (wCons (wBin oAdd (wSlot 4) (wTup (wCons (wBin oIx (wSlot 1) (wNegV (wC (.int 1)))) (wCons (wBin oIx (wSlot 1) (wC (.int 0))) wNil)))) wNil))))))) (wNm 5)) wNext)
    (wSeq (wFor (wOver (wSlot 5) fLst) (wNm 6)
      (wIfS (wBl (wBin (oEq true) (wCB cRepr (wCons (wCall s_is_difference (wCons (wSlot 8) (wCons (wSlot 9) (wCons (wSlot 6) wNil)))) wNil)) (wCB cRepr (wCons (wCall s__law_due (wCons (wSlot 2) (wCons (wSlot 3) (wCons (wSlot 6) wNil)))) wNil)))) (wRet (wC (.bl false))) wNext))
    (wSeq (wFor (wOver (wLst (wCons (wC .non) (wCons (wC (.int 0)) (wCons (wC (.str "")) (wCons (wBin oIx (wSlot 1) (wC (.int 0))) (wCons (wLst wNil) (wCons (wCB cList (wCons (wOrV (wSlot 4) (wTup wNil)) wNil)) (wCons (wTup (wCons (wC (.int 1)) wNil)) (wCons (wTup (wCons (wC (.str "A")) wNil)) (wCons (wTup (wCons (wTup wNil) wNil)) (wCons (wDNew false) (wCons (wC (.bl true)) (wCons (wTup (wCons (wC .non) wNil)) (wCons (wSlot 8) wNil)))))))))))))) fLst) (wNm 7)
      (wIfS (wBl (wBin (oIs true) (wCall s_is_difference (wCons (wSlot 8) (wCons (wSlot 9) (wCons (wSlot 7) wNil)))) (wC (.bl false)))) (wRet (wC (.bl false))) wNext))
    (wRet (wC (.bl true)))))))))))))))
theorem nd__law_right : N__law_right.Nodup := by decide +kernel
theorem l__law_right {s__law_actions s__law_roll s__law_part s__law_near_part s__law_made_part s__law_first s_difference s_are_alike s__law_words s_is_difference s__law_due : SpD} (hr : Room 7 (cxD P7 w K mg base N__law_right "_law_right" (defScope (top 61)) f cd A outer s H E).A) (hgd : (cxD P7 w K mg base N__law_right "_law_right" (defScope (top 61)) f cd A outer s H E).A.guards = some []) (g_repr : mg "repr" = none) (g_list : mg "list" = none) (F__law_actions : FnD P7 w K mg base 3 "_law_actions" 2 s__law_actions) (F__law_roll : FnD P7 w K mg base 1 "_law_roll" 2 s__law_roll) (F__law_part : FnD P7 w K mg base 2 "_law_part" 3 s__law_part) (F__law_near_part : FnD P7 w K mg base 3 "_law_near_part" 3 s__law_near_part) (F__law_made_part : FnD P7 w K mg base 7 "_law_made_part" 1 s__law_made_part) (F__law_first : FnD P7 w K mg base 2 "_law_first" 2 s__law_first) (F_difference : FnD P7 w K mg base 3 "difference" 2 s_difference) (F_are_alike : FnD P7 w K mg base 4 "are_alike" 2 s_are_alike) (F__law_words : FnD P7 w K mg base 1 "_law_words" 2 s__law_words) (F_is_difference : FnD P7 w K mg base 5 "is_difference" 3 s_is_difference) (F__law_due : FnD P7 w K mg base 2 "_law_due" 3 s__law_due) :
    LSs (cxD P7 w K mg base N__law_right "_law_right" (defScope (top 61)) f cd A outer s H E) (defBody (top 61)) (w__law_right s__law_actions s__law_roll s__law_part s__law_near_part s__law_made_part s__law_first s_difference s_are_alike s__law_words s_is_difference s__law_due) := by
  have nd := nd__law_right
  exact (lss_cons (ks_ 1 nd (le_call F__law_actions hr (by decide) hgd (by rfl) (la_cons (sl_ 0) (la_cons (le_bin ol_add le_int (le_call F__law_roll hr (by decide) hgd (by rfl) (la_cons (sl_ 0) (la_cons le_int la_nil)))) la_nil))))
    (lss_cons (ks_ 2 nd (le_call F__law_part hr (by decide) hgd (by rfl) (la_cons (sl_ 0) (la_cons (sl_ 1) (la_cons le_int la_nil)))))
    (lss_cons (ks_ 3 nd (le_call F__law_near_part hr (by decide) hgd (by rfl) (la_cons (sl_ 0) (la_cons (sl_ 1) (la_cons (sl_ 2) la_nil)))))
    (lss_cons (ls_par (i := 8) (k := 9) rfl nd rfl rfl (by decide) rfl rfl (la_cons (le_call F__law_made_part hr (by decide) hgd (by rfl) (la_cons (sl_ 2) la_nil)) (la_cons (le_call F__law_made_part hr (by decide) hgd (by rfl) (la_cons (sl_ 3) la_nil)) la_nil)) rfl)
    (lss_cons (ks_ 4 nd (le_call F__law_first hr (by decide) hgd (by rfl) (la_cons (sl_ 2) (la_cons (sl_ 3) la_nil))))
    (lss_cons (ls_if (lt_cmp (ol_eqA hr true) (le_callB (cl_repr hr hgd) (by rfl) g_repr boot_repr (la_cons (le_lst (la_cons (le_call F_difference hr (by decide) hgd (by rfl) (la_cons (sl_ 8) (la_cons (sl_ 9) la_nil))) (la_cons (le_call F_difference hr (by decide) hgd (by rfl) (la_cons (sl_ 9) (la_cons (sl_ 8) la_nil))) la_nil))) la_nil)) (le_callB (cl_repr hr hgd) (by rfl) g_repr boot_repr (la_cons (le_lst (la_cons (sl_ 4) (la_cons (sl_ 4) la_nil))) la_nil)) (nomark _)) (lss_one (ls_ret le_bl)) lss_nil)
    (lss_cons (ls_if (lt_cmp (ol_eqA hr true) (le_callB (cl_repr hr hgd) (by rfl) g_repr boot_repr (la_cons (le_lst (la_cons (le_call F_are_alike hr (by decide) hgd (by rfl) (la_cons (sl_ 8) (la_cons (sl_ 9) la_nil))) (la_cons (le_call F_are_alike hr (by decide) hgd (by rfl) (la_cons (sl_ 9) (la_cons (sl_ 8) la_nil))) la_nil))) la_nil)) (le_callB (cl_repr hr hgd) (by rfl) g_repr boot_repr (la_cons (le_lst (la_cons (le_cmp (ol_is false) (sl_ 4) le_non (nomark _)) (la_cons (le_cmp (ol_is false) (sl_ 4) le_non (nomark _)) la_nil))) la_nil)) (nomark _)) (lss_one (ls_ret le_bl)) lss_nil)
    (lss_cons (ls_if (lt_w (lw_or (lt_cmp (ol_is true) (le_call F_difference hr (by decide) hgd (by rfl) (la_cons (sl_ 8) (la_cons (sl_ 8) la_nil))) le_non (nomark _)) (lw_or1 (lt_cmp (ol_is true) (le_call F_are_alike hr (by decide) hgd (by rfl) (la_cons (sl_ 9) (la_cons (sl_ 9) la_nil))) le_bl (nomark _))))) (lss_one (ls_ret le_bl)) lss_nil)
    (lss_cons (ks_ 5 nd (le_call F__law_words hr (by decide) hgd (by rfl) (la_cons (sl_ 1) (la_cons le_int la_nil))))
    (lss_cons (ls_if (lt_cmp (ol_is true) (sl_ 4) le_non (nomark _)) (lss_one (ks_ 5 nd (le_bin ol_add (sl_ 5) (le_lst (la_cons (sl_ 4) (la_cons (le_bin ol_add (sl_ 4) (le_tup (la_cons (le_ix hr (sl_ 1) le_int (fun _ _ => rfl)) la_nil))) (la_cons (le_slice (sl_ 4) lo_none (lo_some (le_neg le_int))) (la_cons (le_bin ol_add (sl_ 4) (sl_ 4)) (la_cons (le_bin ol_add (sl_ 4) (le_tup (la_cons (le_ix hr (sl_ 1) (le_neg le_int) (fun _ _ => rfl)) (la_cons (le_ix hr (sl_ 1) le_int (fun _ _ => rfl)) la_nil)))) la_nil))))))))) lss_nil)
    (lss_cons (ls_for PassesOwn.never rfl (li_lst (sl_ 5)) (gn_ 6 nd)
      (lss_one (ls_if (lt_cmp (ol_eqA hr true) (le_callB (cl_repr hr hgd) (by rfl) g_repr boot_repr (la_cons (le_call F_is_difference hr (by decide) hgd (by rfl) (la_cons (sl_ 8) (la_cons (sl_ 9) (la_cons (sl_ 6) la_nil)))) la_nil)) (le_callB (cl_repr hr hgd) (by rfl) g_repr boot_repr (la_cons (le_call F__law_due hr (by decide) hgd (by rfl) (la_cons (sl_ 2) (la_cons (sl_ 3) (la_cons (sl_ 6) la_nil)))) la_nil)) (nomark _)) (lss_one (ls_ret le_bl)) lss_nil)))
    (lss_cons (ls_for PassesOwn.never rfl (li_lst (le_lst (la_cons le_non (la_cons le_int (la_cons le_str (la_cons (le_ix hr (sl_ 1) le_int (fun _ _ => rfl)) (la_cons (le_lst la_nil) (la_cons (le_callT (cl_list rfl) (by rfl) g_list boot_list (la_cons (le_or (sl_ 4) (le_one (le_tup la_nil))) la_nil)) (la_cons (le_tup (la_cons le_int la_nil)) (la_cons (le_tup (la_cons le_str la_nil)) (la_cons (le_tup (la_cons (le_tup la_nil) la_nil)) (la_cons le_dnewK (la_cons le_bl (la_cons (le_tup (la_cons le_non la_nil)) (la_cons (sl_ 8) la_nil))))))))))))))) (gn_ 7 nd)
      (lss_one (ls_if (lt_cmp (ol_is true) (le_call F_is_difference hr (by decide) hgd (by rfl) (la_cons (sl_ 8) (la_cons (sl_ 9) (la_cons (sl_ 7) la_nil)))) le_bl (nomark _)) (lss_one (ls_ret le_bl)) lss_nil)))
    (lss_one (ls_ret le_bl))))))))))))))

/-! law -/
abbrev N_law : List Str := ["script", "at", "told", "same", "dice", "turn", "quick", "slow", "four", "five", "one", "other"]
abbrev P_law : List Str := ["script"]
def w_law (s__law_dice s__law_right s_is_difference s_difference s_are_alike s_Part : SpD) : WS := (wSeq (wFor (wRange1 (wCons (wCB cMax (wCons (wC (.int 1)) (wCons (wCB cMin (wCons (wC (.int 10)) (wCons (wCB cLen (wCons (wSlot 0) wNil)) wNil))) wNil))) wNil)) (wNm 1)
      (wSeq (wAsg (wCall s__law_dice (wCons (wSlot 0) (wCons (wSlot 1) wNil))) (wNm 4))
    (wFor (wRange1 (wCons (wC (.int 4)) wNil)) (wNm 5)
      (wIfS (wNot (wTru (wCall s__law_right (wCons (wSlot 4) wNil)))) (wRet (wC (.bl false))) wNext))))
    (wSeq (wPar 6 7 (wCons (wMake "Part" s_Part (wCons (wTup (wCons (wD1 (wC (.str "put")) (wC (.int 1))) (wCons (wD1 (wC (.str "get")) (wC (.int 0))) wNil))) (wCons (wTup (wCons (wC (.int 0)) wNil)) wNil))) (wCons (wMake "Part" s_Part (wCons (wTup (wCons (wD1 (wC (.str "put")) (wC (.int 1))) (wCons (wD1 (wC (.str "get")) (wC (.int 2))) (wCons (wD1 (wC (.str "put")) (wC (.int 1))) wNil)))) (wCons (wTup (wCons (wC (.int 0)) wNil)) wNil))) wNil)))
    (wSeq (wAsg (wLst (wCons (wCall s_are_alike (wCons (wSlot 6) (wCons (wSlot 7) wNil))) (wCons (wCall s_difference (wCons (wSlot 6) (wCons (wSlot 7) wNil))) (wCons (wCall s_is_difference (wCons (wSlot 6) (wCons (wSlot 7) (wCons (wTup (wCons (wC (.str "put")) (wCons (wC (.str "get")) wNil))) wNil)))) wNil)))) (wNm 2))
    (wSeq (wIfS (wBl (wBin (oEq true) (wSlot 2) (wLst (wCons (wC (.bl false)) (wCons (wTup (wCons (wC (.str "put")) (wCons (wC (.str "get")) wNil))) (wCons (wC (.bl true)) wNil)))))) (wRet (wC (.bl false))) wNext)
    (wSeq (wPar 8 9 (wCons (wLst wNil) (wCons (wLst wNil) wNil)))
    (wSeq (wFor (wRange1 (wCons (wC (.int 5)) wNil)) (wNm 1)
      (wSeq (wAsg (wBin oAdd (wSlot 8) (wBin oMul (wLst (wCons (wD1 (wC (.str "a")) (wBin oMod (wCB cInt (wCons (wBin oAdd (wSlot 1) (wC (.int 1))) wNil)) (wC (.int 4)))) wNil)) (wCB cInt (wCons (wBin oLt (wSlot 1) (wC (.int 4))) wNil)))) (wNm 8))
    (wExpr (wBM mAppend (wSlot 9) (wCons (wD1 (wC (.str "a")) (wBin oMod (wCB cInt (wCons (wBin oAdd (wSlot 1) (wC (.int 1))) wNil)) (wC (.int 5)))) wNil)))))
    (wSeq (wPar 10 11 (wCons (wMake "Part" s_Part (wCons (wCB cTuple (wCons (wSlot 8) wNil)) (wCons (wTup (wCons (wC (.int 3)) wNil)) wNil))) (wCons (wMake "Part" s_Part (wCons (wCB cTuple (wCons (wSlot 9) wNil)) (wCons (wTup (wCons (wC (.int 3)) wNil)) wNil))) wNil)))
    (wSeq (wAsg (wLst (wCons (wCall s_difference (wCons (wSlot 10) (wCons (wSlot 11) wNil))) (wCons (wCall s_is_difference (wCons (wSlot 10) (wCons (wSlot 11) (wCons (wBin oMul (wTup (wCons (wC (.str "a")) wNil)) (wC (.int 8))) wNil)))) (wCons (wCall s_is_difference (wCons (wSlot 10) (wCons (wSlot 11) (wCons (wBin oMul (wTup (wCons (wC (.str "a")) wNil)) (wC (.int 3))) wNil)))) wNil)))) (wNm 2))
    (wSeq (wAsg (wMake "Part" s_Part (wCons (wCB cTuple (wCons (wBin oAdd (wSlot 8) (wLst (wCons (wD1 (wC (.str "a")) (wC (.int 4))) wNil))) wNil)) (wCons (wTup (wCons (wC (.int 3)) wNil)) wNil))) (wNm 3))
    (wRet (wAndV (wBin (oEq false) (wSlot 2) (wLst (wCons (wBin oMul (wTup (wCons (wC (.str "a")) wNil)) (wC (.int 7))) (wCons (wC (.bl true)) (wCons (wC (.bl false)) wNil))))) (wBin (oIs false) (wCall s_difference (wCons (wSlot 10) (wCons (wSlot 3) wNil))) (wC .non)))))))))))))
theorem nd_law : N_law.Nodup := by decide +kernel
theorem l_law {s__law_dice s__law_right s_is_difference s_difference s_are_alike s_Part : SpD} (hr : Room 8 (cxD P7 w K mg base N_law "law" (defScope (top 62)) f cd A outer s H E).A) (hgd : (cxD P7 w K mg base N_law "law" (defScope (top 62)) f cd A outer s H E).A.guards = some []) (g_range : mg "range" = none) (g_max : mg "max" = none) (g_min : mg "min" = none) (g_len : mg "len" = none) (g_int : mg "int" = none) (g_tuple : mg "tuple" = none) (F__law_dice : FnD P7 w K mg base 1 "_law_dice" 2 s__law_dice) (F__law_right : FnD P7 w K mg base 8 "_law_right" 1 s__law_right) (F_is_difference : FnD P7 w K mg base 5 "is_difference" 3 s_is_difference) (F_difference : FnD P7 w K mg base 3 "difference" 2 s_difference) (F_are_alike : FnD P7 w K mg base 4 "are_alike" 2 s_are_alike) (F_Part : MkD P7 w K mg base 5 "Part" 3 s_Part) :
    LSs (cxD P7 w K mg base N_law "law" (defScope (top 62)) f cd A outer s H E) (defBody (top 62)) (w_law s__law_dice s__law_right s_is_difference s_difference s_are_alike s_Part) := by
  have nd := nd_law
  exact (lss_cons (ls_for PassesOwn.never rfl (li_range1 (by rfl) g_range (la_cons (le_callB (cl_max rfl) (by rfl) g_max boot_max (la_cons le_int (la_cons (le_callB (cl_min rfl) (by rfl) g_min boot_min (la_cons le_int (la_cons (le_callB cl_len (by rfl) g_len boot_len (la_cons (sl_ 0) la_nil)) la_nil))) la_nil))) la_nil)) (gn_ 1 nd)
      (lss_cons (ks_ 4 nd (le_call F__law_dice hr (by decide) hgd (by rfl) (la_cons (sl_ 0) (la_cons (sl_ 1) la_nil))))
    (lss_one (ls_for PassesOwn.never rfl (li_range1 (by rfl) g_range (la_cons le_int la_nil)) (gn_ 5 nd)
      (lss_one (ls_if (lt_not (lt_val (le_call F__law_right hr (by decide) hgd (by rfl) (la_cons (sl_ 4) la_nil)) (by intro _; rfl))) (lss_one (ls_ret le_bl)) lss_nil))))))
    (lss_cons (ls_par (i := 6) (k := 7) rfl nd rfl rfl (by decide) rfl rfl (la_cons (le_make F_Part hr (by decide) hgd (by rfl) (la_cons (le_tup (la_cons (le_d1 le_str le_int) (la_cons (le_d1 le_str le_int) la_nil))) (la_cons (le_tup (la_cons le_int la_nil)) la_nil))) (la_cons (le_make F_Part hr (by decide) hgd (by rfl) (la_cons (le_tup (la_cons (le_d1 le_str le_int) (la_cons (le_d1 le_str le_int) (la_cons (le_d1 le_str le_int) la_nil)))) (la_cons (le_tup (la_cons le_int la_nil)) la_nil))) la_nil)) rfl)
    (lss_cons (ks_ 2 nd (le_lst (la_cons (le_call F_are_alike hr (by decide) hgd (by rfl) (la_cons (sl_ 6) (la_cons (sl_ 7) la_nil))) (la_cons (le_call F_difference hr (by decide) hgd (by rfl) (la_cons (sl_ 6) (la_cons (sl_ 7) la_nil))) (la_cons (le_call F_is_difference hr (by decide) hgd (by rfl) (la_cons (sl_ 6) (la_cons (sl_ 7) (la_cons (le_tup (la_cons le_str (la_cons le_str la_nil))) la_nil)))) la_nil)))))
    (lss_cons (ls_if (lt_cmp (ol_eqA hr true) (sl_ 2) (le_lst (la_cons le_bl (la_cons (le_tup (la_cons le_str (la_cons le_str la_nil))) (la_cons le_bl la_nil)))) (nomark _)) (lss_one (ls_ret le_bl)) lss_nil)
    (lss_cons (ls_par (i := 8) (k := 9) rfl nd rfl rfl (by decide) rfl rfl (la_cons (le_lst la_nil) (la_cons (le_lst la_nil) la_nil)) rfl)
    (lss_cons (ls_for PassesOwn.never rfl (li_range1 (by rfl) g_range (la_cons le_int la_nil)) (gn_ 1 nd)
      (lss_cons (ks_ 8 nd (le_bin ol_add (sl_ 8) (le_bin ol_mul (le_lst (la_cons (le_d1 le_str (le_bin ol_mod (le_callT cl_int (by rfl) g_int boot_int (la_cons (le_bin ol_add (sl_ 1) le_int) la_nil)) le_int)) la_nil)) (le_callT cl_int (by rfl) g_int boot_int (la_cons (le_cmp ol_lt (sl_ 1) le_int (nomark _)) la_nil)))))
    (lss_one (ls_expr (le_bm F.plainAttrs_list F.slot_list_append F.type_list_append ml_append (sl_ 9) (la_cons (le_d1 le_str (le_bin ol_mod (le_callT cl_int (by rfl) g_int boot_int (la_cons (le_bin ol_add (sl_ 1) le_int) la_nil)) le_int)) la_nil))))))
    (lss_cons (ls_par (i := 10) (k := 11) rfl nd rfl rfl (by decide) rfl rfl (la_cons (le_make F_Part hr (by decide) hgd (by rfl) (la_cons (le_callT cl_tuple (by rfl) g_tuple boot_tuple (la_cons (sl_ 8) la_nil)) (la_cons (le_tup (la_cons le_int la_nil)) la_nil))) (la_cons (le_make F_Part hr (by decide) hgd (by rfl) (la_cons (le_callT cl_tuple (by rfl) g_tuple boot_tuple (la_cons (sl_ 9) la_nil)) (la_cons (le_tup (la_cons le_int la_nil)) la_nil))) la_nil)) rfl)
    (lss_cons (ks_ 2 nd (le_lst (la_cons (le_call F_difference hr (by decide) hgd (by rfl) (la_cons (sl_ 10) (la_cons (sl_ 11) la_nil))) (la_cons (le_call F_is_difference hr (by decide) hgd (by rfl) (la_cons (sl_ 10) (la_cons (sl_ 11) (la_cons (le_bin ol_mul (le_tup (la_cons le_str la_nil)) le_int) la_nil)))) (la_cons (le_call F_is_difference hr (by decide) hgd (by rfl) (la_cons (sl_ 10) (la_cons (sl_ 11) (la_cons (le_bin ol_mul (le_tup (la_cons le_str la_nil)) le_int) la_nil)))) la_nil)))))
    (lss_cons (ks_ 3 nd (le_make F_Part hr (by decide) hgd (by rfl) (la_cons (le_callT cl_tuple (by rfl) g_tuple boot_tuple (la_cons (le_bin ol_add (sl_ 8) (le_lst (la_cons (le_d1 le_str le_int) la_nil))) la_nil)) (la_cons (le_tup (la_cons le_int la_nil)) la_nil))))
    (lss_one (ls_ret (le_and (le_cmp (ol_eqA hr false) (sl_ 2) (le_lst (la_cons (le_bin ol_mul (le_tup (la_cons le_str la_nil)) le_int) (la_cons le_bl (la_cons le_bl la_nil)))) (nomark _)) (le_one (le_cmp (ol_is false) (le_call F_difference hr (by decide) hgd (by rfl) (la_cons (sl_ 10) (la_cons (sl_ 3) la_nil))) le_non (nomark _)))))))))))))))

end
end K07

set_option Elab.async false
set_option linter.all false
set_option maxRecDepth 100000
set_option maxHeartbeats 2000000
/-! K07V: the readings as abbrevs (printed by k07v.py). -/
namespace K07V
open PySem PySem.Spec
open PyProof.Rows hiding St
open L2
open MP hiding wSlot wC wBin wNil wCons wTup wLst wCall oAdd oInt2 oInt0 oSub oMod oFdiv oOrd oLt oLe oGt oGe oIn oIs oEq oIx oSl wNoPart wPart wSlice wFld wTru wBl wChain wAnd wOr wNot wAndV wOrV wNotV wNegV wIf wMeth wMake wNext wSeq wExpr wRet wIfS wNever wNm wG0 wG1 wGT oSet wSub wAsg wPar wPar3 wAug wFldS wWhile wLk wOver fTup fLst fStr wRange1 wRange2 wEnum wZip fDct wOverD wFor wYes wLc wLc2 wDc wCB cLen cAll cAny cSorted cList cTuple cAbs cMax cMin cInt cDict oMul oPow cRepr wIsi wListItems wGet1 wGet2 wBM wBM0 mAppend mExtend mPopAt wStar wDNew wD1 wDc2 wD1T wSortedSet wListItemsR
open MV
open K07 (tabStr tabInt tabBool tabTuple tabDict tabRows tabPart)

abbrev v_is_name : WS := (wSeq (wIfS (wOr (wNot (wTru (wIsi tabStr (wSlot 0)))) (wNot (wBl (wChain oLe oLe (wC (.int 1)) (wCB cLen (wCons (wSlot 0) wNil)) (wC (.int 8)))))) (wRet (wC (.bl false))) wNext)
    (wRet (wCB cAll (wCons (wLc (wOver (wSlot 0) fStr) (wNm 1) wYes (wChain oLe oLe (wC (.str "a")) (wSlot 1) (wC (.str "z"))) [1]) wNil))))
theorem e_is_name : K07.w_is_name = v_is_name := by kernel_rfl
abbrev v_is_ascending : WS := (wRet (wCB cAll (wCons (wLc (wZip (wCons (wSlot 0) (wCons (wSlice (wSlot 0) (wPart (wC (.int 1))) wNoPart) wNil))) (wGT 2 (wG1 (wNm 1) (wG1 (wNm 2) wG0))) wYes (wBin oLt (wSlot 1) (wSlot 2)) [1, 2]) wNil)))
theorem e_is_ascending : K07.w_is_ascending = v_is_ascending := by kernel_rfl
abbrev v_is_index : WS := (wRet (wAndV (wIsi tabInt (wSlot 0)) (wAndV (wNotV (wIsi tabBool (wSlot 0))) (wChain oLe oLt (wC (.int 0)) (wSlot 0) (wSlot 1)))))
theorem e_is_index : K07.w_is_index = v_is_index := by kernel_rfl
abbrev v_is_word (s_is_name : SpD) : WS := (wRet (wAndV (wIsi tabTuple (wSlot 0)) (wCB cAll (wCons (wLc (wOver (wSlot 0) fTup) (wNm 1) wYes (wCall s_is_name (wCons (wSlot 1) wNil)) [1]) wNil))))
theorem e_is_word (s_is_name : SpD) : K07.w_is_word s_is_name = v_is_word s_is_name := by kernel_rfl
abbrev v_require_word (s_is_word : SpD) : WS := (wIfS (wNot (wTru (wCall s_is_word (wCons (wSlot 0) wNil)))) wNever wNext)
theorem e_require_word (s_is_word : SpD) : K07.w_require_word s_is_word = v_require_word s_is_word := by kernel_rfl
abbrev v_actions_in : WS := (wSeq (wAsg (wDc2 (wOver (wSlot 0) fTup) (wNm 2) wYes (wOverD (wSlot 2) (fDct (fun _ => True) itKeys)) (wNm 3) wYes (wSlot 3) (wC (.bl true)) [2, 3] [3]) (wNm 1))
    (wRet (wCB cTuple (wCons (wCB cSorted (wCons (wCB cList (wCons (wSlot 1) wNil)) wNil)) wNil))))
theorem e_actions_in : K07.w_actions_in = v_actions_in := by kernel_rfl
abbrev v_are_rows (s_is_index s_is_name : SpD) : WS := (wSeq (wIfS (wOr (wNot (wTru (wIsi tabTuple (wSlot 0)))) (wNot (wBl (wChain oLe oLe (wC (.int 1)) (wCB cLen (wCons (wSlot 0) wNil)) (wC (.int 8)))))) (wRet (wC (.bl false))) wNext)
    (wSeq (wIfS (wNot (wTru (wCB cAll (wCons (wLc (wOver (wSlot 0) fTup) (wNm 3) wYes (wIsi tabDict (wSlot 3)) [3]) wNil)))) (wRet (wC (.bl false))) wNext)
    (wSeq (wAsg (wLc2 (wOver (wSlot 0) fTup) (wNm 3) wYes (wOverD (wSlot 3) (fDct (fun _ => True) itKeys)) (wNm 4) wYes (wSlot 4) [3, 4] [4]) (wNm 1))
    (wSeq (wAsg (wLc2 (wOver (wSlot 0) fTup) (wNm 3) wYes (wOverD (wSlot 3) (fDct (· = false) itVals)) (wNm 5) wYes (wSlot 5) [3, 5] [5]) (wNm 2))
    (wRet (wAndV (wCB cAll (wCons (wLc (wOver (wSlot 1) fLst) (wNm 4) wYes (wCall s_is_name (wCons (wSlot 4) wNil)) [4]) wNil)) (wCB cAll (wCons (wLc (wOver (wSlot 2) fLst) (wNm 5) wYes (wCall s_is_index (wCons (wSlot 5) (wCons (wCB cLen (wCons (wSlot 0) wNil)) wNil))) [5]) wNil))))))))
theorem e_are_rows (s_is_index s_is_name : SpD) : K07.w_are_rows s_is_index s_is_name = v_are_rows s_is_index s_is_name := by kernel_rfl
abbrev v_is_rests (s_is_index s_is_ascending : SpD) : WS := (wSeq (wIfS (wOr (wNot (wTru (wIsi tabTuple (wSlot 0)))) (wNot (wTru (wCB cAll (wCons (wLc (wOver (wSlot 0) fTup) (wNm 2) wYes (wCall s_is_index (wCons (wSlot 2) (wCons (wSlot 1) wNil))) [2]) wNil))))) (wRet (wC (.bl false))) wNext)
    (wRet (wCall s_is_ascending (wCons (wSlot 0) wNil))))
theorem e_is_rests (s_is_index s_is_ascending : SpD) : K07.w_is_rests s_is_index s_is_ascending = v_is_rests s_is_index s_is_ascending := by kernel_rfl
abbrev v_sorted_rows : WS := (wRet (wCB cTuple (wCons (wLc (wOver (wSlot 0) fTup) (wNm 1) wYes (wDc (wOver (wCB cSorted (wCons (wCB cList (wCons (wSlot 1) wNil)) wNil)) fLst) (wNm 2) wYes (wSlot 2) (wBin oIx (wSlot 1) (wSlot 2)) [2]) [1]) wNil)))
theorem e_sorted_rows : K07.w_sorted_rows = v_sorted_rows := by kernel_rfl
abbrev v_next_state : WS := (wRet (wIf (wBl (wBin (oIs false) (wSlot 1) (wC .non))) (wC .non) (wGet2 (wBin oIx (wFld ["Part", "Rows"] "own_steps" (wSlot 0)) (wSlot 1)) (wSlot 2) (wC .non))))
theorem e_next_state : K07.w_next_state = v_next_state := by kernel_rfl
abbrev v_Rows_init (s_sorted_rows : SpD) : WS := (wSeq (wFldS ["Part", "Rows"] "own_steps" (wSlot 0) (wCall s_sorted_rows (wCons (wSlot 1) wNil)))
    (wFldS ["Part", "Rows"] "own_rests" (wSlot 0) (wCB cTuple (wCons (wSortedSet (wSlot 2)) wNil))))
theorem e_Rows_init (s_sorted_rows : SpD) : K07.w_Rows_init s_sorted_rows = v_Rows_init s_sorted_rows := by kernel_rfl
abbrev v_checked_rows (s_actions_in s_are_rows s_is_rests s_Rows : SpD) : WS := (wSeq (wIfS (wOr (wNot (wTru (wCall s_are_rows (wCons (wSlot 0) wNil)))) (wBl (wBin oGt (wCB cLen (wCons (wCall s_actions_in (wCons (wSlot 0) wNil)) wNil)) (wC (.int 4))))) wNever wNext)
    (wSeq (wIfS (wNot (wTru (wCall s_is_rests (wCons (wSlot 1) (wCons (wCB cLen (wCons (wSlot 0) wNil)) wNil))))) wNever wNext)
    (wRet (wMake "Rows" s_Rows (wCons (wSlot 0) (wCons (wSlot 1) wNil))))))
theorem e_checked_rows (s_actions_in s_are_rows s_is_rests s_Rows : SpD) : K07.w_checked_rows s_actions_in s_are_rows s_is_rests s_Rows = v_checked_rows s_actions_in s_are_rows s_is_rests s_Rows := by kernel_rfl
abbrev v_Part_init (s_checked_rows s_actions_in : SpD) : WS := (wSeq (wAsg (wIf (wTru (wIsi tabRows (wSlot 1))) (wSlot 1) (wCall s_checked_rows (wCons (wSlot 1) (wCons (wSlot 2) wNil)))) (wNm 3))
    (wSeq (wFldS ["Part", "Rows"] "own_steps" (wSlot 0) (wFld ["Part", "Rows"] "own_steps" (wSlot 3)))
    (wSeq (wFldS ["Part", "Rows"] "own_rests" (wSlot 0) (wFld ["Part", "Rows"] "own_rests" (wSlot 3)))
    (wFldS ["Part"] "own_actions" (wSlot 0) (wCall s_actions_in (wCons (wFld ["Part", "Rows"] "own_steps" (wSlot 3)) wNil))))))
theorem e_Part_init (s_checked_rows s_actions_in : SpD) : K07.w_Part_init s_checked_rows s_actions_in = v_Part_init s_checked_rows s_actions_in := by kernel_rfl
abbrev v_state_after (s_next_state : SpD) : WS := (wSeq (wAsg (wC (.int 0)) (wNm 2))
    (wSeq (wFor (wOver (wSlot 1) fTup) (wNm 3)
      (wAsg (wCall s_next_state (wCons (wSlot 0) (wCons (wSlot 2) (wCons (wSlot 3) wNil)))) (wNm 2)))
    (wRet (wSlot 2))))
theorem e_state_after (s_next_state : SpD) : K07.w_state_after s_next_state = v_state_after s_next_state := by kernel_rfl
abbrev v_Part_after (s_require_word s_state_after : SpD) : WS := (wSeq (wExpr (wCall s_require_word (wCons (wSlot 1) wNil)))
    (wRet (wCall s_state_after (wCons (wSlot 0) (wCons (wSlot 1) wNil)))))
theorem e_Part_after (s_require_word s_state_after : SpD) : K07.w_Part_after s_require_word s_state_after = v_Part_after s_require_word s_state_after := by kernel_rfl
abbrev v_require_part : WS := (wIfS (wNot (wTru (wIsi tabPart (wSlot 0)))) wNever wNext)
theorem e_require_part : K07.w_require_part = v_require_part := by kernel_rfl
abbrev v_offer_at : WS := (wRet (wTup (wCons (wCB cTuple (wCons (wCB cList (wCons (wBin oIx (wFld ["Part", "Rows"] "own_steps" (wSlot 0)) (wSlot 1)) wNil)) wNil)) (wCons (wBin (oIn false) (wSlot 1) (wFld ["Part", "Rows"] "own_rests" (wSlot 0))) wNil))))
theorem e_offer_at : K07.w_offer_at = v_offer_at := by kernel_rfl
abbrev v_both_walked : WS := (wSeq (wPar3 2 3 4 (wCons (wD1T (wTup (wCons (wC (.int 0)) (wCons (wC (.int 0)) wNil))) (wTup wNil)) (wCons (wLst (wCons (wTup (wCons (wC (.int 0)) (wCons (wC (.int 0)) wNil))) wNil)) (wCons (wC (.int 0)) wNil))))
    (wSeq (wWhile (wBl (wBin oLt (wSlot 4) (wCB cLen (wCons (wSlot 3) wNil)))) (wSeq (wAsg (wBin oIx (wSlot 3) (wSlot 4)) (wGT 2 (wG1 (wNm 6) (wG1 (wNm 7) wG0))))
    (wSeq (wFor (wOver (wCB cSorted (wCons (wCB cList (wCons (wBin oIx (wFld ["Part", "Rows"] "own_steps" (wSlot 0)) (wSlot 6)) wNil)) wNil)) fLst) (wNm 5)
      (wIfS (wBl (wBin (oIn false) (wSlot 5) (wBin oIx (wFld ["Part", "Rows"] "own_steps" (wSlot 1)) (wSlot 7)))) (wSeq (wAsg (wTup (wCons (wBin oIx (wBin oIx (wFld ["Part", "Rows"] "own_steps" (wSlot 0)) (wSlot 6)) (wSlot 5)) (wCons (wBin oIx (wBin oIx (wFld ["Part", "Rows"] "own_steps" (wSlot 1)) (wSlot 7)) (wSlot 5)) wNil))) (wNm 8))
    (wIfS (wBl (wBin (oIn true) (wSlot 8) (wSlot 2))) (wSeq (wAsg (wTup (wStar (wBin oIx (wSlot 2) (wTup (wCons (wSlot 6) (wCons (wSlot 7) wNil)))) (wCons (wSlot 5) wNil))) (wSub (wSlot 2) (wSlot 8)))
    (wExpr (wBM mAppend (wSlot 3) (wCons (wSlot 8) wNil)))) wNext)) wNext))
    (wAug 4 (wC (.int 1))))))
    (wRet (wSlot 2))))
theorem e_both_walked : K07.w_both_walked = v_both_walked := by kernel_rfl
abbrev v_are_unlike (s_offer_at : SpD) : WS := (wSeq (wAsg (wSlot 2) (wGT 2 (wG1 (wNm 3) (wG1 (wNm 4) wG0))))
    (wRet (wBin (oEq true) (wCall s_offer_at (wCons (wSlot 0) (wCons (wSlot 3) wNil))) (wCall s_offer_at (wCons (wSlot 1) (wCons (wSlot 4) wNil))))))
theorem e_are_unlike (s_offer_at : SpD) : K07.w_are_unlike s_offer_at = v_are_unlike s_offer_at := by kernel_rfl
abbrev v_difference (s_require_part s_both_walked s_are_unlike : SpD) : WS := (wSeq (wExpr (wCall s_require_part (wCons (wSlot 0) wNil)))
    (wSeq (wExpr (wCall s_require_part (wCons (wSlot 1) wNil)))
    (wSeq (wFor (wOverD (wCall s_both_walked (wCons (wSlot 0) (wCons (wSlot 1) wNil))) (fDct (· = true) itItems)) (wGT 2 (wG1 (wNm 2) (wG1 (wNm 3) wG0)))
      (wIfS (wTru (wCall s_are_unlike (wCons (wSlot 0) (wCons (wSlot 1) (wCons (wSlot 2) wNil))))) (wRet (wSlot 3)) wNext))
    (wRet (wC .non)))))
theorem e_difference (s_require_part s_both_walked s_are_unlike : SpD) : K07.w_difference s_require_part s_both_walked s_are_unlike = v_difference s_require_part s_both_walked s_are_unlike := by kernel_rfl
abbrev v_are_alike (s_difference : SpD) : WS := (wRet (wBin (oIs false) (wCall s_difference (wCons (wSlot 0) (wCons (wSlot 1) wNil))) (wC .non)))
theorem e_are_alike (s_difference : SpD) : K07.w_are_alike s_difference = v_are_alike s_difference := by kernel_rfl
abbrev v_is_difference (s_require_part s_is_word s_are_unlike s_Part_after : SpD) : WS := (wSeq (wExpr (wCall s_require_part (wCons (wSlot 0) wNil)))
    (wSeq (wExpr (wCall s_require_part (wCons (wSlot 1) wNil)))
    (wSeq (wIfS (wNot (wTru (wCall s_is_word (wCons (wSlot 2) wNil)))) (wRet (wC (.bl false))) wNext)
    (wSeq (wAsg (wTup (wCons (wMeth "Part" "after" s_Part_after (wSlot 0) (wCons (wSlot 2) wNil)) (wCons (wMeth "Part" "after" s_Part_after (wSlot 1) (wCons (wSlot 2) wNil)) wNil))) (wNm 3))
    (wRet (wAndV (wBin (oIn true) (wC .non) (wSlot 3)) (wCall s_are_unlike (wCons (wSlot 0) (wCons (wSlot 1) (wCons (wSlot 3) wNil))))))))))
theorem e_is_difference (s_require_part s_is_word s_are_unlike s_Part_after : SpD) : K07.w_is_difference s_require_part s_is_word s_are_unlike s_Part_after = v_is_difference s_require_part s_is_word s_are_unlike s_Part_after := by kernel_rfl
abbrev v__law_dice : WS := (wSeq (wAsg (wBin oAdd (wBin oMul (wC (.int 47)) (wSlot 1)) (wC (.int 13))) (wNm 2))
    (wSeq (wIfS (wBl (wBin oLt (wSlot 1) (wCB cLen (wCons (wSlot 0) wNil)))) (wAsg (wBin oIx (wSlot 0) (wSlot 1)) (wNm 2)) wNext)
    (wSeq (wAsg (wBin oMod (wCB cInt (wCons (wCB cAbs (wCons (wSlot 2) wNil)) wNil)) (wBin oPow (wBin oPow (wC (.int 10)) (wC (.int 60))) (wC (.int 10)))) (wNm 3))
    (wSeq (wAsg (wBin oFdiv (wSlot 3) (wBin oPow (wC (.int 10)) (wC (.int 18)))) (wNm 4))
    (wSeq (wAsg (wBin oAdd (wBin oAdd (wBin oAdd (wBin oMul (wBin oMod (wSlot 3) (wC (.int 2147483477))) (wC (.int 50021))) (wBin oMul (wC (.int 3001)) (wSlot 1))) (wBin oMul (wC (.int 29)) (wCB cInt (wCons (wBin oLt (wSlot 2) (wC (.int 0))) wNil)))) (wC (.int 71))) (wNm 5))
    (wRet (wLst (wCons (wSlot 4) (wCons (wBin oMod (wSlot 5) (wC (.int 2147483399))) (wCons (wC (.int 0)) wNil))))))))))
theorem e__law_dice : K07.w__law_dice = v__law_dice := by kernel_rfl
abbrev v__law_roll : WS := (wSeq (wAsg (wCB cInt (wCons (wSlot 1) wNil)) (wNm 2))
    (wSeq (wIfS (wBl (wBin oGt (wBin oIx (wSlot 0) (wC (.int 0))) (wC (.int 0)))) (wSeq (wAsg (wBin oMod (wBin oIx (wSlot 0) (wC (.int 0))) (wSlot 2)) (wNm 5))
    (wSeq (wAsg (wBin oFdiv (wBin oIx (wSlot 0) (wC (.int 0))) (wSlot 2)) (wSub (wSlot 0) (wC (.int 0))))
    (wRet (wCB cInt (wCons (wSlot 5) wNil))))) wNext)
    (wSeq (wAsg (wBin oAdd (wBin oIx (wSlot 0) (wC (.int 2))) (wC (.int 1))) (wSub (wSlot 0) (wC (.int 2))))
    (wSeq (wAsg (wBin oMod (wBin oAdd (wBin oIx (wSlot 0) (wC (.int 1))) (wBin oMul (wC (.int 1000081)) (wBin oIx (wSlot 0) (wC (.int 2))))) (wC (.int 2305843009213693951))) (wNm 3))
    (wSeq (wAsg (wBin oAdd (wBin oMul (wBin oMod (wBin oMul (wSlot 3) (wSlot 3)) (wC (.int 2305843009213693921))) (wSlot 3)) (wBin oMul (wC (.int 8171)) (wBin oIx (wSlot 0) (wC (.int 2))))) (wNm 4))
    (wSeq (wAsg (wBin oMod (wSlot 4) (wC (.int 2305843009213693907))) (wNm 4))
    (wRet (wCB cInt (wCons (wBin oMod (wBin oFdiv (wSlot 4) (wC (.int 4096))) (wSlot 2)) wNil)))))))))
theorem e__law_roll : K07.w__law_roll = v__law_roll := by kernel_rfl
abbrev v__law_one_of (s__law_roll : SpD) : WS := (wRet (wBin oIx (wSlot 1) (wCall s__law_roll (wCons (wSlot 0) (wCons (wCB cLen (wCons (wSlot 1) wNil)) wNil)))))
theorem e__law_one_of (s__law_roll : SpD) : K07.w__law_one_of s__law_roll = v__law_one_of s__law_roll := by kernel_rfl
abbrev v__law_mixed (s__law_roll : SpD) : WS := (wSeq (wPar 2 3 (wCons (wCB cList (wCons (wSlot 1) wNil)) (wCons (wLst wNil) wNil)))
    (wSeq (wWhile (wBl (wBin (oEq true) (wSlot 2) (wLst wNil))) (wExpr (wBM mAppend (wSlot 3) (wCons (wBM mPopAt (wSlot 2) (wCons (wCall s__law_roll (wCons (wSlot 0) (wCons (wCB cLen (wCons (wSlot 2) wNil)) wNil))) wNil)) wNil))))
    (wRet (wSlot 3))))
theorem e__law_mixed (s__law_roll : SpD) : K07.w__law_mixed s__law_roll = v__law_mixed s__law_roll := by kernel_rfl
abbrev v__law_actions (s__law_mixed : SpD) : WS := (wRet (wCB cSorted (wCons (wSlice (wCall s__law_mixed (wCons (wSlot 0) (wCons (wLst (wCons (wC (.str "a")) (wCons (wC (.str "b")) (wCons (wC (.str "ab")) (wCons (wC (.str "go")) (wCons (wC (.str "put")) (wCons (wC (.str "take")) (wCons (wC (.str "x")) (wCons (wC (.str "zzzzzzzz")) wNil))))))))) wNil))) wNoPart (wPart (wSlot 1))) wNil)))
theorem e__law_actions (s__law_mixed : SpD) : K07.w__law_actions s__law_mixed = v__law_actions s__law_mixed := by kernel_rfl
abbrev v__law_part (s__law_roll : SpD) : WS := (wSeq (wPar 4 5 (wCons (wBin oAdd (wC (.int 1)) (wCall s__law_roll (wCons (wSlot 0) (wCons (wSlot 2) wNil)))) (wCons (wLst wNil) wNil)))
    (wSeq (wFor (wRange1 (wCons (wSlot 4) wNil)) (wNm 3)
      (wSeq (wAsg (wDNew false) (wNm 6))
    (wSeq (wFor (wOver (wSlot 1) fLst) (wNm 7)
      (wSeq (wAsg (wCall s__law_roll (wCons (wSlot 0) (wCons (wBin oAdd (wSlot 4) (wC (.int 1))) wNil))) (wNm 8))
    (wIfS (wBl (wBin oLt (wSlot 8) (wSlot 4))) (wAsg (wSlot 8) (wSub (wSlot 6) (wSlot 7))) wNext)))
    (wExpr (wBM mAppend (wSlot 5) (wCons (wTup (wCons (wSlot 6) (wCons (wBin (oEq false) (wCall s__law_roll (wCons (wSlot 0) (wCons (wC (.int 2)) wNil))) (wC (.int 0))) wNil))) wNil))))))
    (wRet (wSlot 5))))
theorem e__law_part (s__law_roll : SpD) : K07.w__law_part s__law_roll = v__law_part s__law_roll := by kernel_rfl
abbrev v__law_made_part (s_Part : SpD) : WS := (wSeq (wAsg (wCB cTuple (wCons (wLc (wEnum (wCons (wSlot 0) wNil)) (wGT 2 (wG1 (wNm 2) (wG1 (wNm 3) wG0))) (wTru (wBin oIx (wSlot 3) (wC (.int 1)))) (wSlot 2) [2, 3]) wNil)) (wNm 1))
    (wRet (wMake "Part" s_Part (wCons (wCB cTuple (wCons (wLc (wOver (wSlot 0) fLst) (wNm 3) wYes (wCB cDict (wCons (wListItemsR (wBin oIx (wSlot 3) (wC (.int 0)))) wNil)) [3]) wNil)) (wCons (wSlot 1) wNil)))))
theorem e__law_made_part (s_Part : SpD) : K07.w__law_made_part s_Part = v__law_made_part s_Part := by kernel_rfl
abbrev v__law_offer : WS := (wRet (wTup (wCons (wCB cTuple (wCons (wCB cSorted (wCons (wBin oIx (wBin oIx (wSlot 0) (wSlot 1)) (wC (.int 0))) wNil)) wNil)) (wCons (wBin oIx (wBin oIx (wSlot 0) (wSlot 1)) (wC (.int 1))) wNil))))
theorem e__law_offer : K07.w__law_offer = v__law_offer := by kernel_rfl
abbrev v__law_near_part (s__law_roll s__law_one_of s__law_part : SpD) : WS := (wSeq (wPar 4 5 (wCons (wCall s__law_roll (wCons (wSlot 0) (wCons (wC (.int 5)) wNil))) (wCons (wLc (wOver (wSlot 2) fLst) (wGT 2 (wG1 (wNm 6) (wG1 (wNm 7) wG0))) wYes (wTup (wCons (wCB cDict (wCons (wListItemsR (wSlot 6)) wNil)) (wCons (wSlot 7) wNil))) [6, 7]) wNil)))
    (wSeq (wAsg (wCall s__law_roll (wCons (wSlot 0) (wCons (wCB cLen (wCons (wSlot 5) wNil)) wNil))) (wNm 3))
    (wSeq (wAsg (wBin oIx (wSlot 5) (wSlot 3)) (wGT 2 (wG1 (wNm 6) (wG1 (wNm 7) wG0))))
    (wSeq (wIfS (wBl (wBin (oEq false) (wSlot 4) (wC (.int 0)))) (wAsg (wTup (wCons (wSlot 6) (wCons (wNotV (wSlot 7)) wNil))) (wSub (wSlot 5) (wSlot 3))) wNext)
    (wSeq (wIfS (wBl (wBin (oEq false) (wSlot 4) (wC (.int 1)))) (wSeq (wAsg (wTup (wCons (wCall s__law_one_of (wCons (wSlot 0) (wCons (wSlot 1) wNil))) (wCons (wCall s__law_roll (wCons (wSlot 0) (wCons (wBin oAdd (wCB cLen (wCons (wSlot 5) wNil)) (wC (.int 1))) wNil))) wNil))) (wGT 2 (wG1 (wNm 9) (wG1 (wNm 10) wG0))))
    (wSeq (wAsg (wLc (wOverD (wSlot 6) (fDct (fun _ => True) itKeys)) (wNm 13) (wBl (wBin (oEq true) (wSlot 13) (wSlot 9))) (wTup (wCons (wSlot 13) (wCons (wBin oIx (wSlot 6) (wSlot 13)) wNil))) [13]) (wNm 8))
    (wAsg (wTup (wCons (wCB cDict (wCons (wBin oAdd (wSlot 8) (wIf (wBl (wBin oLt (wSlot 10) (wCB cLen (wCons (wSlot 5) wNil)))) (wLst (wCons (wTup (wCons (wSlot 9) (wCons (wSlot 10) wNil))) wNil)) (wLst wNil))) wNil)) (wCons (wSlot 7) wNil))) (wSub (wSlot 5) (wSlot 3))))) wNext)
    (wSeq (wIfS (wOr (wBl (wBin (oEq false) (wSlot 4) (wC (.int 2)))) (wBl (wBin (oEq false) (wSlot 4) (wC (.int 3))))) (wSeq (wExpr (wBM mAppend (wSlot 5) (wCons (wTup (wCons (wCB cDict (wCons (wListItemsR (wSlot 6)) wNil)) (wCons (wSlot 7) wNil))) wNil)))
    (wFor (wOver (wSlot 5) fLst) (wGT 2 (wG1 (wNm 11) (wG1 (wNm 12) wG0)))
      (wFor (wOver (wSlot 1) fLst) (wNm 9)
      (wIfS (wAnd (wBl (wBin (oEq false) (wGet2 (wSlot 11) (wSlot 9) (wNegV (wC (.int 1)))) (wSlot 3))) (wBl (wBin (oEq false) (wCall s__law_roll (wCons (wSlot 0) (wCons (wC (.int 2)) wNil))) (wC (.int 0))))) (wAsg (wBin oSub (wCB cLen (wCons (wSlot 5) wNil)) (wC (.int 1))) (wSub (wSlot 11) (wSlot 9))) wNext)))) wNext)
    (wRet (wIf (wBl (wBin oLt (wSlot 4) (wC (.int 4)))) (wSlot 5) (wCall s__law_part (wCons (wSlot 0) (wCons (wSlot 1) (wCons (wC (.int 6)) wNil))))))))))))
theorem e__law_near_part (s__law_roll s__law_one_of s__law_part : SpD) : K07.w__law_near_part s__law_roll s__law_one_of s__law_part = v__law_near_part s__law_roll s__law_one_of s__law_part := by kernel_rfl
abbrev v__law_both : WS := (wSeq (wPar3 2 3 4 (wCons (wLst (wCons (wTup (wCons (wTup (wCons (wC (.int 0)) (wCons (wC (.int 0)) wNil))) (wCons (wTup wNil) wNil))) wNil)) (wCons (wD1T (wTup (wCons (wC (.int 0)) (wCons (wC (.int 0)) wNil))) (wC (.bl true))) (wCons (wC (.int 0)) wNil))))
    (wSeq (wWhile (wBl (wBin oLt (wSlot 4) (wCB cLen (wCons (wSlot 2) wNil)))) (wSeq (wAsg (wBin oIx (wSlot 2) (wSlot 4)) (wGT 2 (wG1 (wNm 6) (wG1 (wNm 7) wG0))))
    (wSeq (wPar 8 9 (wCons (wBin oIx (wBin oIx (wSlot 0) (wBin oIx (wSlot 6) (wC (.int 0)))) (wC (.int 0))) (wCons (wBin oIx (wBin oIx (wSlot 1) (wBin oIx (wSlot 6) (wC (.int 1)))) (wC (.int 0))) wNil)))
    (wSeq (wAsg (wBin oAdd (wSlot 4) (wC (.int 1))) (wNm 4))
    (wFor (wOver (wCB cSorted (wCons (wSlot 8) wNil)) fLst) (wNm 5)
      (wIfS (wBl (wBin (oIn false) (wSlot 5) (wSlot 9))) (wSeq (wAsg (wTup (wCons (wBin oIx (wSlot 8) (wSlot 5)) (wCons (wBin oIx (wSlot 9) (wSlot 5)) wNil))) (wNm 10))
    (wIfS (wBl (wBin (oIn true) (wSlot 10) (wSlot 3))) (wSeq (wAsg (wC (.bl true)) (wSub (wSlot 3) (wSlot 10)))
    (wExpr (wBM mAppend (wSlot 2) (wCons (wTup (wCons (wSlot 10) (wCons (wBin oAdd (wSlot 7) (wTup (wCons (wSlot 5) wNil))) wNil))) wNil)))) wNext)) wNext))))))
    (wRet (wSlot 2))))
theorem e__law_both : K07.w__law_both = v__law_both := by kernel_rfl
abbrev v__law_after : WS := (wSeq (wAsg (wC (.int 0)) (wNm 2))
    (wSeq (wFor (wOver (wSlot 1) fTup) (wNm 3)
      (wIfS (wBl (wBin (oIs true) (wSlot 2) (wC .non))) (wAsg (wGet2 (wBin oIx (wBin oIx (wSlot 0) (wSlot 2)) (wC (.int 0))) (wSlot 3) (wC .non)) (wNm 2)) wNext))
    (wRet (wSlot 2))))
theorem e__law_after : K07.w__law_after = v__law_after := by kernel_rfl
abbrev v__law_words : WS := (wSeq (wPar 3 4 (wCons (wLst (wCons (wTup wNil) wNil)) (wCons (wLst (wCons (wTup wNil) wNil)) wNil)))
    (wSeq (wFor (wRange1 (wCons (wSlot 1) wNil)) (wNm 2)
      (wSeq (wAsg (wLst wNil) (wNm 5))
    (wSeq (wFor (wOver (wSlot 4) fLst) (wNm 6)
      (wExpr (wBM mExtend (wSlot 5) (wCons (wLc (wOver (wSlot 0) fLst) (wNm 7) wYes (wBin oAdd (wSlot 6) (wTup (wCons (wSlot 7) wNil))) [7]) wNil))))
    (wSeq (wAsg (wCB cList (wCons (wSlot 5) wNil)) (wNm 4))
    (wAsg (wBin oAdd (wSlot 3) (wSlot 4)) (wNm 3))))))
    (wRet (wSlot 3))))
theorem e__law_words : K07.w__law_words = v__law_words := by kernel_rfl
abbrev v__law_first (s__law_both s__law_offer : SpD) : WS := (wSeq (wFor (wOver (wCall s__law_both (wCons (wSlot 0) (wCons (wSlot 1) wNil))) fLst) (wGT 2 (wG1 (wNm 2) (wG1 (wNm 3) wG0)))
      (wIfS (wBl (wBin (oEq true) (wCall s__law_offer (wCons (wSlot 0) (wCons (wBin oIx (wSlot 2) (wC (.int 0))) wNil))) (wCall s__law_offer (wCons (wSlot 1) (wCons (wBin oIx (wSlot 2) (wC (.int 1))) wNil))))) (wRet (wSlot 3)) wNext))
    (wRet (wC .non)))
theorem e__law_first (s__law_both s__law_offer : SpD) : K07.w__law_first s__law_both s__law_offer = v__law_first s__law_both s__law_offer := by kernel_rfl
abbrev v__law_due (s__law_after s__law_offer : SpD) : WS := (wSeq (wPar 3 4 (wCons (wCall s__law_after (wCons (wSlot 0) (wCons (wSlot 2) wNil))) (wCons (wCall s__law_after (wCons (wSlot 1) (wCons (wSlot 2) wNil))) wNil)))
    (wSeq (wIfS (wOr (wBl (wBin (oIs false) (wSlot 3) (wC .non))) (wBl (wBin (oIs false) (wSlot 4) (wC .non)))) (wRet (wC (.bl false))) wNext)
    (wRet (wBin (oEq true) (wCall s__law_offer (wCons (wSlot 0) (wCons (wSlot 3) wNil))) (wCall s__law_offer (wCons (wSlot 1) (wCons (wSlot 4) wNil)))))))
theorem e__law_due (s__law_after s__law_offer : SpD) : K07.w__law_due s__law_after s__law_offer = v__law_due s__law_after s__law_offer := by kernel_rfl
abbrev v__law_right (s__law_actions s__law_roll s__law_part s__law_near_part s__law_made_part s__law_first s_difference s_are_alike s__law_words s_is_difference s__law_due : SpD) : WS := (wSeq (wAsg (wCall s__law_actions (wCons (wSlot 0) (wCons (wBin oAdd (wC (.int 1)) (wCall s__law_roll (wCons (wSlot 0) (wCons (wC (.int 3)) wNil)))) wNil))) (wNm 1))
    (wSeq (wAsg (wCall s__law_part (wCons (wSlot 0) (wCons (wSlot 1) (wCons (wC (.int 6)) wNil)))) (wNm 2))
    (wSeq (wAsg (wCall s__law_near_part (wCons (wSlot 0) (wCons (wSlot 1) (wCons (wSlot 2) wNil)))) (wNm 3))
    (wSeq (wPar 8 9 (wCons (wCall s__law_made_part (wCons (wSlot 2) wNil)) (wCons (wCall s__law_made_part (wCons (wSlot 3) wNil)) wNil)))
    (wSeq (wAsg (wCall s__law_first (wCons (wSlot 2) (wCons (wSlot 3) wNil))) (wNm 4))
    (wSeq (wIfS (wBl (wBin (oEq true) (wCB cRepr (wCons (wLst (wCons (wCall s_difference (wCons (wSlot 8) (wCons (wSlot 9) wNil))) (wCons (wCall s_difference (wCons (wSlot 9) (wCons (wSlot 8) wNil))) wNil))) wNil)) (wCB cRepr (wCons (wLst (wCons (wSlot 4) (wCons (wSlot 4) wNil))) wNil)))) (wRet (wC (.bl false))) wNext)
    (wSeq (wIfS (wBl (wBin (oEq true) (wCB cRepr (wCons (wLst (wCons (wCall s_are_alike (wCons (wSlot 8) (wCons (wSlot 9) wNil))) (wCons (wCall s_are_alike (wCons (wSlot 9) (wCons (wSlot 8) wNil))) wNil))) wNil)) (wCB cRepr (wCons (wLst (wCons (wBin (oIs false) (wSlot 4) (wC .non)) (wCons (wBin (oIs false) (wSlot 4) (wC .non)) wNil))) wNil)))) (wRet (wC (.bl false))) wNext)
    (wSeq (wIfS (wOr (wBl (wBin (oIs true) (wCall s_difference (wCons (wSlot 8) (wCons (wSlot 8) wNil))) (wC .non))) (wBl (wBin (oIs true) (wCall s_are_alike (wCons (wSlot 9) (wCons (wSlot 9) wNil))) (wC (.bl true))))) (wRet (wC (.bl false))) wNext)
    (wSeq (wAsg (wCall s__law_words (wCons (wSlot 1) (wCons (wC (.int 3)) wNil))) (wNm 5))
    (wSeq (wIfS (wBl (wBin (oIs true) (wSlot 4) (wC .non))) (wAsg (wBin oAdd (wSlot 5) (wLst (wCons (wSlot 4) (wCons (wBin oAdd (wSlot 4) (wTup (wCons (wBin oIx (wSlot 1) (wC (.int 0))) wNil))) (wCons (wSlice (wSlot 4) wNoPart (wPart (wNegV (wC (.int 1))))) (wCons (wBin oAdd (wSlot 4) (wSlot 4)) (wCons (wBin oAdd (wSlot 4) (wTup (wCons (wBin oIx (wSlot 1) (wNegV (wC (.int 1)))) (wCons (wBin oIx (wSlot 1) (wC (.int 0))) wNil)))) wNil))))))) (wNm 5)) wNext)
    (wSeq (wFor (wOver (wSlot 5) fLst) (wNm 6)
      (wIfS (wBl (wBin (oEq true) (wCB cRepr (wCons (wCall s_is_difference (wCons (wSlot 8) (wCons (wSlot 9) (wCons (wSlot 6) wNil)))) wNil)) (wCB cRepr (wCons (wCall s__law_due (wCons (wSlot 2) (wCons (wSlot 3) (wCons (wSlot 6) wNil)))) wNil)))) (wRet (wC (.bl false))) wNext))
    (wSeq (wFor (wOver (wLst (wCons (wC .non) (wCons (wC (.int 0)) (wCons (wC (.str "")) (wCons (wBin oIx (wSlot 1) (wC (.int 0))) (wCons (wLst wNil) (wCons (wCB cList (wCons (wOrV (wSlot 4) (wTup wNil)) wNil)) (wCons (wTup (wCons (wC (.int 1)) wNil)) (wCons (wTup (wCons (wC (.str "A")) wNil)) (wCons (wTup (wCons (wTup wNil) wNil)) (wCons (wDNew false) (wCons (wC (.bl true)) (wCons (wTup (wCons (wC .non) wNil)) (wCons (wSlot 8) wNil)))))))))))))) fLst) (wNm 7)
      (wIfS (wBl (wBin (oIs true) (wCall s_is_difference (wCons (wSlot 8) (wCons (wSlot 9) (wCons (wSlot 7) wNil)))) (wC (.bl false)))) (wRet (wC (.bl false))) wNext))
    (wRet (wC (.bl true)))))))))))))))
theorem e__law_right (s__law_actions s__law_roll s__law_part s__law_near_part s__law_made_part s__law_first s_difference s_are_alike s__law_words s_is_difference s__law_due : SpD) : K07.w__law_right s__law_actions s__law_roll s__law_part s__law_near_part s__law_made_part s__law_first s_difference s_are_alike s__law_words s_is_difference s__law_due = v__law_right s__law_actions s__law_roll s__law_part s__law_near_part s__law_made_part s__law_first s_difference s_are_alike s__law_words s_is_difference s__law_due := by kernel_rfl
abbrev v_law (s__law_dice s__law_right s_is_difference s_difference s_are_alike s_Part : SpD) : WS := (wSeq (wFor (wRange1 (wCons (wCB cMax (wCons (wC (.int 1)) (wCons (wCB cMin (wCons (wC (.int 10)) (wCons (wCB cLen (wCons (wSlot 0) wNil)) wNil))) wNil))) wNil)) (wNm 1)
      (wSeq (wAsg (wCall s__law_dice (wCons (wSlot 0) (wCons (wSlot 1) wNil))) (wNm 4))
    (wFor (wRange1 (wCons (wC (.int 4)) wNil)) (wNm 5)
      (wIfS (wNot (wTru (wCall s__law_right (wCons (wSlot 4) wNil)))) (wRet (wC (.bl false))) wNext))))
    (wSeq (wPar 6 7 (wCons (wMake "Part" s_Part (wCons (wTup (wCons (wD1 (wC (.str "put")) (wC (.int 1))) (wCons (wD1 (wC (.str "get")) (wC (.int 0))) wNil))) (wCons (wTup (wCons (wC (.int 0)) wNil)) wNil))) (wCons (wMake "Part" s_Part (wCons (wTup (wCons (wD1 (wC (.str "put")) (wC (.int 1))) (wCons (wD1 (wC (.str "get")) (wC (.int 2))) (wCons (wD1 (wC (.str "put")) (wC (.int 1))) wNil)))) (wCons (wTup (wCons (wC (.int 0)) wNil)) wNil))) wNil)))
    (wSeq (wAsg (wLst (wCons (wCall s_are_alike (wCons (wSlot 6) (wCons (wSlot 7) wNil))) (wCons (wCall s_difference (wCons (wSlot 6) (wCons (wSlot 7) wNil))) (wCons (wCall s_is_difference (wCons (wSlot 6) (wCons (wSlot 7) (wCons (wTup (wCons (wC (.str "put")) (wCons (wC (.str "get")) wNil))) wNil)))) wNil)))) (wNm 2))
    (wSeq (wIfS (wBl (wBin (oEq true) (wSlot 2) (wLst (wCons (wC (.bl false)) (wCons (wTup (wCons (wC (.str "put")) (wCons (wC (.str "get")) wNil))) (wCons (wC (.bl true)) wNil)))))) (wRet (wC (.bl false))) wNext)
    (wSeq (wPar 8 9 (wCons (wLst wNil) (wCons (wLst wNil) wNil)))
    (wSeq (wFor (wRange1 (wCons (wC (.int 5)) wNil)) (wNm 1)
      (wSeq (wAsg (wBin oAdd (wSlot 8) (wBin oMul (wLst (wCons (wD1 (wC (.str "a")) (wBin oMod (wCB cInt (wCons (wBin oAdd (wSlot 1) (wC (.int 1))) wNil)) (wC (.int 4)))) wNil)) (wCB cInt (wCons (wBin oLt (wSlot 1) (wC (.int 4))) wNil)))) (wNm 8))
    (wExpr (wBM mAppend (wSlot 9) (wCons (wD1 (wC (.str "a")) (wBin oMod (wCB cInt (wCons (wBin oAdd (wSlot 1) (wC (.int 1))) wNil)) (wC (.int 5)))) wNil)))))
    (wSeq (wPar 10 11 (wCons (wMake "Part" s_Part (wCons (wCB cTuple (wCons (wSlot 8) wNil)) (wCons (wTup (wCons (wC (.int 3)) wNil)) wNil))) (wCons (wMake "Part" s_Part (wCons (wCB cTuple (wCons (wSlot 9) wNil)) (wCons (wTup (wCons (wC (.int 3)) wNil)) wNil))) wNil)))
    (wSeq (wAsg (wLst (wCons (wCall s_difference (wCons (wSlot 10) (wCons (wSlot 11) wNil))) (wCons (wCall s_is_difference (wCons (wSlot 10) (wCons (wSlot 11) (wCons (wBin oMul (wTup (wCons (wC (.str "a")) wNil)) (wC (.int 8))) wNil)))) (wCons (wCall s_is_difference (wCons (wSlot 10) (wCons (wSlot 11) (wCons (wBin oMul (wTup (wCons (wC (.str "a")) wNil)) (wC (.int 3))) wNil)))) wNil)))) (wNm 2))
    (wSeq (wAsg (wMake "Part" s_Part (wCons (wCB cTuple (wCons (wBin oAdd (wSlot 8) (wLst (wCons (wD1 (wC (.str "a")) (wC (.int 4))) wNil))) wNil)) (wCons (wTup (wCons (wC (.int 3)) wNil)) wNil))) (wNm 3))
    (wRet (wAndV (wBin (oEq false) (wSlot 2) (wLst (wCons (wBin oMul (wTup (wCons (wC (.str "a")) wNil)) (wC (.int 7))) (wCons (wC (.bl true)) (wCons (wC (.bl false)) wNil))))) (wBin (oIs false) (wCall s_difference (wCons (wSlot 10) (wCons (wSlot 3) wNil))) (wC .non)))))))))))))
theorem e_law (s__law_dice s__law_right s_is_difference s_difference s_are_alike s_Part : SpD) : K07.w_law s__law_dice s__law_right s_is_difference s_difference s_are_alike s_Part = v_law s__law_dice s__law_right s_is_difference s_difference s_are_alike s_Part := by kernel_rfl
end K07V

set_option Elab.async false
set_option linter.all false
set_option maxRecDepth 100000
set_option maxHeartbeats 2000000
/-! K07S: helpers of the plain proofs. -/
namespace MV
open PySem PySem.Spec
open PyProof.Rows hiding St
open L2
open MP (D Cell Hd Sd WE WT WA WS WG WI EndsD ItD SpD endR startD itSeq items tyD truD getD putD keyOk wipeD lenD sortS ltS leS)
theorem ift {c : Bool} {A B : Prop} (h : c = true) (a : A) : if c = true then A else B := by rw [if_pos h]; exact a
theorem iff_ {c : Bool} {A B : Prop} (h : c = false) (b : B) : if c = true then A else B := by rw [if_neg (by rw [h]; decide)]; exact b
/-- a list comprehension, by what holds at turn i with the items so far -/
theorem lc_by {t : ItD} {g : WG} {tt : WT} {te : WE} {sl : Sd} {h1 : Hd} {Qf : List D → Hd → Prop} (xs : List D) (Pv : Nat → List D → Hd → Prop) (h0 : Pv 0 [] h1) (ht : ∀ i acc h, i ≤ xs.length → Pv i acc h → t i h = some xs[i]?)
    (hs : ∀ i x acc h, xs[i]? = some x → Pv i acc h → g x sl h fun sl2 h2 => tt sl2 h2 fun b h3 => if b = true then te sl2 h3 fun y h4 => acc.length < sizeLine ∧ Pv (i + 1) (acc ++ [y]) h4 else Pv (i + 1) acc h3)
    (hd : ∀ acc h, Pv xs.length acc h → Qf acc h) :
    ∃ W : Nat → Nat → List D → Hd → Prop, (∃ m, W 0 m [] h1) ∧ ∀ i m acc h, W i m acc h →
      (t i h = some none ∧ Qf acc h) ∨ ∃ d, t i h = some (some d) ∧ ∃ N : List D → Hd → Prop, (∀ acc' h', N acc' h' → ∃ m', m' < m ∧ W (i + 1) m' acc' h') ∧ g d sl h fun sl2 h2 => tt sl2 h2 fun b h3 =>
        if b = true then te sl2 h3 fun y h4 => acc.length < sizeLine ∧ N (acc ++ [y]) h4 else N acc h3 := by
  refine ⟨fun i m acc h => m = xs.length - i ∧ i ≤ xs.length ∧ Pv i acc h, ⟨xs.length, by simp, Nat.zero_le _, h0⟩, ?_⟩
  rintro i m acc h ⟨rfl, hi, p⟩
  have q := ht i acc h hi p
  by_cases hlt : i < xs.length
  · have e : xs[i]? = some xs[i] := List.getElem?_eq_getElem hlt
    exact .inr ⟨xs[i], by rw [q, e], Pv (i + 1), fun acc' h' p' => ⟨xs.length - (i + 1), by omega, rfl, hlt, p'⟩, hs i _ acc h e p⟩
  · have e : i = xs.length := by omega
    subst e
    exact .inl ⟨by rw [q, List.getElem?_eq_none (Nat.le_refl _)], hd acc h p⟩
/-- .. of pure items: y := f x, the heap stays -/
theorem lc_map {t : ItD} {g : WG} {tt : WT} {te : WE} {sl : Sd} {h1 : Hd} {Qf : List D → Hd → Prop} (xs : List D) (f : D → D) (hl : xs.length ≤ sizeLine) (ht : ∀ i, t i h1 = some xs[i]?)
    (hs : ∀ x, x ∈ xs → ∀ R : List D → Hd → Prop, ∀ acc : List D, acc.length < sizeLine → R (acc ++ [f x]) h1 → g x sl h1 fun sl2 h2 => tt sl2 h2 fun b h3 => if b = true then te sl2 h3 fun y h4 => acc.length < sizeLine ∧ R (acc ++ [y]) h4 else R acc h3)
    (hd : Qf (xs.map f) h1) :
    ∃ W : Nat → Nat → List D → Hd → Prop, (∃ m, W 0 m [] h1) ∧ ∀ i m acc h, W i m acc h →
      (t i h = some none ∧ Qf acc h) ∨ ∃ d, t i h = some (some d) ∧ ∃ N : List D → Hd → Prop, (∀ acc' h', N acc' h' → ∃ m', m' < m ∧ W (i + 1) m' acc' h') ∧ g d sl h fun sl2 h2 => tt sl2 h2 fun b h3 =>
        if b = true then te sl2 h3 fun y h4 => acc.length < sizeLine ∧ N (acc ++ [y]) h4 else N acc h3 := by
  refine lc_by xs (fun i acc h => h = h1 ∧ acc = (xs.take i).map f ∧ i ≤ xs.length) ⟨rfl, rfl, Nat.zero_le _⟩ (fun i acc h _ p => by rw [p.1]; exact ht i) (fun i x acc h e p => ?_) (fun acc h p => ?_)
  · obtain ⟨rfl, rfl, hi⟩ := p
    have hlt := (List.getElem?_eq_some_iff.mp e).1
    refine hs x (List.mem_of_getElem? e) (fun acc h' => h' = h ∧ acc = (xs.take (i + 1)).map f ∧ i + 1 ≤ xs.length) _ (by simp; omega) ⟨rfl, ?_, hlt⟩
    rw [List.take_add_one, e]; simp
  · obtain ⟨rfl, rfl, _⟩ := p
    rw [List.take_length]; exact hd
end MV
namespace K07S
open PySem PySem.Spec
open PyProof.Rows hiding St
open L2
open MP (D Cell Hd Sd WE WT WA WS WG WI EndsD ItD SpD endR startD itSeq items tyD truD getD putD keyOk wipeD lenD sortS ltS leS)
open MV K07V

def isL (c : Nat) : Bool := 97 ≤ c && c ≤ 122
def nameS (x : Str) : Bool := 1 ≤ x.length && x.length ≤ 8 && x.cps.toList.all isL
def nameD : D → Bool
  | .str x => nameS x
  | _ => false
/-- a heap grew; what stood stays, but dicts may have been locked -/
def lkEq (c c' : Cell) : Prop := c' = c ∨ ∃ t kvs lk, c = .dct t lk kvs ∧ c' = .dct t true kvs
def Gr (h h' : Hd) : Prop := h.length ≤ h'.length ∧ ∀ (n : Nat) (c : Cell), h[n]? = some c → ∃ c', h'[n]? = some c' ∧ lkEq c c'
theorem Gr.refl {h : Hd} : Gr h h := ⟨Nat.le_refl _, fun n c e => ⟨c, e, .inl rfl⟩⟩
theorem Gr.trans {a b c : Hd} (x : Gr a b) (y : Gr b c) : Gr a c := ⟨Nat.le_trans x.1 y.1, fun n u e => by
  obtain ⟨u1, e1, l1⟩ := x.2 n u e
  obtain ⟨u2, e2, l2⟩ := y.2 n u1 e1
  refine ⟨u2, e2, ?_⟩
  rcases l1 with rfl | ⟨t, k, l, rfl, rfl⟩
  · exact l2
  · rcases l2 with rfl | ⟨t2, k2, l2, e3, rfl⟩
    · exact .inr ⟨t, k, l, rfl, rfl⟩
    · cases e3; exact .inr ⟨t, k, l, rfl, rfl⟩⟩
theorem Gr.app {h : Hd} (x : Hd) : Gr h (h ++ x) := ⟨by simp, fun n c e => ⟨c, by rw [List.getElem?_append_left (List.getElem?_eq_some_iff.mp e).1]; exact e, .inl rfl⟩⟩
theorem Gr.lock {h : Hd} {n : Nat} {t lk : Bool} {kvs : List (D × D)} (e : h[n]? = some (.dct t lk kvs)) : Gr h (h.set n (.dct t true kvs)) := ⟨by simp, fun m c f => by
  by_cases z : n = m
  · subst z
    rw [e] at f; cases f
    exact ⟨_, List.getElem?_set_self (List.getElem?_eq_some_iff.mp e).1, .inr ⟨t, kvs, lk, rfl, rfl⟩⟩
  · exact ⟨c, by rw [List.getElem?_set_ne z]; exact f, .inl rfl⟩⟩
theorem Gr.lst {h h' : Hd} (g : Gr h h') {n : Nat} {xs : List D} (e : h[n]? = some (.lst xs)) : h'[n]? = some (.lst xs) := by
  obtain ⟨c', e', l⟩ := g.2 n _ e
  rcases l with rfl | ⟨_, _, _, q, _⟩
  · exact e'
  · cases q
theorem Gr.ins {h h' : Hd} (g : Gr h h') {n : Nat} {c : Str} {fs : List (Str × D)} (e : h[n]? = some (.ins c fs)) : h'[n]? = some (.ins c fs) := by
  obtain ⟨c', e', l⟩ := g.2 n _ e
  rcases l with rfl | ⟨_, _, _, q, _⟩
  · exact e'
  · cases q
theorem Gr.scr {h h' : Hd} (g : Gr h h') {n : Nat} {xs : List D} (e : h[n]? = some (.scr xs)) : h'[n]? = some (.scr xs) := by
  obtain ⟨c', e', l⟩ := g.2 n _ e
  rcases l with rfl | ⟨_, _, _, q, _⟩
  · exact e'
  · cases q
theorem Gr.dct {h h' : Hd} (g : Gr h h') {n : Nat} {t lk : Bool} {kvs : List (D × D)} (e : h[n]? = some (.dct t lk kvs)) : ∃ lk', h'[n]? = some (.dct t lk' kvs) := by
  obtain ⟨c', e', l⟩ := g.2 n _ e
  rcases l with rfl | ⟨_, _, _, q, rfl⟩
  · exact ⟨lk, e'⟩
  · cases q; exact ⟨true, e'⟩
/-- a value of a known kind -/
def isTd : Cell → Bool
  | .dct true _ _ => true
  | .ins c _ => !decide (c = "Part")
  | _ => false
def okD (h : Hd) : D → Prop
  | .ref n => ∃ c, h[n]? = some c ∧ isTd c = false
  | .str x => x.length ≤ sizeLine
  | _ => True
theorem okD.ty {h : Hd} {d : D} (k : okD h d) : ∃ t, tyD h d = some t := by
  cases d with
  | ref n =>
    obtain ⟨c, e, f⟩ := k
    cases c with
    | dct t lk kvs =>
      cases t with
      | true => cases f
      | false => exact ⟨.inl "dict", by simp only [tyD, e]⟩
    | lst _ => exact ⟨.inl "list", by simp only [tyD, e]⟩
    | scr _ => exact ⟨.inl "list", by simp only [tyD, e]⟩
    | ins c _ => exact ⟨.inr c, by simp only [tyD, e]⟩
  | _ => exact ⟨_, rfl⟩
theorem okD.pt {h : Hd} {d : D} {t : MP.TyN} (k : okD h d) (e : tyD h d = some t) : ∀ c, t = .inr c → c = "Part" := by
  rintro c rfl
  cases d with
  | ref n =>
    obtain ⟨c', e', f⟩ := k
    cases c' with
    | ins c2 fs =>
      simp only [tyD, e', Option.some.injEq, Sum.inr.injEq] at e
      subst e
      unfold isTd at f
      simpa using f
    | dct t lk kvs => cases t <;> cases lk <;> simp [tyD, e'] at e
    | _ => simp [tyD, e'] at e
  | _ => simp [tyD] at e
theorem isTd_part {fs : List (Str × D)} : isTd (.ins "Part" fs) = false := by unfold isTd; simp
theorem okD.gr {h h' : Hd} {d : D} (k : okD h d) (g : Gr h h') : okD h' d := by
  cases d with
  | ref n =>
    obtain ⟨c, e, f⟩ := k
    obtain ⟨c', e', l⟩ := g.2 n c e
    refine ⟨c', e', ?_⟩
    rcases l with rfl | ⟨t, kvs, lk, rfl, rfl⟩
    · exact f
    · cases t with
      | true => cases f
      | false => rfl
  | _ => exact k
def s_is_name : SpD := fun ds h q => ∃ d, ds = [d] ∧ okD h d ∧ ∀ h', Gr h h' → q (.bl (nameD d)) h'
theorem kb : (["NoneType", "bool", "int", "str", "tuple", "list", "dict"].all fun n => decide (L2.kitB n "str" = some (n == "str")) && decide (L2.kitB n "int" = some (n == "int" || n == "bool")) && decide (L2.kitB n "bool" = some (n == "bool")) && decide (L2.kitB n "tuple" = some (n == "tuple")) && decide (L2.kitB n "dict" = some (n == "dict"))) = true := by decide +kernel
theorem kbS {n : String} (hn : n ∈ ["NoneType", "bool", "int", "str", "tuple", "list", "dict"]) : L2.kitB n "str" = some (n == "str") ∧ L2.kitB n "int" = some (n == "int" || n == "bool") ∧ L2.kitB n "bool" = some (n == "bool") ∧ L2.kitB n "tuple" = some (n == "tuple") ∧ L2.kitB n "dict" = some (n == "dict") := by
  have := List.all_eq_true.mp kb n hn
  simp only [Bool.and_eq_true, decide_eq_true_eq] at this
  exact ⟨this.1.1.1.1, this.1.1.1.2, this.1.1.2, this.1.2, this.2⟩
def isStr : D → Bool
  | .str _ => true
  | _ => false
def isTup : D → Bool
  | .tup _ => true
  | _ => false
def isInt : D → Bool
  | .int _ => true
  | .bl _ => true
  | _ => false
def isBl : D → Bool
  | .bl _ => true
  | _ => false
def tyN : MP.TyN → String
  | .inl n => n
  | .inr _ => "own"
theorem tyD_mem {h : Hd} {d : D} {n : String} (e : tyD h d = some (.inl n)) : n ∈ ["NoneType", "bool", "int", "str", "tuple", "list", "dict"] := by
  cases d <;> simp only [tyD] at e <;> first | (cases e; decide) | skip
  split at e <;> first | (cases e; decide) | cases e
/-- what isinstance answers -/
theorem tab_eq {h : Hd} {d : D} {t : MP.TyN} (hp : ∀ c, t = .inr c → c = "Part") (e : tyD h d = some t) : K07.tabStr t = some (tyN t == "str") ∧ K07.tabInt t = some (tyN t == "int" || tyN t == "bool") ∧ K07.tabBool t = some (tyN t == "bool") ∧ K07.tabTuple t = some (tyN t == "tuple") ∧ K07.tabDict t = some (tyN t == "dict") := by
  cases t with
  | inl n => exact kbS (tyD_mem e)
  | inr c =>
    obtain rfl := hp c rfl
    decide +kernel
theorem ty_str {h : Hd} {d : D} {t : MP.TyN} (e : tyD h d = some t) : (tyN t == "str") = isStr d := by
  cases d <;> simp only [tyD] at e <;> first | (cases e; rfl) | skip
  split at e <;> first | (cases e; rfl) | cases e
theorem ty_tup {h : Hd} {d : D} {t : MP.TyN} (e : tyD h d = some t) : (tyN t == "tuple") = isTup d := by
  cases d <;> simp only [tyD] at e <;> first | (cases e; rfl) | skip
  split at e <;> first | (cases e; rfl) | cases e
theorem ty_int {h : Hd} {d : D} {t : MP.TyN} (e : tyD h d = some t) : (tyN t == "int" || tyN t == "bool") = isInt d := by
  cases d <;> simp only [tyD] at e <;> first | (cases e; rfl) | skip
  split at e <;> first | (cases e; rfl) | cases e
theorem ty_bool {h : Hd} {d : D} {t : MP.TyN} (e : tyD h d = some t) : (tyN t == "bool") = isBl d := by
  cases d <;> simp only [tyD] at e <;> first | (cases e; rfl) | skip
  split at e <;> first | (cases e; rfl) | cases e
theorem isL_eq (c : Nat) : (!ltS (⟨#[c]⟩ : Str) ("a" : Str) && !ltS ("z" : Str) (⟨#[c]⟩ : Str)) = isL c := by
  have e1 : ("a" : Str).cps.toList = [97] := by decide +kernel
  have e2 : ("z" : Str).cps.toList = [122] := by decide +kernel
  unfold ltS isL
  rw [e1, e2]
  simp only [List.cons_lt_cons_iff, List.not_lt_nil, and_false, or_false]
  by_cases h1 : 97 ≤ c <;> by_cases h2 : c ≤ 122 <;> simp [h1, h2] <;> omega
theorem it_seq {xs : List D} {h : Hd} (i : Nat) : itSeq xs i h = some xs[i]? := rfl
theorem p_is_name {ds : List D} {h : Hd} {q : D → Hd → Prop} (z : s_is_name ds h q) : v_is_name (endR q) (startD K07.N_is_name ds) h := by
  obtain ⟨d, rfl, hok, z⟩ := z
  obtain ⟨t, ht⟩ := hok.ty
  refine ⟨_, rfl, t, _, ht, (tab_eq (hok.pt ht) ht).1, _, rfl, ?_⟩
  rw [ty_str ht]
  by_cases hd : ∃ x, d = .str x
  · obtain ⟨x, rfl⟩ := hd
    have hx : x.length ≤ sizeLine := hok
    refine iff_ rfl ?_
    refine ⟨_, rfl, _, x.length, rfl, by simp [lenD, hx], ?_⟩
    refine ⟨_, rfl, ?_⟩
    have bad : (1 ≤ x.length && x.length ≤ 8) = false → q (.bl false) h := fun e => by
      have := z h .refl
      simp only [nameD, nameS, e, Bool.false_and] at this
      exact this
    by_cases h1 : 1 ≤ x.length
    · refine ift (by simp; omega) ?_
      refine ⟨_, rfl, ?_⟩
      by_cases h8 : x.length ≤ 8
      · refine iff_ (by simp; omega) ?_
        refine ⟨_, rfl, x, rfl, ?_⟩
        dsimp only
        refine lc_map _ (fun y => match y with | .str w => .bl (isL (w.cps.toList.getD 0 0)) | _ => .non) ?_ it_seq ?_ ?_
        · simp only [List.length_map, Array.length_toList]
          show x.length ≤ sizeLine
          exact hx
        · intro y hy R acc hacc hR
          obtain ⟨c, hc, rfl⟩ := List.mem_map.mp hy
          refine ⟨_, rfl, _, rfl, ?_⟩
          have e := isL_eq c
          by_cases ha : ltS (⟨#[c]⟩ : Str) ("a" : Str) = true
          · refine iff_ (by show (!ltS _ _) = false; rw [ha]; rfl) ⟨hacc, ?_⟩
            rw [ha] at e
            have : isL c = false := by rw [← e]; rfl
            simp only [List.getD_cons_zero, this] at hR
            exact hR
          · have ha' : ltS (⟨#[c]⟩ : Str) ("a" : Str) = false := by simpa using ha
            refine ift (by show (!ltS _ _) = true; rw [ha']; rfl) ⟨hacc, ?_⟩
            rw [ha'] at e
            simp only [List.getD_cons_zero, ← e] at hR
            exact hR
        · refine ⟨h.length, x.cps.toList.map isL, rfl, ?_, ?_⟩
          · simp [items, List.map_map, Function.comp_def]
          · have := z (h ++ [.lst ((x.cps.toList.map fun c => D.str ⟨#[c]⟩).map fun y => match y with | .str w => D.bl (isL (w.cps.toList.getD 0 0)) | _ => .non)]) (Gr.app _)
            have e : nameD (.str x) = (x.cps.toList.map isL).all fun b => b := by
              simp [nameD, nameS, h1, h8, List.all_map, Function.comp_def]
            rw [e] at this
            exact this
      · refine ift (by simp; omega) ?_
        exact bad (by simp [h8])
    · refine iff_ (by simp; omega) ?_
      refine ⟨_, rfl, ?_⟩
      refine ift rfl ?_
      exact bad (by simp [h1])
  · have e0 : isStr d = false := by cases d <;> first | exact absurd ⟨_, rfl⟩ hd | rfl
    have e1 : nameD d = false := by cases d <;> first | exact absurd ⟨_, rfl⟩ hd | rfl
    rw [e0]
    refine ift rfl ?_
    have := z h .refl
    rw [e1] at this
    exact this

/-! ### is_index, is_word, is_ascending, the requirements -/
def indexD (total : Int) : D → Bool
  | .int i => decide (0 ≤ i) && decide (i < total)
  | _ => false
def s_is_index : SpD := fun ds h q => ∃ d n, ds = [d, .int n] ∧ okD h d ∧ ∀ h', Gr h h' → q (.bl (indexD n d)) h'
theorem p_is_index {ds : List D} {h : Hd} {q : D → Hd → Prop} (z : s_is_index ds h q) : v_is_index (endR q) (startD K07.N_is_index ds) h := by
  obtain ⟨d, n, rfl, hok, z⟩ := z
  obtain ⟨t, ht⟩ := hok.ty
  have z := z h .refl
  refine ⟨_, rfl, t, _, ht, (tab_eq (hok.pt ht) ht).2.1, _, rfl, ?_⟩
  rw [ty_int ht]
  cases d with
  | int i =>
    refine ift rfl ?_
    refine ⟨_, rfl, t, _, ht, (tab_eq (hok.pt ht) ht).2.2.1, _, rfl, _, rfl, ?_⟩
    rw [ty_bool ht]
    refine ift rfl ?_
    refine ⟨_, rfl, _, rfl, ?_⟩
    by_cases h0 : 0 ≤ i
    · refine ift (by simpa using h0) ?_
      refine ⟨_, rfl, ?_⟩
      simp only [indexD, h0, decide_true, Bool.true_and] at z
      exact z
    · refine iff_ (by simpa using h0) ?_
      simp only [indexD, h0, decide_false, Bool.false_and] at z
      exact z
  | bl b =>
    refine ift rfl ?_
    refine ⟨_, rfl, t, _, ht, (tab_eq (hok.pt ht) ht).2.2.1, _, rfl, _, rfl, ?_⟩
    rw [ty_bool ht]
    exact iff_ rfl z
  | _ => exact iff_ rfl z
def wordD : D → Bool
  | .tup xs => xs.all nameD
  | _ => false
def okW (h : Hd) : D → Prop
  | .tup xs => xs.length < sizeLine ∧ ∀ x ∈ xs, okD h x
  | d => okD h d
def s_is_word : SpD := fun ds h q => ∃ d, ds = [d] ∧ okW h d ∧ ∀ h', Gr h h' → q (.bl (wordD d)) h'
theorem okW.ok {h : Hd} {d : D} (k : okW h d) : okD h d := by
  cases d <;> first | exact k | trivial
theorem okD.all_gr {h h' : Hd} {xs : List D} (k : ∀ x ∈ xs, okD h x) (g : Gr h h') : ∀ x ∈ xs, okD h' x := fun x hx => (k x hx).gr g
theorem okW.gr {h h' : Hd} {d : D} (k : okW h d) (g : Gr h h') : okW h' d := by
  cases d with
  | tup xs => exact ⟨k.1, okD.all_gr k.2 g⟩
  | ref n => exact okD.gr (d := .ref n) k g
  | _ => exact k
theorem p_is_word {ds : List D} {h : Hd} {q : D → Hd → Prop} (z : s_is_word ds h q) : v_is_word s_is_name (endR q) (startD K07.N_is_word ds) h := by
  obtain ⟨d, rfl, hok, z⟩ := z
  obtain ⟨t, ht⟩ := hok.ok.ty
  refine ⟨_, rfl, t, _, ht, (tab_eq (hok.ok.pt ht) ht).2.2.2.1, _, rfl, ?_⟩
  rw [ty_tup ht]
  cases d with
  | tup xs =>
    refine ift rfl ?_
    refine ⟨_, rfl, xs, rfl, ?_⟩
    dsimp only
    refine lc_by xs (fun i acc h' => Gr h h' ∧ acc = (xs.take i).map (fun x => .bl (nameD x))) ⟨.refl, rfl⟩ (fun i acc h' _ _ => rfl) (fun i x acc h' e p => ?_) (fun acc h' p => ?_)
    · obtain ⟨g, rfl⟩ := p
      have hlt := (List.getElem?_eq_some_iff.mp e).1
      refine ⟨_, rfl, x, rfl, (hok.2 x (List.mem_of_getElem? e)).gr g, fun h2 g2 => ⟨by have := hok.1; simp; omega, g.trans g2, ?_⟩⟩
      rw [List.take_add_one, e]; simp
    · obtain ⟨g, rfl⟩ := p
      rw [List.take_length]
      refine ⟨h'.length, xs.map nameD, rfl, by simp [items, List.map_map, Function.comp_def], ?_⟩
      have := z _ (g.trans (.app [.lst ((xs.take xs.length).map fun x => D.bl (nameD x))]))
      rw [List.take_length] at this
      have e : wordD (.tup xs) = (xs.map nameD).all fun b => b := by simp [wordD, List.all_map, Function.comp_def]
      rw [e] at this
      exact this
  | _ => exact iff_ rfl (z h .refl)
def s_require_word : SpD := fun ds h q => ∃ d, ds = [d] ∧ okW h d ∧ wordD d = true ∧ ∀ h', Gr h h' → q .non h'
theorem p_require_word {ds : List D} {h : Hd} {q : D → Hd → Prop} (z : s_require_word ds h q) : v_require_word s_is_word (endR q) (startD K07.N_require_word ds) h := by
  obtain ⟨d, rfl, hok, hw, z⟩ := z
  refine ⟨_, rfl, d, rfl, hok, fun h' g => ⟨_, rfl, ?_⟩⟩
  rw [hw]
  exact iff_ rfl (z _ g)
end K07S

set_option Elab.async false
set_option linter.all false
set_option maxRecDepth 100000
set_option maxHeartbeats 2000000
/-! K07T: rows and parts; the plain proofs of the parts' making. -/
namespace K07S
open PySem PySem.Spec
open PyProof.Rows hiding St
open L2
open MP (D Cell Hd Sd WE WT WA WS WG WI EndsD ItD SpD endR startD itSeq items tyD truD getD putD keyOk wipeD lenD sortS ltS leS dctOf itKeys itVals)
open MV K07V

theorem cList_dct {h : Hd} {n : Nat} {lk : Bool} {kvs : List (D × D)} {Q : D → Hd → Prop} (e : h[n]? = some (.dct false lk kvs)) (z : Q (.ref h.length) (h ++ [.lst (kvs.map (·.1))])) : MV.cList [.ref n] h Q := by
  show (match h[n]? with | some (.dct false _ kvs) => Q (.ref h.length) (h ++ [.lst (kvs.map (·.1))]) | _ => ∃ xs, items h n = some xs ∧ Q (.ref h.length) (h ++ [.lst xs]))
  rw [e]; exact z
theorem cList_lst {h : Hd} {n : Nat} {xs : List D} {Q : D → Hd → Prop} (e : h[n]? = some (.lst xs)) (z : Q (.ref h.length) (h ++ [.lst xs])) : MV.cList [.ref n] h Q := by
  show (match h[n]? with | some (.dct false _ kvs) => Q (.ref h.length) (h ++ [.lst (kvs.map (·.1))]) | _ => ∃ xs, items h n = some xs ∧ Q (.ref h.length) (h ++ [.lst xs]))
  rw [e]; exact ⟨xs, by simp [items, e], z⟩
theorem oIx_dct {h : Hd} {n : Nat} {t lk : Bool} {kvs : List (D × D)} {y d : D} {Q : D → Hd → Prop} (e : h[n]? = some (.dct t lk kvs)) (hk : keyOk t y = true) (hg : getD kvs y = some d) (z : Q d h) : MV.oIx (.ref n) y h Q := by
  show (match h[n]? with
    | some (.lst xs) => ∃ i d, y = .int i ∧ L2.atI xs i = some d ∧ Q d h
    | some (.scr xs) => ∃ i d, y = .int i ∧ L2.atI xs i = some d ∧ Q d h
    | some (.dct t _ kvs) => keyOk t y = true ∧ ∃ d, getD kvs y = some d ∧ Q d h
    | _ => False)
  rw [e]; exact ⟨hk, d, hg, z⟩
theorem oIx_lst {h : Hd} {n : Nat} {xs : List D} {i : Int} {d : D} {Q : D → Hd → Prop} (e : h[n]? = some (.lst xs)) (hg : L2.atI xs i = some d) (z : Q d h) : MV.oIx (.ref n) (.int i) h Q := by
  show (match h[n]? with
    | some (.lst xs) => ∃ i' d, D.int i = .int i' ∧ L2.atI xs i' = some d ∧ Q d h
    | some (.scr xs) => ∃ i' d, D.int i = .int i' ∧ L2.atI xs i' = some d ∧ Q d h
    | some (.dct t _ kvs) => keyOk t (.int i) = true ∧ ∃ d, getD kvs (.int i) = some d ∧ Q d h
    | _ => False)
  rw [e]; exact ⟨i, d, rfl, hg, z⟩
theorem oIx_tup {h : Hd} {xs : List D} {i : Int} {d : D} {Q : D → Hd → Prop} (hg : L2.atI xs i = some d) (z : Q d h) : MV.oIx (.tup xs) (.int i) h Q := ⟨i, d, rfl, hg, z⟩
theorem nodup_le {α : Type} [DecidableEq α] : ∀ {xs ys : List α}, xs.Nodup → (∀ x ∈ xs, x ∈ ys) → xs.length ≤ ys.length
  | [], _, _, _ => Nat.zero_le _
  | x :: xs, ys, h, s => by
    have hx : x ∈ ys := s x List.mem_cons_self
    have h' := List.nodup_cons.mp h
    have := nodup_le (xs := xs) (ys := ys.erase x) h'.2 fun y hy => (List.mem_erase_of_ne (fun e => h'.1 (by rw [← e]; exact hy))).mpr (s y (List.mem_cons_of_mem _ hy))
    rw [List.length_erase_of_mem hx] at this
    have := List.length_pos_of_mem hx
    simp only [List.length_cons]; omega
theorem Gr.set {h0 h1 : Hd} (g : Gr h0 h1) {n : Nat} (c : Cell) (hn : h0.length ≤ n) : Gr h0 (h1.set n c) := ⟨by simpa using g.1, fun m u e => by
  obtain ⟨u', e', l⟩ := g.2 m u e
  have : m < h0.length := (List.getElem?_eq_some_iff.mp e).1
  exact ⟨u', by rw [List.getElem?_set_ne (by omega)]; exact e', l⟩⟩

/-! ### rows -/
abbrev Row := List (Str × Nat)
def rowK (r : Row) : List (D × D) := r.map fun p => (.str p.1, .int p.2)
def keysR (r : Row) : List Str := r.map (·.1)
def IsRow (h : Hd) (d : D) (r : Row) : Prop := ∃ n lk, d = .ref n ∧ h[n]? = some (.dct false lk (rowK r))
theorem IsRow.gr {h h' : Hd} {d : D} {r : Row} (k : IsRow h d r) (g : Gr h h') : IsRow h' d r := by
  obtain ⟨n, lk, rfl, e⟩ := k
  obtain ⟨lk', e'⟩ := g.dct e
  exact ⟨n, lk', rfl, e'⟩
def IsRows (h : Hd) (ds : List D) (rs : List Row) : Prop := ds.length = rs.length ∧ ∀ (i : Nat) d r, ds[i]? = some d → rs[i]? = some r → IsRow h d r
theorem IsRows.gr {h h' : Hd} {ds : List D} {rs : List Row} (k : IsRows h ds rs) (g : Gr h h') : IsRows h' ds rs := ⟨k.1, fun i d r a b => (k.2 i d r a b).gr g⟩
theorem IsRows.at {h : Hd} {ds : List D} {rs : List Row} (k : IsRows h ds rs) {i : Nat} {d : D} (e : ds[i]? = some d) : ∃ r, rs[i]? = some r ∧ IsRow h d r := by
  have hi : i < rs.length := by rw [← k.1]; exact (List.getElem?_eq_some_iff.mp e).1
  exact ⟨rs[i], List.getElem?_eq_getElem hi, k.2 i d _ e (List.getElem?_eq_getElem hi)⟩
theorem IsRows.at' {h : Hd} {ds : List D} {rs : List Row} (k : IsRows h ds rs) {i : Nat} {r : Row} (e : rs[i]? = some r) : ∃ d, ds[i]? = some d ∧ IsRow h d r := by
  have hi : i < ds.length := by rw [k.1]; exact (List.getElem?_eq_some_iff.mp e).1
  exact ⟨ds[i], List.getElem?_eq_getElem hi, k.2 i _ r (List.getElem?_eq_getElem hi) e⟩
theorem IsRows.snoc {h : Hd} {ds : List D} {rs : List Row} {d : D} {r : Row} (k : IsRows h ds rs) (x : IsRow h d r) : IsRows h (ds ++ [d]) (rs ++ [r]) := by
  refine ⟨by simp [k.1], fun i d' r' a b => ?_⟩
  by_cases hi : i < ds.length
  · rw [List.getElem?_append_left hi] at a
    rw [List.getElem?_append_left (by rw [← k.1]; exact hi)] at b
    exact k.2 i d' r' a b
  · rw [List.getElem?_append_right (by omega)] at a
    rw [List.getElem?_append_right (by rw [← k.1]; omega)] at b
    have e1 : d' = d := by
      cases z : i - ds.length with
      | zero => rw [z] at a; simpa using a.symm
      | succ m => rw [z] at a; simp at a
    have e2 : r' = r := by
      rw [← k.1] at b
      cases z : i - ds.length with
      | zero => rw [z] at b; simpa using b.symm
      | succ m => rw [z] at b; simp at b
    rw [e1, e2]; exact x
def lk (r : Row) (a : Str) : Option Nat := r.lookup a
theorem getD_rowK (a : Str) : ∀ r : Row, getD (rowK r) (.str a) = (lk r a).map fun (n : Nat) => D.int (n : Int)
  | [] => rfl
  | (b, n) :: r => by
    have ih := getD_rowK a r
    unfold getD rowK lk at *
    by_cases e : b = a
    · subst e
      simp [List.find?_cons, List.lookup_cons]
    · have e' : (a == b) = false := by simp [Ne.symm e]
      have e2 : ¬ (D.str b = D.str a) := fun q => e (by injection q)
      simp only [List.map_cons, List.find?_cons, e2, decide_false, List.lookup_cons, e']
      exact ih
theorem lk_mem {a : Str} : ∀ {r : Row}, a ∈ keysR r → ∃ n, lk r a = some n
  | [], h => by cases h
  | (b, n) :: r, h => by
    unfold lk
    rw [List.lookup_cons]
    by_cases e : a = b
    · subst e; exact ⟨n, by simp⟩
    · have e' : (a == b) = false := by simp [e]
      simp only [e']
      have : a ∈ keysR r := by
        rcases List.mem_cons.mp (show a ∈ b :: keysR r from h) with q | q
        · exact absurd q e
        · exact q
      exact lk_mem this
theorem lk_none {a : Str} : ∀ {r : Row}, a ∉ keysR r → lk r a = none
  | [], _ => rfl
  | (b, n) :: r, h => by
    unfold lk
    rw [List.lookup_cons]
    have h' : a ≠ b ∧ a ∉ keysR r := by
      have : a ∉ b :: keysR r := h
      simpa using this
    have e' : (a == b) = false := by simp [h'.1]
    simp only [e']
    exact lk_none h'.2
theorem lk_val {a : Str} {n : Nat} : ∀ {r : Row}, lk r a = some n → (a, n) ∈ r
  | [], h => by cases h
  | (b, m) :: r, h => by
    unfold lk at h
    rw [List.lookup_cons] at h
    by_cases e : a = b
    · subst e
      simp at h; subst h; exact List.mem_cons_self
    · have e' : (a == b) = false := by simp [e]
      simp only [e'] at h
      exact List.mem_cons_of_mem _ (lk_val h)
/-- the row with ascending keys -/
def srt (r : Row) : Row := (sortS (keysR r)).map fun a => (a, (lk r a).getD 0)
theorem keys_srt (r : Row) : keysR (srt r) = sortS (keysR r) := by
  unfold srt keysR; rw [List.map_map]; simp [Function.comp_def]
theorem lk_map {f : Str → Nat} {a : Str} : ∀ {ks : List Str}, a ∈ ks → lk (ks.map fun a => (a, f a)) a = some (f a)
  | [], h => by cases h
  | k :: ks, h => by
    unfold lk
    rw [List.map_cons, List.lookup_cons]
    by_cases e : a = k
    · subst e; simp
    · have e' : (a == k) = false := by simp [e]
      simp only [e']
      rcases List.mem_cons.mp h with q | q
      · exact absurd q e
      · exact lk_map q
theorem lk_srt (r : Row) (a : Str) : lk (srt r) a = lk r a := by
  by_cases h : a ∈ keysR r
  · obtain ⟨n, e⟩ := lk_mem h
    have : lk (srt r) a = some ((lk r a).getD 0) := lk_map (MP.mem_sortS.mpr h)
    rw [this, e]; rfl
  · rw [lk_none h, lk_none]
    rw [keys_srt]
    exact fun q => h (MP.mem_sortS.mp q)
theorem rowK_keys (r : Row) : (rowK r).map (·.1) = (keysR r).map D.str := by unfold rowK keysR; simp [List.map_map, Function.comp_def]
/-- a sane row -/
structure RowOk (r : Row) : Prop where
  nd : (keysR r).Nodup
  sm : r.length ≤ 7
theorem RowOk.srt {r : Row} (k : RowOk r) : RowOk (srt r) := ⟨by rw [keys_srt]; exact (MP.sortS_perm _).nodup_iff.mpr k.nd, by
  have : (K07S.srt r).length = r.length := by unfold K07S.srt; rw [List.length_map, MP.sortS_length]; unfold keysR; simp
  rw [this]; exact k.sm⟩
/-! a dict comprehension over a fixed row -/
theorem dc_by {t : ItD} {g : WG} {tt : WT} {tk tv : WE} {sl : Sd} {h1 : Hd} {Qf : List (D × D) → Hd → Prop} (xs : List D) (Pv : Nat → List (D × D) → Hd → Prop) (h0 : Pv 0 [] h1) (ht : ∀ i acc h, i ≤ xs.length → Pv i acc h → t i h = some xs[i]?)
    (hs : ∀ i x acc h, xs[i]? = some x → Pv i acc h → g x sl h fun sl2 h2 => tt sl2 h2 fun b h3 => if b = true then tk sl2 h3 fun x h4 => tv sl2 h4 fun y h5 => keyOk false x = true ∧ acc.length < sizeLine ∧ Pv (i + 1) (putD acc x y) h5 else Pv (i + 1) acc h3)
    (hd : ∀ acc h, Pv xs.length acc h → Qf acc h) :
    ∃ W : Nat → Nat → List (D × D) → Hd → Prop, (∃ m, W 0 m [] h1) ∧ ∀ i m acc h, W i m acc h →
      (t i h = some none ∧ Qf acc h) ∨ ∃ d, t i h = some (some d) ∧ ∃ N : List (D × D) → Hd → Prop, (∀ acc' h', N acc' h' → ∃ m', m' < m ∧ W (i + 1) m' acc' h') ∧ g d sl h fun sl2 h2 => tt sl2 h2 fun b h3 =>
        if b = true then tk sl2 h3 fun x h4 => tv sl2 h4 fun y h5 => keyOk false x = true ∧ acc.length < sizeLine ∧ N (putD acc x y) h5 else N acc h3 := by
  refine ⟨fun i m acc h => m = xs.length - i ∧ i ≤ xs.length ∧ Pv i acc h, ⟨xs.length, by simp, Nat.zero_le _, h0⟩, ?_⟩
  rintro i m acc h ⟨rfl, hi, p⟩
  have q := ht i acc h hi p
  by_cases hlt : i < xs.length
  · have e : xs[i]? = some xs[i] := List.getElem?_eq_getElem hlt
    exact .inr ⟨xs[i], by rw [q, e], Pv (i + 1), fun acc' h' p' => ⟨xs.length - (i + 1), by omega, rfl, hlt, p'⟩, hs i _ acc h e p⟩
  · have e : i = xs.length := by omega
    subst e
    exact .inl ⟨by rw [q, List.getElem?_eq_none (Nat.le_refl _)], hd acc h p⟩
theorem putD_new {acc : List (D × D)} {k v : D} (h : ∀ p ∈ acc, p.1 ≠ k) : putD acc k v = acc ++ [(k, v)] := by
  unfold putD
  rw [if_neg]
  simp only [List.any_eq_true, decide_eq_true_eq, not_exists, not_and]
  exact h

def s_sorted_rows : SpD := fun ds h q => ∃ refs rs, ds = [.tup refs] ∧ IsRows h refs rs ∧ (∀ r ∈ rs, RowOk r) ∧ rs.length ≤ 8 ∧ ∀ h' refs', Gr h h' → IsRows h' refs' (rs.map srt) → q (.tup refs') h'
theorem p_sorted_rows {ds : List D} {h : Hd} {q : D → Hd → Prop} (z : s_sorted_rows ds h q) : v_sorted_rows (endR q) (startD K07.N_sorted_rows ds) h := by
  obtain ⟨refs, rs, rfl, hr, ok, h8, z⟩ := z
  refine ⟨_, rfl, refs, rfl, ?_⟩
  dsimp only
  refine lc_by refs (fun i acc h' => Gr h h' ∧ IsRows h' acc ((rs.take i).map srt)) ⟨.refl, rfl, fun i d r a => by simp at a⟩ (fun i acc h' _ _ => rfl) (fun i x acc h' e p => ?_) (fun acc h' p => ?_)
  · obtain ⟨g, hacc⟩ := p
    obtain ⟨r, er, hx⟩ := hr.at e
    have okr := ok r (List.mem_of_getElem? er)
    have hi : i < rs.length := (List.getElem?_eq_some_iff.mp er).1
    obtain ⟨n, lk', rfl, en⟩ := hx.gr g
    have hk : (keysR r).length ≤ 7 := by unfold keysR; simpa using okr.sm
    -- list(row), sorted
    refine ⟨_, rfl, ?_⟩
    dsimp only [MV.wNil]
    refine cList_dct en ?_
    refine ⟨_, keysR r, rfl, .inl (by simp [items, rowK_keys]), by omega, ?_⟩
    refine ⟨_, (sortS (keysR r)).map D.str, rfl, by simp [items], ?_⟩
    have g2 : Gr h' (h' ++ [.lst ((rowK r).map (·.1))] ++ [.lst ((sortS (keysR r)).map D.str)]) := (Gr.app _).trans (.app _)
    generalize hh2 : h' ++ [Cell.lst ((rowK r).map (·.1))] ++ [.lst ((sortS (keysR r)).map D.str)] = h2 at g2 ⊢
    have it2 : items h2 (h' ++ [Cell.lst ((rowK r).map (·.1))]).length = some ((sortS (keysR r)).map D.str) := by
      rw [← hh2]; unfold items; rw [List.getElem?_append_right (Nat.le_refl _)]; simp
    refine dc_by ((sortS (keysR r)).map D.str) (fun j acc2 h3 => h3 = h2 ∧ acc2 = rowK (((sortS (keysR r)).take j).map fun a => (a, (lk r a).getD 0))) ⟨rfl, rfl⟩ (fun j acc2 h3 _ p3 => by
      rw [p3.1]; unfold MP.itLst; rw [it2]; rfl) (fun j y acc2 h3 e3 p3 => ?_) (fun acc2 h3 p3 => ?_)
    · obtain ⟨rfl, rfl⟩ := p3
      rw [List.getElem?_map] at e3
      obtain ⟨a, ea, rfl⟩ := Option.map_eq_some_iff.mp e3
      have ha : a ∈ keysR r := MP.mem_sortS.mp (List.mem_of_getElem? ea)
      obtain ⟨m, em⟩ := lk_mem ha
      obtain ⟨lk3, en3⟩ := g2.dct en
      refine ⟨_, rfl, _, rfl, _, rfl, ?_⟩
      dsimp only
      refine oIx_dct en3 rfl (d := .int m) (by rw [getD_rowK, em]; rfl) ⟨rfl, ?_, ?_⟩
      · unfold rowK
        simp only [List.length_map, List.length_take]
        have : sizeLine = 16777216 := sizeLine_eq
        have : (sortS (keysR r)).length ≤ 7 := by rw [MP.sortS_length]; exact hk
        omega
      · rw [putD_new]
        · rw [List.take_add_one, ea]
          unfold rowK
          simp [em]
        · intro p hp
          unfold rowK at hp
          simp only [List.map_map, List.mem_map, Function.comp_def] at hp
          obtain ⟨b, hb, rfl⟩ := hp
          intro q
          have q : b = a := by injection q
          subst q
          have nd : (sortS (keysR r)).Nodup := (MP.sortS_perm _).nodup_iff.mpr okr.nd
          obtain ⟨k, hk1, hk2⟩ := List.getElem_of_mem hb
          have hk1' : k < j := by simp at hk1; omega
          rw [List.getElem_take] at hk2
          have hj := List.getElem?_eq_some_iff.mp ea
          have := (List.getElem_inj nd).mp (hk2.trans hj.2.symm)
          omega
    · obtain ⟨rfl, rfl⟩ := p3
      refine ⟨?_, ?_, ?_⟩
      · have := hacc.1
        simp only [List.length_map, List.length_take] at this
        have : sizeLine = 16777216 := sizeLine_eq
        omega
      · exact (g.trans g2).trans (.app _)
      · rw [List.take_add_one, er]
        simp only [Option.toList_some, List.map_append, List.map_cons, List.map_nil]
        refine (hacc.gr (g2.trans (.app _))).snoc ⟨_, false, rfl, ?_⟩
        rw [List.getElem?_append_right (Nat.le_refl _)]
        simp only [Nat.sub_self, List.getElem?_cons_zero, List.length_map, List.take_length]
        rfl
  · obtain ⟨g, hacc⟩ := p
    refine ⟨acc, by simp [items], ?_⟩
    rw [hr.1, List.take_length] at hacc
    exact z _ _ (g.trans (.app _)) (hacc.gr (.app _))
end K07S

set_option Elab.async false
set_option linter.all false
set_option maxRecDepth 100000
set_option maxHeartbeats 2000000
/-! K07U: the plain proofs of what a part asks of its rows. -/
namespace K07S
open PySem PySem.Spec
open PyProof.Rows hiding St
open L2
open MP (D Cell Hd Sd WE WT WA WS WG WI EndsD ItD SpD endR startD itSeq items tyD truD getD putD keyOk wipeD lenD sortS ltS leS dctOf itKeys itVals cutD)
open MV K07V
theorem cut1 (xs : List D) : cutD xs (some 1) none = xs.drop 1 := by
  cases xs with
  | nil => rfl
  | cons x xs =>
    have e1 : HT.sIx (x :: xs).length 0 (some 1) = 1 := by unfold HT.sIx; simp; try omega
    have e2 : HT.sIx (x :: xs).length (x :: xs).length none = (x :: xs).length := by unfold HT.sIx; simp
    unfold MP.cutD
    rw [e1, e2]
    simp
def natsD (ns : List Nat) : List D := ns.map fun (n : Nat) => .int (n : Int)
theorem asc_all : ∀ {ns : List Nat}, ns.Pairwise (· < ·) → ∀ y ∈ ((natsD ns).zip ((natsD ns).drop 1)), ∃ a b : Int, y = (.int a, .int b) ∧ a < b
  | [], _, y, hy => by simp [natsD] at hy
  | [a], _, y, hy => by simp [natsD] at hy
  | a :: b :: r, h, y, hy => by
    have h1 := (List.pairwise_cons.mp h).1 b List.mem_cons_self
    have h2 := (List.pairwise_cons.mp h).2
    rcases List.mem_cons.mp (show y ∈ (D.int a, D.int b) :: ((natsD (b :: r)).zip ((natsD (b :: r)).drop 1)) from hy) with rfl | q
    · exact ⟨a, b, rfl, by omega⟩
    · exact asc_all h2 y q
def s_is_ascending : SpD := fun ds h q => ∃ ns, ds = [.tup (natsD ns)] ∧ ns.Pairwise (· < ·) ∧ ns.length ≤ 8 ∧ ∀ h', Gr h h' → q (.bl true) h'
theorem p_is_ascending {ds : List D} {h : Hd} {q : D → Hd → Prop} (z : s_is_ascending ds h q) : v_is_ascending (endR q) (startD K07.N_is_ascending ds) h := by
  obtain ⟨ns, rfl, pw, h8, z⟩ := z
  refine ⟨_, rfl, _, rfl, 1, rfl, ?_⟩
  dsimp only [MV.wNoPart, MV.oSl, MV.wNil]
  rw [cut1]
  have hl : (((natsD ns).zip ((natsD ns).drop 1)).map fun p => D.tup [p.1, p.2]).length ≤ 8 := by
    simp only [List.length_map, List.length_zip, natsD, List.length_drop]; omega
  refine lc_map _ (fun _ => .bl true) (Nat.le_trans hl (by decide)) it_seq (fun y hy R acc hacc hR => ?_) ?_
  · obtain ⟨⟨a0, b0⟩, hp, rfl⟩ := List.mem_map.mp hy
    obtain ⟨a, b, e, hab⟩ := asc_all pw _ hp
    cases e
    refine ⟨_, rfl, rfl, _, _, rfl, _, _, rfl, rfl, ?_⟩
    refine ⟨_, rfl, _, rfl, hacc, ?_⟩
    have : decide (a < b) = true := decide_eq_true hab
    show R (acc ++ [.bl (decide (a < b))]) h
    rw [this]; exact hR
  · refine ⟨h.length, (((natsD ns).zip ((natsD ns).drop 1)).map fun _ => true), rfl, ?_, ?_⟩
    · simp [items, List.map_map, Function.comp_def]
    · have e : ((((natsD ns).zip ((natsD ns).drop 1)).map fun _ => true).all fun b => b) = true := by simp
      rw [e]
      exact z _ (.app _)
def s_is_rests : SpD := fun ds h q => ∃ ns n, ds = [.tup (natsD ns), .int (n : Nat)] ∧ ns.Pairwise (· < ·) ∧ (∀ x ∈ ns, x < n) ∧ n ≤ 8 ∧ ∀ h', Gr h h' → q (.bl true) h'
theorem len_lt {ns : List Nat} {n : Nat} (pw : ns.Pairwise (· < ·)) (h : ∀ x ∈ ns, x < n) : ns.length ≤ n := by
  have := nodup_le (xs := ns) (ys := List.range n) (pw.imp fun h => Nat.ne_of_lt h) fun x hx => List.mem_range.mpr (h x hx)
  simpa using this
theorem p_is_rests {ds : List D} {h : Hd} {q : D → Hd → Prop} (z : s_is_rests ds h q) : v_is_rests s_is_index s_is_ascending (endR q) (startD K07.N_is_rests ds) h := by
  obtain ⟨ns, n, rfl, pw, hn, h8, z⟩ := z
  have hl := len_lt pw hn
  refine ⟨_, rfl, .inl "tuple", true, rfl, (tab_eq (fun _ z => by cases z) (d := .tup (natsD ns)) (h := h) rfl).2.2.2.1, true, rfl, ?_⟩
  refine iff_ rfl ?_
  refine ⟨_, rfl, _, rfl, ?_⟩
  dsimp only
  refine lc_by (natsD ns) (fun i acc h' => Gr h h' ∧ acc = ((natsD ns).take i).map fun _ => D.bl true) ⟨.refl, rfl⟩ (fun i acc h' _ _ => rfl) (fun i x acc h' e p => ?_) (fun acc h' p => ?_)
  · obtain ⟨g, rfl⟩ := p
    have hi := (List.getElem?_eq_some_iff.mp e).1
    have hx : ∃ m : Nat, x = .int m ∧ m < n := by
      obtain ⟨m, hm, rfl⟩ := List.mem_map.mp (List.mem_of_getElem? e)
      exact ⟨m, rfl, hn m hm⟩
    obtain ⟨m, rfl, hm⟩ := hx
    refine ⟨_, rfl, _, rfl, .int m, n, rfl, trivial, fun h2 g2 => ⟨?_, g.trans g2, ?_⟩⟩
    · have : sizeLine = 16777216 := sizeLine_eq
      simp [natsD]; omega
    · rw [List.take_add_one, e]
      have : indexD n (.int m) = true := by simp [indexD]; omega
      simp [this]
  · obtain ⟨g, rfl⟩ := p
    rw [List.take_length]
    refine ⟨h'.length, ns.map fun _ => true, rfl, by simp [items, natsD, List.map_map, Function.comp_def], ?_⟩
    refine ⟨_, rfl, ?_⟩
    have e : ((ns.map fun _ => true).all fun b => b) = true := by simp
    rw [e]
    refine iff_ rfl ?_
    refine ⟨_, rfl, ns, rfl, pw, by omega, fun h2 g2 => z _ ((g.trans (.app _)).trans g2)⟩
end K07S

set_option Elab.async false
set_option linter.all false
set_option maxRecDepth 100000
set_option maxHeartbeats 2000000
/-! K07X: walks in general; actions_in, are_rows. -/
namespace MV
open PySem PySem.Spec
open PyProof.Rows hiding St
open L2
open MP (D Cell Hd Sd WE WT WA WS WG WI EndsD ItD SpD)
/-- any walk (a loop's or a comprehension's): xs stay what is walked, Pv holds at each turn -/
theorem it_by {α : Type} {t : ItD} {B : D → α → Hd → (α → Hd → Prop) → Prop} {Qf : α → Hd → Prop} {a0 : α} {h1 : Hd} (xs : List D) (Pv : Nat → α → Hd → Prop) (h0 : Pv 0 a0 h1) (ht : ∀ i a h, i ≤ xs.length → Pv i a h → t i h = some xs[i]?)
    (hs : ∀ i x a h, xs[i]? = some x → Pv i a h → B x a h (Pv (i + 1))) (hd : ∀ a h, Pv xs.length a h → Qf a h) :
    ∃ W : Nat → Nat → α → Hd → Prop, (∃ m, W 0 m a0 h1) ∧ ∀ i m a h, W i m a h →
      (t i h = some none ∧ Qf a h) ∨ ∃ d, t i h = some (some d) ∧ ∃ N : α → Hd → Prop, (∀ a' h', N a' h' → ∃ m', m' < m ∧ W (i + 1) m' a' h') ∧ B d a h N := by
  refine ⟨fun i m a h => m = xs.length - i ∧ i ≤ xs.length ∧ Pv i a h, ⟨xs.length, by simp, Nat.zero_le _, h0⟩, ?_⟩
  rintro i m a h ⟨rfl, hi, p⟩
  have q := ht i a h hi p
  by_cases hlt : i < xs.length
  · have e : xs[i]? = some xs[i] := List.getElem?_eq_getElem hlt
    exact .inr ⟨xs[i], by rw [q, e], Pv (i + 1), fun a' h' p' => ⟨xs.length - (i + 1), by omega, rfl, hlt, p'⟩, hs i _ a h e p⟩
  · have e : i = xs.length := by omega
    subst e
    exact .inl ⟨by rw [q, List.getElem?_eq_none (Nat.le_refl _)], hd a h p⟩
end MV
namespace K07S
open PySem PySem.Spec
open PyProof.Rows hiding St
open L2
open MP (D Cell Hd Sd WE WT WA WS WG WI EndsD ItD SpD endR startD itSeq items tyD truD getD putD keyOk wipeD lenD sortS ltS leS dctOf itKeys itVals)
open MV K07V
theorem itKeys_at {h : Hd} {n : Nat} {t : Bool} {kvs : List (D × D)} (e : h[n]? = some (.dct t true kvs)) (i : Nat) : itKeys n i h = some ((kvs.map (·.1))[i]?) := by
  unfold MP.itKeys MP.dctOf; rw [e]; simp
theorem itVals_at {h : Hd} {n : Nat} {t : Bool} {kvs : List (D × D)} (e : h[n]? = some (.dct t true kvs)) (i : Nat) : itVals n i h = some ((kvs.map (·.2))[i]?) := by
  unfold MP.itVals MP.dctOf; rw [e]; simp
theorem set_at {h : Hd} {n : Nat} {c c' : Cell} (e : h[n]? = some c) : (h.set n c')[n]? = some c' := List.getElem?_set_self (List.getElem?_eq_some_iff.mp e).1
abbrev allK (rs : List Row) : List Str := rs.flatMap keysR
theorem len_allK {rs : List Row} (ok : ∀ r ∈ rs, RowOk r) (h8 : rs.length ≤ 8) : (allK rs).length ≤ 56 := by
  have : ∀ rs : List Row, (∀ r ∈ rs, RowOk r) → (allK rs).length ≤ 7 * rs.length := by
    intro rs
    induction rs with
    | nil => intro _; exact Nat.zero_le _
    | cons r rs ih =>
      intro ok
      have h1 := (ok r List.mem_cons_self).sm
      have h2 := ih fun r hr => ok r (List.mem_cons_of_mem _ hr)
      simp only [allK, List.flatMap_cons, List.length_append, keysR, List.length_map, List.length_cons] at *
      omega
  have := this rs ok
  omega
/-- a dict of texts with distinct keys, one more -/
theorem putT {xs : List Str} (a : Str) : putD (xs.map fun x => (D.str x, D.bl true)) (.str a) (.bl true) = (if a ∈ xs then xs else xs ++ [a]).map fun x => (D.str x, D.bl true) := by
  by_cases h : a ∈ xs
  · rw [if_pos h]
    unfold MP.putD
    rw [if_pos]
    · rw [List.map_map]
      refine List.map_congr_left fun x hx => ?_
      simp only [Function.comp_def]
      split <;> rfl
    · simp only [List.any_eq_true, decide_eq_true_eq]
      exact ⟨_, List.mem_map.mpr ⟨a, h, rfl⟩, rfl⟩
  · rw [if_neg h, putD_new]
    · simp
    · intro p hp e
      obtain ⟨x, hx, rfl⟩ := List.mem_map.mp hp
      have : x = a := by injection e
      rw [this] at hx
      exact h hx
def s_actions_in : SpD := fun ds h q => ∃ refs rs, ds = [.tup refs] ∧ IsRows h refs rs ∧ (∀ r ∈ rs, RowOk r) ∧ rs.length ≤ 8 ∧ ∀ (h' : Hd) (xs : List Str), Gr h h' → xs.Nodup → (∀ x ∈ xs, x ∈ allK rs) → q (.tup (xs.map .str)) h'
theorem p_actions_in {ds : List D} {h : Hd} {q : D → Hd → Prop} (z : s_actions_in ds h q) : v_actions_in (endR q) (startD K07.N_actions_in ds) h := by
  obtain ⟨refs, rs, rfl, hr, ok, h8, z⟩ := z
  have hall := len_allK ok h8
  refine ⟨_, rfl, refs, rfl, ?_⟩
  dsimp only
  refine it_by refs (fun i acc h' => Gr h h' ∧ ∃ xs : List Str, acc = xs.map (fun x => (D.str x, D.bl true)) ∧ xs.Nodup ∧ ∀ x ∈ xs, x ∈ allK rs) ⟨.refl, [], rfl, List.nodup_nil, fun _ z => nomatch z⟩ (fun i acc h' _ _ => rfl) (fun i x acc h' e p => ?_) (fun acc h' p => ?_)
  · obtain ⟨g, hx⟩ := p
    obtain ⟨r, er, hx0⟩ := hr.at e
    obtain ⟨n, lk0, rfl, en⟩ := hx0.gr g
    refine ⟨_, rfl, n, false, lk0, _, rfl, en, trivial, ?_⟩
    dsimp only
    have e2 := set_at (c' := .dct false true (rowK r)) en
    have g2 : Gr h (h'.set n (.dct false true (rowK r))) := g.trans (.lock en)
    generalize h'.set n (.dct false true (rowK r)) = h2 at e2 g2
    refine it_by ((rowK r).map (·.1)) (fun j acc h3 => h3 = h2 ∧ ∃ xs : List Str, acc = xs.map (fun x => (D.str x, D.bl true)) ∧ xs.Nodup ∧ ∀ x ∈ xs, x ∈ allK rs) ⟨rfl, hx⟩ (fun j acc h3 _ p3 => by rw [p3.1]; exact itKeys_at e2 j) (fun j y acc h3 e3 p3 => ?_) (fun acc h3 p3 => ?_)
    · obtain ⟨rfl, xs, rfl, nd, sub⟩ := p3
      rw [rowK_keys, List.getElem?_map] at e3
      obtain ⟨a, ea, rfl⟩ := Option.map_eq_some_iff.mp e3
      have ha : a ∈ allK rs := List.mem_flatMap.mpr ⟨r, List.mem_of_getElem? er, List.mem_of_getElem? ea⟩
      refine ⟨_, rfl, rfl, ?_, rfl, _, putT a, ?_, ?_⟩
      · have := nodup_le nd sub
        have : sizeLine = 16777216 := sizeLine_eq
        rw [List.length_map]; omega
      · split
        · exact nd
        · rename_i hn
          exact List.nodup_append.mpr ⟨nd, by simp, fun x hx y hy => by rw [List.mem_singleton] at hy; rw [hy]; exact fun q => hn (by rw [← q]; exact hx)⟩
      · split
        · exact sub
        · intro x hx
          rcases List.mem_append.mp hx with q | q
          · exact sub x q
          · rw [List.mem_singleton.mp q]; exact ha
    · obtain ⟨rfl, p4⟩ := p3
      exact ⟨g2, p4⟩
  · obtain ⟨g, xs, rfl, nd, sub⟩ := p
    have hlen : xs.length ≤ 56 := Nat.le_trans (nodup_le nd sub) hall
    have ek : ((xs.map fun x => (D.str x, D.bl true)).map (·.1)) = xs.map D.str := by rw [List.map_map]; rfl
    refine ⟨_, rfl, ?_⟩
    dsimp only [MV.wNil]
    have eD : (h' ++ [Cell.dct false false (xs.map fun x => (D.str x, D.bl true))])[h'.length]? = some (.dct false false (xs.map fun x => (D.str x, D.bl true))) := by
      rw [List.getElem?_append_right (Nat.le_refl _)]; simp
    refine cList_dct eD ?_
    refine ⟨_, xs, rfl, .inl (by simp [items, ek]), by omega, ?_⟩
    refine ⟨(sortS xs).map D.str, by simp [items], ?_⟩
    refine z _ (sortS xs) (((g.trans (.app _)).trans (.app _)).trans (.app _)) ((MP.sortS_perm _).nodup_iff.mpr nd) fun x hx => sub x (MP.mem_sortS.mp hx)
end K07S

set_option Elab.async false
set_option linter.all false
set_option maxRecDepth 100000
set_option maxHeartbeats 2000000
/-! K07Y: are_rows, the makings. -/
namespace K07S
open PySem PySem.Spec
open PyProof.Rows hiding St
open L2
open MP (D Cell Hd Sd WE WT WA WS WG WI EndsD ItD SpD endR startD itSeq items tyD truD getD putD keyOk wipeD lenD sortS ltS leS dctOf itKeys itVals putFD)
open MV K07V
structure RowsOk (rs : List Row) : Prop where
  ok : ∀ r ∈ rs, RowOk r
  one : 1 ≤ rs.length
  le : rs.length ≤ 8
  nm : ∀ r ∈ rs, ∀ p ∈ r, nameS p.1 = true ∧ p.2 < rs.length
theorem nameS_len {x : Str} (h : nameS x = true) : x.length ≤ sizeLine := by
  unfold nameS at h
  simp only [Bool.and_eq_true, decide_eq_true_eq] at h
  have : sizeLine = 16777216 := sizeLine_eq
  omega
def s_are_rows : SpD := fun ds h q => ∃ refs rs, ds = [.tup refs] ∧ IsRows h refs rs ∧ RowsOk rs ∧ ∀ h', Gr h h' → q (.bl true) h'
theorem items_last {h : Hd} {xs : List D} : items (h ++ [.lst xs]) h.length = some xs := by
  unfold items; rw [List.getElem?_append_right (Nat.le_refl _)]; simp
theorem allK_take (rs : List Row) (k : Nat) : (allK (rs.take k)).length ≤ (allK rs).length := by
  have : (allK rs).length = (allK (rs.take k)).length + (allK (rs.drop k)).length := by
    unfold allK
    rw [← List.length_append, ← List.flatMap_append, List.take_append_drop]
  omega
theorem take_rows {rs : List Row} {i : Nat} {r : Row} (e : rs[i]? = some r) : rs.take (i + 1) = rs.take i ++ [r] := by rw [List.take_add_one, e]; rfl
theorem p_are_rows {ds : List D} {h : Hd} {q : D → Hd → Prop} (z : s_are_rows ds h q) : v_are_rows s_is_index s_is_name (endR q) (startD K07.N_are_rows ds) h := by
  obtain ⟨refs, rs, rfl, hr, ok, z⟩ := z
  have hsz : sizeLine = 16777216 := sizeLine_eq
  have hlen := hr.1
  have h1 := ok.one
  have h8 := ok.le
  have hall := len_allK ok.ok ok.le
  refine ⟨_, rfl, .inl "tuple", true, rfl, (tab_eq (fun _ z => by cases z) (d := .tup refs) (h := h) rfl).2.2.2.1, true, rfl, ?_⟩
  refine iff_ rfl ?_
  refine ⟨_, rfl, _, refs.length, rfl, rfl, ?_⟩
  refine ⟨_, rfl, ?_⟩
  refine ift (by simp; omega) ?_
  refine ⟨_, rfl, ?_⟩
  refine iff_ (by simp; omega) ?_
  -- all([isinstance(row, dict) for row in value])
  refine ⟨_, rfl, _, rfl, ?_⟩
  dsimp only
  refine it_by refs (fun i acc h' => h' = h ∧ acc = (refs.take i).map fun _ => D.bl true) ⟨rfl, rfl⟩ (fun i acc h' _ _ => rfl) (fun i x acc h' e p => ?_) (fun acc h' p => ?_)
  · obtain ⟨rfl, rfl⟩ := p
    obtain ⟨r, er, n, lk0, rfl, en⟩ := hr.at e
    refine ⟨_, rfl, .inl "dict", true, by simp only [tyD, en], (tab_eq (fun _ z => by cases z) (d := .ref n) (h := h') (t := .inl "dict") (by simp only [tyD, en])).2.2.2.2, by simp; omega, rfl, ?_⟩
    rw [List.take_add_one, e]; simp
  obtain ⟨rfl, rfl⟩ := p
  refine ⟨_, refs.map fun _ => true, rfl, by simp [items], ?_⟩
  refine ⟨_, rfl, ?_⟩
  rw [show ((refs.map fun _ => true).all fun b => b) = true by simp]
  refine iff_ rfl ?_
  have g0 : Gr h' (h' ++ [Cell.lst (List.map (fun _ => D.bl true) (List.take refs.length refs))]) := .app _
  generalize h' ++ [Cell.lst (List.map (fun _ => D.bl true) (List.take refs.length refs))] = ha at g0
  -- keys
  refine ⟨_, rfl, refs, rfl, ?_⟩
  dsimp only
  refine it_by refs (fun i acc h2 => Gr h' h2 ∧ acc = (allK (rs.take i)).map D.str) ⟨g0, rfl⟩ (fun i acc h2 _ _ => rfl) (fun i x acc h2 e p => ?_) (fun acc h2 p => ?_)
  · obtain ⟨g, rfl⟩ := p
    obtain ⟨r, er, hx0⟩ := hr.at e
    obtain ⟨n, lk0, rfl, en⟩ := hx0.gr g
    refine ⟨_, rfl, n, false, lk0, _, rfl, en, trivial, ?_⟩
    dsimp only
    have e2 := set_at (c' := .dct false true (rowK r)) en
    have g2 : Gr h' (h2.set n (.dct false true (rowK r))) := g.trans (.lock en)
    generalize h2.set n (.dct false true (rowK r)) = h3 at e2 g2
    have hsub : (allK (rs.take (i + 1))).length ≤ 56 := Nat.le_trans (allK_take rs (i + 1)) hall
    rw [take_rows er] at hsub ⊢
    simp only [allK, List.flatMap_append, List.flatMap_cons, List.flatMap_nil, List.append_nil, List.map_append, List.length_append] at hsub ⊢
    refine it_by ((rowK r).map (·.1)) (fun j acc h4 => h4 = h3 ∧ acc = ((rs.take i).flatMap keysR).map D.str ++ ((keysR r).take j).map D.str) ⟨rfl, by simp⟩ (fun j acc h4 _ p4 => by rw [p4.1]; exact itKeys_at e2 j) (fun j y acc h4 e3 p4 => ?_) (fun acc h4 p4 => ?_)
    · obtain ⟨rfl, rfl⟩ := p4
      rw [rowK_keys, List.getElem?_map] at e3
      obtain ⟨a, ea, rfl⟩ := Option.map_eq_some_iff.mp e3
      refine ⟨_, rfl, ?_, rfl, ?_⟩
      · have : (List.take j (keysR r)).length ≤ (keysR r).length := by simp; omega
        simp only [List.length_append, List.length_map]
        omega
      · rw [List.take_add_one, ea]; simp
    · obtain ⟨rfl, rfl⟩ := p4
      have et : (keysR r).take ((rowK r).map (·.1)).length = keysR r := List.take_of_length_le (by rw [rowK_keys, List.length_map]; exact Nat.le_refl _)
      rw [et]
      exact ⟨g2, rfl⟩
  obtain ⟨gk, rfl⟩ := p
  rw [hlen, List.take_length]
  have ekeys : (h2 ++ [Cell.lst ((allK rs).map D.str)])[h2.length]? = some (.lst ((allK rs).map D.str)) := by simp
  have gk2 : Gr h' (h2 ++ [Cell.lst ((allK rs).map D.str)]) := gk.trans (.app _)
  generalize hk : h2.length = kn at ekeys
  generalize h2 ++ [Cell.lst ((allK rs).map D.str)] = hb at ekeys gk2
  -- targets
  refine ⟨_, rfl, refs, rfl, ?_⟩
  dsimp only
  refine it_by refs (fun i acc h3 => Gr hb h3 ∧ acc = natsD ((rs.take i).flatMap fun r => r.map (·.2))) ⟨.refl, rfl⟩ (fun i acc h3 _ _ => rfl) (fun i x acc h3 e p => ?_) (fun acc h3 p => ?_)
  · obtain ⟨g, rfl⟩ := p
    obtain ⟨r, er, hx0⟩ := hr.at e
    obtain ⟨n, lk0, rfl, en⟩ := hx0.gr (gk2.trans g)
    refine ⟨_, rfl, n, false, lk0, _, rfl, en, rfl, ?_⟩
    dsimp only
    have e2 := set_at (c' := .dct false true (rowK r)) en
    have g2 : Gr hb (h3.set n (.dct false true (rowK r))) := g.trans (.lock en)
    generalize h3.set n (.dct false true (rowK r)) = h4 at e2 g2
    have hsub : ((rs.take (i + 1)).flatMap fun r => r.map (·.2)).length ≤ 56 := by
      have e1 : ((rs.take (i + 1)).flatMap fun r => r.map (·.2)).length = (allK (rs.take (i + 1))).length := by
        simp only [allK, List.length_flatMap, keysR, List.length_map]
      have := allK_take rs (i + 1)
      omega
    rw [take_rows er] at hsub ⊢
    simp only [List.flatMap_append, List.flatMap_cons, List.flatMap_nil, List.append_nil, List.length_append] at hsub ⊢
    refine it_by ((rowK r).map (·.2)) (fun j acc h5 => h5 = h4 ∧ acc = natsD ((rs.take i).flatMap fun r => r.map (·.2)) ++ natsD ((r.map (·.2)).take j)) ⟨rfl, by simp [natsD]⟩ (fun j acc h5 _ p5 => by rw [p5.1]; exact itVals_at e2 j) (fun j y acc h5 e3 p5 => ?_) (fun acc h5 p5 => ?_)
    · obtain ⟨rfl, rfl⟩ := p5
      have ev : (rowK r).map (·.2) = natsD (r.map (·.2)) := by unfold rowK natsD; simp [List.map_map, Function.comp_def]
      rw [ev] at e3
      unfold natsD at e3
      rw [List.getElem?_map] at e3
      obtain ⟨a, ea, rfl⟩ := Option.map_eq_some_iff.mp e3
      refine ⟨_, rfl, ?_, rfl, ?_⟩
      · have : (List.take j (r.map (·.2))).length ≤ (r.map (·.2)).length := by simp; omega
        simp only [natsD, List.length_append, List.length_map] at *
        omega
      · rw [List.take_add_one, ea]; simp [natsD]
    · obtain ⟨rfl, rfl⟩ := p5
      have et : (r.map (·.2)).take ((rowK r).map (·.2)).length = r.map (·.2) := List.take_of_length_le (by unfold rowK; simp)
      rw [et]
      refine ⟨g2, ?_⟩
      unfold natsD; simp
  obtain ⟨gt, rfl⟩ := p
  rw [hlen, List.take_length]
  have etar : (h3 ++ [Cell.lst (natsD (rs.flatMap fun r => r.map (·.2)))])[h3.length]? = some (.lst (natsD (rs.flatMap fun r => r.map (·.2)))) := by simp
  have gt2 : Gr hb (h3 ++ [Cell.lst (natsD (rs.flatMap fun r => r.map (·.2)))]) := gt.trans (.app _)
  generalize ht : h3.length = tn at etar
  generalize h3 ++ [Cell.lst (natsD (rs.flatMap fun r => r.map (·.2)))] = hc at etar gt2
  -- all names
  have ekeys2 := gt2.lst ekeys
  refine ⟨_, rfl, _, _, rfl, by simp only [items, ekeys2]; rfl, ?_⟩
  dsimp only
  refine it_by ((allK rs).map D.str) (fun i acc h4 => Gr hc h4 ∧ acc = ((allK rs).take i).map fun _ => D.bl true) ⟨.refl, rfl⟩ (fun i acc h4 _ p => by
    unfold MP.itLst items; rw [p.1.lst ekeys2]; rfl) (fun i x acc h4 e p => ?_) (fun acc h4 p => ?_)
  · obtain ⟨g, rfl⟩ := p
    rw [List.getElem?_map] at e
    obtain ⟨a, ea, rfl⟩ := Option.map_eq_some_iff.mp e
    have hn : nameS a = true := by
      obtain ⟨r, hr1, hr2⟩ := List.mem_flatMap.mp (List.mem_of_getElem? ea)
      obtain ⟨p, hp, rfl⟩ := List.mem_map.mp hr2
      exact (ok.nm r hr1 p hp).1
    refine ⟨_, rfl, .str a, rfl, nameS_len hn, fun h5 g5 => ⟨by rw [List.length_map, List.length_take]; omega, g.trans g5, ?_⟩⟩
    rw [List.take_add_one, ea]
    simp only [Option.toList_some, List.map_append, List.map_cons, List.map_nil, nameD, hn]
  obtain ⟨gn, rfl⟩ := p
  have et : (allK rs).take ((allK rs).map D.str).length = allK rs := by rw [List.length_map, List.take_length]
  rw [et]
  refine ⟨_, (allK rs).map fun _ => true, rfl, by rw [items_last, List.map_map]; rfl, ?_⟩
  refine ⟨_, rfl, ?_⟩
  rw [show (((allK rs).map fun _ => true).all fun b => b) = true from List.all_eq_true.mpr fun x hx => by obtain ⟨_, _, rfl⟩ := List.mem_map.mp hx; rfl]
  refine ift rfl ?_
  have gn2 : Gr hc (h4 ++ [Cell.lst (List.map (fun _ => D.bl true) (allK rs))]) := gn.trans (.app _)
  generalize h4 ++ [Cell.lst (List.map (fun _ => D.bl true) (allK rs))] = hd at gn2
  have etar2 := gn2.lst etar
  refine ⟨_, rfl, _, _, rfl, by simp only [items, etar2]; rfl, ?_⟩
  dsimp only
  generalize hts : (rs.flatMap fun r => r.map (·.2)) = ts at *
  have hts2 : ∀ x ∈ ts, x < rs.length := fun x hx => by
    rw [← hts] at hx
    obtain ⟨r, hr1, hr2⟩ := List.mem_flatMap.mp hx
    obtain ⟨p, hp, rfl⟩ := List.mem_map.mp hr2
    exact (ok.nm r hr1 p hp).2
  have htl : ts.length ≤ 56 := by
    rw [← hts]
    have e1 : (rs.flatMap fun r => r.map (·.2)).length = (allK rs).length := by simp only [allK, List.length_flatMap, keysR, List.length_map]
    omega
  refine it_by (natsD ts) (fun i acc h5 => Gr hd h5 ∧ acc = (ts.take i).map fun _ => D.bl true) ⟨.refl, rfl⟩ (fun i acc h5 _ p => by
    unfold MP.itLst items; rw [p.1.lst etar2]; rfl) (fun i x acc h5 e p => ?_) (fun acc h5 p => ?_)
  · obtain ⟨g, rfl⟩ := p
    unfold natsD at e
    rw [List.getElem?_map] at e
    obtain ⟨a, ea, rfl⟩ := Option.map_eq_some_iff.mp e
    have ha := hts2 a (List.mem_of_getElem? ea)
    refine ⟨_, rfl, _, rfl, _, refs.length, rfl, rfl, .int a, refs.length, rfl, trivial, fun h6 g6 => ⟨by simp; omega, g.trans g6, ?_⟩⟩
    have : indexD (refs.length : Int) (.int (a : Int)) = true := by simp [indexD]; omega
    rw [List.take_add_one, ea, this]; simp
  obtain ⟨gf, rfl⟩ := p
  refine ⟨_, ts.map fun _ => true, rfl, by simp [items, natsD], ?_⟩
  rw [show ((ts.map fun _ => true).all fun b => b) = true by simp]
  exact z _ ((gk2.trans (gt2.trans (gn2.trans gf))).trans (.app _))
end K07S

set_option Elab.async false
set_option linter.all false
set_option maxRecDepth 100000
set_option maxHeartbeats 2000000
/-! K07Z: the makings of Rows and Part, a part's look-ups. -/
namespace K07S
open PySem PySem.Spec
open PyProof.Rows hiding St
open L2
open MP (D Cell Hd Sd WE WT WA WS WG WI EndsD ItD SpD endR startD itSeq items tyD truD getD putD keyOk wipeD lenD sortS ltS leS dctOf itKeys itVals putFD hasF)
open MV K07V
theorem putFD_len (f : Str) (d : D) : ∀ fs : List (Str × D), (putFD f d fs).length ≤ fs.length + 1
  | [] => Nat.le_refl _
  | (g, x) :: r => by
    unfold MP.putFD
    split
    · simp
    · have := putFD_len f d r
      simp only [List.length_cons]; omega
theorem putFD_1 {f : Str} {d : D} : (putFD f d []).length < 1000 := Nat.lt_of_le_of_lt (putFD_len _ _ _) (by show 0 + 1 < 1000; decide)
theorem putFD_2 {f f2 : Str} {d d2 : D} : (putFD f d (putFD f2 d2 [])).length < 1000 := by
  have h1 := putFD_len f d (putFD f2 d2 [])
  have h2 := putFD_len f2 d2 []
  have h3 : ([] : List (Str × D)).length = 0 := rfl
  omega
theorem app_at {h : Hd} {c : Cell} : (h ++ [c])[h.length]? = some c := by rw [List.getElem?_append_right (Nat.le_refl _)]; simp
abbrev rowsF (refs : List D) (ns : List Nat) : List (Str × D) := [("own_steps", .tup refs), ("own_rests", .tup (natsD ns))]
abbrev partF (refs : List D) (ns : List Nat) (acts : D) : List (Str × D) := [("own_steps", .tup refs), ("own_rests", .tup (natsD ns)), ("own_actions", acts)]
/-- h: the heap ahead of the new instance -/
def s_Rows : SpD := fun ds h q => ∃ h0 refs rs ns, ds = [.ref h0.length, .tup refs, .tup (natsD ns)] ∧ h = h0 ++ [.ins "Rows" []] ∧ IsRows h0 refs rs ∧ (∀ r ∈ rs, RowOk r) ∧ rs.length ≤ 8 ∧ ns.Pairwise (· < ·) ∧ ns.length ≤ 8 ∧
  ∀ h' refs', Gr h0 h' → h'[h0.length]? = some (.ins "Rows" (rowsF refs' ns)) → IsRows h' refs' (rs.map srt) → q .non h'
theorem ints_uniq {ns : List Nat} {out : List Int} (pw : ns.Pairwise (· < ·)) (h1 : out.Pairwise (· < ·)) (h2 : ∀ k, k ∈ out ↔ k ∈ ns.map fun (n : Nat) => (n : Int)) : out = ns.map fun (n : Nat) => (n : Int) := by
  have pw2 : (ns.map fun (n : Nat) => (n : Int)).Pairwise (· < ·) := List.pairwise_map.mpr (pw.imp fun h => by omega)
  have nd1 : out.Nodup := h1.imp fun h => by omega
  have nd2 : (ns.map fun (n : Nat) => (n : Int)).Nodup := pw2.imp fun h => by omega
  have perm : out.Perm (ns.map fun (n : Nat) => (n : Int)) := (List.perm_ext_iff_of_nodup nd1 nd2).mpr h2
  exact perm.eq_of_pairwise (fun a b _ _ h1 h2 => by omega) h1 pw2
theorem p_Rows_init {ds : List D} {h : Hd} {q : D → Hd → Prop} (z : s_Rows ds h q) : v_Rows_init s_sorted_rows (endR q) (startD K07.N_Rows_init ds) h := by
  obtain ⟨h0, refs, rs, ns, rfl, rfl, hr, ok, h8, pw, n8, z⟩ := z
  have ha : Gr h0 (h0 ++ [Cell.ins "Rows" []]) := .app _
  refine ⟨_, rfl, refs, rs, rfl, hr.gr ha, ok, h8, fun h1 refs' g1 hr1 => ?_⟩
  have e1 : h1[h0.length]? = some (.ins "Rows" []) := g1.ins app_at
  refine ⟨_, rfl, _, _, _, rfl, e1, by decide +kernel, by decide, ?_⟩
  dsimp only
  have g2 : Gr h0 (h1.set h0.length (.ins "Rows" (putFD "own_steps" (.tup refs') []))) := (ha.trans g1).set _ (Nat.le_refl _)
  have e2 : (h1.set h0.length (.ins "Rows" (putFD "own_steps" (.tup refs') [])))[h0.length]? = some (.ins "Rows" (putFD "own_steps" (.tup refs') [])) := set_at e1
  have hr2 : IsRows (h1.set h0.length (.ins "Rows" (putFD "own_steps" (.tup refs') []))) refs' (rs.map srt) := ⟨hr1.1, fun i d r a b => by
    obtain ⟨n, lk0, rfl, en⟩ := hr1.2 i d r a b
    refine ⟨n, lk0, rfl, ?_⟩
    rw [List.getElem?_set_ne (fun e => by rw [← e, e1] at en; cases en)]
    exact en⟩
  generalize h1.set h0.length (.ins "Rows" (putFD "own_steps" (.tup refs') [])) = h2 at g2 e2 hr2
  refine ⟨_, rfl, ns.map (fun (n : Nat) => (n : Int)), by unfold natsD; rw [List.map_map]; rfl, by rw [List.length_map]; omega, fun out o1 o2 => ?_⟩
  have eo := ints_uniq pw o1 o2
  subst eo
  refine ⟨natsD ns, by rw [items_last]; unfold natsD; rw [List.map_map]; rfl, ?_⟩
  refine ⟨_, rfl, _, _, _, rfl, by rw [List.getElem?_append_left (List.getElem?_eq_some_iff.mp e2).1]; exact e2, by decide +kernel, putFD_1, ?_⟩
  dsimp only
  have e3 : (h2 ++ [Cell.lst ((ns.map fun (n : Nat) => (n : Int)).map D.int)])[h0.length]? = some (.ins "Rows" (putFD "own_steps" (.tup refs') [])) := by rw [List.getElem?_append_left (List.getElem?_eq_some_iff.mp e2).1]; exact e2
  have g3 : Gr h2 (h2 ++ [Cell.lst ((ns.map fun (n : Nat) => (n : Int)).map D.int)]) := .app _
  have hr3 := hr2.gr g3
  generalize h2 ++ [Cell.lst ((ns.map fun (n : Nat) => (n : Int)).map D.int)] = h3 at e3 g3 hr3
  refine z _ refs' ((g2.trans g3).set _ (Nat.le_refl _)) (set_at e3) ⟨hr3.1, fun i d r a b => ?_⟩
  obtain ⟨n, lk0, rfl, en⟩ := hr3.2 i d r a b
  refine ⟨n, lk0, rfl, ?_⟩
  rw [List.getElem?_set_ne (fun e => by rw [← e, e3] at en; cases en)]
  exact en
/-- the names that the rows use: at most four -/
def s_checked_rows : SpD := fun ds h q => ∃ refs rs ns, ds = [.tup refs, .tup (natsD ns)] ∧ IsRows h refs rs ∧ RowsOk rs ∧ (∃ names : List Str, names.length ≤ 4 ∧ ∀ x ∈ allK rs, x ∈ names) ∧ ns.Pairwise (· < ·) ∧ (∀ x ∈ ns, x < rs.length) ∧
  ∀ h' n refs', Gr h h' → h'[n]? = some (.ins "Rows" (rowsF refs' ns)) → IsRows h' refs' (rs.map srt) → q (.ref n) h'
theorem p_checked_rows {ds : List D} {h : Hd} {q : D → Hd → Prop} (z : s_checked_rows ds h q) : v_checked_rows s_actions_in s_are_rows s_is_rests s_Rows (endR q) (startD K07.N_checked_rows ds) h := by
  obtain ⟨refs, rs, ns, rfl, hr, ok, ⟨names, n4, sub⟩, pw, hn, z⟩ := z
  have n8 := len_lt pw hn
  have h8 := ok.le
  refine ⟨_, rfl, refs, rs, rfl, hr, ok, fun h1 g1 => ⟨true, rfl, ?_⟩⟩
  refine iff_ rfl ?_
  refine ⟨_, rfl, refs, rs, rfl, hr.gr g1, ok.ok, ok.le, fun h2 xs g2 nd hxs => ?_⟩
  have hx : xs.length ≤ 4 := Nat.le_trans (nodup_le nd fun x hx => sub x (hxs x hx)) n4
  refine ⟨_, xs.length, rfl, by simp [lenD], ?_⟩
  refine ⟨_, rfl, ?_⟩
  refine iff_ (by simp; omega) ?_
  refine ⟨_, rfl, _, rfl, _, refs.length, rfl, rfl, ns, rs.length, by rw [hr.1], pw, hn, ok.le, fun h3 g3 => ⟨true, rfl, ?_⟩⟩
  refine iff_ rfl ?_
  have g13 := (g1.trans g2).trans g3
  refine ⟨_, rfl, _, rfl, h3, refs, rs, ns, rfl, rfl, hr.gr g13, ok.ok, ok.le, pw, by omega, fun h4 refs' g4 e4 hr4 => ⟨rfl, z h4 _ refs' (g13.trans g4) e4 hr4⟩⟩
def s_Part : SpD := fun ds h q => ∃ h0 refs rs ns, ds = [.ref h0.length, .tup refs, .tup (natsD ns)] ∧ h = h0 ++ [.ins "Part" []] ∧ IsRows h0 refs rs ∧ RowsOk rs ∧ (∃ names : List Str, names.length ≤ 4 ∧ ∀ x ∈ allK rs, x ∈ names) ∧ ns.Pairwise (· < ·) ∧ (∀ x ∈ ns, x < rs.length) ∧
  ∀ h' refs' acts, Gr h0 h' → h'[h0.length]? = some (.ins "Part" (partF refs' ns acts)) → IsRows h' refs' (rs.map srt) → q .non h'
theorem rows_set {h : Hd} {refs : List D} {rs : List Row} {n : Nat} {c : Str} {fs fs' : List (Str × D)} (k : IsRows h refs rs) (e : h[n]? = some (.ins c fs)) : IsRows (h.set n (.ins c fs')) refs rs := ⟨k.1, fun i d r a b => by
  obtain ⟨m, lk0, rfl, en⟩ := k.2 i d r a b
  refine ⟨m, lk0, rfl, ?_⟩
  rw [List.getElem?_set_ne (fun z => by rw [← z, e] at en; cases en)]
  exact en⟩
theorem allK_srt {rs : List Row} {x : Str} (h : x ∈ allK (rs.map srt)) : x ∈ allK rs := by
  obtain ⟨r, hr, hx⟩ := List.mem_flatMap.mp h
  obtain ⟨r0, h0, rfl⟩ := List.mem_map.mp hr
  rw [keys_srt] at hx
  exact List.mem_flatMap.mpr ⟨r0, h0, MP.mem_sortS.mp hx⟩
theorem p_Part_init {ds : List D} {h : Hd} {q : D → Hd → Prop} (z : s_Part ds h q) : v_Part_init s_checked_rows s_actions_in (endR q) (startD K07.N_Part_init ds) h := by
  obtain ⟨h0, refs, rs, ns, rfl, rfl, hr, ok, hnm, pw, hn, z⟩ := z
  have ha : Gr h0 (h0 ++ [Cell.ins "Part" []]) := .app _
  refine ⟨_, rfl, .inl "tuple", false, rfl, rfl, false, rfl, ?_⟩
  refine iff_ rfl ?_
  refine ⟨_, rfl, _, rfl, refs, rs, ns, rfl, hr.gr ha, ok, hnm, pw, hn, fun h1 n refs' g1 e1 hr1 => ?_⟩
  have s1 : h1[h0.length]? = some (.ins "Part" []) := g1.ins app_at
  have ne : n ≠ h0.length := fun e => by rw [e, s1] at e1; cases e1
  refine ⟨_, rfl, n, "Rows", _, .tup refs', rfl, e1, by decide +kernel, rfl, ?_⟩
  refine ⟨_, rfl, _, _, _, rfl, s1, by decide +kernel, by decide, ?_⟩
  dsimp only
  have g2 : Gr h0 (h1.set h0.length (.ins "Part" (putFD "own_steps" (.tup refs') []))) := (ha.trans g1).set _ (Nat.le_refl _)
  have s2 : (h1.set h0.length (.ins "Part" (putFD "own_steps" (.tup refs') [])))[h0.length]? = some (.ins "Part" (putFD "own_steps" (.tup refs') [])) := set_at s1
  have e2 : (h1.set h0.length (.ins "Part" (putFD "own_steps" (.tup refs') [])))[n]? = some (.ins "Rows" (rowsF refs' ns)) := by rw [List.getElem?_set_ne (Ne.symm ne)]; exact e1
  have hr2 := rows_set (fs' := putFD "own_steps" (.tup refs') []) hr1 s1
  generalize h1.set h0.length (.ins "Part" (putFD "own_steps" (.tup refs') [])) = h2 at g2 s2 e2 hr2
  refine ⟨_, rfl, n, "Rows", _, .tup (natsD ns), rfl, e2, by decide +kernel, rfl, ?_⟩
  refine ⟨_, rfl, _, _, _, rfl, s2, by decide +kernel, putFD_1, ?_⟩
  dsimp only
  have g3 := g2.set (.ins "Part" (putFD "own_rests" (.tup (natsD ns)) (putFD "own_steps" (.tup refs') []))) (Nat.le_refl h0.length)
  have s3 := set_at (c' := .ins "Part" (putFD "own_rests" (.tup (natsD ns)) (putFD "own_steps" (.tup refs') []))) s2
  have e3 : (h2.set h0.length (.ins "Part" (putFD "own_rests" (.tup (natsD ns)) (putFD "own_steps" (.tup refs') []))))[n]? = some (.ins "Rows" (rowsF refs' ns)) := by rw [List.getElem?_set_ne (Ne.symm ne)]; exact e2
  have hr3 := rows_set (fs' := putFD "own_rests" (.tup (natsD ns)) (putFD "own_steps" (.tup refs') [])) hr2 s2
  generalize h2.set h0.length (.ins "Part" (putFD "own_rests" (.tup (natsD ns)) (putFD "own_steps" (.tup refs') []))) = h3 at g3 s3 e3 hr3
  refine ⟨_, rfl, n, "Rows", _, .tup refs', rfl, e3, by decide +kernel, rfl, ?_⟩
  refine ⟨refs', rs.map srt, rfl, hr3, fun r hr' => by obtain ⟨r0, h0', rfl⟩ := List.mem_map.mp hr'; exact (ok.ok r0 h0').srt, by rw [List.length_map]; exact ok.le, fun h4 xs g4 nd hxs => ?_⟩
  have s4 := g4.ins s3
  refine ⟨_, rfl, _, _, _, rfl, s4, by decide +kernel, putFD_2, ?_⟩
  dsimp only
  exact z _ refs' _ ((g3.trans g4).set _ (Nat.le_refl _)) (set_at s4) (rows_set (hr3.gr g4) s4)
end K07S

set_option Elab.async false
set_option linter.all false
set_option maxRecDepth 100000
set_option maxHeartbeats 2000000
/-! K07P: a part's look-ups. -/
namespace K07S
open PySem PySem.Spec
open PyProof.Rows hiding St
open L2
open MP (D Cell Hd Sd WE WT WA WS WG WI EndsD ItD SpD endR startD itSeq items tyD truD getD putD keyOk wipeD lenD sortS ltS leS dctOf itKeys itVals putFD hasF)
open MV K07V
abbrev Pl := List (Row × Bool)
def rowsOf (pl : Pl) : List Row := pl.map (·.1)
def restS (pl : Pl) (s : Nat) : Bool := ((pl[s]?).map (·.2)).getD false
def idx (pl : Pl) : List Nat := (List.range pl.length).filter (restS pl)
def step (pl : Pl) (s : Nat) (a : Str) : Option Nat := (pl[s]?).bind fun p => lk p.1 a
def offK (pl : Pl) (s : Nat) : List Str := ((pl[s]?).map fun p => sortS (keysR p.1)).getD []
def offD (pl : Pl) (s : Nat) : D := .tup [.tup ((offK pl s).map .str), .bl (restS pl s)]
def IsPart (h : Hd) (d : D) (pl : Pl) : Prop := ∃ n refs acts, d = .ref n ∧ h[n]? = some (.ins "Part" (partF refs (idx pl) acts)) ∧ IsRows h refs ((rowsOf pl).map srt)
theorem IsPart.gr {h h' : Hd} {d : D} {pl : Pl} (k : IsPart h d pl) (g : Gr h h') : IsPart h' d pl := by
  obtain ⟨n, refs, acts, rfl, e, r⟩ := k
  exact ⟨n, refs, acts, rfl, g.ins e, r.gr g⟩
theorem IsPart.row {h : Hd} {n : Nat} {refs : List D} {acts : D} {pl : Pl} (r : IsRows h refs ((rowsOf pl).map srt)) {s : Nat} (hs : s < pl.length) : ∃ d p, refs[s]? = some d ∧ pl[s]? = some p ∧ IsRow h d (srt p.1) := by
  have e : pl[s]? = some pl[s] := List.getElem?_eq_getElem hs
  obtain ⟨d, e1, e2⟩ := r.at' (i := s) (r := srt pl[s].1) (by simp [rowsOf, e])
  exact ⟨d, _, e1, e, e2⟩
def optD : Option Nat → D
  | none => .non
  | some n => .int n
def s_require_part : SpD := fun ds h q => ∃ n fs, ds = [.ref n] ∧ h[n]? = some (.ins "Part" fs) ∧ q .non h
theorem p_require_part {ds : List D} {h : Hd} {q : D → Hd → Prop} (z : s_require_part ds h q) : v_require_part (endR q) (startD K07.N_require_part ds) h := by
  obtain ⟨n, fs, rfl, e, z⟩ := z
  refine ⟨_, rfl, .inr "Part", true, by simp only [tyD, e], by decide +kernel, true, rfl, ?_⟩
  exact iff_ rfl z
theorem hasPart : hasF ["Part", "Rows"] "Part" = true := by decide +kernel
theorem atI_natI {α : Type} {xs : List α} {j : Nat} {v : α} (h : xs[j]? = some v) : L2.atI xs (j : Int) = some v := L2.atI_nat h
def s_next_state : SpD := fun ds h q => ∃ dp pl so a, ds = [dp, optD so, .str a] ∧ IsPart h dp pl ∧ (∀ s, so = some s → s < pl.length) ∧ q (optD (so.bind fun s => step pl s a)) h
theorem p_next_state {ds : List D} {h : Hd} {q : D → Hd → Prop} (z : s_next_state ds h q) : v_next_state (endR q) (startD K07.N_next_state ds) h := by
  obtain ⟨dp, pl, so, a, rfl, ⟨n, refs, acts, rfl, e, hr⟩, hs, z⟩ := z
  cases so with
  | none =>
    refine ⟨_, rfl, true, rfl, ?_⟩
    exact ift rfl z
  | some s =>
    refine ⟨_, rfl, false, rfl, ?_⟩
    refine iff_ rfl ?_
    obtain ⟨d, p, e1, e2, m, lk0, rfl, e3⟩ := IsPart.row (n := n) (acts := acts) hr (hs s rfl)
    refine ⟨_, rfl, n, "Part", _, .tup refs, rfl, e, hasPart, rfl, _, rfl, ?_⟩
    dsimp only
    refine oIx_tup (atI_natI e1) ⟨⟨m, false, lk0, _, rfl, e3⟩, _, rfl, ?_⟩
    refine ⟨m, _, rfl, ⟨false, lk0, e3, rfl⟩, ?_⟩
    rw [getD_rowK, lk_srt]
    have : (Option.map (fun (n : Nat) => D.int n) (lk p.1 a)).getD .non = optD ((some s).bind fun s => step pl s a) := by
      simp only [Option.bind_some, step, e2]
      cases lk p.1 a <;> rfl
    rw [this]
    exact z
/-- where a word leads -/
def after (pl : Pl) (w : List Str) : Option Nat := w.foldl (fun so a => so.bind fun s => step pl s a) (some 0)
def Closed (pl : Pl) : Prop := 0 < pl.length ∧ ∀ s a t, step pl s a = some t → t < pl.length
def s_state_after : SpD := fun ds h q => ∃ dp pl w, ds = [dp, .tup (w.map .str)] ∧ IsPart h dp pl ∧ Closed pl ∧ q (optD (after pl w)) h
theorem p_state_after {ds : List D} {h : Hd} {q : D → Hd → Prop} (z : s_state_after ds h q) : v_state_after s_next_state (endR q) (startD K07.N_state_after ds) h := by
  obtain ⟨dp, pl, w, rfl, hp, cl, z⟩ := z
  refine ⟨_, rfl, _, rfl, ?_⟩
  dsimp only
  refine it_by (w.map .str) (fun i sl h' => h' = h ∧ sl.length = 4 ∧ sl[0]? = some (some dp) ∧ sl[2]? = some (some (optD (after pl (w.take i))))) ⟨rfl, rfl, rfl, rfl⟩ (fun i sl h' _ _ => rfl) (fun i x sl h' e p => ?_) (fun sl h' p => ?_)
  · obtain ⟨rfl, l4, p0, p2⟩ := p
    rw [List.getElem?_map] at e
    obtain ⟨a, ea, rfl⟩ := Option.map_eq_some_iff.mp e
    have bound : ∀ i s, after pl (w.take i) = some s → s < pl.length := by
      intro i
      induction i with
      | zero => intro s hs; simp [after] at hs; rw [← hs]; exact cl.1
      | succ i ih =>
        intro s hs
        rw [List.take_add_one] at hs
        cases ea' : w[i]? with
        | none => rw [ea'] at hs; simp at hs; exact ih s hs
        | some b =>
          rw [ea'] at hs
          simp only [after, Option.toList_some, List.foldl_append, List.foldl_cons, List.foldl_nil] at hs
          obtain ⟨s0, h0, h1⟩ := Option.bind_eq_some_iff.mp hs
          exact cl.2 _ _ _ h1
    refine ⟨_, by rw [List.getElem?_set_ne (by decide)]; exact p0, _, by rw [List.getElem?_set_ne (by decide)]; exact p2, _, List.getElem?_set_self (by omega), ?_⟩
    refine ⟨dp, pl, after pl (w.take i), a, rfl, hp, bound i, ?_⟩
    refine ⟨rfl, by simp [l4], by rw [List.getElem?_set_ne (by decide), List.getElem?_set_ne (by decide)]; exact p0, ?_⟩
    rw [List.getElem?_set_self (by simp [l4])]
    rw [List.take_add_one, ea]
    simp only [after, Option.toList_some, List.foldl_append, List.foldl_cons, List.foldl_nil]
  · obtain ⟨rfl, l4, p0, p2⟩ := p
    rw [List.length_map, List.take_length] at p2
    exact ⟨_, p2, z⟩
def s_Part_after : SpD := fun ds h q => ∃ dp pl w, ds = [dp, .tup (w.map .str)] ∧ IsPart h dp pl ∧ Closed pl ∧ (∀ x ∈ w, nameS x = true) ∧ w.length < sizeLine ∧ ∀ h', Gr h h' → q (optD (after pl w)) h'
theorem word_ok {h : Hd} {w : List Str} (hw : ∀ x ∈ w, nameS x = true) (hl : w.length < sizeLine) : okW h (.tup (w.map .str)) ∧ wordD (.tup (w.map .str)) = true := by
  refine ⟨⟨by simpa using hl, fun x hx => ?_⟩, ?_⟩
  · obtain ⟨a, ha, rfl⟩ := List.mem_map.mp hx
    exact nameS_len (hw a ha)
  · simp only [wordD, List.all_map, List.all_eq_true, Function.comp_def, nameD]
    exact hw
theorem p_Part_after {ds : List D} {h : Hd} {q : D → Hd → Prop} (z : s_Part_after ds h q) : v_Part_after s_require_word s_state_after (endR q) (startD K07.N_Part_after ds) h := by
  obtain ⟨dp, pl, w, rfl, hp, cl, hw, hl, z⟩ := z
  obtain ⟨w1, w2⟩ := word_ok (h := h) hw hl
  refine ⟨_, rfl, _, rfl, w1, w2, fun h1 g1 => ?_⟩
  exact ⟨_, rfl, _, rfl, dp, pl, w, rfl, hp.gr g1, cl, z _ g1⟩
def s_offer_at : SpD := fun ds h q => ∃ dp pl s, ds = [dp, .int (s : Nat)] ∧ IsPart h dp pl ∧ s < pl.length ∧ pl.length ≤ 8 ∧ (∀ p ∈ pl, p.1.length ≤ 7) ∧ ∀ h', Gr h h' → q (offD pl s) h'
theorem idx_in {pl : Pl} {s : Nat} (hs : s < pl.length) : ((natsD (idx pl)).any fun z => MP.eqF z (.int (s : Nat))) = restS pl s := by
  have : ((natsD (idx pl)).any fun z => MP.eqF z (.int (s : Nat))) = decide (s ∈ idx pl) := by
    unfold natsD
    rw [List.any_map]
    rw [Bool.eq_iff_iff, List.any_eq_true, decide_eq_true_eq]
    constructor
    · rintro ⟨x, hx, e⟩
      have : x = s := by
        have e : ((x : Int) == (s : Int)) = true := e
        have := eq_of_beq e
        omega
      rw [← this]; exact hx
    · intro hx
      exact ⟨s, hx, by simp [MP.eqF]⟩
  rw [this]
  unfold idx
  simp only [List.mem_filter, List.mem_range]
  cases restS pl s <;> simp [hs]
theorem p_offer_at {ds : List D} {h : Hd} {q : D → Hd → Prop} (z : s_offer_at ds h q) : v_offer_at (endR q) (startD K07.N_offer_at ds) h := by
  obtain ⟨dp, pl, s, rfl, ⟨n, refs, acts, rfl, e, hr⟩, hs, h8, h7, z⟩ := z
  obtain ⟨d, p, e1, e2, m, lk0, rfl, e3⟩ := IsPart.row (n := n) (acts := acts) hr hs
  refine ⟨_, rfl, n, "Part", _, .tup refs, rfl, e, hasPart, rfl, _, rfl, ?_⟩
  dsimp only
  refine oIx_tup (atI_natI e1) ?_
  dsimp only [MV.wNil]
  refine cList_dct e3 ?_
  refine ⟨_, items_last, ?_⟩
  have g1 : Gr h (h ++ [Cell.lst ((rowK (srt p.1)).map (·.1))]) := .app _
  refine ⟨_, rfl, _, rfl, n, "Part", _, .tup (natsD (idx pl)), rfl, g1.ins e, hasPart, rfl, restS pl s, ?_, ?_⟩
  · show MP.inList (.int (s : Nat)) (natsD (idx pl)) = some (restS pl s)
    unfold MP.inList
    rw [if_pos (by simp [MP.D.flat, natsD]), idx_in hs]
  refine ⟨by show 2 ≤ sizeLine; decide, ?_⟩
  have : D.tup [.tup ((rowK (srt p.1)).map (·.1)), .bl (restS pl s)] = offD pl s := by
    unfold offD offK
    rw [e2, rowK_keys, keys_srt]; rfl
  show q (D.tup [.tup ((rowK (srt p.1)).map (·.1)), .bl (restS pl s)]) _
  rw [this]
  exact z _ g1
end K07S

set_option Elab.async false
set_option linter.all false
set_option maxRecDepth 100000
set_option maxHeartbeats 2000000
/-! K07Q: the walk through two parts at once: both_walked. -/
namespace K07S
open PySem PySem.Spec
open PyProof.Rows hiding St
open L2
open MP (D Cell Hd Sd WE WT WA WS WG WI EndsD ItD SpD endR startD itSeq items tyD truD getD putD keyOk wipeD lenD sortS ltS leS dctOf itKeys itVals putFD hasF)
open MV K07V
abbrev St2 := List ((Nat × Nat) × List Str)
def keys2 (ws : St2) : List (Nat × Nat) := ws.map (·.1)
def act1 (one other : Pl) (l r : Nat) (w : List Str) (ws : St2) (a : Str) : St2 := match step one l a, step other r a with
  | some x, some y => if (x, y) ∈ keys2 ws then ws else ws ++ [((x, y), w ++ [a])]
  | _, _ => ws
def turn (one other : Pl) (ws : St2) (at_ : Nat) : St2 := match ws[at_]? with
  | some (p, w) => (offK one p.1).foldl (act1 one other p.1 p.2 w) ws
  | none => ws
def bfs (one other : Pl) : Nat → St2 → Nat → St2
  | 0, ws, _ => ws
  | n + 1, ws, at_ => if at_ < ws.length then bfs one other n (turn one other ws at_) (at_ + 1) else ws
def walk (one other : Pl) : St2 := bfs one other (one.length * other.length) [((0, 0), [])] 0
theorem bfs_done {one other : Pl} {ws : St2} {at_ : Nat} (h : ws.length ≤ at_) : ∀ n, bfs one other n ws at_ = ws
  | 0 => rfl
  | n + 1 => by unfold bfs; rw [if_neg (by omega)]
/-- what a state of the walk is -/
structure Ok2 (one other : Pl) (ws : St2) : Prop where
  nd : (keys2 ws).Nodup
  bd : ∀ p ∈ keys2 ws, p.1 < one.length ∧ p.2 < other.length
  wl : ∀ e ∈ ws, e.2.length < ws.length
theorem Ok2.len {one other : Pl} {ws : St2} (k : Ok2 one other ws) : ws.length ≤ one.length * other.length := by
  have := nodup_le (xs := keys2 ws) (ys := (List.range one.length).flatMap fun i => (List.range other.length).map fun j => (i, j)) k.nd fun p hp => by
    obtain ⟨h1, h2⟩ := k.bd p hp
    exact List.mem_flatMap.mpr ⟨p.1, List.mem_range.mpr h1, List.mem_map.mpr ⟨p.2, List.mem_range.mpr h2, rfl⟩⟩
  have e1 : (keys2 ws).length = ws.length := by unfold keys2; simp
  have e2 : ((List.range one.length).flatMap fun i => (List.range other.length).map fun j => (i, j)).length = one.length * other.length := by
    rw [List.length_flatMap]
    simp [List.length_map, List.length_range, List.map_const', List.sum_replicate_nat]
  omega
theorem Ok2.act {one other : Pl} {ws : St2} {l r : Nat} {w : List Str} {a : Str} (k : Ok2 one other ws) (hw : w.length < ws.length) (c1 : Closed one) (c2 : Closed other) : Ok2 one other (act1 one other l r w ws a) := by
  unfold act1
  split
  · rename_i x y e1 e2
    split
    · exact k
    · rename_i hn
      refine ⟨?_, fun p hp => ?_, fun e he => ?_⟩
      · unfold keys2
        rw [List.map_append]
        exact List.nodup_append.mpr ⟨k.nd, by simp, fun p hp q hq => by
          rw [List.map_cons, List.map_nil, List.mem_singleton] at hq
          intro e
          have e' : p = (x, y) := by rw [e, hq]
          exact hn (by rw [← e']; exact hp)⟩
      · unfold keys2 at hp
        rw [List.map_append] at hp
        rcases List.mem_append.mp hp with q | q
        · exact k.bd p q
        · rw [List.map_cons, List.map_nil, List.mem_singleton] at q
          rw [q]; exact ⟨c1.2 _ _ _ e1, c2.2 _ _ _ e2⟩
      · rcases List.mem_append.mp he with q | q
        · have := k.wl e q; simp; omega
        · rw [List.mem_singleton] at q; rw [q]; simp; omega
  · exact k
theorem act1_pre {one other : Pl} {ws : St2} {l r : Nat} {w : List Str} {a : Str} : ws <+: act1 one other l r w ws a := by
  unfold act1
  split
  · split
    · exact List.prefix_refl _
    · exact List.prefix_append _ _
  · exact List.prefix_refl _
theorem fold_ok {one other : Pl} {l r : Nat} {w : List Str} (c1 : Closed one) (c2 : Closed other) : ∀ (as : List Str) {ws : St2}, Ok2 one other ws → w.length < ws.length → Ok2 one other (as.foldl (act1 one other l r w) ws) ∧ ws <+: as.foldl (act1 one other l r w) ws
  | [], _, k, _ => ⟨k, List.prefix_refl _⟩
  | a :: as, ws, k, hw => by
    have h1 := fold_ok (l := l) (r := r) (w := w) c1 c2 as (k.act (l := l) (r := r) (w := w) (a := a) hw c1 c2) (Nat.lt_of_lt_of_le hw (List.IsPrefix.length_le act1_pre))
    exact ⟨h1.1, act1_pre.trans h1.2⟩
theorem Ok2.turn {one other : Pl} {ws : St2} {at_ : Nat} (k : Ok2 one other ws) (c1 : Closed one) (c2 : Closed other) : Ok2 one other (turn one other ws at_) := by
  unfold K07S.turn
  split
  · rename_i p w e
    exact (fold_ok c1 c2 _ k (k.wl (p, w) (List.mem_of_getElem? e))).1
  · exact k
def pairD (p : Nat × Nat) : D := .tup [.int (p.1 : Nat), .int (p.2 : Nat)]
def wD (w : List Str) : D := .tup (w.map .str)
def bfsD (ws : St2) : List (D × D) := ws.map fun e => (pairD e.1, wD e.2)
theorem pairD_inj {p q : Nat × Nat} (h : pairD p = pairD q) : p = q := by
  unfold pairD at h
  injection h with h
  simp only [List.cons.injEq, D.int.injEq, and_true] at h
  obtain ⟨h1, h2⟩ := h
  exact Prod.ext (by omega) (by omega)
theorem getD_bfs (p : Nat × Nat) : ∀ ws : St2, getD (bfsD ws) (pairD p) = (ws.find? fun e => decide (e.1 = p)).map fun e => wD e.2
  | [] => rfl
  | e :: ws => by
    have ih := getD_bfs p ws
    unfold MP.getD bfsD at *
    by_cases h : e.1 = p
    · simp [List.find?_cons, h]
    · have h' : ¬ pairD e.1 = pairD p := fun q => h (pairD_inj q)
      simp only [List.map_cons, List.find?_cons, h, h', decide_false]
      exact ih
theorem find_at {ws : St2} {i : Nat} {p : Nat × Nat} {w : List Str} (nd : (keys2 ws).Nodup) (e : ws[i]? = some (p, w)) : (ws.find? fun e => decide (e.1 = p)) = some (p, w) := by
  have hm := List.mem_of_getElem? e
  cases q : ws.find? fun e => decide (e.1 = p) with
  | none =>
    have := List.find?_eq_none.mp q (p, w) hm
    simp at this
  | some x =>
    have hx := List.mem_of_find?_eq_some q
    have hp : x.1 = p := by have := List.find?_some q; simpa using this
    obtain ⟨j, hj, ej⟩ := List.getElem_of_mem hx
    have hi := (List.getElem?_eq_some_iff.mp e)
    have : (keys2 ws)[j]'(by unfold keys2; simpa using hj) = (keys2 ws)[i]'(by unfold keys2; simpa using hi.1) := by
      unfold keys2
      rw [List.getElem_map, List.getElem_map, ej, hi.2, hp]
    have := (List.getElem_inj nd).mp this
    subst this
    rw [← ej, hi.2]
theorem find_none {ws : St2} {p : Nat × Nat} : (ws.find? fun e => decide (e.1 = p)).isSome = decide (p ∈ keys2 ws) := by
  rw [Bool.eq_iff_iff, List.find?_isSome, decide_eq_true_eq]
  unfold keys2
  simp only [decide_eq_true_eq, List.mem_map]
theorem putD_bfs {ws : St2} {p : Nat × Nat} {w : List Str} (h : p ∉ keys2 ws) : putD (bfsD ws) (pairD p) (wD w) = bfsD (ws ++ [(p, w)]) := by
  rw [putD_new]
  · unfold bfsD; simp
  · intro x hx e
    obtain ⟨y, hy, rfl⟩ := List.mem_map.mp hx
    have := pairD_inj e
    exact h (List.mem_map.mpr ⟨y, hy, this⟩)
/-- sane parts for the walk -/
structure PlOk (pl : Pl) : Prop where
  cl : Closed pl
  le : pl.length ≤ 8
  sm : ∀ p ∈ pl, RowOk p.1
  nm : ∀ p ∈ pl, ∀ a ∈ keysR p.1, nameS a = true
theorem offK_len {pl : Pl} (k : PlOk pl) (s : Nat) : (offK pl s).length ≤ 7 := by
  unfold offK
  cases e : pl[s]? with
  | none => simp
  | some p =>
    simp only [Option.map_some, Option.getD_some, MP.sortS_length, keysR, List.length_map]
    exact (k.sm p (List.mem_of_getElem? e)).sm
/-- a part's row, at the heap -/
theorem IsPart.get {h : Hd} {n : Nat} {refs : List D} {acts : D} {pl : Pl} (r : IsRows h refs ((rowsOf pl).map srt)) {s : Nat} (hs : s < pl.length) : ∃ m lk0 p, refs[s]? = some (.ref m) ∧ pl[s]? = some p ∧ h[m]? = some (.dct false lk0 (rowK (srt p.1))) := by
  obtain ⟨d, p, e1, e2, m, lk0, rfl, e3⟩ := IsPart.row (n := n) (acts := acts) r hs
  exact ⟨m, lk0, p, e1, e2, e3⟩
theorem getD_step {pl : Pl} {s : Nat} {p : Row × Bool} (e : pl[s]? = some p) (a : Str) : getD (rowK (srt p.1)) (.str a) = (step pl s a).map fun (n : Nat) => D.int (n : Int) := by
  rw [getD_rowK, lk_srt]; unfold step; rw [e]; rfl
theorem step_off {pl : Pl} {s : Nat} {a : Str} (h : a ∈ offK pl s) : ∃ t, step pl s a = some t := by
  unfold offK at h
  unfold step
  cases e : pl[s]? with
  | none => rw [e] at h; simp at h
  | some p =>
    rw [e] at h
    exact lk_mem (MP.mem_sortS.mp h)

/-! ### both_walked -/
def s_both_walked : SpD := fun ds h q => ∃ d1 d2 one other, ds = [d1, d2] ∧ IsPart h d1 one ∧ IsPart h d2 other ∧ PlOk one ∧ PlOk other ∧ ∀ h' n, Gr h h' → h'[n]? = some (.dct true false (bfsD (walk one other))) → q (.ref n) h'
/-- the state of the loop -/
structure BW (h0 : Hd) (d1 d2 : D) (one other : Pl) (ws : St2) (at_ : Nat) (sl : Sd) (h : Hd) : Prop where
  len : sl.length = 9
  s0 : sl[0]? = some (some d1)
  s1 : sl[1]? = some (some d2)
  s2 : sl[2]? = some (some (.ref h0.length))
  s3 : sl[3]? = some (some (.ref (h0.length + 1)))
  s4 : sl[4]? = some (some (.int (at_ : Nat)))
  gr : Gr h0 h
  hl : h0.length + 2 ≤ h.length
  dc : h[h0.length]? = some (.dct true false (bfsD ws))
  ls : h[h0.length + 1]? = some (.lst ((keys2 ws).map pairD))
  ok : Ok2 one other ws
theorem BW.app {h0 : Hd} {d1 d2 : D} {one other : Pl} {ws : St2} {at_ : Nat} {sl : Sd} {h : Hd} (b : BW h0 d1 d2 one other ws at_ sl h) (c : List Cell) : BW h0 d1 d2 one other ws at_ sl (h ++ c) :=
  { b with gr := b.gr.trans (.app _), hl := by have := b.hl; simp; omega, dc := by rw [List.getElem?_append_left (List.getElem?_eq_some_iff.mp b.dc).1]; exact b.dc, ls := by rw [List.getElem?_append_left (List.getElem?_eq_some_iff.mp b.ls).1]; exact b.ls }
theorem BW.slot {h0 : Hd} {d1 d2 : D} {one other : Pl} {ws : St2} {at_ : Nat} {sl : Sd} {h : Hd} (b : BW h0 d1 d2 one other ws at_ sl h) (i : Nat) (d : Option D) (hi : 5 ≤ i) : BW h0 d1 d2 one other ws at_ (sl.set i d) h :=
  { b with len := by rw [List.length_set]; exact b.len, s0 := by rw [List.getElem?_set_ne (by omega)]; exact b.s0, s1 := by rw [List.getElem?_set_ne (by omega)]; exact b.s1, s2 := by rw [List.getElem?_set_ne (by omega)]; exact b.s2, s3 := by rw [List.getElem?_set_ne (by omega)]; exact b.s3, s4 := by rw [List.getElem?_set_ne (by omega)]; exact b.s4 }
theorem oSet_dct {h : Hd} {n : Nat} {t : Bool} {kvs : List (D × D)} {i v : D} {Q : Hd → Prop} (e : h[n]? = some (.dct t false kvs)) (hk : keyOk t i = true) (hl : kvs.length < sizeLine) (z : Q (h.set n (.dct t false (putD kvs i v)))) : MV.oSet (.ref n) i v h Q := by
  show (match h[n]? with
    | some (.lst xs) => ∃ k j, i = .int k ∧ ixN xs.length k = some j ∧ Q (h.set n (.lst (xs.set j v)))
    | some (.dct t false kvs) => keyOk t i = true ∧ kvs.length < sizeLine ∧ Q (h.set n (.dct t false (putD kvs i v)))
    | _ => False)
  rw [e]; exact ⟨hk, hl, z⟩
theorem size_small {n : Nat} (h : n ≤ 1000) : n < sizeLine := by have : sizeLine = 16777216 := sizeLine_eq; omega
theorem p_both_walked {ds : List D} {h : Hd} {q : D → Hd → Prop} (z : s_both_walked ds h q) : v_both_walked (endR q) (startD K07.N_both_walked ds) h := by
  obtain ⟨d1, d2, one, other, rfl, ⟨n1, refs1, acts1, rfl, e1, hr1⟩, ⟨n2, refs2, acts2, rfl, e2, hr2⟩, k1, k2, z⟩ := z
  have cap64 : one.length * other.length ≤ 64 := Nat.mul_le_mul k1.le k2.le
  -- words, waiting, at = ..
  refine ⟨by show 2 ≤ sizeLine; decide, by show 0 ≤ sizeLine; decide, rfl, by show 2 ≤ sizeLine; decide, by show 1 ≤ sizeLine; decide, _, _, _, rfl, ?_⟩
  dsimp only
  have b0 : BW h (.ref n1) (.ref n2) one other [((0, 0), [])] 0 ((((startD K07.N_both_walked [.ref n1, .ref n2]).set 2 (some (.ref h.length))).set 3 (some (.ref (h ++ [Cell.dct true false [(D.tup [.int 0, .int 0], .tup [])]]).length))).set 4 (some (.int 0)))
      (h ++ [Cell.dct true false [(D.tup [.int 0, .int 0], .tup [])]] ++ [.lst [.tup [.int 0, .int 0]]]) := by
    refine ⟨rfl, rfl, rfl, rfl, by rw [List.length_append, List.length_singleton]; rfl, rfl, (Gr.app _).trans (.app _), by simp, ?_, ?_, ⟨by simp [keys2], fun p hp => ?_, fun e he => ?_⟩⟩
    · rw [List.append_assoc, List.getElem?_append_right (Nat.le_refl _)]; simp [bfsD, pairD, wD]
    · rw [List.append_assoc, List.getElem?_append_right (Nat.le_succ _)]; simp [keys2, pairD]
    · simp [keys2] at hp
      rw [hp]; exact ⟨k1.cl.1, k2.cl.1⟩
    · rw [List.mem_singleton] at he; rw [he]; exact Nat.zero_lt_one
  generalize ((((startD K07.N_both_walked [.ref n1, .ref n2]).set 2 (some (.ref h.length))).set 3 (some (.ref (h ++ [Cell.dct true false [(D.tup [.int 0, .int 0], .tup [])]]).length))).set 4 (some (.int 0))) = sl0 at b0 ⊢
  generalize (h ++ [Cell.dct true false [(D.tup [.int 0, .int 0], .tup [])]] ++ [.lst [.tup [.int 0, .int 0]]]) = hi0 at b0 ⊢
  refine ⟨fun m sl h' => ∃ ws at_, BW h (.ref n1) (.ref n2) one other ws at_ sl h' ∧ m = one.length * other.length - at_ ∧ bfs one other m ws at_ = walk one other, ⟨_, [((0, 0), [])], 0, b0, rfl, rfl⟩, ?_⟩
  rintro m sl h1 ⟨ws, at_, b, rfl, hw⟩
  refine ⟨_, b.s4, _, b.s3, _, ws.length, rfl, ?_, ?_⟩
  · simp only [lenD, b.ls, keys2, List.length_map]
  refine ⟨_, rfl, ?_⟩
  have hws := b.ok.len
  by_cases hat : at_ < ws.length
  · refine ift (by simpa using hat) ?_
    obtain ⟨k, hk⟩ : ∃ k, one.length * other.length - at_ = k + 1 := ⟨one.length * other.length - at_ - 1, by omega⟩
    have hk2 : one.length * other.length - (at_ + 1) = k := by omega
    rw [hk] at hw
    unfold bfs at hw
    rw [if_pos hat] at hw
    refine ⟨fun sl' h' => ∃ ws', BW h (.ref n1) (.ref n2) one other ws' (at_ + 1) sl' h' ∧ bfs one other k ws' (at_ + 1) = walk one other, fun sl' h' ⟨ws', b', e'⟩ => ⟨k, by omega, ws', at_ + 1, b', hk2.symm, by rw [← hk2] at e' ⊢; exact e'⟩, ?_⟩
    -- left, right = waiting[at]
    obtain ⟨⟨⟨l, r⟩, w⟩, ew⟩ : ∃ e, ws[at_]? = some e := ⟨ws[at_], List.getElem?_eq_getElem hat⟩
    have ek : ((keys2 ws).map pairD)[at_]? = some (pairD (l, r)) := by unfold keys2; rw [List.map_map, List.getElem?_map, ew]; rfl
    refine ⟨_, b.s3, _, b.s4, ?_⟩
    dsimp only
    refine oIx_lst b.ls (atI_natI ek) ?_
    refine ⟨_, rfl, rfl, _, _, rfl, _, _, rfl, rfl, ?_⟩
    have bd := b.ok.bd (l, r) (List.mem_map.mpr ⟨_, List.mem_of_getElem? ew, rfl⟩)
    have b1 := (b.slot 6 (some (.int (l : Nat))) (by decide)).slot 7 (some (.int (r : Nat))) (by decide)
    have l9 := b.len
    have t6 : ((sl.set 6 (some (D.int (l : Nat)))).set 7 (some (.int (r : Nat))))[6]? = some (some (.int (l : Nat))) := by rw [List.getElem?_set_ne (by decide), List.getElem?_set_self (by omega)]
    have t7 : ((sl.set 6 (some (D.int (l : Nat)))).set 7 (some (.int (r : Nat))))[7]? = some (some (.int (r : Nat))) := List.getElem?_set_self (by rw [List.length_set]; omega)
    show MV.wSeq _ _ _ ((sl.set 6 (some (D.int (l : Nat)))).set 7 (some (.int (r : Nat)))) h1
    generalize (sl.set 6 (some (D.int (l : Nat)))).set 7 (some (.int (r : Nat))) = sl1 at b1 t6 t7 ⊢
    obtain ⟨m1, lk1, p1, f1, f2, f3⟩ := IsPart.get (n := n1) (acts := acts1) (hr1.gr b.gr) bd.1
    -- for action in sorted(list(..))
    refine ⟨_, b1.s0, n1, "Part", _, .tup refs1, rfl, b.gr.ins e1, hasPart, rfl, _, t6, ?_⟩
    dsimp only
    refine oIx_tup (atI_natI f1) ?_
    dsimp only [MV.wNil]
    refine cList_dct f3 ?_
    have eo : sortS (keysR (srt p1.1)) = offK one l := by
      unfold offK; rw [f2, keys_srt]
      exact MP.sortS_self (MP.sortS_pw _)
    have ok7 := offK_len k1 l
    refine ⟨_, keysR (srt p1.1), rfl, .inl (by rw [items_last, rowK_keys]), ?_, ?_⟩
    · have : (sortS (keysR (srt p1.1))).length = (keysR (srt p1.1)).length := MP.sortS_length _
      rw [eo] at this; omega
    rw [eo]
    refine ⟨_, (offK one l).map .str, rfl, items_last, ?_⟩
    have b2 := (b1.app [Cell.lst ((rowK (srt p1.1)).map (·.1))]).app [.lst ((offK one l).map .str)]
    have it2 : items (h1 ++ [Cell.lst ((rowK (srt p1.1)).map (·.1))] ++ [.lst ((offK one l).map .str)]) (h1 ++ [Cell.lst ((rowK (srt p1.1)).map (·.1))]).length = some ((offK one l).map .str) := items_last
    have ns2 : h.length + 2 ≤ (h1 ++ [Cell.lst ((rowK (srt p1.1)).map (·.1))]).length := by have := b.hl; simp; omega
    generalize (h1 ++ [Cell.lst ((rowK (srt p1.1)).map (·.1))]).length = ns at it2 ns2 ⊢
    generalize h1 ++ [Cell.lst ((rowK (srt p1.1)).map (·.1))] ++ [.lst ((offK one l).map .str)] = h2 at b2 it2 ⊢
    dsimp only
    refine it_by ((offK one l).map .str) (fun j sl' h' => ∃ ws', BW h (.ref n1) (.ref n2) one other ws' at_ sl' h' ∧ ws' = ((offK one l).take j).foldl (act1 one other l r w) ws ∧ sl'[6]? = some (some (.int (l : Nat))) ∧ sl'[7]? = some (some (.int (r : Nat))) ∧ items h' ns = some ((offK one l).map .str))
      ⟨ws, b2, rfl, t6, t7, it2⟩ (fun j sl' h' _ p => by obtain ⟨_, _, _, _, _, it⟩ := p; unfold MP.itLst; rw [it]; rfl) (fun j x sl' h' e p => ?_) (fun sl' h' p => ?_)
    · obtain ⟨ws', b', ews, t6', t7', it'⟩ := p
      rw [List.getElem?_map] at e
      obtain ⟨a, ea, rfl⟩ := Option.map_eq_some_iff.mp e
      have wl0 := b.ok.wl _ (List.mem_of_getElem? ew)
      have pre : ws <+: ws' := by rw [ews]; exact (fold_ok k1.cl k2.cl _ b.ok wl0).2
      have wl1 : w.length < ws'.length := b'.ok.wl _ (List.mem_of_getElem? (MP.pre_get pre ew))
      have ew' : ws'[at_]? = some ((l, r), w) := MP.pre_get pre ew
      have l9' := b'.len
      obtain ⟨x1, ex1⟩ := step_off (List.mem_of_getElem? ea)
      have nxt : ((offK one l).take (j + 1)).foldl (act1 one other l r w) ws = act1 one other l r w ws' a := by
        rw [List.take_add_one, ea]; simp [List.foldl_append, ews]
      -- the slot of the action
      have b3 := b'.slot 5 (some (.str a)) (by decide)
      have u5 : (sl'.set 5 (some (D.str a)))[5]? = some (some (.str a)) := List.getElem?_set_self (by omega)
      have u6 : (sl'.set 5 (some (D.str a)))[6]? = some (some (.int (l : Nat))) := by rw [List.getElem?_set_ne (by decide)]; exact t6'
      have u7 : (sl'.set 5 (some (D.str a)))[7]? = some (some (.int (r : Nat))) := by rw [List.getElem?_set_ne (by decide)]; exact t7'
      show MV.wIfS _ _ _ _ (sl'.set 5 (some (D.str a))) h'
      generalize sl'.set 5 (some (D.str a)) = sl2 at b3 u5 u6 u7 ⊢
      obtain ⟨m2, lk2, p2, g1, g2, g3⟩ := IsPart.get (n := n2) (acts := acts2) (hr2.gr b'.gr) bd.2
      obtain ⟨m1', lk1', p1', f1', f2', f3'⟩ := IsPart.get (n := n1) (acts := acts1) (hr1.gr b'.gr) bd.1
      refine ⟨_, u5, _, b3.s1, n2, "Part", _, .tup refs2, rfl, b'.gr.ins e2, hasPart, rfl, _, u7, ?_⟩
      dsimp only
      refine oIx_tup (atI_natI g1) ?_
      refine ⟨(step other r a).isSome, ?_, _, rfl, ?_⟩
      · unfold MP.inDat
        simp only [g3]
        rw [if_pos (show keyOk false (D.str a) = true from rfl), getD_step g2]
        cases step other r a <;> rfl
      cases ey : step other r a with
      | none =>
        refine iff_ rfl ?_
        refine ⟨ws', b3, ?_, u6, u7, it'⟩
        rw [nxt]; unfold act1; rw [ex1, ey]
      | some y1 =>
        refine ift rfl ?_
        -- pair = (..)
        refine ⟨_, b3.s0, n1, "Part", _, .tup refs1, rfl, b'.gr.ins e1, hasPart, rfl, _, u6, ?_⟩
        dsimp only
        refine oIx_tup (atI_natI f1') ⟨_, u5, ?_⟩
        dsimp only
        refine oIx_dct f3' rfl (d := .int (x1 : Nat)) (by rw [getD_step f2', ex1]; rfl) ?_
        refine ⟨_, b3.s1, n2, "Part", _, .tup refs2, rfl, b'.gr.ins e2, hasPart, rfl, _, u7, ?_⟩
        dsimp only
        refine oIx_tup (atI_natI g1) ⟨_, u5, ?_⟩
        dsimp only
        refine oIx_dct g3 rfl (d := .int (y1 : Nat)) (by rw [getD_step g2, ey]; rfl) ⟨by show 2 ≤ sizeLine; decide, ?_⟩
        have b4 := b3.slot 8 (some (pairD (x1, y1))) (by decide)
        have v5 : (sl2.set 8 (some (pairD (x1, y1))))[5]? = some (some (.str a)) := by rw [List.getElem?_set_ne (by decide)]; exact u5
        have v6 : (sl2.set 8 (some (pairD (x1, y1))))[6]? = some (some (.int (l : Nat))) := by rw [List.getElem?_set_ne (by decide)]; exact u6
        have v7 : (sl2.set 8 (some (pairD (x1, y1))))[7]? = some (some (.int (r : Nat))) := by rw [List.getElem?_set_ne (by decide)]; exact u7
        have v8 : (sl2.set 8 (some (pairD (x1, y1))))[8]? = some (some (pairD (x1, y1))) := List.getElem?_set_self (by rw [b3.len]; decide)
        show MV.wIfS _ _ _ _ (sl2.set 8 (some (pairD (x1, y1)))) h'
        generalize sl2.set 8 (some (pairD (x1, y1))) = sl3 at b4 v5 v6 v7 v8 ⊢
        refine ⟨_, v8, _, b4.s2, decide ((x1, y1) ∈ keys2 ws'), ?_, _, rfl, ?_⟩
        · unfold MP.inDat
          simp only [b'.dc]
          rw [if_pos (show keyOk true (pairD (x1, y1)) = true from rfl), getD_bfs, Option.isSome_map, find_none]
        by_cases hin : (x1, y1) ∈ keys2 ws'
        · refine iff_ (by simp [hin]) ?_
          refine ⟨ws', b4, ?_, v6, v7, it'⟩
          rw [nxt]; unfold act1; rw [ex1, ey]; simp only [hin, if_true]
        · refine ift (by simp [hin]) ?_
          have nxt2 : ((offK one l).take (j + 1)).foldl (act1 one other l r w) ws = ws' ++ [((x1, y1), w ++ [a])] := by
            rw [nxt]; unfold act1; rw [ex1, ey]; simp only [hin, if_false]
          have ok2 := b'.ok.act (l := l) (r := r) (w := w) (a := a) wl1 k1.cl k2.cl
          have e3 : act1 one other l r w ws' a = ws' ++ [((x1, y1), w ++ [a])] := by rw [← nxt, nxt2]
          rw [e3] at ok2
          have len2 := ok2.len
          -- words[pair] = (*words[(left, right)], action)
          refine ⟨_, b4.s2, _, v6, _, v7, by show 2 ≤ sizeLine; decide, ?_⟩
          dsimp only
          refine oIx_dct b'.dc rfl (d := wD w) (by
            show getD (bfsD ws') (pairD (l, r)) = _
            rw [getD_bfs, find_at b'.ok.nd ew']; rfl) ?_
          refine ⟨w.map .str, .inl rfl, _, v5, ?_, ?_⟩
          · have := b'.ok.len
            simp only [List.length_append, List.length_map, List.length_singleton]
            exact Nat.le_of_lt (size_small (by omega))
          refine ⟨_, b4.s2, _, v8, ?_⟩
          dsimp only
          have len3 : ws'.length ≤ 64 := by have := b'.ok.len; omega
          refine oSet_dct b'.dc rfl (by unfold bfsD; rw [List.length_map]; exact size_small (by omega)) ?_
          have ep : putD (bfsD ws') (pairD (x1, y1)) (.tup (w.map .str ++ [.str a])) = bfsD (ws' ++ [((x1, y1), w ++ [a])]) := by
            rw [← putD_bfs hin]; unfold wD; simp
          rw [ep]
          have nel : h.length ≠ h.length + 1 := by omega
          have ls2 : (h'.set h.length (.dct true false (bfsD (ws' ++ [((x1, y1), w ++ [a])]))))[h.length + 1]? = some (.lst ((keys2 ws').map pairD)) := by rw [List.getElem?_set_ne nel]; exact b'.ls
          refine ⟨_, b4.s3, ⟨_, _, rfl, ls2⟩, _, v8, _, _, _, rfl, rfl, ls2, by unfold keys2; rw [List.length_map, List.length_map]; exact size_small (by omega), ?_⟩
          have ek2 : (keys2 ws').map pairD ++ [pairD (x1, y1)] = (keys2 (ws' ++ [((x1, y1), w ++ [a])])).map pairD := by unfold keys2; simp
          rw [ek2]
          refine ⟨_, ⟨b4.len, b4.s0, b4.s1, b4.s2, b4.s3, b4.s4, (b'.gr.set _ (Nat.le_refl _)).set _ (Nat.le_succ _), by have := b'.hl; simpa using this, ?_, ?_, ok2⟩, nxt2.symm, v6, v7, ?_⟩
          · rw [List.getElem?_set_ne (Ne.symm nel)]
            exact set_at b'.dc
          · exact set_at ls2
          · unfold items at it' ⊢
            rw [List.getElem?_set_ne (by omega), List.getElem?_set_ne (by omega)]
            exact it'
    · obtain ⟨ws', b', ews, _, _, _⟩ := p
      rw [List.length_map, List.take_length] at ews
      refine ⟨_, b'.s4, 1, rfl, ?_⟩
      refine ⟨ws', ⟨by rw [List.length_set]; exact b'.len, by rw [List.getElem?_set_ne (by decide)]; exact b'.s0, by rw [List.getElem?_set_ne (by decide)]; exact b'.s1, by rw [List.getElem?_set_ne (by decide)]; exact b'.s2, by rw [List.getElem?_set_ne (by decide)]; exact b'.s3, ?_, b'.gr, b'.hl, b'.dc, b'.ls, b'.ok⟩, ?_⟩
      · rw [List.getElem?_set_self (by rw [b'.len]; decide)]
        simp
      · have : ws' = turn one other ws at_ := by unfold K07S.turn; rw [ew, ews]
        rw [this]; exact hw
  · refine iff_ (by simpa using hat) ?_
    rw [bfs_done (by omega)] at hw
    refine ⟨_, b.s2, ?_⟩
    refine z h1 _ b.gr ?_
    rw [← hw]; exact b.dc
end K07S

set_option Elab.async false
set_option linter.all false
set_option maxRecDepth 100000
set_option maxHeartbeats 2000000
/-! K07R: are_unlike, difference, are_alike, is_difference. -/
namespace K07S
open PySem PySem.Spec
open PyProof.Rows hiding St
open L2
open MP (D Cell Hd Sd WE WT WA WS WG WI EndsD ItD SpD endR startD itSeq items tyD truD getD putD keyOk wipeD lenD sortS ltS leS dctOf itKeys itVals itItems putFD hasF PyR PyRs)
open MV K07V
def strsP (xs : List Str) : List PyData := xs.map .str
theorem pyRs_str (h : Hd) : ∀ xs : List Str, PyRs h (xs.map D.str) (strsP xs)
  | [] => .nil
  | x :: xs => .cons (.str x) (pyRs_str h xs)
theorem eqv_strs : ∀ xs ys : List Str, PyData.eqvAll (strsP xs) (strsP ys) = decide (xs = ys)
  | [], [] => rfl
  | [], y :: ys => by simp [strsP, PyData.eqvAll]
  | x :: xs, [] => by simp [strsP, PyData.eqvAll]
  | x :: xs, y :: ys => by
    have ih := eqv_strs xs ys
    unfold strsP at *
    rw [List.map_cons, List.map_cons, PyData.eqvAll, PyData.eqv, ih]
    by_cases e : x = y
    · subst e; simp
    · simp [e]
theorem nameS_ok {x : Str} (h : nameS x = true) : PyData.strOk x = true := by
  unfold nameS at h
  simp only [Bool.and_eq_true, List.all_eq_true] at h
  unfold PyData.strOk
  rw [← Array.all_toList, List.all_eq_true]
  intro c hc
  have := h.2 c hc
  unfold isL at this
  simp only [Bool.and_eq_true, decide_eq_true_eq] at this
  simp only [decide_eq_true_eq]; omega
theorem can_strs : ∀ {xs : List Str}, (∀ x ∈ xs, nameS x = true) → PyData.canLayAll0 (strsP xs) = true ∧ PyData.depthAll (strsP xs) = 0
  | [], _ => ⟨rfl, rfl⟩
  | x :: xs, h => by
    obtain ⟨h1, h2⟩ := can_strs (xs := xs) fun y hy => h y (List.mem_cons_of_mem _ hy)
    have h0 := nameS_ok (h x List.mem_cons_self)
    unfold strsP at *
    rw [List.map_cons]
    exact ⟨by rw [PyData.canLayAll0, PyData.canLay0, h0, h1]; rfl, by rw [PyData.depthAll, PyData.depth, h2]; rfl⟩
def offP (pl : Pl) (s : Nat) : PyData := .tuple [.tuple (strsP (offK pl s)), .bool (restS pl s)]
theorem offK_name {pl : Pl} (k : PlOk pl) {s : Nat} : ∀ x ∈ offK pl s, nameS x = true := by
  intro x hx
  unfold offK at hx
  cases e : pl[s]? with
  | none => rw [e] at hx; simp at hx
  | some p =>
    rw [e] at hx
    exact k.nm p (List.mem_of_getElem? e) x (MP.mem_sortS.mp hx)
theorem off_shaped {pl : Pl} (k : PlOk pl) (s : Nat) : SeqAt.shaped (offP pl s) = true := by
  obtain ⟨h1, h2⟩ := can_strs (offK_name k (s := s))
  unfold SeqAt.shaped offP
  simp only [PyData.canLay0, PyData.canLayAll0, h1, PyData.depth, PyData.depthAll, h2]
  decide
theorem off_pyR (h : Hd) (pl : Pl) (s : Nat) : PyR h (offD pl s) (offP pl s) := .tup (.cons (.tup (pyRs_str h _)) (.cons (.bl _) .nil))
def diffAt (one other : Pl) (p : Nat × Nat) : Bool := !(decide (offK one p.1 = offK other p.2) && (restS one p.1 == restS other p.2))
theorem off_eqv (one other : Pl) (l r : Nat) : (!PyData.eqv (offP one l) (offP other r)) = diffAt one other (l, r) := by
  unfold offP diffAt
  simp only [PyData.eqv, PyData.eqvAll, eqv_strs, Bool.and_true]
def s_are_unlike : SpD := fun ds h q => ∃ d1 d2 one other p, ds = [d1, d2, pairD p] ∧ IsPart h d1 one ∧ IsPart h d2 other ∧ PlOk one ∧ PlOk other ∧ p.1 < one.length ∧ p.2 < other.length ∧ ∀ h', Gr h h' → q (.bl (diffAt one other p)) h'
theorem sm7 {pl : Pl} (k : PlOk pl) : ∀ p ∈ pl, p.1.length ≤ 7 := fun p hp => (k.sm p hp).sm
theorem p_are_unlike {ds : List D} {h : Hd} {q : D → Hd → Prop} (z : s_are_unlike ds h q) : v_are_unlike s_offer_at (endR q) (startD K07.N_are_unlike ds) h := by
  obtain ⟨d1, d2, one, other, ⟨l, r⟩, rfl, hp1, hp2, k1, k2, hl, hr, z⟩ := z
  refine ⟨_, rfl, _, rfl, rfl, _, _, rfl, _, _, rfl, rfl, ?_⟩
  refine ⟨_, rfl, _, rfl, d1, one, l, rfl, hp1, hl, k1.le, sm7 k1, fun h1 g1 => ?_⟩
  refine ⟨_, rfl, _, rfl, d2, other, r, rfl, hp2.gr g1, hr, k2.le, sm7 k2, fun h2 g2 => ?_⟩
  show ∃ d e, PyR h2 (offD one l) d ∧ PyR h2 (offD other r) e ∧ SeqAt.shaped d = true ∧ SeqAt.shaped e = true ∧ q (.bl (!PyData.eqv d e)) h2
  refine ⟨_, _, off_pyR h2 one l, off_pyR h2 other r, off_shaped k1 l, off_shaped k2 r, ?_⟩
  rw [off_eqv]
  exact z _ (g1.trans g2)
/-- the first word behind which the offers are not equal -/
def first (one other : Pl) : Option (List Str) := ((walk one other).find? fun e => diffAt one other e.1).map (·.2)
def wordO : Option (List Str) → D
  | none => .non
  | some w => wD w
theorem bfs_ok {one other : Pl} (c1 : Closed one) (c2 : Closed other) : ∀ (n : Nat) (ws : St2) (at_ : Nat), Ok2 one other ws → Ok2 one other (bfs one other n ws at_)
  | 0, ws, _, k => k
  | n + 1, ws, at_, k => by
    unfold bfs
    split
    · exact bfs_ok c1 c2 n _ _ (k.turn c1 c2)
    · exact k
theorem walk_ok {one other : Pl} (k1 : PlOk one) (k2 : PlOk other) : Ok2 one other (walk one other) := bfs_ok k1.cl k2.cl _ _ _
  ⟨by simp [keys2], fun p hp => by simp [keys2] at hp; rw [hp]; exact ⟨k1.cl.1, k2.cl.1⟩, fun e he => by rw [List.mem_singleton] at he; rw [he]; exact Nat.zero_lt_one⟩
def s_difference : SpD := fun ds h q => ∃ d1 d2 one other, ds = [d1, d2] ∧ IsPart h d1 one ∧ IsPart h d2 other ∧ PlOk one ∧ PlOk other ∧ ∀ h', Gr h h' → q (wordO (first one other)) h'
theorem itItems_at {h : Hd} {n : Nat} {t : Bool} {kvs : List (D × D)} (e : h[n]? = some (.dct t true kvs)) (i : Nat) : itItems n i h = some ((kvs.map fun p => D.tup [p.1, p.2])[i]?) := by
  unfold MP.itItems MP.dctOf; rw [e]; simp
theorem Gr.dctL {h h' : Hd} (g : Gr h h') {n : Nat} {t : Bool} {kvs : List (D × D)} (e : h[n]? = some (.dct t true kvs)) : h'[n]? = some (.dct t true kvs) := by
  obtain ⟨c', e', l⟩ := g.2 n _ e
  rcases l with rfl | ⟨_, _, _, q, rfl⟩
  · exact e'
  · cases q; exact e'
theorem p_difference {ds : List D} {h : Hd} {q : D → Hd → Prop} (z : s_difference ds h q) : v_difference s_require_part s_both_walked s_are_unlike (endR q) (startD K07.N_difference ds) h := by
  obtain ⟨d1, d2, one, other, rfl, hp1, hp2, k1, k2, z⟩ := z
  obtain ⟨n1, refs1, acts1, rfl, e1, hr1⟩ := id hp1
  obtain ⟨n2, refs2, acts2, rfl, e2, hr2⟩ := id hp2
  refine ⟨_, rfl, n1, _, rfl, e1, ?_⟩
  refine ⟨_, rfl, n2, _, rfl, e2, ?_⟩
  refine ⟨_, rfl, _, rfl, _, _, one, other, rfl, hp1, hp2, k1, k2, fun h1 n g1 en => ⟨n, true, false, _, rfl, en, rfl, ?_⟩⟩
  dsimp only
  have en2 := set_at (c' := .dct true true (bfsD (walk one other))) en
  have g2 : Gr h (h1.set n (.dct true true (bfsD (walk one other)))) := g1.trans (.lock en)
  generalize h1.set n (.dct true true (bfsD (walk one other))) = h2 at en2 g2
  refine it_by ((bfsD (walk one other)).map fun p => D.tup [p.1, p.2]) (fun i sl h3 => sl.length = 4 ∧ sl[0]? = some (some (.ref n1)) ∧ sl[1]? = some (some (.ref n2)) ∧ Gr h h3 ∧ h3[n]? = some (.dct true true (bfsD (walk one other))) ∧ ∀ e ∈ (walk one other).take i, diffAt one other e.1 = false)
    ⟨rfl, rfl, rfl, g2, en2, fun e he => by simp at he⟩ (fun i sl h3 _ p => itItems_at p.2.2.2.2.1 i) (fun i x sl h3 e p => ?_) (fun sl h3 p => ?_)
  · obtain ⟨l4, s0, s1, g3, en3, no⟩ := p
    unfold bfsD at e
    rw [List.map_map, List.getElem?_map] at e
    obtain ⟨⟨⟨l, r⟩, w⟩, ee, rfl⟩ := Option.map_eq_some_iff.mp e
    have bd := (walk_ok k1 k2).bd (l, r) (List.mem_map.mpr ⟨_, List.mem_of_getElem? ee, rfl⟩)
    refine ⟨_, rfl, rfl, _, _, rfl, _, _, rfl, rfl, ?_⟩
    refine ⟨_, by rw [List.getElem?_set_ne (by decide), List.getElem?_set_ne (by decide)]; exact s0, _, by rw [List.getElem?_set_ne (by decide), List.getElem?_set_ne (by decide)]; exact s1, _, by rw [List.getElem?_set_ne (by decide), List.getElem?_set_self (by omega)], ?_⟩
    refine ⟨_, _, one, other, (l, r), rfl, hp1.gr g3, hp2.gr g3, k1, k2, bd.1, bd.2, fun h4 g4 => ⟨diffAt one other (l, r), rfl, ?_⟩⟩
    by_cases hd : diffAt one other (l, r) = true
    · refine ift hd ?_
      refine ⟨_, List.getElem?_set_self (by rw [List.length_set]; omega), ?_⟩
      have : first one other = some w := by
        unfold first
        have : (walk one other).find? (fun e => diffAt one other e.1) = some ((l, r), w) := by
          rw [List.find?_eq_some_iff_getElem]
          obtain ⟨hi1, hi2⟩ := List.getElem?_eq_some_iff.mp ee
          refine ⟨hd, i, hi1, hi2, fun j hj => ?_⟩
          have hj1 : j < (walk one other).length := Nat.lt_trans hj hi1
          have hm : (walk one other)[j] ∈ (walk one other).take i := by
            rw [List.mem_take_iff_getElem]
            exact ⟨j, by rw [Nat.min_eq_left (Nat.le_of_lt hi1)]; exact hj, rfl⟩
          rw [no _ hm]; rfl
        rw [this]; rfl
      have z2 := z _ (g3.trans g4)
      rw [this] at z2
      exact z2
    · have hd' : diffAt one other (l, r) = false := by simpa using hd
      refine iff_ hd' ?_
      refine ⟨by simp [l4], by rw [List.getElem?_set_ne (by decide), List.getElem?_set_ne (by decide)]; exact s0, by rw [List.getElem?_set_ne (by decide), List.getElem?_set_ne (by decide)]; exact s1, g3.trans g4, g4.dctL en3, fun e he => ?_⟩
      rw [List.take_add_one, ee] at he
      rcases List.mem_append.mp he with q1 | q1
      · exact no e q1
      · simp only [Option.toList_some, List.mem_singleton] at q1
        rw [q1]; exact hd'
  · obtain ⟨l4, s0, s1, g3, en3, no⟩ := p
    have : first one other = none := by
      unfold first
      have : (walk one other).find? (fun e => diffAt one other e.1) = none := by
        rw [List.find?_eq_none]
        intro e he
        have hl : ((bfsD (walk one other)).map fun p => D.tup [p.1, p.2]).length = (walk one other).length := by unfold bfsD; simp
        rw [hl, List.take_length] at no
        rw [no e he]; exact Bool.false_ne_true
      rw [this]; rfl
    have z2 := z _ g3
    rw [this] at z2
    exact z2
def s_are_alike : SpD := fun ds h q => ∃ d1 d2 one other, ds = [d1, d2] ∧ IsPart h d1 one ∧ IsPart h d2 other ∧ PlOk one ∧ PlOk other ∧ ∀ h', Gr h h' → q (.bl (first one other).isNone) h'
theorem p_are_alike {ds : List D} {h : Hd} {q : D → Hd → Prop} (z : s_are_alike ds h q) : v_are_alike s_difference (endR q) (startD K07.N_are_alike ds) h := by
  obtain ⟨d1, d2, one, other, rfl, hp1, hp2, k1, k2, z⟩ := z
  refine ⟨_, rfl, _, rfl, d1, d2, one, other, rfl, hp1, hp2, k1, k2, fun h1 g1 => ?_⟩
  have e : decide (wordO (first one other) = .non) = (first one other).isNone := by
    cases first one other with
    | none => rfl
    | some w => exact decide_eq_false fun z => by cases z
  show q (.bl (decide (wordO (first one other) = .non))) h1
  rw [e]
  exact z _ g1
/-- what is due: after the word both stand, and offer unlike things -/
def due (one other : Pl) (w : List Str) : Bool := match after one w, after other w with
  | some l, some r => diffAt one other (l, r)
  | _, _ => false
def s_is_difference : SpD := fun ds h q => ∃ d1 d2 one other v, ds = [d1, d2, v] ∧ IsPart h d1 one ∧ IsPart h d2 other ∧ PlOk one ∧ PlOk other ∧
  ((okW h v ∧ wordD v = false ∧ ∀ h', Gr h h' → q (.bl false) h') ∨ ∃ w : List Str, v = .tup (w.map .str) ∧ (∀ x ∈ w, nameS x = true) ∧ w.length < sizeLine ∧ ∀ h', Gr h h' → q (.bl (due one other w)) h')
theorem after_lt {pl : Pl} (cl : Closed pl) {w : List Str} {s : Nat} (h : after pl w = some s) : s < pl.length := by
  have : ∀ (w : List Str) (so : Option Nat), (∀ s, so = some s → s < pl.length) → ∀ s, w.foldl (fun so a => so.bind fun s => step pl s a) so = some s → s < pl.length := by
    intro w
    induction w with
    | nil => intro so h s e; exact h s e
    | cons a w ih =>
      intro so h s e
      refine ih _ (fun t ht => ?_) s e
      obtain ⟨s0, _, h1⟩ := Option.bind_eq_some_iff.mp ht
      exact cl.2 _ _ _ h1
  exact this w (some 0) (fun s e => by cases e; exact cl.1) s h
theorem p_is_difference {ds : List D} {h : Hd} {q : D → Hd → Prop} (z : s_is_difference ds h q) : v_is_difference s_require_part s_is_word s_are_unlike s_Part_after (endR q) (startD K07.N_is_difference ds) h := by
  obtain ⟨d1, d2, one, other, v, rfl, hp1, hp2, k1, k2, z⟩ := z
  obtain ⟨n1, refs1, acts1, rfl, e1, hr1⟩ := id hp1
  obtain ⟨n2, refs2, acts2, rfl, e2, hr2⟩ := id hp2
  refine ⟨_, rfl, n1, _, rfl, e1, ?_⟩
  refine ⟨_, rfl, n2, _, rfl, e2, ?_⟩
  rcases z with ⟨ok, hw, z⟩ | ⟨w, rfl, hn, hl, z⟩
  · refine ⟨_, rfl, v, rfl, ok, fun h1 g1 => ⟨wordD v, rfl, ?_⟩⟩
    rw [hw]
    refine ift rfl ?_
    exact z _ g1
  · obtain ⟨w1, w2⟩ := word_ok (h := h) hn hl
    refine ⟨_, rfl, _, rfl, w1, fun h1 g1 => ⟨wordD (.tup (w.map .str)), rfl, ?_⟩⟩
    rw [w2]
    refine iff_ rfl ?_
    refine ⟨_, rfl, ⟨n1, _, rfl, g1.ins e1, rfl⟩, _, rfl, _, one, w, rfl, hp1.gr g1, k1.cl, hn, hl, fun h2 g2 => ?_⟩
    refine ⟨_, rfl, ⟨n2, _, rfl, (g1.trans g2).ins e2, rfl⟩, _, rfl, _, other, w, rfl, hp2.gr (g1.trans g2), k2.cl, hn, hl, fun h3 g3 => ?_⟩
    refine ⟨by show 2 ≤ sizeLine; decide, ?_⟩
    have g13 := (g1.trans g2).trans g3
    have zz := z _ g13
    cases ea : after one w with
    | none =>
      refine ⟨_, rfl, true, by cases after other w <;> rfl, ?_⟩
      refine ⟨_, rfl, ?_⟩
      refine iff_ rfl ?_
      unfold due at zz; rw [ea] at zz
      exact zz
    | some l =>
      cases eb : after other w with
      | none =>
        refine ⟨_, rfl, true, rfl, ?_⟩
        refine ⟨_, rfl, ?_⟩
        refine iff_ rfl ?_
        unfold due at zz; rw [ea, eb] at zz
        exact zz
      | some r =>
        refine ⟨_, rfl, false, rfl, ?_⟩
        refine ⟨_, rfl, ?_⟩
        refine ift rfl ?_
        refine ⟨_, rfl, _, rfl, _, rfl, _, _, one, other, (l, r), rfl, hp1.gr g13, hp2.gr g13, k1, k2, after_lt k1.cl ea, after_lt k2.cl eb, fun h4 g4 => ?_⟩
        have zz := z _ (g13.trans g4)
        unfold due at zz; rw [ea, eb] at zz
        exact zz
end K07S

set_option Elab.async false
set_option linter.all false
set_option maxRecDepth 100000
set_option maxHeartbeats 2000000
/-! K07D: the law's dice. -/
namespace K07S
open PySem PySem.Spec
open PyProof.Rows hiding St
open L2
open MP (D Cell Hd Sd WE WT WA WS WG WI EndsD ItD SpD endR startD itSeq items tyD truD getD putD keyOk wipeD lenD sortS ltS leS dctOf itKeys itVals)
open MV K07V
/-- the dice stand at n; at most c rolls have been made -/
def Dice (c : Nat) (h : Hd) (n : Nat) : Prop := ∃ a b e : Int, h[n]? = some (.lst [.int a, .int b, .int e]) ∧ 0 ≤ a ∧ 0 ≤ b ∧ b < 2147483399 ∧ 0 ≤ e ∧ e ≤ (c : Int)
theorem Dice.mono {c c' : Nat} {h : Hd} {n : Nat} (k : Dice c h n) (hc : c ≤ c') : Dice c' h n := by
  obtain ⟨a, b, e, h1, h2, h3, h4, h5, h6⟩ := k
  exact ⟨a, b, e, h1, h2, h3, h4, h5, by omega⟩
theorem Dice.gr {c : Nat} {h h' : Hd} {n : Nat} (k : Dice c h n) (g : Gr h h') : Dice c h' n := by
  obtain ⟨a, b, e, h1, r⟩ := k
  exact ⟨a, b, e, g.lst h1, r⟩
/-- all but the cell m grew -/
def Gx (m : Nat) (h h' : Hd) : Prop := h.length ≤ h'.length ∧ ∀ (n : Nat) (c : Cell), n ≠ m → h[n]? = some c → ∃ c', h'[n]? = some c' ∧ lkEq c c'
theorem Gx.refl {m : Nat} {h : Hd} : Gx m h h := ⟨Nat.le_refl _, fun n c _ e => ⟨c, e, .inl rfl⟩⟩
theorem Gr.x {m : Nat} {h h' : Hd} (g : Gr h h') : Gx m h h' := ⟨g.1, fun n c _ e => g.2 n c e⟩
theorem Gx.trans {m : Nat} {a b c : Hd} (x : Gx m a b) (y : Gx m b c) : Gx m a c := ⟨Nat.le_trans x.1 y.1, fun n u hn e => by
  obtain ⟨u1, e1, l1⟩ := x.2 n u hn e
  obtain ⟨u2, e2, l2⟩ := y.2 n u1 hn e1
  refine ⟨u2, e2, ?_⟩
  rcases l1 with rfl | ⟨t, k, l, rfl, rfl⟩
  · exact l2
  · rcases l2 with rfl | ⟨t2, k2, l2, e3, rfl⟩
    · exact .inr ⟨t, k, l, rfl, rfl⟩
    · cases e3; exact .inr ⟨t, k, l, rfl, rfl⟩⟩
theorem Gx.set {m : Nat} {h : Hd} (c : Cell) : Gx m h (h.set m c) := ⟨by simp, fun n u hn e => ⟨u, by rw [List.getElem?_set_ne (Ne.symm hn)]; exact e, .inl rfl⟩⟩
theorem Gx.lst {m : Nat} {h h' : Hd} (g : Gx m h h') {n : Nat} {xs : List D} (hn : n ≠ m) (e : h[n]? = some (.lst xs)) : h'[n]? = some (.lst xs) := by
  obtain ⟨c', e', l⟩ := g.2 n _ hn e
  rcases l with rfl | ⟨_, _, _, q, _⟩
  · exact e'
  · cases q
theorem Gx.dct {m : Nat} {h h' : Hd} (g : Gx m h h') {n : Nat} {t lk : Bool} {kvs : List (D × D)} (hn : n ≠ m) (e : h[n]? = some (.dct t lk kvs)) : ∃ lk', h'[n]? = some (.dct t lk' kvs) := by
  obtain ⟨c', e', l⟩ := g.2 n _ hn e
  rcases l with rfl | ⟨_, _, _, q, rfl⟩
  · exact ⟨lk, e'⟩
  · cases q; exact ⟨true, e'⟩
/-- just the cell n changed -/
def Gs (n : Nat) (h h' : Hd) : Prop := h'.length = h.length ∧ ∀ m, m ≠ n → h'[m]? = h[m]?
theorem Gs.refl {n : Nat} {h : Hd} : Gs n h h := ⟨rfl, fun _ _ => rfl⟩
theorem Gs.trans {n : Nat} {a b c : Hd} (x : Gs n a b) (y : Gs n b c) : Gs n a c := ⟨by rw [y.1, x.1], fun m hm => by rw [y.2 m hm, x.2 m hm]⟩
theorem Gs.set {n : Nat} {h : Hd} (c : Cell) : Gs n h (h.set n c) := ⟨by simp, fun m hm => by rw [List.getElem?_set_ne (Ne.symm hm)]⟩
theorem Gs.x {n : Nat} {h h' : Hd} (g : Gs n h h') : Gx n h h' := ⟨by rw [g.1]; exact Nat.le_refl _, fun m c hm e => ⟨c, by rw [g.2 m hm]; exact e, .inl rfl⟩⟩
theorem Gs.lst {n : Nat} {h h' : Hd} (g : Gs n h h') {m : Nat} {xs : List D} (hn : m ≠ n) (e : h[m]? = some (.lst xs)) : h'[m]? = some (.lst xs) := by rw [g.2 m hn]; exact e
def s__law_roll : SpD := fun ds h q => ∃ n c t, ds = [.ref n, .int (t : Nat)] ∧ Dice c h n ∧ c ≤ 1000000 ∧ 0 < t ∧ t ≤ 1000 ∧ ∀ h' (r : Nat), Gs n h h' → Dice (c + 1) h' n → r < t → q (.int r) h'
theorem natOf {a b : Int} (h0 : 0 ≤ a) (hb : 0 < b) : ∃ r : Nat, a % b = r ∧ (r : Int) < b := ⟨(a % b).toNat, by have := Int.emod_nonneg a (by omega : b ≠ 0); omega, by have := Int.emod_nonneg a (by omega : b ≠ 0); have := Int.emod_lt_of_pos a hb; omega⟩
theorem mulOk {a b : Int} (h1 : a.natAbs < 2 ^ 200) (h2 : b.natAbs < 2 ^ 200) : L2.CMulW a b := wide_mul (a := 200) (b := 200) h1 h2 (by decide) (by decide) (by decide)
theorem divOk {b : Int} (h0 : 0 < b) (h : b.natAbs < 2 ^ 200) (a : Int) : L2.CDivW a b := wide_div (b := 200) h0 h (by decide) (by decide)
theorem oSet_lst {h : Hd} {n : Nat} {xs : List D} {k : Int} {j : Nat} {v : D} {Q : Hd → Prop} (e : h[n]? = some (.lst xs)) (hj : ixN xs.length k = some j) (z : Q (h.set n (.lst (xs.set j v)))) : MV.oSet (.ref n) (.int k) v h Q := by
  show (match h[n]? with
    | some (.lst xs) => ∃ k' j, D.int k = .int k' ∧ ixN xs.length k' = some j ∧ Q (h.set n (.lst (xs.set j v)))
    | some (.dct t false kvs) => keyOk t (.int k) = true ∧ kvs.length < sizeLine ∧ Q (h.set n (.dct t false (putD kvs (.int k) v)))
    | _ => False)
  rw [e]; exact ⟨k, j, rfl, hj, z⟩
theorem p_roll {ds : List D} {h : Hd} {q : D → Hd → Prop} (z : s__law_roll ds h q) : v__law_roll (endR q) (startD K07.N__law_roll ds) h := by
  obtain ⟨n, c, t, rfl, ⟨a, b, e, e0, ha, hb0, hb1, he0, hec⟩, hc, ht, ht2, z⟩ := z
  refine ⟨_, rfl, .inl ⟨_, rfl, ?_⟩⟩
  refine ⟨_, rfl, ?_⟩
  dsimp only [MV.wC]
  refine oIx_lst (i := 0) (d := .int a) e0 rfl ?_
  refine ⟨_, rfl, ?_⟩
  by_cases h0 : 0 < a
  · refine ift (by simpa using h0) ?_
    refine ⟨_, rfl, ?_⟩
    dsimp only [MV.wC]
    refine oIx_lst (i := 0) (d := .int a) e0 rfl ?_
    refine ⟨_, rfl, by omega, ?_⟩
    refine ⟨_, rfl, ?_⟩
    dsimp only [MV.wC]
    refine oIx_lst (i := 0) (d := .int a) e0 rfl ?_
    refine ⟨_, rfl, divOk (by omega) (by omega) _, _, rfl, ?_⟩
    dsimp only [MV.wC]
    refine oSet_lst (k := 0) (j := 0) e0 rfl ?_
    refine ⟨_, rfl, .inl ⟨_, rfl, ?_⟩⟩
    obtain ⟨r, er, hr⟩ := natOf (a := a) (b := t) ha (by omega)
    rw [er]
    refine z _ r (.set _) ⟨a / t, b, e, set_at e0, Int.ediv_nonneg ha (by omega), hb0, hb1, he0, by omega⟩ (by omega)
  · refine iff_ (by simpa using h0) ?_
    have a0 : a = 0 := by omega
    subst a0
    -- dice[2] = dice[2] + 1
    refine ⟨_, rfl, ?_⟩
    dsimp only [MV.wC]
    refine oIx_lst (i := 2) (d := .int e) e0 rfl ?_
    refine ⟨_, rfl, ?_⟩
    dsimp only [MV.wC]
    refine oSet_lst (k := 2) (j := 2) e0 rfl ?_
    have e1 := set_at (c' := .lst ([D.int 0, .int b, .int e].set 2 (.int (e + 1)))) e0
    have g1 : Gs n h (h.set n (.lst ([D.int 0, .int b, .int e].set 2 (.int (e + 1))))) := .set _
    generalize h.set n (.lst ([D.int 0, .int b, .int e].set 2 (.int (e + 1)))) = h1 at e1 g1
    have e1 : h1[n]? = some (.lst [.int 0, .int b, .int (e + 1)]) := e1
    -- one
    refine ⟨_, rfl, ?_⟩
    dsimp only [MV.wC]
    refine oIx_lst (i := 1) (d := .int b) e1 rfl ?_
    refine ⟨_, rfl, ?_⟩
    dsimp only [MV.wC]
    refine oIx_lst (i := 2) (d := .int (e + 1)) e1 rfl ?_
    refine ⟨mulOk (by decide) (by omega), ?_⟩
    refine ⟨show (0 : Int) < 2305843009213693951 by decide, ?_⟩
    dsimp only
    obtain ⟨x, ex, hx⟩ := natOf (a := b + 1000081 * (e + 1)) (b := 2305843009213693951) (by omega) (by decide)
    rw [ex]
    -- two
    refine ⟨_, rfl, _, rfl, mulOk (by omega) (by omega), ?_⟩
    refine ⟨show (0 : Int) < 2305843009213693921 by decide, ?_⟩
    dsimp only
    obtain ⟨y, ey, hy⟩ := natOf (a := (x : Int) * x) (b := 2305843009213693921) (Int.mul_nonneg (by omega) (by omega)) (by decide)
    rw [ey]
    refine ⟨_, rfl, mulOk (by omega) (by omega), ?_⟩
    refine ⟨_, rfl, ?_⟩
    dsimp only [MV.wC]
    refine oIx_lst (i := 2) (d := .int (e + 1)) e1 rfl ?_
    refine ⟨mulOk (by decide) (by omega), ?_⟩
    have hyx : 0 ≤ (y : Int) * x := Int.mul_nonneg (by omega) (by omega)
    refine ⟨_, rfl, show (0 : Int) < 2305843009213693907 by decide, ?_⟩
    dsimp only
    obtain ⟨u, eu, hu⟩ := natOf (a := (y : Int) * x + 8171 * (e + 1)) (b := 2305843009213693907) (by omega) (by decide)
    rw [eu]
    refine ⟨_, rfl, divOk (by decide) (by decide) _, ?_⟩
    refine ⟨_, rfl, ?_⟩
    refine ⟨by omega, .inl ⟨_, rfl, ?_⟩⟩
    obtain ⟨r, er, hr⟩ := natOf (a := (u : Int) / 4096) (b := t) (Int.ediv_nonneg (by omega) (by decide)) (by omega)
    rw [er]
    exact z _ r g1 ⟨0, b, e + 1, e1, by decide, hb0, hb1, by omega, by omega⟩ (by omega)
end K07S

set_option Elab.async false
set_option linter.all false
set_option maxRecDepth 100000
set_option maxHeartbeats 2000000
/-! K07E: the law's plain parts: offers, words, due. -/
namespace K07S
open PySem PySem.Spec
open PyProof.Rows hiding St
open L2
open MP (D Cell Hd Sd WE WT WA WS WG WI EndsD ItD SpD endR startD itSeq items tyD truD getD putD keyOk wipeD lenD sortS ltS leS dctOf itKeys itVals PyR PyRs)
open MV K07V
def PlIts (h : Hd) (xs : List D) (pl : Pl) : Prop := xs.length = pl.length ∧ ∀ (i : Nat) p, pl[i]? = some p → ∃ m lk0, xs[i]? = some (.tup [.ref m, .bl p.2]) ∧ h[m]? = some (.dct false lk0 (rowK p.1))
def IsPlain (h : Hd) (d : D) (pl : Pl) : Prop := ∃ n xs, d = .ref n ∧ h[n]? = some (.lst xs) ∧ PlIts h xs pl
theorem PlIts.gr {h h' : Hd} {xs : List D} {pl : Pl} (k : PlIts h xs pl) (g : Gr h h') : PlIts h' xs pl := ⟨k.1, fun i p e => by
  obtain ⟨m, lk0, e1, e2⟩ := k.2 i p e
  obtain ⟨lk1, e3⟩ := g.dct e2
  exact ⟨m, lk1, e1, e3⟩⟩
theorem IsPlain.gr {h h' : Hd} {d : D} {pl : Pl} (k : IsPlain h d pl) (g : Gr h h') : IsPlain h' d pl := by
  obtain ⟨n, xs, rfl, e, r⟩ := k
  exact ⟨n, xs, rfl, g.lst e, r.gr g⟩
theorem PlIts.gx {c n : Nat} {h h' : Hd} {xs : List D} {pl : Pl} (k : PlIts h xs pl) (dc : Dice c h n) (g : Gx n h h') : PlIts h' xs pl := ⟨k.1, fun i p e => by
  obtain ⟨m, lk0, e1, e2⟩ := k.2 i p e
  obtain ⟨a, b, e0, hd, _⟩ := dc
  have hm : m ≠ n := fun z => by rw [z, hd] at e2; cases e2
  obtain ⟨lk1, e3⟩ := g.dct hm e2
  exact ⟨m, lk1, e1, e3⟩⟩
theorem PlIts.one {h : Hd} {xs : List D} {pl : Pl} (k : PlIts h xs pl) {s : Nat} (hs : s < pl.length) : ∃ p m lk0, pl[s]? = some p ∧ xs[s]? = some (.tup [.ref m, .bl p.2]) ∧ h[m]? = some (.dct false lk0 (rowK p.1)) := by
  have e : pl[s]? = some pl[s] := List.getElem?_eq_getElem hs
  obtain ⟨m, lk0, e1, e2⟩ := k.2 s _ e
  exact ⟨_, m, lk0, e, e1, e2⟩
theorem getD_step' {pl : Pl} {s : Nat} {p : Row × Bool} (e : pl[s]? = some p) (a : Str) : getD (rowK p.1) (.str a) = (step pl s a).map fun (n : Nat) => D.int (n : Int) := by
  rw [getD_rowK]; unfold step; rw [e]; rfl
def s__law_offer : SpD := fun ds h q => ∃ dp pl s, ds = [dp, .int (s : Nat)] ∧ IsPlain h dp pl ∧ s < pl.length ∧ (∀ p ∈ pl, RowOk p.1) ∧ ∀ h', Gr h h' → q (offD pl s) h'
theorem p_offer {ds : List D} {h : Hd} {q : D → Hd → Prop} (z : s__law_offer ds h q) : v__law_offer (endR q) (startD K07.N__law_offer ds) h := by
  obtain ⟨dp, pl, s, rfl, ⟨n, xs, rfl, e, k⟩, hs, ok, z⟩ := z
  obtain ⟨p, m, lk0, ep, e1, e2⟩ := k.one hs
  have hk : (keysR p.1).length ≤ 7 := by unfold keysR; rw [List.length_map]; exact (ok p (List.mem_of_getElem? ep)).sm
  refine ⟨_, rfl, _, rfl, ?_⟩
  dsimp only [MV.wC]
  refine oIx_lst e (atI_natI e1) ?_
  refine oIx_tup (i := 0) (d := .ref m) rfl ?_
  refine ⟨m, keysR p.1, rfl, .inr ⟨lk0, _, e2, rowK_keys _⟩, by omega, ?_⟩
  refine ⟨_, items_last, ?_⟩
  have g1 : Gr h (h ++ [Cell.lst ((sortS (keysR p.1)).map D.str)]) := .app _
  refine ⟨_, rfl, _, rfl, ?_⟩
  dsimp only [MV.wC]
  refine oIx_lst (g1.lst e) (atI_natI e1) ?_
  refine oIx_tup (i := 1) (d := .bl p.2) rfl ?_
  refine ⟨by show 2 ≤ sizeLine; decide, ?_⟩
  have : D.tup [.tup ((sortS (keysR p.1)).map D.str), .bl p.2] = offD pl s := by
    unfold offD offK restS; rw [ep]; rfl
  show q (D.tup [.tup ((sortS (keysR p.1)).map D.str), .bl p.2]) _
  rw [this]
  exact z _ g1
def s__law_after : SpD := fun ds h q => ∃ dp pl w, ds = [dp, .tup (w.map .str)] ∧ IsPlain h dp pl ∧ Closed pl ∧ q (optD (after pl w)) h
theorem after_take {pl : Pl} {w : List Str} {i : Nat} {a : Str} (e : w[i]? = some a) : after pl (w.take (i + 1)) = (after pl (w.take i)).bind fun s => step pl s a := by
  rw [List.take_add_one, e]
  simp only [after, Option.toList_some, List.foldl_append, List.foldl_cons, List.foldl_nil]
theorem p_after {ds : List D} {h : Hd} {q : D → Hd → Prop} (z : s__law_after ds h q) : v__law_after (endR q) (startD K07.N__law_after ds) h := by
  obtain ⟨dp, pl, w, rfl, ⟨n, xs, rfl, e, k⟩, cl, z⟩ := z
  refine ⟨_, rfl, _, rfl, ?_⟩
  dsimp only
  refine it_by (w.map .str) (fun i sl h' => h' = h ∧ sl.length = 4 ∧ sl[0]? = some (some (.ref n)) ∧ sl[2]? = some (some (optD (after pl (w.take i))))) ⟨rfl, rfl, rfl, rfl⟩ (fun i sl h' _ _ => rfl) (fun i x sl h' ee p => ?_) (fun sl h' p => ?_)
  · obtain ⟨rfl, l4, p0, p2⟩ := p
    rw [List.getElem?_map] at ee
    obtain ⟨a, ea, rfl⟩ := Option.map_eq_some_iff.mp ee
    have t0 : (sl.set 3 (some (D.str a)))[0]? = some (some (.ref n)) := by rw [List.getElem?_set_ne (by decide)]; exact p0
    have t2 : (sl.set 3 (some (D.str a)))[2]? = some (some (optD (after pl (w.take i)))) := by rw [List.getElem?_set_ne (by decide)]; exact p2
    have t3 : (sl.set 3 (some (D.str a)))[3]? = some (some (.str a)) := List.getElem?_set_self (by omega)
    show MV.wIfS _ _ _ _ (sl.set 3 (some (D.str a))) h'
    have l4' : (sl.set 3 (some (D.str a))).length = 4 := by rw [List.length_set]; exact l4
    generalize sl.set 3 (some (D.str a)) = sl1 at t0 t2 t3 l4' ⊢
    refine ⟨_, t2, _, rfl, ?_⟩
    cases es : after pl (w.take i) with
    | none =>
      refine iff_ rfl ?_
      refine ⟨rfl, l4', t0, ?_⟩
      rw [t2, after_take ea, es]; rfl
    | some s =>
      refine ift rfl ?_
      rw [es] at t2
      have hs := after_lt cl es
      obtain ⟨p, m, lk0, ep, e1, e2⟩ := k.one hs
      refine ⟨_, t0, _, t2, ?_⟩
      dsimp only [MV.wC]
      refine oIx_lst e (atI_natI e1) ?_
      refine oIx_tup (i := 0) (d := .ref m) rfl ?_
      refine ⟨⟨m, false, lk0, _, rfl, e2⟩, _, t3, m, _, rfl, ⟨false, lk0, e2, rfl⟩, ?_⟩
      rw [getD_step' ep]
      refine ⟨rfl, by rw [List.length_set]; exact l4', by rw [List.getElem?_set_ne (by decide)]; exact t0, ?_⟩
      rw [List.getElem?_set_self (by omega), after_take ea, es]
      show some (some ((Option.map (fun (n : Nat) => D.int n) (step pl s a)).getD .non)) = _
      simp only [Option.bind_some]
      cases step pl s a <;> rfl
  · obtain ⟨rfl, l4, p0, p2⟩ := p
    rw [List.length_map, List.take_length] at p2
    exact ⟨_, p2, z⟩
def s__law_due : SpD := fun ds h q => ∃ d1 d2 one other w, ds = [d1, d2, .tup (w.map .str)] ∧ IsPlain h d1 one ∧ IsPlain h d2 other ∧ PlOk one ∧ PlOk other ∧ ∀ h', Gr h h' → q (.bl (due one other w)) h'
theorem p_due {ds : List D} {h : Hd} {q : D → Hd → Prop} (z : s__law_due ds h q) : v__law_due s__law_after s__law_offer (endR q) (startD K07.N__law_due ds) h := by
  obtain ⟨d1, d2, one, other, w, rfl, p1, p2, k1, k2, z⟩ := z
  refine ⟨_, rfl, _, rfl, d1, one, w, rfl, p1, k1.cl, ?_⟩
  refine ⟨_, rfl, _, rfl, d2, other, w, rfl, p2, k2.cl, ?_⟩
  refine ⟨_, _, rfl, ?_⟩
  cases ea : after one w with
  | none =>
    refine ⟨_, rfl, true, rfl, ?_⟩
    refine ift rfl ?_
    refine ift rfl ?_
    have zz := z h .refl
    unfold due at zz; rw [ea] at zz
    exact zz
  | some l =>
    cases eb : after other w with
    | none =>
      refine ⟨_, rfl, false, rfl, ?_⟩
      refine iff_ rfl ?_
      refine ⟨_, rfl, true, rfl, ?_⟩
      refine ift rfl ?_
      have zz := z h .refl
      unfold due at zz; rw [ea, eb] at zz
      exact zz
    | some r =>
      refine ⟨_, rfl, false, rfl, ?_⟩
      refine iff_ rfl ?_
      refine ⟨_, rfl, false, rfl, ?_⟩
      refine iff_ rfl ?_
      refine ⟨_, rfl, _, rfl, d1, one, l, rfl, p1, after_lt k1.cl ea, k1.sm, fun h1 g1 => ?_⟩
      refine ⟨_, rfl, _, rfl, d2, other, r, rfl, p2.gr g1, after_lt k2.cl eb, k2.sm, fun h2 g2 => ?_⟩
      show ∃ d e, PyR h2 (offD one l) d ∧ PyR h2 (offD other r) e ∧ SeqAt.shaped d = true ∧ SeqAt.shaped e = true ∧ q (.bl (!PyData.eqv d e)) h2
      refine ⟨_, _, off_pyR h2 one l, off_pyR h2 other r, off_shaped k1 l, off_shaped k2 r, ?_⟩
      rw [off_eqv]
      have zz := z _ (g1.trans g2)
      unfold due at zz; rw [ea, eb] at zz
      exact zz
end K07S

set_option Elab.async false
set_option linter.all false
set_option maxRecDepth 100000
set_option maxHeartbeats 2000000
/-! K07F: the law's own walk through two plain parts. -/
namespace K07S
open PySem PySem.Spec
open PyProof.Rows hiding St
open L2
open MP (D Cell Hd Sd WE WT WA WS WG WI EndsD ItD SpD endR startD itSeq items tyD truD getD putD keyOk wipeD lenD sortS ltS leS dctOf itKeys itVals PyR PyRs)
open MV K07V
def foundD (ws : St2) : List D := ws.map fun e => .tup [pairD e.1, wD e.2]
def knownD (ws : St2) : List (D × D) := ws.map fun e => (pairD e.1, .bl true)
theorem getD_known (p : Nat × Nat) (ws : St2) : (getD (knownD ws) (pairD p)).isSome = decide (p ∈ keys2 ws) := by
  unfold MP.getD
  rw [Option.isSome_map, Bool.eq_iff_iff, List.find?_isSome, decide_eq_true_eq]
  unfold knownD keys2
  constructor
  · rintro ⟨x, hx, e⟩
    obtain ⟨y, hy, rfl⟩ := List.mem_map.mp hx
    exact List.mem_map.mpr ⟨y, hy, pairD_inj (of_decide_eq_true e)⟩
  · intro h
    obtain ⟨y, hy, rfl⟩ := List.mem_map.mp h
    exact ⟨_, List.mem_map.mpr ⟨y, hy, rfl⟩, decide_eq_true rfl⟩
theorem putD_known {ws : St2} {p : Nat × Nat} {w : List Str} (h : p ∉ keys2 ws) : putD (knownD ws) (pairD p) (.bl true) = knownD (ws ++ [(p, w)]) := by
  rw [putD_new]
  · unfold knownD; simp
  · intro x hx e
    obtain ⟨y, hy, rfl⟩ := List.mem_map.mp hx
    exact h (List.mem_map.mpr ⟨y, hy, pairD_inj e⟩)
def s__law_both : SpD := fun ds h q => ∃ d1 d2 one other, ds = [d1, d2] ∧ IsPlain h d1 one ∧ IsPlain h d2 other ∧ PlOk one ∧ PlOk other ∧ ∀ h' n, Gr h h' → h'[n]? = some (.lst (foundD (walk one other))) → q (.ref n) h'
structure LB (h0 : Hd) (d1 d2 : D) (one other : Pl) (ws : St2) (at_ : Nat) (sl : Sd) (h : Hd) : Prop where
  len : sl.length = 11
  s0 : sl[0]? = some (some d1)
  s1 : sl[1]? = some (some d2)
  s2 : sl[2]? = some (some (.ref h0.length))
  s3 : sl[3]? = some (some (.ref (h0.length + 1)))
  s4 : sl[4]? = some (some (.int (at_ : Nat)))
  gr : Gr h0 h
  hl : h0.length + 2 ≤ h.length
  ls : h[h0.length]? = some (.lst (foundD ws))
  dc : h[h0.length + 1]? = some (.dct true false (knownD ws))
  ok : Ok2 one other ws
theorem LB.app {h0 : Hd} {d1 d2 : D} {one other : Pl} {ws : St2} {at_ : Nat} {sl : Sd} {h : Hd} (b : LB h0 d1 d2 one other ws at_ sl h) (c : List Cell) : LB h0 d1 d2 one other ws at_ sl (h ++ c) :=
  { b with gr := b.gr.trans (.app _), hl := by have := b.hl; simp; omega, dc := by rw [List.getElem?_append_left (List.getElem?_eq_some_iff.mp b.dc).1]; exact b.dc, ls := by rw [List.getElem?_append_left (List.getElem?_eq_some_iff.mp b.ls).1]; exact b.ls }
theorem LB.slot {h0 : Hd} {d1 d2 : D} {one other : Pl} {ws : St2} {at_ : Nat} {sl : Sd} {h : Hd} (b : LB h0 d1 d2 one other ws at_ sl h) (i : Nat) (d : Option D) (hi : 5 ≤ i) : LB h0 d1 d2 one other ws at_ (sl.set i d) h :=
  { b with len := by rw [List.length_set]; exact b.len, s0 := by rw [List.getElem?_set_ne (by omega)]; exact b.s0, s1 := by rw [List.getElem?_set_ne (by omega)]; exact b.s1, s2 := by rw [List.getElem?_set_ne (by omega)]; exact b.s2, s3 := by rw [List.getElem?_set_ne (by omega)]; exact b.s3, s4 := by rw [List.getElem?_set_ne (by omega)]; exact b.s4 }
theorem p_both {ds : List D} {h : Hd} {q : D → Hd → Prop} (z : s__law_both ds h q) : v__law_both (endR q) (startD K07.N__law_both ds) h := by
  obtain ⟨d1, d2, one, other, rfl, ⟨n1, xs1, rfl, e1, hr1⟩, ⟨n2, xs2, rfl, e2, hr2⟩, k1, k2, z⟩ := z
  have cap64 : one.length * other.length ≤ 64 := Nat.mul_le_mul k1.le k2.le
  refine ⟨by show 2 ≤ sizeLine; decide, by show 0 ≤ sizeLine; decide, by show 2 ≤ sizeLine; decide, by show 1 ≤ sizeLine; decide, by show 2 ≤ sizeLine; decide, rfl, _, _, _, rfl, ?_⟩
  dsimp only
  have b0 : LB h (.ref n1) (.ref n2) one other [((0, 0), [])] 0 ((((startD K07.N__law_both [.ref n1, .ref n2]).set 2 (some (.ref h.length))).set 3 (some (.ref (h ++ [Cell.lst [D.tup [.tup [.int 0, .int 0], .tup []]]]).length))).set 4 (some (.int 0)))
      (h ++ [Cell.lst [D.tup [.tup [.int 0, .int 0], .tup []]]] ++ [.dct true false [(.tup [.int 0, .int 0], .bl true)]]) := by
    refine ⟨rfl, rfl, rfl, rfl, by rw [List.length_append, List.length_singleton]; rfl, rfl, (Gr.app _).trans (.app _), by simp, ?_, ?_, ⟨by simp [keys2], fun p hp => ?_, fun e he => ?_⟩⟩
    · rw [List.append_assoc, List.getElem?_append_right (Nat.le_refl _)]; simp [foundD, pairD, wD]
    · rw [List.append_assoc, List.getElem?_append_right (Nat.le_succ _)]; simp [knownD, pairD]
    · simp [keys2] at hp
      rw [hp]; exact ⟨k1.cl.1, k2.cl.1⟩
    · rw [List.mem_singleton] at he; rw [he]; exact Nat.zero_lt_one
  generalize ((((startD K07.N__law_both [.ref n1, .ref n2]).set 2 (some (.ref h.length))).set 3 (some (.ref (h ++ [Cell.lst [D.tup [.tup [.int 0, .int 0], .tup []]]]).length))).set 4 (some (.int 0))) = sl0 at b0 ⊢
  generalize (h ++ [Cell.lst [D.tup [.tup [.int 0, .int 0], .tup []]]] ++ [.dct true false [(.tup [.int 0, .int 0], .bl true)]]) = hi0 at b0 ⊢
  refine ⟨fun m sl h' => ∃ ws at_, LB h (.ref n1) (.ref n2) one other ws at_ sl h' ∧ m = one.length * other.length - at_ ∧ bfs one other m ws at_ = walk one other, ⟨_, [((0, 0), [])], 0, b0, rfl, rfl⟩, ?_⟩
  rintro m sl h1 ⟨ws, at_, b, rfl, hw⟩
  refine ⟨_, b.s4, _, b.s2, _, ws.length, rfl, ?_, ?_⟩
  · simp only [lenD, b.ls, foundD, List.length_map]
  refine ⟨_, rfl, ?_⟩
  have hws := b.ok.len
  by_cases hat : at_ < ws.length
  · refine ift (by simpa using hat) ?_
    obtain ⟨k, hk⟩ : ∃ k, one.length * other.length - at_ = k + 1 := ⟨one.length * other.length - at_ - 1, by omega⟩
    have hk2 : one.length * other.length - (at_ + 1) = k := by omega
    rw [hk] at hw
    unfold bfs at hw
    rw [if_pos hat] at hw
    refine ⟨fun sl' h' => ∃ ws', LB h (.ref n1) (.ref n2) one other ws' (at_ + 1) sl' h' ∧ bfs one other k ws' (at_ + 1) = walk one other, fun sl' h' ⟨ws', b', e'⟩ => ⟨k, by omega, ws', at_ + 1, b', hk2.symm, by rw [← hk2] at e' ⊢; exact e'⟩, ?_⟩
    obtain ⟨⟨⟨l, r⟩, w⟩, ew⟩ : ∃ e, ws[at_]? = some e := ⟨ws[at_], List.getElem?_eq_getElem hat⟩
    have ek : (foundD ws)[at_]? = some (.tup [pairD (l, r), wD w]) := by unfold foundD; rw [List.getElem?_map, ew]; rfl
    refine ⟨_, b.s2, _, b.s4, ?_⟩
    dsimp only
    refine oIx_lst b.ls (atI_natI ek) ?_
    refine ⟨_, rfl, rfl, _, _, rfl, _, _, rfl, rfl, ?_⟩
    have bd := b.ok.bd (l, r) (List.mem_map.mpr ⟨_, List.mem_of_getElem? ew, rfl⟩)
    have b1 := (b.slot 6 (some (pairD (l, r))) (by decide)).slot 7 (some (wD w)) (by decide)
    have l9 := b.len
    have t6 : ((sl.set 6 (some (pairD (l, r)))).set 7 (some (wD w)))[6]? = some (some (pairD (l, r))) := by rw [List.getElem?_set_ne (by decide), List.getElem?_set_self (by omega)]
    have t7 : ((sl.set 6 (some (pairD (l, r)))).set 7 (some (wD w)))[7]? = some (some (wD w)) := List.getElem?_set_self (by rw [List.length_set]; omega)
    show MV.wSeq _ _ _ ((sl.set 6 (some (pairD (l, r)))).set 7 (some (wD w))) h1
    generalize (sl.set 6 (some (pairD (l, r)))).set 7 (some (wD w)) = sl1 at b1 t6 t7 ⊢
    obtain ⟨p1, m1, lk1, f1, f2, f3⟩ := (hr1.gr b.gr).one bd.1
    obtain ⟨p2, m2, lk2, g1, g2, g3⟩ := (hr2.gr b.gr).one bd.2
    -- left, right = ..
    refine ⟨_, b1.s0, _, t6, ?_⟩
    dsimp only [MV.wC]
    refine oIx_tup (i := 0) (d := .int (l : Nat)) rfl ?_
    refine oIx_lst (b.gr.lst e1) (atI_natI f2) ?_
    refine oIx_tup (i := 0) (d := .ref m1) rfl ?_
    refine ⟨_, b1.s1, _, t6, ?_⟩
    dsimp only [MV.wC]
    refine oIx_tup (i := 1) (d := .int (r : Nat)) rfl ?_
    refine oIx_lst (b.gr.lst e2) (atI_natI g2) ?_
    refine oIx_tup (i := 0) (d := .ref m2) rfl ?_
    refine ⟨_, _, rfl, ?_⟩
    have l11 := b1.len
    have b2 := (b1.slot 8 (some (.ref m1)) (by decide)).slot 9 (some (.ref m2)) (by decide)
    have u7 : ((sl1.set 8 (some (D.ref m1))).set 9 (some (.ref m2)))[7]? = some (some (wD w)) := by rw [List.getElem?_set_ne (by decide), List.getElem?_set_ne (by decide)]; exact t7
    have u8 : ((sl1.set 8 (some (D.ref m1))).set 9 (some (.ref m2)))[8]? = some (some (.ref m1)) := by rw [List.getElem?_set_ne (by decide), List.getElem?_set_self (by omega)]
    have u9 : ((sl1.set 8 (some (D.ref m1))).set 9 (some (.ref m2)))[9]? = some (some (.ref m2)) := List.getElem?_set_self (by rw [List.length_set]; omega)
    show MV.wSeq _ _ _ ((sl1.set 8 (some (D.ref m1))).set 9 (some (.ref m2))) h1
    generalize (sl1.set 8 (some (D.ref m1))).set 9 (some (.ref m2)) = sl2 at b2 u7 u8 u9 ⊢
    -- at = at + 1
    refine ⟨_, b2.s4, ?_⟩
    dsimp only [MV.wC]
    have b3 : LB h (.ref n1) (.ref n2) one other ws (at_ + 1) (sl2.set 4 (some (.int ((at_ : Nat) + 1)))) h1 :=
      ⟨by rw [List.length_set]; exact b2.len, by rw [List.getElem?_set_ne (by decide)]; exact b2.s0, by rw [List.getElem?_set_ne (by decide)]; exact b2.s1, by rw [List.getElem?_set_ne (by decide)]; exact b2.s2, by rw [List.getElem?_set_ne (by decide)]; exact b2.s3,
        by rw [List.getElem?_set_self (by rw [b2.len]; decide)]; simp, b2.gr, b2.hl, b2.ls, b2.dc, b2.ok⟩
    have v7 : (sl2.set 4 (some (D.int ((at_ : Nat) + 1))))[7]? = some (some (wD w)) := by rw [List.getElem?_set_ne (by decide)]; exact u7
    have v8 : (sl2.set 4 (some (D.int ((at_ : Nat) + 1))))[8]? = some (some (.ref m1)) := by rw [List.getElem?_set_ne (by decide)]; exact u8
    have v9 : (sl2.set 4 (some (D.int ((at_ : Nat) + 1))))[9]? = some (some (.ref m2)) := by rw [List.getElem?_set_ne (by decide)]; exact u9
    have aux : ∀ (g : WS) (E : EndsD), g E (sl2.set 4 (some (D.int ((at_ : Nat) + 1)))) h1 → oAdd (D.int (at_ : Nat)) (D.int 1) h1 (fun d h1 => MV.wNm 4 d sl2 h1 (g E)) := fun g E hh => hh
    refine aux _ _ ?_
    generalize sl2.set 4 (some (D.int ((at_ : Nat) + 1))) = sl3 at b3 v7 v8 v9 ⊢
    -- for name in sorted(left)
    have eo : sortS (keysR p1.1) = offK one l := by unfold offK; rw [f1]; rfl
    have ok7 := offK_len k1 l
    refine ⟨_, v8, m1, keysR p1.1, rfl, .inr ⟨lk1, _, f3, rowK_keys _⟩, ?_, ?_⟩
    · have : (sortS (keysR p1.1)).length = (keysR p1.1).length := MP.sortS_length _
      rw [eo] at this; omega
    rw [eo]
    refine ⟨_, (offK one l).map .str, rfl, items_last, ?_⟩
    have b4 := b3.app [Cell.lst ((offK one l).map .str)]
    have it2 : items (h1 ++ [Cell.lst ((offK one l).map .str)]) h1.length = some ((offK one l).map .str) := items_last
    have ns2 : h.length + 2 ≤ h1.length := b.hl
    generalize h1.length = ns at it2 ns2 ⊢
    have gA : Gr h1 (h1 ++ [Cell.lst ((offK one l).map .str)]) := .app _
    generalize h1 ++ [Cell.lst ((offK one l).map .str)] = h2 at b4 it2 gA ⊢
    dsimp only
    refine it_by ((offK one l).map .str) (fun j sl' h' => ∃ ws', LB h (.ref n1) (.ref n2) one other ws' (at_ + 1) sl' h' ∧ ws' = ((offK one l).take j).foldl (act1 one other l r w) ws ∧ sl'[7]? = some (some (wD w)) ∧ sl'[8]? = some (some (.ref m1)) ∧ sl'[9]? = some (some (.ref m2)) ∧ items h' ns = some ((offK one l).map .str) ∧ (∃ lk1', h'[m1]? = some (.dct false lk1' (rowK p1.1))) ∧ ∃ lk2', h'[m2]? = some (.dct false lk2' (rowK p2.1)))
      ⟨ws, b4, rfl, v7, v8, v9, it2, gA.dct f3, gA.dct g3⟩ (fun j sl' h' _ p => by obtain ⟨_, _, _, _, _, _, it, _⟩ := p; unfold MP.itLst; rw [it]; rfl) (fun j x sl' h' e p => ?_) (fun sl' h' p => ?_)
    · obtain ⟨ws', b', ews, t7', t8', t9', it', ⟨lk1', f3'⟩, ⟨lk2', g3'⟩⟩ := p
      rw [List.getElem?_map] at e
      obtain ⟨a, ea, rfl⟩ := Option.map_eq_some_iff.mp e
      have wl0 := b.ok.wl _ (List.mem_of_getElem? ew)
      have pre : ws <+: ws' := by rw [ews]; exact (fold_ok k1.cl k2.cl _ b.ok wl0).2
      have ew' : ws'[at_]? = some ((l, r), w) := MP.pre_get pre ew
      have wl1 : w.length < ws'.length := b'.ok.wl _ (List.mem_of_getElem? ew')
      obtain ⟨x1, ex1⟩ := step_off (List.mem_of_getElem? ea)
      have nxt : ((offK one l).take (j + 1)).foldl (act1 one other l r w) ws = act1 one other l r w ws' a := by
        rw [List.take_add_one, ea]; simp [List.foldl_append, ews]
      have b5 := b'.slot 5 (some (.str a)) (by decide)
      have l11' := b'.len
      have x5 : (sl'.set 5 (some (D.str a)))[5]? = some (some (.str a)) := List.getElem?_set_self (by omega)
      have x7 : (sl'.set 5 (some (D.str a)))[7]? = some (some (wD w)) := by rw [List.getElem?_set_ne (by decide)]; exact t7'
      have x8 : (sl'.set 5 (some (D.str a)))[8]? = some (some (.ref m1)) := by rw [List.getElem?_set_ne (by decide)]; exact t8'
      have x9 : (sl'.set 5 (some (D.str a)))[9]? = some (some (.ref m2)) := by rw [List.getElem?_set_ne (by decide)]; exact t9'
      show MV.wIfS _ _ _ _ (sl'.set 5 (some (D.str a))) h'
      generalize sl'.set 5 (some (D.str a)) = sl5 at b5 x5 x7 x8 x9 ⊢
      refine ⟨_, x5, _, x9, (step other r a).isSome, ?_, _, rfl, ?_⟩
      · unfold MP.inDat
        simp only [g3']
        rw [if_pos (show keyOk false (D.str a) = true from rfl), getD_step' g1]
        cases step other r a <;> rfl
      cases ey : step other r a with
      | none =>
        refine iff_ rfl ?_
        refine ⟨ws', b5, ?_, x7, x8, x9, it', ⟨lk1', f3'⟩, ⟨lk2', g3'⟩⟩
        rw [nxt]; unfold act1; rw [ex1, ey]
      | some y1 =>
        refine ift rfl ?_
        refine ⟨_, x8, _, x5, ?_⟩
        dsimp only
        refine oIx_dct f3' rfl (d := .int (x1 : Nat)) (by rw [getD_step' f1, ex1]; rfl) ?_
        refine ⟨_, x9, _, x5, ?_⟩
        dsimp only
        refine oIx_dct g3' rfl (d := .int (y1 : Nat)) (by rw [getD_step' g1, ey]; rfl) ⟨by show 2 ≤ sizeLine; decide, ?_⟩
        have b6 := b5.slot 10 (some (pairD (x1, y1))) (by decide)
        have y5 : (sl5.set 10 (some (pairD (x1, y1))))[5]? = some (some (.str a)) := by rw [List.getElem?_set_ne (by decide)]; exact x5
        have y7 : (sl5.set 10 (some (pairD (x1, y1))))[7]? = some (some (wD w)) := by rw [List.getElem?_set_ne (by decide)]; exact x7
        have y8 : (sl5.set 10 (some (pairD (x1, y1))))[8]? = some (some (.ref m1)) := by rw [List.getElem?_set_ne (by decide)]; exact x8
        have y9 : (sl5.set 10 (some (pairD (x1, y1))))[9]? = some (some (.ref m2)) := by rw [List.getElem?_set_ne (by decide)]; exact x9
        have y10 : (sl5.set 10 (some (pairD (x1, y1))))[10]? = some (some (pairD (x1, y1))) := List.getElem?_set_self (by rw [b5.len]; decide)
        show MV.wIfS _ _ _ _ (sl5.set 10 (some (pairD (x1, y1)))) h'
        generalize sl5.set 10 (some (pairD (x1, y1))) = sl6 at b6 y5 y7 y8 y9 y10 ⊢
        refine ⟨_, y10, _, b6.s3, decide ((x1, y1) ∈ keys2 ws'), ?_, _, rfl, ?_⟩
        · unfold MP.inDat
          simp only [b'.dc]
          rw [if_pos (show keyOk true (pairD (x1, y1)) = true from rfl), getD_known]
        by_cases hin : (x1, y1) ∈ keys2 ws'
        · refine iff_ (by simp [hin]) ?_
          refine ⟨ws', b6, ?_, y7, y8, y9, it', ⟨lk1', f3'⟩, ⟨lk2', g3'⟩⟩
          rw [nxt]; unfold act1; rw [ex1, ey]; simp only [hin, if_true]
        · refine ift (by simp [hin]) ?_
          have nxt2 : ((offK one l).take (j + 1)).foldl (act1 one other l r w) ws = ws' ++ [((x1, y1), w ++ [a])] := by
            rw [nxt]; unfold act1; rw [ex1, ey]; simp only [hin, if_false]
          have ok2 := b'.ok.act (l := l) (r := r) (w := w) (a := a) wl1 k1.cl k2.cl
          have e3 : act1 one other l r w ws' a = ws' ++ [((x1, y1), w ++ [a])] := by rw [← nxt, nxt2]
          rw [e3] at ok2
          have len3 : ws'.length ≤ 64 := by have := b'.ok.len; omega
          refine ⟨_, b6.s3, _, y10, ?_⟩
          dsimp only [MV.wC]
          refine oSet_dct b'.dc rfl (by unfold knownD; rw [List.length_map]; exact size_small (by omega)) ?_
          rw [putD_known (w := w ++ [a]) hin]
          have nel : h.length + 1 ≠ h.length := by omega
          have ls2 : (h'.set (h.length + 1) (.dct true false (knownD (ws' ++ [((x1, y1), w ++ [a])]))))[h.length]? = some (.lst (foundD ws')) := by rw [List.getElem?_set_ne nel]; exact b'.ls
          refine ⟨_, b6.s2, ⟨_, _, rfl, ls2⟩, _, y10, _, y7, _, y5, by show 1 ≤ sizeLine; decide, ?_⟩
          refine ⟨by rw [List.length_map, List.length_singleton]; exact Nat.le_of_lt (size_small (by omega)), by show 2 ≤ sizeLine; decide, _, _, _, rfl, rfl, ls2, by unfold foundD; rw [List.length_map]; exact size_small (by omega), ?_⟩
          have ek2 : foundD ws' ++ [.tup [pairD (x1, y1), .tup (w.map .str ++ [.str a])]] = foundD (ws' ++ [((x1, y1), w ++ [a])]) := by unfold foundD wD; simp
          rw [ek2]
          have keep : ∀ {m : Nat} {lk : Bool} {kv : List (D × D)}, h'[m]? = some (.dct false lk kv) → ((h'.set (h.length + 1) (.dct true false (knownD (ws' ++ [((x1, y1), w ++ [a])])))).set h.length (.lst (foundD (ws' ++ [((x1, y1), w ++ [a])]))))[m]? = some (.dct false lk kv) := fun {m lk kv} em => by
            rw [List.getElem?_set_ne (fun z => by rw [← z, b'.ls] at em; cases em), List.getElem?_set_ne (fun z => by rw [← z, b'.dc] at em; cases em)]
            exact em
          refine ⟨_, ⟨b6.len, b6.s0, b6.s1, b6.s2, b6.s3, b6.s4, (b'.gr.set _ (Nat.le_succ _)).set _ (Nat.le_refl _), by have := b'.hl; simpa using this, ?_, ?_, ok2⟩, nxt2.symm, y7, y8, y9, ?_, ⟨lk1', keep f3'⟩, ⟨lk2', keep g3'⟩⟩
          · exact set_at ls2
          · rw [List.getElem?_set_ne (Ne.symm nel)]
            exact set_at b'.dc
          · unfold items at it' ⊢
            rw [List.getElem?_set_ne (by omega), List.getElem?_set_ne (by omega)]
            exact it'
    · obtain ⟨ws', b', ews, _⟩ := p
      rw [List.length_map, List.take_length] at ews
      refine ⟨ws', b', ?_⟩
      have : ws' = turn one other ws at_ := by unfold K07S.turn; rw [ew, ews]
      rw [this]; exact hw
  · refine iff_ (by simpa using hat) ?_
    rw [bfs_done (by omega)] at hw
    refine ⟨_, b.s2, ?_⟩
    refine z h1 _ b.gr ?_
    rw [← hw]; exact b.ls
end K07S

set_option Elab.async false
set_option linter.all false
set_option maxRecDepth 100000
set_option maxHeartbeats 2000000
/-! K07G: the law's own first difference of two plain parts. -/
namespace K07S
open PySem PySem.Spec
open PyProof.Rows hiding St
open L2
open MP (D Cell Hd Sd WE WT WA WS WG WI EndsD ItD SpD endR startD itSeq items tyD truD getD putD keyOk wipeD lenD sortS ltS leS dctOf itKeys itVals PyR PyRs)
open MV K07V
theorem first_some {one other : Pl} {i : Nat} {p : Nat × Nat} {w : List Str} (ee : (walk one other)[i]? = some (p, w)) (hd : diffAt one other p = true) (no : ∀ e ∈ (walk one other).take i, diffAt one other e.1 = false) : first one other = some w := by
  unfold first
  have : (walk one other).find? (fun e => diffAt one other e.1) = some (p, w) := by
    rw [List.find?_eq_some_iff_getElem]
    obtain ⟨hi1, hi2⟩ := List.getElem?_eq_some_iff.mp ee
    refine ⟨hd, i, hi1, hi2, fun j hj => ?_⟩
    have hj1 : j < (walk one other).length := Nat.lt_trans hj hi1
    have hm : (walk one other)[j] ∈ (walk one other).take i := by
      rw [List.mem_take_iff_getElem]
      exact ⟨j, by rw [Nat.min_eq_left (Nat.le_of_lt hi1)]; exact hj, rfl⟩
    rw [no _ hm]; rfl
  rw [this]; rfl
theorem first_none {one other : Pl} (no : ∀ e ∈ walk one other, diffAt one other e.1 = false) : first one other = none := by
  unfold first
  have : (walk one other).find? (fun e => diffAt one other e.1) = none := by
    rw [List.find?_eq_none]
    intro e he
    rw [no e he]; exact Bool.false_ne_true
  rw [this]; rfl
def s__law_first : SpD := fun ds h q => ∃ d1 d2 one other, ds = [d1, d2] ∧ IsPlain h d1 one ∧ IsPlain h d2 other ∧ PlOk one ∧ PlOk other ∧ ∀ h', Gr h h' → q (wordO (first one other)) h'
theorem p_first {ds : List D} {h : Hd} {q : D → Hd → Prop} (z : s__law_first ds h q) : v__law_first s__law_both s__law_offer (endR q) (startD K07.N__law_first ds) h := by
  obtain ⟨d1, d2, one, other, rfl, hp1, hp2, k1, k2, z⟩ := z
  refine ⟨_, rfl, _, rfl, _, _, one, other, rfl, hp1, hp2, k1, k2, fun h1 n g1 en => ⟨n, _, rfl, by unfold MP.items; rw [en], ?_⟩⟩
  refine it_by (foundD (walk one other)) (fun i sl h3 => sl.length = 4 ∧ sl[0]? = some (some d1) ∧ sl[1]? = some (some d2) ∧ Gr h h3 ∧ h3[n]? = some (.lst (foundD (walk one other))) ∧ ∀ e ∈ (walk one other).take i, diffAt one other e.1 = false)
    ⟨rfl, rfl, rfl, g1, en, fun e he => by simp at he⟩ (fun i sl h3 _ p => by obtain ⟨_, _, _, _, it, _⟩ := p; unfold MP.itLst MP.items; rw [it]; rfl) (fun i x sl h3 e p => ?_) (fun sl h3 p => ?_)
  · obtain ⟨l4, s0, s1, g3, en3, no⟩ := p
    unfold foundD at e
    rw [List.getElem?_map] at e
    obtain ⟨⟨⟨l, r⟩, w⟩, ee, rfl⟩ := Option.map_eq_some_iff.mp e
    have bd := (walk_ok k1 k2).bd (l, r) (List.mem_map.mpr ⟨_, List.mem_of_getElem? ee, rfl⟩)
    refine ⟨_, rfl, rfl, _, _, rfl, _, _, rfl, rfl, ?_⟩
    have t0 : ((sl.set 2 (some (pairD (l, r)))).set 3 (some (wD w)))[0]? = some (some d1) := by rw [List.getElem?_set_ne (by decide), List.getElem?_set_ne (by decide)]; exact s0
    have t1 : ((sl.set 2 (some (pairD (l, r)))).set 3 (some (wD w)))[1]? = some (some d2) := by rw [List.getElem?_set_ne (by decide), List.getElem?_set_ne (by decide)]; exact s1
    have t2 : ((sl.set 2 (some (pairD (l, r)))).set 3 (some (wD w)))[2]? = some (some (pairD (l, r))) := by rw [List.getElem?_set_ne (by decide), List.getElem?_set_self (by omega)]
    have t3 : ((sl.set 2 (some (pairD (l, r)))).set 3 (some (wD w)))[3]? = some (some (wD w)) := List.getElem?_set_self (by rw [List.length_set]; omega)
    have t4 : ((sl.set 2 (some (pairD (l, r)))).set 3 (some (wD w))).length = 4 := by simp [l4]
    show MV.wIfS _ _ _ _ ((sl.set 2 (some (pairD (l, r)))).set 3 (some (wD w))) h3
    generalize (sl.set 2 (some (pairD (l, r)))).set 3 (some (wD w)) = sl1 at t0 t1 t2 t3 t4 ⊢
    refine ⟨_, t0, _, t2, ?_⟩
    dsimp only [MV.wC]
    refine oIx_tup (i := 0) (d := .int (l : Nat)) rfl ?_
    refine ⟨d1, one, l, rfl, hp1.gr g3, bd.1, k1.sm, fun h4 g4 => ?_⟩
    refine ⟨_, t1, _, t2, ?_⟩
    dsimp only [MV.wC]
    refine oIx_tup (i := 1) (d := .int (r : Nat)) rfl ?_
    refine ⟨d2, other, r, rfl, hp2.gr (g3.trans g4), bd.2, k2.sm, fun h5 g5 => ?_⟩
    refine ⟨_, _, off_pyR h5 one l, off_pyR h5 other r, off_shaped k1 l, off_shaped k2 r, ?_⟩
    have g6 := g3.trans (g4.trans g5)
    refine ⟨_, rfl, ?_⟩
    show (if _ then _ else _)
    rw [off_eqv]
    by_cases hd : diffAt one other (l, r) = true
    · refine ift hd ?_
      refine ⟨_, t3, ?_⟩
      have z2 := z _ g6
      rw [first_some ee hd no] at z2
      exact z2
    · have hd' : diffAt one other (l, r) = false := by simpa using hd
      refine iff_ hd' ?_
      refine ⟨t4, t0, t1, g6, g5.lst (g4.lst en3), fun e he => ?_⟩
      rw [List.take_add_one, ee] at he
      rcases List.mem_append.mp he with q1 | q1
      · exact no e q1
      · simp only [Option.toList_some, List.mem_singleton] at q1
        rw [q1]; exact hd'
  · obtain ⟨l4, s0, s1, g3, en3, no⟩ := p
    have hl : (foundD (walk one other)).length = (walk one other).length := by unfold foundD; simp
    rw [hl, List.take_length] at no
    have z2 := z _ g3
    rw [first_none no] at z2
    exact z2
end K07S

set_option Elab.async false
set_option linter.all false
set_option maxRecDepth 100000
set_option maxHeartbeats 2000000
/-! K07H: the law's own dice, drawn items, orders, actions and parts. -/
namespace K07S
open PySem PySem.Spec
open PyProof.Rows hiding St
open L2
open MP (D Cell Hd Sd WE WT WA WS WG WI EndsD ItD SpD endR startD itSeq items tyD truD getD putD keyOk wipeD lenD sortS ltS leS dctOf itKeys itVals PyR PyRs)
open MV K07V
theorem oIx_scr {h : Hd} {n : Nat} {xs : List D} {i : Int} {d : D} {Q : D → Hd → Prop} (e : h[n]? = some (.scr xs)) (hg : L2.atI xs i = some d) (z : Q d h) : MV.oIx (.ref n) (.int i) h Q := by
  show (match h[n]? with
    | some (.lst xs) => ∃ i' d, D.int i = .int i' ∧ L2.atI xs i' = some d ∧ Q d h
    | some (.scr xs) => ∃ i' d, D.int i = .int i' ∧ L2.atI xs i' = some d ∧ Q d h
    | some (.dct t _ kvs) => keyOk t (.int i) = true ∧ ∃ d, getD kvs (.int i) = some d ∧ Q d h
    | _ => False)
  rw [e]; exact ⟨i, d, rfl, hg, z⟩
theorem oAdd_int {a b : Int} {h : Hd} {Q : D → Hd → Prop} (z : Q (.int (a + b)) h) : MV.oAdd (.int a) (.int b) h Q := z
def s__law_dice : SpD := fun ds h q => ∃ n xs at_, ds = [.ref n, .int (at_ : Nat)] ∧ h[n]? = some (.scr xs) ∧ (∀ x ∈ xs, ∃ i : Int, x = .int i) ∧ at_ ≤ 1000 ∧ ∀ h' m, Gr h h' → h.length ≤ m → Dice 0 h' m → q (.ref m) h'
theorem dice_end {n : Nat} {h : Hd} {q : D → Hd → Prop} {at_ : Nat} {cell : Int} {sl : Sd} (l6 : sl.length = 6) (s0 : sl[0]? = some (some (.ref n))) (s1 : sl[1]? = some (some (.int (at_ : Nat)))) (s2 : sl[2]? = some (some (.int cell))) (hat : at_ ≤ 1000)
    (z : ∀ h' m, Gr h h' → h.length ≤ m → Dice 0 h' m → q (.ref m) h') :
    (MV.wSeq (wAsg (wBin oMod (wCB cInt (wCons (wCB cAbs (wCons (wSlot 2) wNil)) wNil)) (wBin oPow (wBin oPow (wC (.int 10)) (wC (.int 60))) (wC (.int 10)))) (wNm 3))
    (wSeq (wAsg (wBin oFdiv (wSlot 3) (wBin oPow (wC (.int 10)) (wC (.int 18)))) (wNm 4))
    (wSeq (wAsg (wBin oAdd (wBin oAdd (wBin oAdd (wBin oMul (wBin oMod (wSlot 3) (wC (.int 2147483477))) (wC (.int 50021))) (wBin oMul (wC (.int 3001)) (wSlot 1))) (wBin oMul (wC (.int 29)) (wCB cInt (wCons (wBin oLt (wSlot 2) (wC (.int 0))) wNil)))) (wC (.int 71))) (wNm 5))
    (wRet (wLst (wCons (wSlot 4) (wCons (wBin oMod (wSlot 5) (wC (.int 2147483399))) (wCons (wC (.int 0)) wNil)))))))) (endR q) sl h := by
  refine ⟨_, s2, _, rfl, .inl ⟨_, rfl, ?_⟩⟩
  dsimp only [MV.wC, MV.wNil]
  have pos : (0 : Int) < (10 ^ (60 : Int).toNat) ^ (10 : Int).toNat := by decide +kernel
  refine ⟨⟨by decide, by decide⟩, ⟨by decide, by decide +kernel⟩, pos, ?_⟩
  dsimp only
  have h0 : 0 ≤ (if cell < 0 then -cell else cell) % (10 ^ (60 : Int).toNat) ^ (10 : Int).toNat := Int.emod_nonneg _ (by omega)
  generalize (if cell < 0 then -cell else cell) % (10 ^ (60 : Int).toNat) ^ (10 : Int).toNat = great at h0 ⊢
  have a1 : (sl.set 3 (some (D.int great)))[1]? = some (some (.int (at_ : Nat))) := by rw [List.getElem?_set_ne (by decide)]; exact s1
  have a2 : (sl.set 3 (some (D.int great)))[2]? = some (some (.int cell)) := by rw [List.getElem?_set_ne (by decide)]; exact s2
  have a3 : (sl.set 3 (some (D.int great)))[3]? = some (some (.int great)) := List.getElem?_set_self (by omega)
  have a4 : (sl.set 3 (some (D.int great))).length = 6 := by simp [l6]
  show MV.wSeq _ _ _ (sl.set 3 (some (D.int great))) h
  generalize sl.set 3 (some (D.int great)) = sl1 at a1 a2 a3 a4 ⊢
  refine ⟨_, a3, ?_⟩
  dsimp only [MV.wC]
  refine ⟨⟨by decide, by decide⟩, divOk (by decide) (by decide) _, ?_⟩
  dsimp only
  have h1 : 0 ≤ great / 10 ^ (18 : Int).toNat := Int.ediv_nonneg h0 (by decide)
  generalize great / 10 ^ (18 : Int).toNat = left at h1 ⊢
  have b1 : (sl1.set 4 (some (D.int left)))[1]? = some (some (.int (at_ : Nat))) := by rw [List.getElem?_set_ne (by decide)]; exact a1
  have b2 : (sl1.set 4 (some (D.int left)))[2]? = some (some (.int cell)) := by rw [List.getElem?_set_ne (by decide)]; exact a2
  have b3 : (sl1.set 4 (some (D.int left)))[3]? = some (some (.int great)) := by rw [List.getElem?_set_ne (by decide)]; exact a3
  have b4 : (sl1.set 4 (some (D.int left)))[4]? = some (some (.int left)) := List.getElem?_set_self (by omega)
  have b5 : (sl1.set 4 (some (D.int left))).length = 6 := by simp [a4]
  show MV.wSeq _ _ _ (sl1.set 4 (some (D.int left))) h
  generalize sl1.set 4 (some (D.int left)) = sl2 at b1 b2 b3 b4 b5 ⊢
  refine ⟨_, b3, ?_⟩
  dsimp only [MV.wC]
  have m0 := Int.emod_nonneg great (by decide : (2147483477 : Int) ≠ 0)
  have m1 := Int.emod_lt_of_pos great (by decide : (0 : Int) < 2147483477)
  refine ⟨show (0 : Int) < 2147483477 by decide, ?_⟩
  dsimp only
  generalize great % 2147483477 = g at m0 m1 ⊢
  refine ⟨mulOk (by omega) (by decide), ?_⟩
  refine ⟨_, b1, mulOk (by decide) (by omega), ?_⟩
  dsimp only
  refine ⟨_, b2, .inr ⟨_, rfl, ?_⟩⟩
  dsimp only
  refine ⟨mulOk (by decide) (by split <;> decide), ?_⟩
  dsimp only
  refine oAdd_int ?_
  refine oAdd_int ?_
  generalize g * 50021 + 3001 * (at_ : Int) + 29 * (if decide (cell < 0) = true then 1 else 0) + 71 = mix
  have c4 : (sl2.set 5 (some (D.int mix)))[4]? = some (some (.int left)) := by rw [List.getElem?_set_ne (by decide)]; exact b4
  have c5 : (sl2.set 5 (some (D.int mix)))[5]? = some (some (.int mix)) := List.getElem?_set_self (by omega)
  show MV.wRet _ _ (sl2.set 5 (some (D.int mix))) h
  generalize sl2.set 5 (some (D.int mix)) = sl3 at c4 c5 ⊢
  refine ⟨_, c4, _, c5, show (0 : Int) < 2147483399 by decide, ?_⟩
  refine ⟨by show 3 ≤ sizeLine; decide, ?_⟩
  refine z _ _ (.app _) (Nat.le_refl _) ⟨left, mix % 2147483399, 0, ?_, h1, Int.emod_nonneg _ (by decide), Int.emod_lt_of_pos _ (by decide), by decide, by decide⟩
  rw [List.getElem?_append_right (Nat.le_refl _)]; simp
theorem p_dice {ds : List D} {h : Hd} {q : D → Hd → Prop} (z : s__law_dice ds h q) : v__law_dice (endR q) (startD K07.N__law_dice ds) h := by
  obtain ⟨n, xs, at_, rfl, en, hx, hat, z⟩ := z
  refine ⟨_, rfl, mulOk (by decide) (by omega), ?_⟩
  dsimp only [MV.wC]
  refine ⟨_, rfl, _, rfl, _, xs.length, rfl, by simp only [lenD, en], ?_⟩
  by_cases hl : at_ < xs.length
  · refine ⟨decide ((at_ : Int) < (xs.length : Int)), rfl, ?_⟩
    refine ift (by simpa using hl) ?_
    obtain ⟨i, ei⟩ := hx xs[at_] (List.getElem_mem hl)
    refine ⟨_, rfl, _, rfl, ?_⟩
    dsimp only
    refine oIx_scr en (atI_natI (by rw [List.getElem?_eq_getElem hl])) ?_
    rw [ei]
    exact dice_end rfl rfl rfl rfl hat z
  · refine ⟨decide ((at_ : Int) < (xs.length : Int)), rfl, ?_⟩
    refine iff_ (by simpa using hl) ?_
    exact dice_end rfl rfl rfl rfl hat z
end K07S

set_option Elab.async false
set_option linter.all false
set_option maxRecDepth 100000
set_option maxHeartbeats 2000000
/-! K07I: the law's own drawn items and orders. -/
namespace K07S
open PySem PySem.Spec
open PyProof.Rows hiding St
open L2
open MP (D Cell Hd Sd WE WT WA WS WG WI EndsD ItD SpD endR startD itSeq items tyD truD getD putD keyOk wipeD lenD sortS ltS leS dctOf itKeys itVals PyR PyRs)
open MV K07V
theorem Gx.setN {m : Nat} {h0 h : Hd} (g : Gx m h0 h) {k : Nat} (c : Cell) (hk : h0.length ≤ k) : Gx m h0 (h.set k c) := ⟨by simpa using g.1, fun n u hn e => by
  obtain ⟨u', e', l⟩ := g.2 n u hn e
  have : n < h0.length := (List.getElem?_eq_some_iff.mp e).1
  exact ⟨u', by rw [List.getElem?_set_ne (by omega)]; exact e', l⟩⟩
theorem Gx.app {m : Nat} {h0 h : Hd} (g : Gx m h0 h) (c : Hd) : Gx m h0 (h ++ c) := g.trans (Gr.app c).x
theorem Dice.app {c n : Nat} {h : Hd} (k : Dice c h n) (x : Hd) : Dice c (h ++ x) n := k.gr (.app x)
theorem Dice.setN {c n : Nat} {h : Hd} (k : Dice c h n) {m : Nat} (u : Cell) (hm : m ≠ n) : Dice c (h.set m u) n := by
  obtain ⟨a, b, e, h1, r⟩ := k
  exact ⟨a, b, e, by rw [List.getElem?_set_ne hm]; exact h1, r⟩
theorem Dice.lt {c n : Nat} {h : Hd} (k : Dice c h n) : n < h.length := by
  obtain ⟨a, b, e, h1, _⟩ := k
  exact (List.getElem?_eq_some_iff.mp h1).1
def s__law_one_of : SpD := fun ds h q => ∃ n c m xs, ds = [.ref n, .ref m] ∧ n ≠ m ∧ Dice c h n ∧ c ≤ 1000000 ∧ h[m]? = some (.lst xs) ∧ 0 < xs.length ∧ xs.length ≤ 1000 ∧ ∀ h' x, Gx n h h' → Dice (c + 1) h' n → x ∈ xs → q x h'
theorem p_one_of {ds : List D} {h : Hd} {q : D → Hd → Prop} (z : s__law_one_of ds h q) : v__law_one_of s__law_roll (endR q) (startD K07.N__law_one_of ds) h := by
  obtain ⟨n, c, m, xs, rfl, nm, dc, hc, em, h0, hl, z⟩ := z
  refine ⟨_, rfl, _, rfl, _, rfl, _, xs.length, rfl, by simp only [lenD, em], ?_⟩
  refine ⟨n, c, xs.length, rfl, dc, hc, h0, hl, fun h1 r g1 d1 hr => ?_⟩
  have e1 := g1.lst (Ne.symm nm) em
  refine oIx_lst e1 (atI_natI (List.getElem?_eq_getElem hr)) ?_
  exact z _ _ g1.x d1 (List.getElem_mem hr)
theorem eq_nil (xs : List Str) : PyData.eqv (.list (strsP xs)) (.list []) = xs.isEmpty := by
  cases xs with
  | nil => rfl
  | cons x xs => simp [strsP, PyData.eqv, PyData.eqvAll]
theorem list_shaped {xs : List Str} (h : ∀ x ∈ xs, nameS x = true) : SeqAt.shaped (.list (strsP xs)) = true := by
  obtain ⟨h1, h2⟩ := can_strs h
  unfold SeqAt.shaped
  simp only [PyData.canLay0, h1, PyData.depth, h2]
  decide
theorem seqIx {r n : Nat} (h : r < n) : seqIndex? (r : Int) n = some r := by
  unfold seqIndex?
  have : ¬ ((r : Int) < 0) := by omega
  simp [this]; omega
theorem map_erase {α β : Type} {f : α → β} : ∀ (r : Nat) (xs : List α), (xs.map f).eraseIdx r = (xs.eraseIdx r).map f
  | _, [] => rfl
  | 0, _ :: _ => rfl
  | r + 1, x :: xs => by
    show f x :: (xs.map f).eraseIdx r = f x :: (xs.eraseIdx r).map f
    rw [map_erase r xs]
theorem erase_perm {α : Type} : ∀ {r : Nat} {xs : List α} (h : r < xs.length), (xs[r] :: xs.eraseIdx r).Perm xs
  | _, [], h => absurd h (Nat.not_lt_zero _)
  | 0, _ :: _, _ => .refl _
  | r + 1, x :: xs, h => (List.Perm.swap x _ _).trans (.cons x (erase_perm (xs := xs) (Nat.lt_of_succ_lt_succ h)))
structure Mx (n c : Nat) (xs : List Str) (h0 : Hd) (lv fv : List Str) (sl : Sd) (h : Hd) : Prop where
  len : sl.length = 4
  s0 : sl[0]? = some (some (.ref n))
  s2 : sl[2]? = some (some (.ref h0.length))
  s3 : sl[3]? = some (some (.ref (h0.length + 1)))
  le : h[h0.length]? = some (.lst (lv.map .str))
  fe : h[h0.length + 1]? = some (.lst (fv.map .str))
  pm : (fv ++ lv).Perm xs
  dc : Dice (c + fv.length) h n
  gx : Gx n h0 h
def s__law_mixed : SpD := fun ds h q => ∃ (n c m : Nat) (xs : List Str), ds = [.ref n, .ref m] ∧ n ≠ m ∧ Dice c h n ∧ c + 100 ≤ 1000000 ∧ h[m]? = some (.lst (xs.map .str)) ∧ xs.length ≤ 100 ∧ (∀ x ∈ xs, nameS x = true) ∧
  ∀ h' k (ys : List Str), Gx n h h' → h.length ≤ k → Dice (c + xs.length) h' n → h'[k]? = some (.lst (ys.map .str)) → ys.Perm xs → q (.ref k) h'
theorem p_mixed {ds : List D} {h : Hd} {q : D → Hd → Prop} (z : s__law_mixed ds h q) : v__law_mixed s__law_roll (endR q) (startD K07.N__law_mixed ds) h := by
  obtain ⟨n, c, m, xs, rfl, nm, dc, hc, em, hl, hn, z⟩ := z
  have nlt := dc.lt
  refine ⟨_, rfl, ?_⟩
  dsimp only [MV.wNil]
  refine cList_lst em ?_
  refine ⟨by show 0 ≤ sizeLine; decide, _, _, rfl, ?_⟩
  refine ⟨fun k sl h1 => ∃ lv fv, Mx n c xs h lv fv sl h1 ∧ k = lv.length, ⟨_, xs, [], ⟨rfl, rfl, rfl, by rw [List.length_append, List.length_singleton]; rfl, ?_, ?_, by simp, (dc.app _).app _, (Gx.refl.app _).app _⟩, rfl⟩, ?_⟩
  · rw [List.append_assoc, List.getElem?_append_right (Nat.le_refl _)]; simp
  · rw [List.append_assoc, List.getElem?_append_right (Nat.le_succ _)]; simp
  rintro k sl h1 ⟨lv, fv, M, rfl⟩
  have hlen : fv.length + lv.length = xs.length := by have := M.pm.length_eq; simpa using this
  have hlv : ∀ x ∈ lv, nameS x = true := fun x hx => hn x (M.pm.mem_iff.mp (List.mem_append_right _ hx))
  refine ⟨_, M.s2, ?_⟩
  dsimp only [MV.wNil]
  refine ⟨by show 0 ≤ sizeLine; decide, ?_⟩
  have gl : (h1 ++ [Cell.lst []])[h.length]? = some (.lst (lv.map .str)) := by rw [List.getElem?_append_left (List.getElem?_eq_some_iff.mp M.le).1]; exact M.le
  have gf : (h1 ++ [Cell.lst []])[h.length + 1]? = some (.lst (fv.map .str)) := by rw [List.getElem?_append_left (List.getElem?_eq_some_iff.mp M.fe).1]; exact M.fe
  have gd := M.dc.app [Cell.lst []]
  have gg := M.gx.app [Cell.lst []]
  have ge : items (h1 ++ [Cell.lst []]) h1.length = some [] := items_last
  refine ⟨.list (strsP lv), .list [], .lst (by unfold MP.items; rw [gl]) (pyRs_str _ _), .lst ge .nil, list_shaped hlv, by decide, ?_⟩
  rw [eq_nil]
  refine ⟨_, rfl, ?_⟩
  generalize h1 ++ [Cell.lst []] = h2 at gl gf gd gg
  cases lv with
  | nil =>
    refine iff_ rfl ?_
    refine ⟨_, M.s3, ?_⟩
    have := M.pm
    rw [List.append_nil] at this
    simp only [List.length_nil, Nat.add_zero] at hlen
    refine z h2 _ fv gg (by omega) (by rw [← hlen]; exact gd) gf this
  | cons y lv =>
    refine ift rfl ?_
    refine ⟨fun sl' h' => ∃ lv' fv', Mx n c xs h lv' fv' sl' h' ∧ lv'.length = lv.length, fun sl' h' ⟨lv', fv', M', e'⟩ => ⟨lv.length, by simp, lv', fv', M', e'.symm⟩, ?_⟩
    refine ⟨_, M.s3, ⟨_, _, rfl, gf⟩, ?_⟩
    refine ⟨_, M.s2, ⟨_, _, rfl, gl⟩, ?_⟩
    refine ⟨_, M.s0, _, M.s2, _, (y :: lv).length, rfl, by simp only [lenD, gl, List.length_map], ?_⟩
    refine ⟨n, c + fv.length, (y :: lv).length, rfl, gd, by omega, by simp, by simp only [List.length_cons] at hlen ⊢; omega, fun h3 r g3 d3 hr => ?_⟩
    have ne1 : h.length ≠ n := by omega
    have ne2 : h.length + 1 ≠ n := by omega
    have fl := g3.lst ne1 gl
    have ff := g3.lst ne2 gf
    have hr' : r < ((y :: lv).map D.str).length := by simpa using hr
    refine ⟨h.length, (y :: lv).map .str, (r : Int), r, .str (y :: lv)[r], rfl, rfl, fl, by omega, ?_, ?_, ?_, ?_⟩
    · simp only [List.length_cons] at hlen hr; omega
    · exact seqIx hr'
    · rw [List.getElem?_map, List.getElem?_eq_getElem hr]; rfl
    have hx : h.length + 1 ≠ h.length := by omega
    have ff2 : (h3.set h.length (.lst (((y :: lv).map D.str).eraseIdx r)))[h.length + 1]? = some (.lst (fv.map .str)) := by rw [List.getElem?_set_ne (Ne.symm hx)]; exact ff
    refine ⟨h.length + 1, fv.map .str, .str (y :: lv)[r], rfl, rfl, ff2, by rw [List.length_map]; exact size_small (by omega), ?_⟩
    refine ⟨(y :: lv).eraseIdx r, fv ++ [(y :: lv)[r]], ⟨M.len, M.s0, M.s2, M.s3, ?_, ?_, ?_, ?_, ?_⟩, ?_⟩
    · rw [List.getElem?_set_ne hx]
      have : ((y :: lv).eraseIdx r).map D.str = ((y :: lv).map D.str).eraseIdx r := (map_erase r _).symm
      rw [this]; exact set_at fl
    · rw [List.map_append]; exact set_at ff2
    · have p1 : ((y :: lv)[r] :: (y :: lv).eraseIdx r).Perm (y :: lv) := erase_perm hr
      refine List.Perm.trans ?_ M.pm
      rw [List.append_assoc]
      exact (List.Perm.append_left fv p1)
    · have := (d3.setN (.lst (((y :: lv).map D.str).eraseIdx r)) ne1).setN (.lst (fv.map D.str ++ [D.str (y :: lv)[r]])) ne2
      rw [List.length_append, List.length_singleton]
      exact this
    · exact ((gg.trans g3.x).setN _ (Nat.le_refl _)).setN _ (by omega)
    · rw [List.length_eraseIdx_of_lt hr]; simp
end K07S

set_option Elab.async false
set_option linter.all false
set_option maxRecDepth 100000
set_option maxHeartbeats 2000000
/-! K07J: the law's own drawn actions. -/
namespace K07S
open PySem PySem.Spec
open PyProof.Rows hiding St
open L2
open MP (D Cell Hd Sd WE WT WA WS WG WI EndsD ItD SpD endR startD itSeq items tyD truD getD putD keyOk wipeD lenD sortS ltS leS dctOf itKeys itVals PyR PyRs)
open MV K07V
def eight : List Str := ["a", "b", "ab", "go", "put", "take", "x", "zzzzzzzz"]
theorem eight_ok : ∀ x ∈ eight, nameS x = true := by decide +kernel
theorem cut_to (xs : List D) (t : Nat) (h : t ≤ xs.length) : MP.cutD xs none (some (t : Int)) = xs.take t := by
  unfold MP.cutD
  have e1 : HT.sIx xs.length 0 none = 0 := rfl
  have e2 : HT.sIx xs.length xs.length (some (t : Int)) = t := by rw [HT.sIx_nat]; omega
  rw [e1, e2]; simp
def s__law_actions : SpD := fun ds h q => ∃ (n c t : Nat), ds = [.ref n, .int (t : Nat)] ∧ Dice c h n ∧ c + 100 ≤ 1000000 ∧ t ≤ 8 ∧
  ∀ h' k (ns : List Str), Gx n h h' → h.length ≤ k → Dice (c + 8) h' n → h'[k]? = some (.lst (ns.map .str)) → ns.length = t → (∀ x ∈ ns, nameS x = true) → q (.ref k) h'
theorem p_actions {ds : List D} {h : Hd} {q : D → Hd → Prop} (z : s__law_actions ds h q) : v__law_actions s__law_mixed (endR q) (startD K07.N__law_actions ds) h := by
  obtain ⟨n, c, t, rfl, dc, hc, ht, z⟩ := z
  have nlt := dc.lt
  refine ⟨_, rfl, ?_⟩
  dsimp only [MV.wC, MV.wNil]
  refine ⟨by show 8 ≤ sizeLine; decide, n, c, h.length, eight, rfl, by omega, dc.app _, hc, app_at, by decide, eight_ok, fun h1 k ys g1 hk d1 e1 pm => ?_⟩
  refine ⟨_, rfl, _, rfl, ?_⟩
  refine ⟨ys.map .str, by unfold MP.items; rw [e1], ?_⟩
  have l8 : ys.length = 8 := pm.length_eq
  rw [cut_to _ _ (by rw [List.length_map, l8]; exact ht)]
  refine ⟨h1.length, ys.take t, rfl, .inl (by rw [items_last, List.map_take]), by rw [List.length_take]; omega, ?_⟩
  have hg : Gx n h (h1 ++ [Cell.lst ((ys.map D.str).take t)] ++ [.lst ((sortS (ys.take t)).map .str)]) := (((Gr.app _).x.trans g1).app _).app _
  have hl := (Gr.app (h := h) [Cell.lst (eight.map .str)]).1
  refine z _ _ (sortS (ys.take t)) hg ?_ ((d1.app _).app _) app_at (by rw [MP.sortS_length, List.length_take]; omega) fun x hx => ?_
  · have := g1.1; simp only [List.length_append] at this ⊢; omega
  · exact eight_ok x (pm.mem_iff.mp (List.mem_of_mem_take ((MP.sortS_perm _).mem_iff.mp hx)))
end K07S

set_option Elab.async false
set_option linter.all false
set_option maxRecDepth 100000
set_option maxHeartbeats 2000000
/-! K07K: the law's own drawn parts. -/
namespace K07S
open PySem PySem.Spec
open PyProof.Rows hiding St
open L2
open MP (D Cell Hd Sd WE WT WA WS WG WI EndsD ItD SpD endR startD itSeq items tyD truD getD putD keyOk wipeD lenD sortS ltS leS dctOf itKeys itVals PyR PyRs)
open MV K07V
def putR (r : Row) (a : Str) (t : Nat) : Row := if a ∈ keysR r then r.map (fun p => if p.1 = a then (p.1, t) else p) else r ++ [(a, t)]
theorem putD_row (r : Row) (a : Str) (t : Nat) : putD (rowK r) (.str a) (.int (t : Nat)) = rowK (putR r a t) := by
  unfold MP.putD
  have e : ((rowK r).any fun p => decide (p.1 = .str a)) = decide (a ∈ keysR r) := by
    rw [Bool.eq_iff_iff, List.any_eq_true, decide_eq_true_eq]
    unfold rowK keysR
    constructor
    · rintro ⟨x, hx, e⟩
      obtain ⟨y, hy, rfl⟩ := List.mem_map.mp hx
      have := of_decide_eq_true e
      injection this with this
      exact List.mem_map.mpr ⟨y, hy, this⟩
    · intro h
      obtain ⟨y, hy, rfl⟩ := List.mem_map.mp h
      exact ⟨_, List.mem_map.mpr ⟨y, hy, rfl⟩, decide_eq_true rfl⟩
  rw [e]
  unfold putR
  by_cases h : a ∈ keysR r
  · rw [if_pos (decide_eq_true h), if_pos h]
    unfold rowK
    rw [List.map_map, List.map_map]
    refine List.map_congr_left fun p _ => ?_
    simp only [Function.comp_def]
    by_cases e2 : p.1 = a
    · rw [if_pos e2, if_pos (by rw [e2])]
    · rw [if_neg e2, if_neg (fun z => e2 (by injection z))]
  · rw [if_neg (by simpa using h), if_neg h]
    unfold rowK; simp
theorem keys_putR (r : Row) (a : Str) (t : Nat) : keysR (putR r a t) = if a ∈ keysR r then keysR r else keysR r ++ [a] := by
  unfold putR
  by_cases h : a ∈ keysR r
  · rw [if_pos h, if_pos h]
    unfold keysR
    rw [List.map_map]
    refine List.map_congr_left fun p _ => ?_
    simp only [Function.comp_def]
    split <;> rfl
  · rw [if_neg h, if_neg h]
    unfold keysR; simp
structure GR (ns : List Str) (b : Nat) (r : Row) : Prop where
  nd : (keysR r).Nodup
  sub : ∀ x ∈ keysR r, x ∈ ns
  lt : ∀ p ∈ r, p.2 < b
theorem GR.nil {ns : List Str} {b : Nat} : GR ns b [] := ⟨List.nodup_nil, fun x h => (by cases h), fun x h => (by cases h)⟩
theorem GR.mono {ns : List Str} {b b' : Nat} {r : Row} (k : GR ns b r) (h : b ≤ b') : GR ns b' r := ⟨k.nd, k.sub, fun p hp => Nat.lt_of_lt_of_le (k.lt p hp) h⟩
theorem GR.put {ns : List Str} {b : Nat} {r : Row} {a : Str} {t : Nat} (k : GR ns b r) (ha : a ∈ ns) (ht : t < b) : GR ns b (putR r a t) := by
  refine ⟨?_, ?_, ?_⟩
  · rw [keys_putR]
    by_cases h : a ∈ keysR r
    · rw [if_pos h]; exact k.nd
    · rw [if_neg h]
      exact List.nodup_append.mpr ⟨k.nd, by simp, fun x hx y hy e => by
        rw [List.mem_singleton] at hy; exact h (by rw [← hy, ← e]; exact hx)⟩
  · intro x hx
    rw [keys_putR] at hx
    by_cases h : a ∈ keysR r
    · rw [if_pos h] at hx; exact k.sub x hx
    · rw [if_neg h] at hx
      rcases List.mem_append.mp hx with q | q
      · exact k.sub x q
      · rw [List.mem_singleton] at q; rw [q]; exact ha
  · intro p hp
    unfold putR at hp
    by_cases h : a ∈ keysR r
    · rw [if_pos h] at hp
      obtain ⟨y, hy, rfl⟩ := List.mem_map.mp hp
      split
      · exact ht
      · exact k.lt y hy
    · rw [if_neg h] at hp
      rcases List.mem_append.mp hp with q | q
      · exact k.lt p q
      · rw [List.mem_singleton] at q; rw [q]; exact ht
theorem GR.len {ns : List Str} {b : Nat} {r : Row} (k : GR ns b r) : r.length ≤ ns.length := by
  have := nodup_le k.nd k.sub
  unfold keysR at this
  rwa [List.length_map] at this
structure NS (ns : List Str) : Prop where
  le : ns.length ≤ 3
  nm : ∀ x ∈ ns, nameS x = true
structure GP (ns : List Str) (pl : Pl) : Prop where
  pos : 0 < pl.length
  le : pl.length ≤ 8
  row : ∀ p ∈ pl, GR ns pl.length p.1
theorem GP.ok {ns : List Str} {pl : Pl} (k : GP ns pl) (s : NS ns) : PlOk pl := ⟨⟨k.pos, fun i a t e => by
    unfold step at e
    obtain ⟨p, ep, e2⟩ := Option.bind_eq_some_iff.mp e
    exact (k.row p (List.mem_of_getElem? ep)).lt (a, t) (lk_val e2)⟩, k.le,
  fun p hp => ⟨(k.row p hp).nd, Nat.le_trans (k.row p hp).len (Nat.le_trans s.le (by decide))⟩, fun p hp a ha => s.nm a ((k.row p hp).sub a ha)⟩
theorem PlIts.setL {h : Hd} {xs : List D} {pl : Pl} (k : PlIts h xs pl) {F : Nat} {ys : List D} (e : h[F]? = some (.lst ys)) (c : Cell) : PlIts (h.set F c) xs pl := ⟨k.1, fun i p ep => by
  obtain ⟨m, lk0, e1, e2⟩ := k.2 i p ep
  refine ⟨m, lk0, e1, ?_⟩
  rw [List.getElem?_set_ne (fun z => by rw [← z, e] at e2; cases e2)]
  exact e2⟩
theorem PlIts.gd {c n : Nat} {h h' : Hd} {xs : List D} {pl : Pl} (k : PlIts h xs pl) (d : Dice c h n) (g : Gx n h h') : PlIts h' xs pl := ⟨k.1, fun i p ep => by
  obtain ⟨m, lk0, e1, e2⟩ := k.2 i p ep
  obtain ⟨a, b, e, ed, _⟩ := d
  obtain ⟨lk1, e3⟩ := g.dct (fun z => by rw [z, ed] at e2; cases e2) e2
  exact ⟨m, lk1, e1, e3⟩⟩
theorem PlIts.snoc {h : Hd} {xs : List D} {pl : Pl} (k : PlIts h xs pl) {R : Nat} {lk0 : Bool} {r : Row} (b : Bool) (e : h[R]? = some (.dct false lk0 (rowK r))) : PlIts h (xs ++ [.tup [.ref R, .bl b]]) (pl ++ [(r, b)]) := ⟨by simp [k.1], fun i p ep => by
  by_cases hi : i < pl.length
  · rw [List.getElem?_append_left hi] at ep
    obtain ⟨m, lk1, e1, e2⟩ := k.2 i p ep
    exact ⟨m, lk1, by rw [List.getElem?_append_left (by rw [k.1]; exact hi)]; exact e1, e2⟩
  · have : i = pl.length := by
      have := (List.getElem?_eq_some_iff.mp ep).1
      simp only [List.length_append, List.length_singleton] at this
      omega
    subst this
    rw [List.getElem?_append_right (Nat.le_refl _)] at ep
    simp at ep
    subst ep
    exact ⟨R, lk0, by rw [List.getElem?_append_right (by rw [k.1]; exact Nat.le_refl _), k.1]; simp, e⟩⟩
end K07S

set_option Elab.async false
set_option linter.all false
set_option maxRecDepth 100000
set_option maxHeartbeats 2000000
/-! K07L: the law's own drawn part. -/
namespace K07S
open PySem PySem.Spec
open PyProof.Rows hiding St
open L2
open MP (D Cell Hd Sd WE WT WA WS WG WI EndsD ItD SpD endR startD itSeq items tyD truD getD putD keyOk wipeD lenD sortS ltS leS dctOf itKeys itVals PyR PyRs)
open MV K07V
def s__law_part : SpD := fun ds h q => ∃ (n c m t : Nat) (ns : List Str), ds = [.ref n, .ref m, .int (t : Nat)] ∧ n ≠ m ∧ Dice c h n ∧ c + 100 ≤ 1000000 ∧ h[m]? = some (.lst (ns.map .str)) ∧ NS ns ∧ 0 < t ∧ t ≤ 6 ∧
  ∀ h' F xs pl, Gx n h h' → h.length ≤ F → Dice (c + 30) h' n → h'[F]? = some (.lst xs) → PlIts h' xs pl → GP ns pl → pl.length ≤ t → q (.ref F) h'
/-- the state of the outer loop -/
structure LP (n m c F T : Nat) (ns : List Str) (h0 : Hd) (i : Nat) (xs : List D) (pl : Pl) (sl : Sd) (h : Hd) : Prop where
  len : sl.length = 9
  s0 : sl[0]? = some (some (.ref n))
  s1 : sl[1]? = some (some (.ref m))
  s4 : sl[4]? = some (some (.int (T : Nat)))
  s5 : sl[5]? = some (some (.ref F))
  gx : Gx n h0 h
  dc : Dice (c + 1 + 4 * i) h n
  ls : h[F]? = some (.lst xs)
  it : PlIts h xs pl
  pn : pl.length = i
  gr : ∀ p ∈ pl, GR ns T p.1
theorem LP.slot {n m c F T : Nat} {ns : List Str} {h0 : Hd} {i : Nat} {xs : List D} {pl : Pl} {sl : Sd} {h : Hd} (b : LP n m c F T ns h0 i xs pl sl h) (k : Nat) (d : Option D) (hk : 6 ≤ k ∨ k = 3 := by decide) : LP n m c F T ns h0 i xs pl (sl.set k d) h :=
  { b with len := by rw [List.length_set]; exact b.len, s0 := by rw [List.getElem?_set_ne (by omega)]; exact b.s0, s1 := by rw [List.getElem?_set_ne (by omega)]; exact b.s1, s4 := by rw [List.getElem?_set_ne (by omega)]; exact b.s4, s5 := by rw [List.getElem?_set_ne (by omega)]; exact b.s5 }
/-- the state of the inner loop -/
structure LQ (n m F T R : Nat) (ns : List Str) (hB : Hd) (cc : Nat) (r : Row) (sl : Sd) (h : Hd) : Prop where
  len : sl.length = 9
  s0 : sl[0]? = some (some (.ref n))
  s1 : sl[1]? = some (some (.ref m))
  s4 : sl[4]? = some (some (.int (T : Nat)))
  s5 : sl[5]? = some (some (.ref F))
  s6 : sl[6]? = some (some (.ref R))
  gx : Gx n hB h
  dc : Dice cc h n
  rw' : h[R]? = some (.dct false false (rowK r))
  gr : GR ns T r
theorem LQ.slot {n m F T R : Nat} {ns : List Str} {hB : Hd} {cc : Nat} {r : Row} {sl : Sd} {h : Hd} (b : LQ n m F T R ns hB cc r sl h) (k : Nat) (d : Option D) (hk : 7 ≤ k) : LQ n m F T R ns hB cc r (sl.set k d) h :=
  { b with len := by rw [List.length_set]; exact b.len, s0 := by rw [List.getElem?_set_ne (by omega)]; exact b.s0, s1 := by rw [List.getElem?_set_ne (by omega)]; exact b.s1, s4 := by rw [List.getElem?_set_ne (by omega)]; exact b.s4, s5 := by rw [List.getElem?_set_ne (by omega)]; exact b.s5, s6 := by rw [List.getElem?_set_ne (by omega)]; exact b.s6 }
theorem p_part {ds : List D} {h : Hd} {q : D → Hd → Prop} (z : s__law_part ds h q) : v__law_part s__law_roll (endR q) (startD K07.N__law_part ds) h := by
  obtain ⟨n, c, m, t, ns, rfl, nm, dc, hc, em, kn, ht0, ht6, z⟩ := z
  have nlt := dc.lt
  have mlt := (List.getElem?_eq_some_iff.mp em).1
  have nsl := kn.le
  refine ⟨_, rfl, _, rfl, n, c, t, rfl, dc, by omega, ht0, by omega, fun h1 r0 g1 d1 hr0 => ?_⟩
  have eT : (1 : Int) + (r0 : Int) = ((r0 + 1 : Nat) : Int) := by omega
  have l1 := g1.1
  refine oAdd_int ?_
  rw [eT]
  dsimp only [MV.wNil]
  refine ⟨by show 0 ≤ sizeLine; decide, _, _, rfl, ?_⟩
  have b0 : LP n m c h1.length (r0 + 1) ns h 0 [] [] (((startD K07.N__law_part [.ref n, .ref m, .int (t : Nat)]).set 4 (some (.int ((r0 + 1 : Nat) : Int)))).set 5 (some (.ref h1.length))) (h1 ++ [Cell.lst []]) :=
    ⟨rfl, rfl, rfl, rfl, rfl, g1.x.app _, d1.app _, app_at, ⟨rfl, fun i p e => by simp at e⟩, rfl, fun p hp => by cases hp⟩
  have hF : h.length ≤ h1.length := by omega
  generalize ((startD K07.N__law_part [.ref n, .ref m, .int (t : Nat)]).set 4 (some (.int ((r0 + 1 : Nat) : Int)))).set 5 (some (.ref h1.length)) = sl0 at b0 ⊢
  generalize h1.length = F at b0 hF ⊢
  generalize h1 ++ [Cell.lst []] = h2 at b0 ⊢
  have hT : r0 + 1 ≤ 6 := by omega
  generalize hTT : r0 + 1 = T at b0 hT ⊢
  have nF : F ≠ n := by omega
  have mF : m ≠ F := by omega
  refine ⟨_, b0.s4, (T : Int), rfl, by omega, by omega, ?_⟩
  dsimp only
  have lenR : (MP.rngD 0 (T : Int).toNat).length = T := by unfold MP.rngD; simp
  refine it_by (MP.rngD 0 (T : Int).toNat) (fun i sl h' => ∃ xs pl, LP n m c F T ns h i xs pl sl h') ⟨_, _, b0⟩ (fun i sl h' _ _ => rfl) (fun i x sl h' e p => ?_) (fun sl h' p => ?_)
  · obtain ⟨xs, pl, b⟩ := p
    have hi : i < T := by rw [← lenR]; exact (List.getElem?_eq_some_iff.mp e).1
    have b1 := b.slot 3 (some x)
    show MV.wSeq _ _ _ (sl.set 3 (some x)) h'
    generalize sl.set 3 (some x) = sl1 at b1 ⊢
    -- row = {}
    have hB := h'
    have q0 : LQ n m F T h'.length ns h' (c + 1 + 4 * i) [] (sl1.set 6 (some (.ref h'.length))) (h' ++ [Cell.dct false false []]) :=
      ⟨by rw [List.length_set]; exact b1.len, by rw [List.getElem?_set_ne (by decide)]; exact b1.s0, by rw [List.getElem?_set_ne (by decide)]; exact b1.s1, by rw [List.getElem?_set_ne (by decide)]; exact b1.s4, by rw [List.getElem?_set_ne (by decide)]; exact b1.s5,
        List.getElem?_set_self (by rw [b1.len]; decide), Gx.refl.app _, b1.dc.app _, app_at, .nil⟩
    show MV.wSeq _ _ _ (sl1.set 6 (some (.ref h'.length))) (h' ++ [Cell.dct false false []])
    generalize sl1.set 6 (some (.ref h'.length)) = sl2 at q0 ⊢
    generalize h' ++ [Cell.dct false false []] = h3 at q0 ⊢
    have hR : h.length ≤ h'.length := b1.gx.1
    have Flt := (List.getElem?_eq_some_iff.mp b1.ls).1
    have em' := b1.gx.lst (Ne.symm nm) em
    have nlt' := b1.dc.lt
    refine ⟨_, q0.s1, m, ns.map .str, rfl, by unfold MP.items; rw [q0.gx.lst (Ne.symm nm) em'], ?_⟩
    refine it_by (ns.map .str) (fun j sl' h4 => ∃ r, LQ n m F T h'.length ns h' (c + 1 + 4 * i + j) r sl' h4) ⟨_, q0⟩ (fun j sl' h4 _ p => by obtain ⟨r, p⟩ := p; unfold MP.itLst MP.items; rw [p.gx.lst (Ne.symm nm) em']; rfl) (fun j x sl' h4 e4 p => ?_) (fun sl' h4 p => ?_)
    · obtain ⟨r, p⟩ := p
      rw [List.getElem?_map] at e4
      obtain ⟨a, ea, rfl⟩ := Option.map_eq_some_iff.mp e4
      have hj : j < 3 := Nat.lt_of_lt_of_le (List.getElem?_eq_some_iff.mp ea).1 nsl
      have p1 := p.slot 7 (some (.str a)) (by decide)
      have t7 : (sl'.set 7 (some (D.str a)))[7]? = some (some (.str a)) := List.getElem?_set_self (by rw [p.len]; decide)
      show MV.wSeq _ _ _ (sl'.set 7 (some (D.str a))) h4
      generalize sl'.set 7 (some (D.str a)) = sl3 at p1 t7 ⊢
      refine ⟨_, p1.s0, _, p1.s4, ?_⟩
      dsimp only [MV.wC]
      refine oAdd_int ?_
      refine ⟨n, _, T + 1, rfl, p1.dc, by omega, by omega, by omega, fun h5 tg g5 d5 htg => ?_⟩
      have nR : h'.length ≠ n := by omega
      have p2 : LQ n m F T h'.length ns h' (c + 1 + 4 * i + (j + 1)) r (sl3.set 8 (some (.int (tg : Nat)))) h5 :=
        let pp := p1.slot 8 (some (.int (tg : Nat))) (by decide)
        { pp with gx := p1.gx.trans g5.x, dc := d5, rw' := by rw [g5.2 _ nR]; exact p1.rw' }
      have u7 : (sl3.set 8 (some (D.int (tg : Nat))))[7]? = some (some (.str a)) := by rw [List.getElem?_set_ne (by decide)]; exact t7
      have u8 : (sl3.set 8 (some (D.int (tg : Nat))))[8]? = some (some (.int (tg : Nat))) := List.getElem?_set_self (by rw [p1.len]; decide)
      show MV.wIfS _ _ _ _ (sl3.set 8 (some (D.int (tg : Nat)))) h5
      generalize sl3.set 8 (some (D.int (tg : Nat))) = sl4 at p2 u7 u8 ⊢
      refine ⟨_, u8, _, p2.s4, _, rfl, ?_⟩
      by_cases hlt : tg < T
      · refine ift (by simpa using hlt) ?_
        refine ⟨_, u8, _, p2.s6, _, u7, ?_⟩
        refine oSet_dct p2.rw' rfl (by unfold rowK; rw [List.length_map]; exact size_small (Nat.le_trans p2.gr.len (by omega))) ?_
        rw [putD_row]
        exact ⟨putR r a tg, { p2 with gx := p2.gx.setN _ (Nat.le_refl _), dc := p2.dc.setN _ nR, rw' := set_at p2.rw', gr := p2.gr.put (List.mem_of_getElem? ea) hlt }⟩
      · refine iff_ (by simpa using hlt) ?_
        exact ⟨r, p2⟩
    · obtain ⟨r, p⟩ := p
      rw [List.length_map] at p
      have lsF := p.gx.lst nF b1.ls
      refine ⟨_, p.s5, ⟨_, _, rfl, lsF⟩, ?_⟩
      refine ⟨_, p.s6, _, p.s0, ?_⟩
      dsimp only [MV.wC]
      refine ⟨n, _, 2, rfl, p.dc, by omega, by decide, by decide, fun h5 r2 g5 d5 hr2 => ?_⟩
      dsimp only [MV.wC, MV.wNil]
      have lsF5 := g5.lst nF lsF
      have nR : h'.length ≠ n := by omega
      have rw5 : h5[h'.length]? = some (.dct false false (rowK r)) := by rw [g5.2 _ nR]; exact p.rw'
      have it5 := (b1.it.gx b1.dc (p.gx.trans g5.x))
      have lx : xs.length = i := by rw [b1.it.1, b1.pn]
      refine ⟨by show 2 ≤ sizeLine; decide, F, xs, _, rfl, rfl, lsF5, by rw [lx]; exact size_small (by omega), ?_⟩
      have st := (it5.setL lsF5 (.lst (xs ++ [.tup [.ref h'.length, .bl (decide ((r2 : Int) = 0))]]))).snoc (decide ((r2 : Int) = 0)) (lk0 := false) (r := r) (R := h'.length) (by rw [List.getElem?_set_ne (by omega)]; exact rw5)
      refine ⟨_, _, p.len, p.s0, p.s1, p.s4, p.s5, ((b1.gx.trans p.gx).trans g5.x).setN _ hF, ?_, set_at lsF5, st, by simp [b1.pn], fun y hy => ?_⟩
      · obtain ⟨x1, x2, x3⟩ : ∃ cc, cc ≤ c + 1 + 4 * (i + 1) ∧ Dice cc h5 n := ⟨_, by omega, d5⟩
        exact (x3.mono x2).setN _ nF
      · rcases List.mem_append.mp hy with k | k
        · exact b1.gr y k
        · rw [List.mem_singleton] at k; rw [k]; exact p.gr
  · obtain ⟨xs, pl, b⟩ := p
    rw [lenR] at b
    refine ⟨_, b.s5, ?_⟩
    refine z h' F xs pl b.gx hF (b.dc.mono (by omega)) b.ls b.it ⟨by rw [b.pn]; omega, by rw [b.pn]; omega, fun p hp => by rw [b.pn]; exact b.gr p hp⟩ (by rw [b.pn]; omega)
end K07S

set_option Elab.async false
set_option linter.all false
set_option maxRecDepth 100000
set_option maxHeartbeats 2000000
/-! K07M: the part of a plain one. -/
namespace K07S
open PySem PySem.Spec
open PyProof.Rows hiding St
open L2
open MP (D Cell Hd Sd WE WT WA WS WG WI EndsD ItD SpD endR startD itSeq items tyD truD getD putD keyOk wipeD lenD sortS ltS leS dctOf itKeys itVals PyR PyRs dictOfPairs)
open MV K07V
theorem dop : ∀ (kvs acc : List (D × D)), ((acc ++ kvs).map (·.1)).Nodup → kvs.foldl (fun acc p => putD acc p.1 p.2) acc = acc ++ kvs
  | [], acc, _ => by simp
  | p :: kvs, acc, nd => by
    rw [List.foldl_cons, putD_new]
    · rw [dop kvs (acc ++ [(p.1, p.2)]) (by simpa using nd)]; simp
    · intro x hx e
      rw [List.map_append, List.nodup_append] at nd
      exact nd.2.2 x.1 (List.mem_map.mpr ⟨x, hx, rfl⟩) p.1 (by simp) e
theorem dict_row {r : Row} (nd : (keysR r).Nodup) : dictOfPairs (rowK r) = rowK r := by
  unfold MP.dictOfPairs
  rw [dop _ _ (by
    rw [List.nil_append, rowK_keys]
    exact List.pairwise_map.mpr (nd.imp fun h z => h (by injection z)))]
  simp
theorem IsRows.push {h : Hd} {ds : List D} {rs : List Row} {d : D} {r : Row} (k : IsRows h ds rs) (e : IsRow h d r) : IsRows h (ds ++ [d]) (rs ++ [r]) := ⟨by simp [k.1], fun i d' r' a b => by
  by_cases hi : i < ds.length
  · rw [List.getElem?_append_left hi] at a
    rw [List.getElem?_append_left (by rw [← k.1]; exact hi)] at b
    exact k.2 i d' r' a b
  · rw [List.getElem?_append_right (by omega)] at a
    rw [List.getElem?_append_right (by rw [← k.1]; omega), ← k.1] at b
    have : i - ds.length = 0 := by
      have := (List.getElem?_eq_some_iff.mp a).1
      simp at this; omega
    rw [this] at a b
    simp at a b
    rw [← a, ← b]; exact e⟩
theorem rows_ok {ns : List Str} {pl : Pl} (k : GP ns pl) (s : NS ns) : RowsOk (rowsOf pl) := by
  have ln : (rowsOf pl).length = pl.length := by unfold rowsOf; simp
  refine ⟨fun r hr => ?_, by rw [ln]; exact k.pos, by rw [ln]; exact k.le, fun r hr p hp => ?_⟩
  · obtain ⟨y, hy, rfl⟩ := List.mem_map.mp hr
    exact (k.ok s).sm y hy
  · obtain ⟨y, hy, rfl⟩ := List.mem_map.mp hr
    refine ⟨(k.ok s).nm y hy p.1 (List.mem_map.mpr ⟨p, hp, rfl⟩), by rw [ln]; exact (k.row y hy).lt p hp⟩
def s__law_made_part : SpD := fun ds h q => ∃ F xs pl ns, ds = [.ref F] ∧ h[F]? = some (.lst xs) ∧ PlIts h xs pl ∧ GP ns pl ∧ NS ns ∧ ∀ h' d, Gr h h' → IsPart h' d pl → q d h'
theorem p_made_part {ds : List D} {h : Hd} {q : D → Hd → Prop} (z : s__law_made_part ds h q) : v__law_made_part s_Part (endR q) (startD K07.N__law_made_part ds) h := by
  obtain ⟨F, xs, pl, ns, rfl, eF, hp, k, s, z⟩ := z
  have lx := hp.1
  have l8 := k.le
  refine ⟨_, rfl, F, xs, rfl, by unfold MP.items; rw [eF], ?_⟩
  refine lc_by ((xs.zipIdx).map fun p => D.tup [.int (p.2 : Nat), p.1]) (fun i acc h' => h' = h ∧ acc = natsD ((List.range i).filter (restS pl))) ⟨rfl, rfl⟩ (fun i acc h' _ p => by rw [p.1]; unfold MP.itEnum MP.items; rw [eF]; simp [List.getElem?_zipIdx]; rfl) (fun i x acc h' e p => ?_) (fun acc h' p => ?_)
  · obtain ⟨rfl, rfl⟩ := p
    rw [List.getElem?_map, List.getElem?_zipIdx] at e
    obtain ⟨y, ey, rfl⟩ := Option.map_eq_some_iff.mp e
    obtain ⟨x, ex, rfl⟩ := Option.map_eq_some_iff.mp ey
    have hi : i < pl.length := by rw [← lx]; exact (List.getElem?_eq_some_iff.mp ex).1
    obtain ⟨m, lk0, e1, e2⟩ := hp.2 i _ (List.getElem?_eq_getElem hi)
    rw [ex] at e1
    obtain rfl := Option.some.inj e1
    refine ⟨_, rfl, rfl, _, _, rfl, _, _, rfl, rfl, ?_⟩
    refine ⟨_, rfl, ?_⟩
    dsimp only [MV.wC]
    refine oIx_tup (i := 1) (d := .bl pl[i].2) rfl ?_
    refine ⟨pl[i].2, rfl, ?_⟩
    have rs : restS pl i = pl[i].2 := by unfold restS; rw [List.getElem?_eq_getElem hi]; rfl
    have fl : (List.range (i + 1)).filter (restS pl) = (List.range i).filter (restS pl) ++ if pl[i].2 = true then [i] else [] := by
      rw [List.range_succ, List.filter_append, ← rs]
      by_cases h : restS pl i = true
      · rw [if_pos h]; simp [h]
      · rw [if_neg h]; simp at h; simp [h]
    have ll : ((List.range i).filter (restS pl)).length ≤ i := by
      have := List.length_filter_le (restS pl) (List.range i)
      simpa using this
    cases eb : pl[i].2 with
    | true =>
      refine ift rfl ?_
      refine ⟨_, rfl, by unfold natsD; rw [List.length_map]; exact size_small (by omega), rfl, ?_⟩
      rw [fl, eb]; unfold natsD; simp
    | false =>
      refine iff_ rfl ?_
      refine ⟨rfl, ?_⟩
      rw [fl, eb]; simp
  · obtain ⟨rfl, rfl⟩ := p
    have le : ((xs.zipIdx).map fun p => D.tup [.int (p.2 : Nat), p.1]).length = pl.length := by simp [lx]
    rw [le]
    dsimp only [MV.wNil]
    refine ⟨_, items_last, ?_⟩
    have gr1 : Gr h' (h' ++ [Cell.lst (natsD ((List.range pl.length).filter (restS pl)))]) := .app _
    have eF1 := gr1.lst eF
    have hp1 := hp.gr gr1
    generalize h' ++ [Cell.lst (natsD ((List.range pl.length).filter (restS pl)))] = h1 at gr1 eF1 hp1 ⊢
    refine ⟨_, rfl, F, xs, rfl, by unfold MP.items; rw [eF1], ?_⟩
    refine lc_by xs (fun i acc h2 => Gr h1 h2 ∧ IsRows h2 acc (rowsOf (pl.take i))) ⟨.refl, rfl, fun i d r a => by simp at a⟩ (fun i acc h2 _ p => by unfold MP.itLst MP.items; rw [p.1.lst eF1]; rfl) (fun i x acc h2 e p => ?_) (fun acc h2 p => ?_)
    · obtain ⟨g2, hacc⟩ := p
      have hi : i < pl.length := by rw [← lx]; exact (List.getElem?_eq_some_iff.mp e).1
      obtain ⟨m, lk0, e1, e2⟩ := (hp1.gr g2).2 i _ (List.getElem?_eq_getElem hi)
      rw [e] at e1
      obtain rfl := Option.some.inj e1
      refine ift rfl ?_
      refine ⟨_, rfl, ?_⟩
      dsimp only [MV.wC]
      refine oIx_tup (i := 0) (d := .ref m) rfl ?_
      refine ⟨m, lk0, rowK pl[i].1, rfl, e2, ?_⟩
      dsimp only [MV.wNil]
      have gl : acc.length = i := by rw [hacc.1]; unfold rowsOf; rw [List.length_map, List.length_take]; omega
      refine ⟨_, rowK pl[i].1, rfl, items_last, by unfold rowK; rw [List.all_map]; exact List.all_eq_true.mpr fun p _ => rfl, ?_⟩
      have rk := k.row _ (List.getElem_mem hi)
      rw [dict_row rk.nd]
      have g3 : Gr h2 (h2 ++ [Cell.lst ((rowK pl[i].1).map fun p => D.tup [p.1, p.2])] ++ [.dct false false (rowK pl[i].1)]) := (Gr.app _).trans (.app _)
      refine ⟨by rw [gl]; exact size_small (by omega), g2.trans g3, ?_⟩
      have et : rowsOf (pl.take (i + 1)) = rowsOf (pl.take i) ++ [pl[i].1] := by
        unfold rowsOf
        rw [List.take_add_one, List.getElem?_eq_getElem hi, List.map_append]; rfl
      rw [et]
      exact (hacc.gr g3).push ⟨_, false, rfl, app_at⟩
    · obtain ⟨g2, hacc⟩ := p
      rw [lx, List.take_length] at hacc
      dsimp only [MV.wNil]
      refine ⟨_, items_last, ?_⟩
      have g3 : Gr h2 (h2 ++ [Cell.lst acc]) := .app _
      have hacc3 := hacc.gr g3
      generalize h2 ++ [Cell.lst acc] = h3 at g3 hacc3 ⊢
      refine ⟨_, rfl, ?_⟩
      dsimp only [MV.wNil]
      refine ⟨h3, acc, rowsOf pl, idx pl, rfl, rfl, hacc3, rows_ok k s, ⟨ns, by have := s.le; omega, fun x hx => ?_⟩, List.Pairwise.filter _ List.pairwise_lt_range, fun x hx => ?_, fun h4 refs' acts g4 e4 r4 => ⟨rfl, ?_⟩⟩
      · obtain ⟨r, hr, hx⟩ := List.mem_flatMap.mp hx
        obtain ⟨y, hy, rfl⟩ := List.mem_map.mp hr
        exact (k.row y hy).sub x hx
      · unfold rowsOf; rw [List.length_map]
        have := (List.mem_filter.mp hx).1
        simpa using this
      · exact z h4 _ (gr1.trans (g2.trans (g3.trans g4))) ⟨h3.length, refs', acts, rfl, e4, r4⟩
end K07S

set_option Elab.async false
set_option linter.all false
set_option maxRecDepth 100000
set_option maxHeartbeats 2000000
/-! K07N: all words of some names. -/
namespace K07S
open PySem PySem.Spec
open PyProof.Rows hiding St
open L2
open MP (D Cell Hd Sd WE WT WA WS WG WI EndsD ItD SpD endR startD itSeq items tyD truD getD putD keyOk wipeD lenD sortS ltS leS dctOf itKeys itVals PyR PyRs)
open MV K07V
/-- a list of words of the names -/
structure WL (ns : List Str) (len num : Nat) (ws : List (List Str)) : Prop where
  nm : ∀ w ∈ ws, (∀ x ∈ w, x ∈ ns) ∧ w.length ≤ len
  le : ws.length ≤ num
def s__law_words : SpD := fun ds h q => ∃ (m : Nat) (ns : List Str), ds = [.ref m, .int (3 : Nat)] ∧ h[m]? = some (.lst (ns.map .str)) ∧ ns.length ≤ 3 ∧
  ∀ h' k ws, Gr h h' → h'[k]? = some (.lst (ws.map wD)) → WL ns 3 40 ws → q (.ref k) h'
structure LW (m : Nat) (ns : List Str) (h0 : Hd) (wl nl nf : Nat) (sl : Sd) (h : Hd) (L F : Nat) (ls fs : List (List Str)) : Prop where
  len : sl.length = 8
  s0 : sl[0]? = some (some (.ref m))
  s3 : sl[3]? = some (some (.ref F))
  s4 : sl[4]? = some (some (.ref L))
  gr : Gr h0 h
  le : h[L]? = some (.lst (ls.map wD))
  fe : h[F]? = some (.lst (fs.map wD))
  lw : WL ns wl nl ls
  fw : WL ns wl nf fs
def nlE : Nat → Nat
  | 0 => 1
  | i + 1 => 3 * nlE i
def nfE : Nat → Nat
  | 0 => 1
  | i + 1 => nfE i + nlE (i + 1)
theorem nl_le : ∀ {i : Nat}, i ≤ 3 → nlE i ≤ 27 ∧ nfE i ≤ 40
  | 0, _ => by decide
  | 1, _ => by decide
  | 2, _ => by decide
  | 3, _ => by decide
  | n + 4, h => absurd h (by omega)
theorem WL.app {ns : List Str} {a b c d : Nat} {xs ys : List (List Str)} (x : WL ns a c xs) (y : WL ns b d ys) (h : a ≤ b) : WL ns b (c + d) (xs ++ ys) := ⟨fun w hw => by
  rcases List.mem_append.mp hw with q | q
  · exact ⟨(x.nm w q).1, Nat.le_trans (x.nm w q).2 h⟩
  · exact y.nm w q, by rw [List.length_append]; exact Nat.add_le_add x.le y.le⟩
theorem p_words {ds : List D} {h : Hd} {q : D → Hd → Prop} (z : s__law_words ds h q) : v__law_words (endR q) (startD K07.N__law_words ds) h := by
  obtain ⟨m, ns, rfl, em, hn, z⟩ := z
  refine ⟨by show 0 ≤ sizeLine; decide, by show 1 ≤ sizeLine; decide, by show 0 ≤ sizeLine; decide, by show 1 ≤ sizeLine; decide, _, _, rfl, ?_⟩
  have w0 : WL ns 0 1 [[]] := ⟨fun w hw => by rw [List.mem_singleton] at hw; rw [hw]; exact ⟨fun x hx => (by cases hx), Nat.le_refl _⟩, Nat.le_refl _⟩
  have b0 : LW m ns h 0 (nlE 0) (nfE 0) (((startD K07.N__law_words [.ref m, .int (3 : Nat)]).set 3 (some (.ref h.length))).set 4 (some (.ref (h ++ [Cell.lst [.tup []]]).length))) (h ++ [Cell.lst [.tup []]] ++ [Cell.lst [.tup []]]) (h ++ [Cell.lst [.tup []]]).length h.length [[]] [[]] :=
    ⟨rfl, rfl, rfl, rfl, (Gr.app _).trans (.app _), app_at, (Gr.app _).lst app_at, w0, w0⟩
  have s1 : (((startD K07.N__law_words [.ref m, .int (3 : Nat)]).set 3 (some (.ref h.length))).set 4 (some (.ref (h ++ [Cell.lst [.tup []]]).length)))[1]? = some (some (.int (3 : Nat))) := rfl
  generalize ((startD K07.N__law_words [.ref m, .int (3 : Nat)]).set 3 (some (.ref h.length))).set 4 (some (.ref (h ++ [Cell.lst [.tup []]]).length)) = sl0 at b0 s1 ⊢
  generalize (h ++ [Cell.lst [.tup []]]).length = L0 at b0
  generalize h.length = F0 at b0
  generalize h ++ [Cell.lst [.tup []]] ++ [Cell.lst [.tup []]] = h1 at b0 ⊢
  refine ⟨_, s1, 3, rfl, by decide, by decide, ?_⟩
  refine it_by (MP.rngD 0 3) (fun i sl h' => ∃ L F ls fs, LW m ns h i (nlE i) (nfE i) sl h' L F ls fs) ⟨_, _, _, _, b0⟩ (fun i sl h' _ _ => rfl) (fun i x sl h' e p => ?_) (fun sl h' p => ?_)
  · obtain ⟨L, F, ls, fs, b⟩ := p
    have hi : i < 3 := (List.getElem?_eq_some_iff.mp e).1
    have bd := nl_le (Nat.le_of_lt hi)
    have bd2 := nl_le (show i + 1 ≤ 3 from hi)
    refine ⟨by show 0 ≤ sizeLine; decide, ?_⟩
    have lenb := b.len
    let sl1 := (sl.set 2 (some x)).set 5 (some (.ref h'.length))
    have t0 : sl1[0]? = some (some (.ref m)) := by show ((sl.set 2 (some x)).set 5 _)[0]? = _; rw [List.getElem?_set_ne (by decide), List.getElem?_set_ne (by decide)]; exact b.s0
    have t3 : sl1[3]? = some (some (.ref F)) := by show ((sl.set 2 (some x)).set 5 _)[3]? = _; rw [List.getElem?_set_ne (by decide), List.getElem?_set_ne (by decide)]; exact b.s3
    have t4 : sl1[4]? = some (some (.ref L)) := by show ((sl.set 2 (some x)).set 5 _)[4]? = _; rw [List.getElem?_set_ne (by decide), List.getElem?_set_ne (by decide)]; exact b.s4
    have t5 : sl1[5]? = some (some (.ref h'.length)) := List.getElem?_set_self (by rw [List.length_set]; omega)
    have tl : sl1.length = 8 := by show ((sl.set 2 (some x)).set 5 _).length = 8; simp [lenb]
    have g1 : Gr h' (h' ++ [Cell.lst []]) := .app _
    have e1 : (h' ++ [Cell.lst []])[h'.length]? = some (.lst ([].map wD)) := app_at
    show MV.wSeq _ _ _ sl1 (h' ++ [Cell.lst []])
    generalize sl1 = sl1 at t0 t3 t4 t5 tl ⊢
    generalize h' ++ [Cell.lst []] = h2 at g1 e1 ⊢
    have le2 := g1.lst b.le
    refine ⟨_, t4, L, ls.map wD, rfl, by unfold MP.items; rw [le2], ?_⟩
    have gm := (b.gr.trans g1).lst em
    have hR : h'.length ≤ h'.length := Nat.le_refl _
    generalize hRR : h'.length = R at e1 t5 hR
    refine it_by (ls.map wD) (fun j sl' h3 => sl'.length = 8 ∧ sl'[0]? = some (some (.ref m)) ∧ sl'[3]? = some (some (.ref F)) ∧ sl'[5]? = some (some (.ref R)) ∧ Gr h' h3 ∧ ∃ acc, h3[R]? = some (.lst (acc.map wD)) ∧ WL ns (i + 1) (3 * j) acc)
      ⟨tl, t0, t3, t5, g1, [], e1, ⟨fun w hw => (by cases hw), Nat.le_refl _⟩⟩ (fun j sl' h3 _ p => by unfold MP.itLst MP.items; rw [p.2.2.2.2.1.lst b.le]; rfl) (fun j x sl' h3 ej p => ?_) (fun sl' h3 p => ?_)
    · obtain ⟨l8, u0, u3, u5, g3, acc, e3, wl⟩ := p
      rw [List.getElem?_map] at ej
      obtain ⟨w, ew, rfl⟩ := Option.map_eq_some_iff.mp ej
      have hw := b.lw.nm w (List.mem_of_getElem? ew)
      have hj : j < 27 := by
        have := (List.getElem?_eq_some_iff.mp ew).1
        have := b.lw.le
        omega
      have v0 : (sl'.set 6 (some (wD w)))[0]? = some (some (.ref m)) := by rw [List.getElem?_set_ne (by decide)]; exact u0
      have v3 : (sl'.set 6 (some (wD w)))[3]? = some (some (.ref F)) := by rw [List.getElem?_set_ne (by decide)]; exact u3
      have v5 : (sl'.set 6 (some (wD w)))[5]? = some (some (.ref R)) := by rw [List.getElem?_set_ne (by decide)]; exact u5
      have v6 : (sl'.set 6 (some (wD w)))[6]? = some (some (wD w)) := List.getElem?_set_self (by omega)
      have vl : (sl'.set 6 (some (wD w))).length = 8 := by rw [List.length_set]; exact l8
      show MV.wExpr _ _ (sl'.set 6 (some (wD w))) h3
      generalize sl'.set 6 (some (wD w)) = sl2 at v0 v3 v5 v6 vl ⊢
      refine ⟨_, v5, ⟨_, _, rfl, e3⟩, ?_⟩
      have em3 := (b.gr.trans g3).lst em
      refine ⟨_, v0, m, ns.map .str, rfl, by unfold MP.items; rw [em3], ?_⟩
      refine lc_by (ns.map .str) (fun k ac h4 => h4 = h3 ∧ ac = (ns.take k).map fun a => wD (w ++ [a])) ⟨rfl, rfl⟩ (fun k ac h4 _ p => by rw [p.1]; unfold MP.itLst MP.items; rw [em3]; rfl) (fun k x ac h4 ek p => ?_) (fun ac h4 p => ?_)
      · obtain ⟨rfl, rfl⟩ := p
        rw [List.getElem?_map] at ek
        obtain ⟨a, ea, rfl⟩ := Option.map_eq_some_iff.mp ek
        have hk := (List.getElem?_eq_some_iff.mp ea).1
        refine ift rfl ?_
        have y6 : ((MP.wipeD sl2 [7]).set 7 (some (.str a)))[6]? = some (some (wD w)) := by
          rw [List.getElem?_set_ne (by decide)]
          show (sl2.set 7 none)[6]? = _
          rw [List.getElem?_set_ne (by decide)]; exact v6
        have y7 : ((MP.wipeD sl2 [7]).set 7 (some (.str a)))[7]? = some (some (.str a)) := List.getElem?_set_self (by show 7 < (sl2.set 7 none).length; rw [List.length_set]; omega)
        refine ⟨_, y6, _, y7, by show 1 ≤ sizeLine; decide, by rw [List.length_map]; exact Nat.le_of_lt (size_small (by simp; omega)), ?_⟩
        refine ⟨by rw [List.length_map, List.length_take]; exact size_small (by omega), rfl, ?_⟩
        rw [List.take_add_one, ea]; simp [wD]
      · obtain ⟨rfl, rfl⟩ := p
        rw [List.length_map, List.take_length]
        have hlt := (List.getElem?_eq_some_iff.mp e3).1
        refine ⟨R, h4.length, acc.map wD, _, rfl, rfl, by rw [List.getElem?_append_left hlt]; exact e3, app_at, ?_, ?_⟩
        · rw [List.length_map, List.length_map]
          have := wl.le
          exact Nat.le_of_lt (size_small (by omega))
        · refine ⟨vl, v0, v3, v5, (g3.trans (.app _)).set _ (by omega), acc ++ ns.map fun a => w ++ [a], ?_, ?_⟩
          · have : (acc ++ ns.map fun a => w ++ [a]).map wD = acc.map wD ++ ns.map fun a => wD (w ++ [a]) := by simp
            rw [this]
            exact set_at (by rw [List.getElem?_append_left hlt]; exact e3)
          · have := wl.app (b := i + 1) (d := 3) (ys := ns.map fun a => w ++ [a]) ⟨fun v hv => by
              obtain ⟨a, ha, rfl⟩ := List.mem_map.mp hv
              refine ⟨fun x hx => ?_, by rw [List.length_append, List.length_singleton]; omega⟩
              rcases List.mem_append.mp hx with q | q
              · exact hw.1 x q
              · rw [List.mem_singleton] at q; rw [q]; exact ha, by rw [List.length_map]; exact hn⟩ (Nat.le_refl _)
            exact this
    · obtain ⟨l8, u0, u3, u5, g3, acc, e3, wl⟩ := p
      rw [List.length_map] at wl
      have wl2 : WL ns (i + 1) (nlE (i + 1)) acc := ⟨wl.nm, Nat.le_trans wl.le (Nat.mul_le_mul_left 3 b.lw.le)⟩
      refine ⟨_, u5, ?_⟩
      dsimp only [MV.wNil]
      refine cList_lst e3 ?_
      have g4 : Gr h3 (h3 ++ [Cell.lst (acc.map wD)]) := .app _
      have e4 : (h3 ++ [Cell.lst (acc.map wD)])[h3.length]? = some (.lst (acc.map wD)) := app_at
      have f4 := (g3.trans g4).lst b.fe
      have x0 : (sl'.set 4 (some (.ref h3.length)))[0]? = some (some (.ref m)) := by rw [List.getElem?_set_ne (by decide)]; exact u0
      have x3 : (sl'.set 4 (some (.ref h3.length)))[3]? = some (some (.ref F)) := by rw [List.getElem?_set_ne (by decide)]; exact u3
      have x4 : (sl'.set 4 (some (.ref h3.length)))[4]? = some (some (.ref h3.length)) := List.getElem?_set_self (by omega)
      have xl : (sl'.set 4 (some (.ref h3.length))).length = 8 := by rw [List.length_set]; exact l8
      refine ⟨_, x3, _, x4, _, _, f4, e4, ?_, ?_⟩
      · rw [List.length_map, List.length_map]
        have := wl2.le
        have := b.fw.le
        exact Nat.le_of_lt (size_small (by omega))
      · refine ⟨h3.length, _, acc, fs ++ acc, by rw [List.length_set]; exact xl, by rw [List.getElem?_set_ne (by decide)]; exact x0, List.getElem?_set_self (by rw [List.length_set]; omega), by rw [List.getElem?_set_ne (by decide)]; exact x4, (b.gr.trans (g3.trans g4)).trans (.app _), (Gr.app _).lst e4, by rw [List.map_append]; exact app_at, wl2, b.fw.app wl2 (Nat.le_succ _)⟩
  · obtain ⟨L, F, ls, fs, b⟩ := p
    refine ⟨_, b.s3, ?_⟩
    exact z h' F fs b.gr b.fe ⟨b.fw.nm, b.fw.le⟩
end K07S

set_option Elab.async false
set_option linter.all false
set_option maxRecDepth 100000
set_option maxHeartbeats 2000000
/-! K07O: the law's own near part. -/
namespace K07S
open PySem PySem.Spec
open PyProof.Rows hiding St
open L2
open MP (D Cell Hd Sd WE WT WA WS WG WI EndsD ItD SpD endR startD itSeq items tyD truD getD putD keyOk wipeD lenD sortS ltS leS dctOf itKeys itVals PyR PyRs)
open MV K07V
/-- a list of fresh, open, unlike rows -/
def PlF (h : Hd) (lo : Nat) (xs : List D) (pl : Pl) : Prop := ∃ refs : List Nat, refs.length = pl.length ∧ xs.length = pl.length ∧ refs.Nodup ∧ (∀ m ∈ refs, lo ≤ m) ∧
  ∀ (i : Nat) p, pl[i]? = some p → ∃ m, refs[i]? = some m ∧ xs[i]? = some (.tup [.ref m, .bl p.2]) ∧ h[m]? = some (.dct false false (rowK p.1))
theorem PlF.its {h : Hd} {lo : Nat} {xs : List D} {pl : Pl} (k : PlF h lo xs pl) : PlIts h xs pl := by
  obtain ⟨refs, h1, h2, _, _, h5⟩ := k
  exact ⟨h2, fun i p e => by obtain ⟨m, _, e1, e2⟩ := h5 i p e; exact ⟨m, false, e1, e2⟩⟩
theorem PlF.push {h : Hd} {lo : Nat} {xs : List D} {pl : Pl} (k : PlF h lo xs pl) (hl : lo ≤ h.length) (p : Row × Bool) (c : Hd) : PlF (h ++ [.dct false false (rowK p.1)] ++ c) lo (xs ++ [.tup [.ref h.length, .bl p.2]]) (pl ++ [p]) := by
  obtain ⟨refs, h1, h2, h3, h4, h5⟩ := k
  have lt : ∀ m ∈ refs, m < h.length := fun m hm => by
    obtain ⟨i, hi, rfl⟩ := List.getElem_of_mem hm
    obtain ⟨m', e1, _, e3⟩ := h5 i _ (List.getElem?_eq_getElem (by omega))
    rw [List.getElem?_eq_getElem hi] at e1
    obtain rfl := Option.some.inj e1
    exact (List.getElem?_eq_some_iff.mp e3).1
  refine ⟨refs ++ [h.length], by simp [h1], by simp [h2], ?_, fun m hm => ?_, fun i q e => ?_⟩
  · exact List.nodup_append.mpr ⟨h3, by simp, fun x hx y hy e => by
      rw [List.mem_singleton] at hy
      have := lt x hx; omega⟩
  · rcases List.mem_append.mp hm with q | q
    · exact h4 m q
    · rw [List.mem_singleton] at q; omega
  · by_cases hi : i < pl.length
    · rw [List.getElem?_append_left hi] at e
      obtain ⟨m, e1, e2, e3⟩ := h5 i q e
      have := (List.getElem?_eq_some_iff.mp e3).1
      exact ⟨m, by rw [List.getElem?_append_left (by omega)]; exact e1, by rw [List.getElem?_append_left (by omega)]; exact e2, by rw [List.append_assoc, List.getElem?_append_left this]; exact e3⟩
    · have : i = pl.length := by
        have := (List.getElem?_eq_some_iff.mp e).1
        simp only [List.length_append, List.length_singleton] at this
        omega
      subst this
      rw [List.getElem?_append_right (Nat.le_refl _)] at e
      simp at e
      subst e
      refine ⟨h.length, by rw [← h1, List.getElem?_append_right (Nat.le_refl _)]; simp, by rw [← h2, List.getElem?_append_right (Nat.le_refl _)]; simp, ?_⟩
      rw [List.append_assoc, List.getElem?_append_right (Nat.le_refl _)]; simp
theorem PlF.app {h : Hd} {lo : Nat} {xs : List D} {pl : Pl} (k : PlF h lo xs pl) (c : Hd) : PlF (h ++ c) lo xs pl := by
  obtain ⟨refs, h1, h2, h3, h4, h5⟩ := k
  refine ⟨refs, h1, h2, h3, h4, fun i p e => ?_⟩
  obtain ⟨m, e1, e2, e3⟩ := h5 i p e
  exact ⟨m, e1, e2, by rw [List.getElem?_append_left (List.getElem?_eq_some_iff.mp e3).1]; exact e3⟩
theorem PlF.gs {c n : Nat} {h h' : Hd} {lo : Nat} {xs : List D} {pl : Pl} (k : PlF h lo xs pl) (d : Dice c h n) (g : Gs n h h') : PlF h' lo xs pl := by
  obtain ⟨refs, h1, h2, h3, h4, h5⟩ := k
  refine ⟨refs, h1, h2, h3, h4, fun i p e => ?_⟩
  obtain ⟨m, e1, e2, e3⟩ := h5 i p e
  obtain ⟨x, y, w, ed, _⟩ := d
  exact ⟨m, e1, e2, by rw [g.2 m (fun z => by rw [z, ed] at e3; cases e3)]; exact e3⟩
/-- .. a list's cell changed -/
theorem PlF.setL {h : Hd} {lo : Nat} {xs ys : List D} {pl : Pl} {F : Nat} (k : PlF h lo xs pl) (e : h[F]? = some (.lst ys)) (c : Cell) : PlF (h.set F c) lo xs pl := by
  obtain ⟨refs, h1, h2, h3, h4, h5⟩ := k
  refine ⟨refs, h1, h2, h3, h4, fun i p e0 => ?_⟩
  obtain ⟨m, e1, e2, e3⟩ := h5 i p e0
  exact ⟨m, e1, e2, by rw [List.getElem?_set_ne (fun z => by rw [← z, e] at e3; cases e3)]; exact e3⟩
/-- .. one row written -/
theorem PlF.put {h : Hd} {lo : Nat} {xs : List D} {pl : Pl} (k : PlF h lo xs pl) {i : Nat} {p : Row × Bool} {m : Nat} (ep : pl[i]? = some p) (ex : xs[i]? = some (.tup [.ref m, .bl p.2])) (r : Row) : PlF (h.set m (.dct false false (rowK r))) lo xs (pl.set i (r, p.2)) := by
  obtain ⟨refs, h1, h2, h3, h4, h5⟩ := k
  refine ⟨refs, by simp [h1], by simp [h2], h3, h4, fun j q e0 => ?_⟩
  obtain ⟨m0, f1, f2, f3⟩ := h5 i p ep
  rw [ex] at f2
  have em : m = m0 := by simpa using f2
  subst em
  by_cases hj : i = j
  · subst hj
    rw [List.getElem?_set_self (List.getElem?_eq_some_iff.mp ep).1] at e0
    obtain rfl := Option.some.inj e0
    exact ⟨m, f1, ex, List.getElem?_set_self (List.getElem?_eq_some_iff.mp f3).1⟩
  · rw [List.getElem?_set_ne hj] at e0
    obtain ⟨m1, g1, g2, g3⟩ := h5 j q e0
    refine ⟨m1, g1, g2, ?_⟩
    rw [List.getElem?_set_ne]
    · exact g3
    · intro z
      subst z
      exact hj ((List.getElem?_inj (List.getElem?_eq_some_iff.mp f1).1 h3).mp (by rw [f1, g1]))
/-- a plain part's item changed -/
theorem PlIts.putI {h : Hd} {xs : List D} {pl : Pl} (k : PlIts h xs pl) (i : Nat) {m : Nat} {lk0 : Bool} {r : Row} (b : Bool) (e : h[m]? = some (.dct false lk0 (rowK r))) : PlIts h (xs.set i (.tup [.ref m, .bl b])) (pl.set i (r, b)) := ⟨by simp [k.1], fun j q e0 => by
  by_cases hj : i = j
  · subst hj
    have hi : i < pl.length := by have := (List.getElem?_eq_some_iff.mp e0).1; simpa using this
    rw [List.getElem?_set_self hi] at e0
    obtain rfl := Option.some.inj e0
    exact ⟨m, lk0, List.getElem?_set_self (by rw [k.1]; exact hi), e⟩
  · rw [List.getElem?_set_ne hj] at e0
    obtain ⟨m1, l1, g1, g2⟩ := k.2 j q e0
    exact ⟨m1, l1, by rw [List.getElem?_set_ne hj]; exact g1, g2⟩⟩
theorem GP.set {ns : List Str} {pl : Pl} (k : GP ns pl) (i : Nat) {p : Row × Bool} (g : GR ns pl.length p.1) : GP ns (pl.set i p) := ⟨by rw [List.length_set]; exact k.pos, by rw [List.length_set]; exact k.le, fun q hq => by
  rw [List.length_set]
  rcases List.mem_or_eq_of_mem_set hq with h | h
  · exact k.row q h
  · rw [h]; exact g⟩
theorem GP.push {ns : List Str} {pl : Pl} (k : GP ns pl) (h7 : pl.length ≤ 7) {p : Row × Bool} (g : GR ns pl.length p.1) : GP ns (pl ++ [p]) := ⟨by simp, by simp; omega, fun q hq => by
  rw [List.length_append, List.length_singleton]
  rcases List.mem_append.mp hq with h | h
  · exact (k.row q h).mono (by omega)
  · rw [List.mem_singleton] at h; rw [h]; exact g.mono (by omega)⟩
end K07S

set_option Elab.async false
set_option linter.all false
set_option maxRecDepth 100000
set_option maxHeartbeats 2000000
/-! K07A: the law's own near part, its steps. -/
namespace K07S
open PySem PySem.Spec
open PyProof.Rows hiding St
open L2
open MP (D Cell Hd Sd WE WT WA WS WG WI EndsD ItD SpD endR startD itSeq items tyD truD getD putD keyOk wipeD lenD sortS ltS leS dctOf itKeys itVals PyR PyRs)
open MV K07V
def s__law_near_part : SpD := fun ds h q => ∃ (n c m F0 : Nat) (ns : List Str) (xs0 : List D) (pl0 : Pl), ds = [.ref n, .ref m, .ref F0] ∧ n ≠ m ∧ F0 ≠ n ∧ Dice c h n ∧ c + 300 ≤ 1000000 ∧ h[m]? = some (.lst (ns.map .str)) ∧ NS ns ∧ 0 < ns.length ∧
  h[F0]? = some (.lst xs0) ∧ PlIts h xs0 pl0 ∧ GP ns pl0 ∧ pl0.length ≤ 6 ∧
  ∀ h' F xs pl, Gx n h h' → h.length ≤ F → Dice (c + 200) h' n → h'[F]? = some (.lst xs) → PlIts h' xs pl → GP ns pl → q (.ref F) h'
/-- what stays through the near part's steps -/
structure NB (n m F : Nat) (way : Nat) (ns : List Str) (h0 : Hd) (c : Nat) (sl : Sd) (h : Hd) : Prop where
  len : sl.length = 14
  s0 : sl[0]? = some (some (.ref n))
  s1 : sl[1]? = some (some (.ref m))
  s4 : sl[4]? = some (some (.int (way : Nat)))
  s5 : sl[5]? = some (some (.ref F))
  gx : Gx n h0 h
  dc : Dice c h n
theorem near_ret {n m F way c c0 : Nat} {ns : List Str} {h0 h : Hd} {sl : Sd} {xs : List D} {pl : Pl} {q : D → Hd → Prop} (b : NB n m F way ns h0 c sl h) (nm : n ≠ m) (hc : c ≤ c0 + 150) (hc0 : c0 + 300 ≤ 1000000) (em : h0[m]? = some (.lst (ns.map .str))) (kn : NS ns)
    (hF : h0.length ≤ F) (ls : h[F]? = some (.lst xs)) (it : PlIts h xs pl) (gp : GP ns pl)
    (z : ∀ h' F xs pl, Gx n h0 h' → h0.length ≤ F → Dice (c0 + 200) h' n → h'[F]? = some (.lst xs) → PlIts h' xs pl → GP ns pl → q (.ref F) h') :
    (MV.wRet (wIf (wBl (wBin oLt (wSlot 4) (wC (.int 4)))) (wSlot 5) (wCall s__law_part (wCons (wSlot 0) (wCons (wSlot 1) (wCons (wC (.int 6)) wNil)))))) (endR q) sl h := by
  refine ⟨_, b.s4, ?_⟩
  dsimp only [MV.wC]
  refine ⟨_, rfl, ?_⟩
  by_cases hw : way < 4
  · refine ift (by simpa using (by omega : (way : Int) < 4)) ?_
    exact ⟨_, b.s5, z h F xs pl b.gx hF (b.dc.mono (by omega)) ls it gp⟩
  · refine iff_ (by simpa using (by omega : ¬ (way : Int) < 4)) ?_
    refine ⟨_, b.s0, _, b.s1, ?_⟩
    dsimp only [MV.wC, MV.wNil]
    refine ⟨n, c, m, 6, ns, rfl, nm, b.dc, by omega, b.gx.lst (Ne.symm nm) em, kn, by decide, by decide, fun h' F' xs' pl' g1 hF' d' ls' it' gp' _ => ?_⟩
    exact z h' F' xs' pl' (b.gx.trans g1) (Nat.le_trans b.gx.1 hF') (d'.mono (by omega)) ls' it' gp'
/-- the copy of a plain part -/
theorem near_copy {h : Hd} {sl : Sd} {F0 : Nat} {xs0 : List D} {pl0 : Pl} {ns : List Str} {Q : D → Hd → Prop} (s2 : sl[2]? = some (some (.ref F0))) (l14 : sl.length = 14) (e0 : h[F0]? = some (.lst xs0)) (it : PlIts h xs0 pl0) (gp : GP ns pl0)
    (z : ∀ h' xs F, Gr h h' → F < h'.length → h.length ≤ F → PlF h' h.length xs pl0 → h'[F]? = some (.lst xs) → Q (.ref F) h') :
    (MV.wLc (wOver (wSlot 2) fLst) (wGT 2 (wG1 (wNm 6) (wG1 (wNm 7) wG0))) wYes (wTup (wCons (wCB cDict (wCons (wListItemsR (wSlot 6)) wNil)) (wCons (wSlot 7) wNil))) [6, 7]) sl h Q := by
  have lx := it.1
  have l8 := gp.le
  refine ⟨_, s2, F0, xs0, rfl, by unfold MP.items; rw [e0], ?_⟩
  refine lc_by xs0 (fun i acc h' => Gr h h' ∧ PlF h' h.length acc (pl0.take i)) ⟨.refl, [], rfl, rfl, .nil, fun m hm => (by cases hm), fun i p e => by simp at e⟩ (fun i acc h' _ p => by unfold MP.itLst MP.items; rw [p.1.lst e0]; rfl) (fun i x acc h' e p => ?_) (fun acc h' p => ?_)
  · obtain ⟨g, k⟩ := p
    have hi : i < pl0.length := by rw [← lx]; exact (List.getElem?_eq_some_iff.mp e).1
    obtain ⟨m, lk0, e1, e2⟩ := (it.gr g).2 i _ (List.getElem?_eq_getElem hi)
    rw [e] at e1
    obtain rfl := Option.some.inj e1
    refine ⟨_, rfl, rfl, _, _, rfl, _, _, rfl, rfl, ?_⟩
    have wl : (MP.wipeD sl [6, 7]).length = 14 := by show ((sl.set 7 none).set 6 none).length = 14; simp [l14]
    generalize MP.wipeD sl [6, 7] = sw at wl
    refine ift rfl ?_
    refine ⟨_, by rw [List.getElem?_set_ne (by decide), List.getElem?_set_self (by omega)], m, lk0, rowK pl0[i].1, rfl, e2, ?_⟩
    dsimp only [MV.wNil]
    refine ⟨_, rowK pl0[i].1, rfl, items_last, by unfold rowK; rw [List.all_map]; exact List.all_eq_true.mpr fun p _ => rfl, ?_⟩
    have rk := gp.row _ (List.getElem_mem hi)
    rw [dict_row rk.nd]
    refine ⟨_, List.getElem?_set_self (by rw [List.length_set]; omega), by show 2 ≤ sizeLine; decide, ?_⟩
    have gl : acc.length = i := by obtain ⟨_, _, h2, _⟩ := k; rw [h2, List.length_take]; omega
    refine ⟨by rw [gl]; exact size_small (by omega), g.trans ((Gr.app _).trans (.app _)), ?_⟩
    have et : pl0.take (i + 1) = pl0.take i ++ [pl0[i]] := by rw [List.take_add_one, List.getElem?_eq_getElem hi]; rfl
    rw [et]
    have kk := (k.app [Cell.lst ((rowK pl0[i].1).map fun p => D.tup [p.1, p.2])]).push (by have := g.1; simp; omega) pl0[i] []
    rw [List.append_nil] at kk
    exact kk
  · obtain ⟨g, k⟩ := p
    rw [lx, List.take_length] at k
    exact z _ acc h'.length (g.trans (.app _)) (by simp) g.1 (k.app _) app_at
end K07S

set_option Elab.async false
set_option linter.all false
set_option maxRecDepth 100000
set_option maxHeartbeats 2000000
/-! K07B: the law's own near part. -/
namespace K07S
open PySem PySem.Spec
open PyProof.Rows hiding St
open L2
open MP (D Cell Hd Sd WE WT WA WS WG WI EndsD ItD SpD endR startD itSeq items tyD truD getD putD keyOk wipeD lenD sortS ltS leS dctOf itKeys itVals PyR PyRs)
open MV K07V
/-- .. and what is drawn -/
structure NC (n m F at_ m6 : Nat) (b6 : Bool) (way : Nat) (ns : List Str) (h0 : Hd) (c : Nat) (sl : Sd) (h : Hd) : Prop extends NB n m F way ns h0 c sl h where
  s3 : sl[3]? = some (some (.int (at_ : Nat)))
  s6 : sl[6]? = some (some (.ref m6))
  s7 : sl[7]? = some (some (.bl b6))
theorem skip_eq {way : Nat} {k : Int} {A : WS} {E : EndsD} {sl : Sd} {h : Hd} (s4 : sl[4]? = some (some (.int (way : Nat)))) (hk : (way : Int) ≠ k) (z : E.nx sl h) : MV.wIfS (wBl (wBin (oEq false) (wSlot 4) (wC (.int k)))) A wNext E sl h := by
  refine ⟨_, s4, ?_⟩
  dsimp only [MV.wC]
  refine ⟨_, rfl, ?_⟩
  exact iff_ (by simpa using hk) z
theorem take_eq {way : Nat} {k : Int} {A : WS} {E : EndsD} {sl : Sd} {h : Hd} (s4 : sl[4]? = some (some (.int (way : Nat)))) (hk : (way : Int) = k) (z : A E sl h) : MV.wIfS (wBl (wBin (oEq false) (wSlot 4) (wC (.int k)))) A wNext E sl h := by
  refine ⟨_, s4, ?_⟩
  dsimp only [MV.wC]
  refine ⟨_, rfl, ?_⟩
  exact ift (by simpa using hk) z
theorem skip_or {way : Nat} {k k2 : Int} {A : WS} {E : EndsD} {sl : Sd} {h : Hd} (s4 : sl[4]? = some (some (.int (way : Nat)))) (hk : (way : Int) ≠ k) (hk2 : (way : Int) ≠ k2) (z : E.nx sl h) : MV.wIfS (wOr (wBl (wBin (oEq false) (wSlot 4) (wC (.int k)))) (wBl (wBin (oEq false) (wSlot 4) (wC (.int k2))))) A wNext E sl h := by
  refine ⟨_, s4, ?_⟩
  dsimp only [MV.wC]
  refine ⟨_, rfl, ?_⟩
  refine iff_ (by simpa using hk) ?_
  refine ⟨_, s4, ?_⟩
  dsimp only [MV.wC]
  refine ⟨_, rfl, ?_⟩
  exact iff_ (by simpa using hk2) z
theorem take_or {way : Nat} {k k2 : Int} {A : WS} {E : EndsD} {sl : Sd} {h : Hd} (s4 : sl[4]? = some (some (.int (way : Nat)))) (hk : (way : Int) = k ∨ (way : Int) = k2) (z : A E sl h) : MV.wIfS (wOr (wBl (wBin (oEq false) (wSlot 4) (wC (.int k)))) (wBl (wBin (oEq false) (wSlot 4) (wC (.int k2))))) A wNext E sl h := by
  refine ⟨_, s4, ?_⟩
  dsimp only [MV.wC]
  refine ⟨_, rfl, ?_⟩
  by_cases h1 : (way : Int) = k
  · refine ift (by simpa using h1) ?_
    exact ift rfl z
  · refine iff_ (by simpa using h1) ?_
    refine ⟨_, s4, ?_⟩
    dsimp only [MV.wC]
    refine ⟨_, rfl, ?_⟩
    exact ift (by simpa using hk.resolve_left h1) z
theorem ixNat {n k : Nat} (h : k < n) : ixN n (k : Int) = some k := by
  unfold ixN
  rw [if_pos (by omega), if_pos (by omega)]; rfl
theorem NB.setN {n m F way c : Nat} {ns : List Str} {h0 h : Hd} {sl : Sd} (b : NB n m F way ns h0 c sl h) {k : Nat} (u : Cell) (hk : h0.length ≤ k) (kn : k ≠ n) : NB n m F way ns h0 c sl (h.set k u) :=
  { b with gx := b.gx.setN u hk, dc := b.dc.setN u kn }
structure NL (n m F at_ way L c lo : Nat) (ns : List Str) (h0 : Hd) (xs : List D) (pl : Pl) (sl : Sd) (h : Hd) : Prop extends NB n m F way ns h0 c sl h where
  s3 : sl[3]? = some (some (.int (at_ : Nat)))
  ls : h[F]? = some (.lst xs)
  pf : PlF h lo xs pl
  gp : GP ns pl
  pn : pl.length = L
theorem NL.slot {n m F at_ way L c lo : Nat} {ns : List Str} {h0 : Hd} {xs : List D} {pl : Pl} {sl : Sd} {h : Hd} (b : NL n m F at_ way L c lo ns h0 xs pl sl h) (k : Nat) (d : Option D) (hk : 6 ≤ k) : NL n m F at_ way L c lo ns h0 xs pl (sl.set k d) h :=
  { b with len := by rw [List.length_set]; exact b.len, s0 := by rw [List.getElem?_set_ne (by omega)]; exact b.s0, s1 := by rw [List.getElem?_set_ne (by omega)]; exact b.s1, s4 := by rw [List.getElem?_set_ne (by omega)]; exact b.s4, s5 := by rw [List.getElem?_set_ne (by omega)]; exact b.s5, s3 := by rw [List.getElem?_set_ne (by omega)]; exact b.s3 }
theorem near_turn {n m F at_ way L c lo : Nat} {ns : List Str} {h0 : Hd} {xs : List D} {pl : Pl} {sl : Sd} {h : Hd} {E : EndsD} (b : NL n m F at_ way L c lo ns h0 xs pl sl h) (nm : n ≠ m) (hc : c + 100 ≤ 1000000) (em : h0[m]? = some (.lst (ns.map .str))) (kn : NS ns) (hlo : h0.length ≤ lo) (nF : F ≠ n) (nlo : n < lo) (hL : 0 < L ∧ L ≤ 8)
    (z : ∀ pl' sl' h', NL n m F at_ way L (c + 3 * L) lo ns h0 xs pl' sl' h' → E.nx sl' h') :
    (MV.wFor (wOver (wSlot 5) fLst) (wGT 2 (wG1 (wNm 11) (wG1 (wNm 12) wG0)))
      (wFor (wOver (wSlot 1) fLst) (wNm 9)
      (wIfS (wAnd (wBl (wBin (oEq false) (wGet2 (wSlot 11) (wSlot 9) (wNegV (wC (.int 1)))) (wSlot 3))) (wBl (wBin (oEq false) (wCall s__law_roll (wCons (wSlot 0) (wCons (wC (.int 2)) wNil))) (wC (.int 0))))) (wAsg (wBin oSub (wCB cLen (wCons (wSlot 5) wNil)) (wC (.int 1))) (wSub (wSlot 11) (wSlot 9))) wNext))) E sl h := by
  have nsl := kn.le
  have lx : xs.length = L := by rw [b.pf.its.1, b.pn]
  refine ⟨_, b.s5, F, xs, rfl, by unfold MP.items; rw [b.ls], ?_⟩
  refine it_by xs (fun i sl h => ∃ pl, NL n m F at_ way L (c + 3 * i) lo ns h0 xs pl sl h) ⟨pl, b⟩ (fun i sl h _ p => by obtain ⟨_, p⟩ := p; unfold MP.itLst MP.items; rw [p.ls]; rfl) (fun i x sl h e p => ?_) (fun sl h p => ?_)
  · obtain ⟨pl, b⟩ := p
    have hi : i < L := by rw [← lx]; exact (List.getElem?_eq_some_iff.mp e).1
    obtain ⟨refs, r1, r2, r3, r4, r5⟩ := id b.pf
    obtain ⟨m6, f1, f2, f3⟩ := r5 i pl[i] (List.getElem?_eq_getElem (by rw [b.pn]; exact hi))
    rw [e] at f2
    obtain rfl := Option.some.inj f2
    have lo6 : lo ≤ m6 := r4 _ (List.mem_of_getElem? f1)
    refine ⟨_, rfl, rfl, _, _, rfl, _, _, rfl, rfl, ?_⟩
    have b1 := (b.slot 11 (some (.ref m6)) (by decide)).slot 12 (some (.bl (pl[i]'(by rw [b.pn]; exact hi)).2)) (by decide)
    have t11 : ((sl.set 11 (some (.ref m6))).set 12 (some (.bl (pl[i]'(by rw [b.pn]; exact hi)).2)))[11]? = some (some (.ref m6)) := by rw [List.getElem?_set_ne (by decide), List.getElem?_set_self (by rw [b.len]; decide)]
    show MV.wFor _ _ _ _ ((sl.set 11 (some (.ref m6))).set 12 (some (.bl (pl[i]'(by rw [b.pn]; exact hi)).2))) h
    generalize ((sl.set 11 (some (.ref m6))).set 12 (some (.bl (pl[i]'(by rw [b.pn]; exact hi)).2))) = sl1 at b1 t11 ⊢
    refine ⟨_, b1.s1, m, ns.map .str, rfl, by unfold MP.items; rw [b1.gx.lst (Ne.symm nm) em], ?_⟩
    refine it_by (ns.map .str) (fun j sl' h' => sl'[11]? = some (some (.ref m6)) ∧ ∃ pl', NL n m F at_ way L (c + 3 * i + j) lo ns h0 xs pl' sl' h') ⟨t11, pl, b1⟩ (fun j sl' h' _ p => by obtain ⟨_, _, p⟩ := p; unfold MP.itLst MP.items; rw [p.gx.lst (Ne.symm nm) em]; rfl) (fun j x sl' h' ej p => ?_) (fun sl' h' p => ?_)
    · obtain ⟨u11, pl', p⟩ := p
      rw [List.getElem?_map] at ej
      obtain ⟨a, ea, rfl⟩ := Option.map_eq_some_iff.mp ej
      have hj : j < 3 := Nat.lt_of_lt_of_le (List.getElem?_eq_some_iff.mp ea).1 nsl
      have p1 := p.slot 9 (some (.str a)) (by decide)
      have v9 : (sl'.set 9 (some (D.str a)))[9]? = some (some (.str a)) := List.getElem?_set_self (by rw [p.len]; decide)
      have v11 : (sl'.set 9 (some (D.str a)))[11]? = some (some (.ref m6)) := by rw [List.getElem?_set_ne (by decide)]; exact u11
      show MV.wIfS _ _ _ _ (sl'.set 9 (some (D.str a))) h'
      generalize sl'.set 9 (some (D.str a)) = sl2 at p1 v9 v11 ⊢
      have hi' : i < pl'.length := by rw [p1.pn]; exact hi
      obtain ⟨refs', q1, q2, q3, q4, q5⟩ := id p1.pf
      obtain ⟨m7, k1, k2, k3⟩ := q5 i pl'[i] (List.getElem?_eq_getElem hi')
      rw [e] at k2
      have em7 : m6 = m7 := by simp at k2; exact k2.1
      subst em7
      have eb : pl[i].2 = pl'[i].2 := by simp at k2; exact k2
      have exx : xs[i]? = some (.tup [.ref m6, .bl pl'[i].2]) := by rw [e, eb]
      refine ⟨_, v11, ⟨m6, false, false, _, rfl, k3⟩, _, v9, 1, rfl, m6, rowK pl'[i].1, rfl, ⟨_, _, k3, rfl⟩, ?_⟩
      have gv : ∃ g : Int, (getD (rowK pl'[i].1) (.str a)).getD (.int (-1)) = .int g := by
        rw [getD_rowK]
        cases lk pl'[i].1 a with
        | none => exact ⟨_, rfl⟩
        | some t => exact ⟨_, rfl⟩
      obtain ⟨g, eg⟩ := gv
      rw [eg]
      refine ⟨_, p1.s3, decide (g = (at_ : Int)), rfl, ?_⟩
      have up : NL n m F at_ way L (c + 3 * i + (j + 1)) lo ns h0 xs pl' sl2 h' := { p1 with dc := p1.dc.mono (by omega) }
      by_cases hg : g = (at_ : Int)
      · refine ift (by simpa using hg) ?_
        refine ⟨_, p1.s0, ?_⟩
        dsimp only [MV.wC, MV.wNil]
        refine ⟨n, _, 2, rfl, p1.dc, by omega, by decide, by decide, fun h5 r2 g5 d5 hr2 => ?_⟩
        have p2 : NL n m F at_ way L (c + 3 * i + (j + 1)) lo ns h0 xs pl' sl2 h5 := { p1 with gx := p1.gx.trans g5.x, dc := d5, ls := g5.lst nF p1.ls, pf := p1.pf.gs p1.dc g5 }
        dsimp only [MV.wC]
        refine ⟨_, rfl, ?_⟩
        by_cases h20 : (r2 : Int) = 0
        · refine ift (by simpa using h20) ?_
          refine ⟨_, p2.s5, _, L, rfl, by simp only [lenD, p2.ls]; rw [lx], ?_⟩
          dsimp only [MV.wC]
          refine ⟨_, v11, _, v9, ?_⟩
          have k5 : h5[m6]? = some (.dct false false (rowK pl'[i].1)) := by rw [g5.2 m6 (by omega)]; exact k3
          have gr' := p2.gp.row _ (List.getElem_mem hi')
          refine oSet_dct k5 rfl (by unfold rowK; rw [List.length_map]; exact size_small (Nat.le_trans gr'.len (by omega))) ?_
          have eL : (L : Int) - 1 = ((L - 1 : Nat) : Int) := by omega
          dsimp only
          rw [eL, putD_row]
          have pn := p2.pn
          refine ⟨v11, _, { p2.toNB.setN _ (by omega) (by omega) with s3 := p2.s3, ls := ?_, pf := p2.pf.put (List.getElem?_eq_getElem hi') exx _, gp := p2.gp.set i (gr'.put (List.mem_of_getElem? ea) (by omega)), pn := by rw [List.length_set]; exact p2.pn }⟩
          rw [List.getElem?_set_ne (fun zz => by rw [zz, p2.ls] at k5; cases k5)]
          exact p2.ls
        · refine iff_ (by simpa using h20) ?_
          exact ⟨v11, pl', p2⟩
      · refine iff_ (by simpa using hg) ?_
        exact iff_ rfl ⟨v11, pl', up⟩
    · obtain ⟨_, pl', p⟩ := p
      rw [List.length_map] at p
      exact ⟨pl', { p with dc := p.dc.mono (by omega) }⟩
  · obtain ⟨pl, b⟩ := p
    rw [lx] at b
    exact z pl sl h b
theorem lk_nd : ∀ {r : Row}, (keysR r).Nodup → ∀ p ∈ r, lk r p.1 = some p.2
  | [], _, p, hp => by cases hp
  | (b, n) :: r, nd, p, hp => by
    have nd' := List.nodup_cons.mp (show (b :: keysR r).Nodup from nd)
    unfold lk
    rw [List.lookup_cons]
    rcases List.mem_cons.mp hp with rfl | q
    · simp
    · have : (p.1 == b) = false := by
        rw [beq_eq_false_iff_ne]
        intro e
        exact nd'.1 (by rw [← e]; exact List.mem_map.mpr ⟨p, q, rfl⟩)
      rw [this]
      exact lk_nd nd'.2 p q
theorem p_near {ds : List D} {h : Hd} {q : D → Hd → Prop} (z : s__law_near_part ds h q) : v__law_near_part s__law_roll s__law_one_of s__law_part (endR q) (startD K07.N__law_near_part ds) h := by
  obtain ⟨n, c, m, F0, ns, xs0, pl0, rfl, nm, nF0, dc, hc, em, kn, hn0, e0, it0, gp, l6, z⟩ := z
  have nlt := dc.lt
  refine ⟨_, rfl, ?_⟩
  dsimp only [MV.wC, MV.wNil]
  refine ⟨n, c, 5, rfl, dc, by omega, by decide, by decide, fun h1 way g1 d1 hw => ?_⟩
  have l1 := g1.1
  refine near_copy (ns := ns) rfl rfl (g1.lst nF0 e0) (it0.gx dc g1.x) gp fun h2 xs F g2 hF hF2 k eF => ?_
  refine ⟨_, _, rfl, ?_⟩
  have d2 := d1.gr g2
  have nF : F ≠ n := by omega
  have lx := k.its.1
  -- at
  refine ⟨_, rfl, _, rfl, _, xs.length, rfl, by simp only [lenD, eF], ?_⟩
  refine ⟨n, _, xs.length, rfl, d2, by omega, by rw [lx]; exact gp.pos, by rw [lx]; omega, fun h3 at_ g3 d3 hat => ?_⟩
  have eF3 := g3.lst nF eF
  have k3 := k.gs d2 g3
  obtain ⟨refs, r1, r2, r3, r4, r5⟩ := id k3
  obtain ⟨m6, f1, f2, f3⟩ := r5 at_ pl0[at_] (List.getElem?_eq_getElem (by omega))
  refine ⟨_, rfl, _, rfl, ?_⟩
  dsimp only
  refine oIx_lst eF3 (atI_natI f2) ?_
  refine ⟨_, rfl, rfl, _, _, rfl, _, _, rfl, rfl, ?_⟩
  have b : NC n m F at_ m6 (pl0[at_]'(by omega)).2 way ns h (c + 1 + 1) ((((((startD K07.N__law_near_part [.ref n, .ref m, .ref F0]).set 4 (some (.int (way : Nat)))).set 5 (some (.ref F))).set 3 (some (.int (at_ : Nat)))).set 6 (some (.ref m6))).set 7 (some (.bl (pl0[at_]'(by omega)).2))) h3 :=
    ⟨⟨rfl, rfl, rfl, rfl, rfl, (g1.x.trans g2.x).trans g3.x, d3⟩, rfl, rfl, rfl⟩
  have hlo : h.length ≤ h1.length := by omega
  have hat' : at_ < pl0.length := by omega
  have hFh : h.length ≤ F := by omega
  have ep : pl0[at_]? = some pl0[at_] := List.getElem?_eq_getElem hat'
  generalize ((((((startD K07.N__law_near_part [.ref n, .ref m, .ref F0]).set 4 (some (.int (way : Nat)))).set 5 (some (.ref F))).set 3 (some (.int (at_ : Nat)))).set 6 (some (.ref m6))).set 7 (some (.bl (pl0[at_]'(by omega)).2))) = sl at b ⊢
  have kt := k3.its
  have five : way = 0 ∨ way = 1 ∨ way = 2 ∨ way = 3 ∨ way = 4 := by omega
  rcases five with rfl | rfl | w23
  · -- a rest turned
    refine take_eq b.s4 rfl ?_
    refine ⟨_, b.s6, _, b.s7, _, rfl, by show 2 ≤ sizeLine; decide, ?_⟩
    refine ⟨_, b.s5, _, b.s3, ?_⟩
    refine oSet_lst eF3 (ixNat hat) ?_
    have b' := b.toNB.setN (.lst (xs.set at_ (.tup [.ref m6, .bl !(pl0[at_]'(by omega)).2]))) hFh nF
    refine skip_eq b'.s4 (by decide) ?_
    refine skip_or b'.s4 (by decide) (by decide) ?_
    exact near_ret b' nm (by omega) hc em kn hFh (set_at eF3) ((kt.putI at_ _ f3).setL eF3 _) (gp.set at_ (p := (pl0[at_].1, !pl0[at_].2)) (gp.row pl0[at_] (List.getElem_mem hat'))) z
  · refine skip_eq b.s4 (by decide) ?_
    refine take_eq b.s4 rfl ?_
    have hx0 : xs.length = pl0.length := lx
    refine ⟨_, b.s0, _, b.s1, ?_⟩
    dsimp only [MV.wC, MV.wNil]
    refine ⟨n, _, m, ns.map .str, rfl, nm, b.dc, by omega, b.gx.lst (Ne.symm nm) em, by rw [List.length_map]; exact hn0, by rw [List.length_map]; have := kn.le; omega, fun h5 x g5 d5 hx => ?_⟩
    obtain ⟨a, ha, rfl⟩ := List.mem_map.mp hx
    have e5 := g5.lst nF eF3
    refine ⟨_, b.s0, _, b.s5, _, xs.length, rfl, by simp only [lenD, e5], ?_⟩
    dsimp only [MV.wC]
    refine oAdd_int ?_
    refine ⟨n, _, xs.length + 1, rfl, d5, by omega, by omega, by omega, fun h6 t g6 d6 ht => ?_⟩
    refine ⟨by show 2 ≤ sizeLine; decide, ?_⟩
    refine ⟨_, rfl, rfl, _, _, rfl, _, _, rfl, rfl, ?_⟩
    have gg := (b.gx.trans g5).trans g6.x
    have e6 := g6.lst nF e5
    have it6 := (kt.gx b.dc g5).gx d5 g6.x
    obtain ⟨m7, lk7, q1, q2⟩ := it6.2 at_ _ ep
    have em7 : m6 = m7 := by rw [f2] at q1; simpa using q1
    subst em7
    have nb1 : NB n m F 1 ns h (c + 1 + 1 + 2) ((sl.set 9 (some (.str a))).set 10 (some (.int (t : Nat)))) h6 := ⟨by simp [b.len], by rw [List.getElem?_set_ne (by decide), List.getElem?_set_ne (by decide)]; exact b.s0, by rw [List.getElem?_set_ne (by decide), List.getElem?_set_ne (by decide)]; exact b.s1, by rw [List.getElem?_set_ne (by decide), List.getElem?_set_ne (by decide)]; exact b.s4, by rw [List.getElem?_set_ne (by decide), List.getElem?_set_ne (by decide)]; exact b.s5, gg, d6⟩
    have t3 : ((sl.set 9 (some (.str a))).set 10 (some (.int (t : Nat))))[3]? = some (some (.int (at_ : Nat))) := by rw [List.getElem?_set_ne (by decide), List.getElem?_set_ne (by decide)]; exact b.s3
    have t6 : ((sl.set 9 (some (.str a))).set 10 (some (.int (t : Nat))))[6]? = some (some (.ref m6)) := by rw [List.getElem?_set_ne (by decide), List.getElem?_set_ne (by decide)]; exact b.s6
    have t7 : ((sl.set 9 (some (.str a))).set 10 (some (.int (t : Nat))))[7]? = some (some (.bl pl0[at_].2)) := by rw [List.getElem?_set_ne (by decide), List.getElem?_set_ne (by decide)]; exact b.s7
    have t9 : ((sl.set 9 (some (.str a))).set 10 (some (.int (t : Nat))))[9]? = some (some (.str a)) := by rw [List.getElem?_set_ne (by decide)]; exact List.getElem?_set_self (by rw [b.len]; decide)
    have t10 : ((sl.set 9 (some (.str a))).set 10 (some (.int (t : Nat))))[10]? = some (some (.int (t : Nat))) := List.getElem?_set_self (by rw [List.length_set, b.len]; decide)
    show MV.wSeq _ _ _ ((sl.set 9 (some (.str a))).set 10 (some (.int (t : Nat)))) h6
    generalize (sl.set 9 (some (D.str a))).set 10 (some (.int (t : Nat))) = sl1 at nb1 t3 t6 t7 t9 t10 ⊢
    have rk := gp.row _ (List.getElem_mem hat')
    generalize hr : pl0[at_].1 = r at q2 rk
    generalize hb : pl0[at_].2 = bb at t7
    refine ⟨_, t6, m6, false, lk7, rowK r, rfl, q2, trivial, ?_⟩
    have lgr : Gr h6 (h6.set m6 (.dct false true (rowK r))) := by
      cases lk7 with
      | false => exact .lock q2
      | true => rw [show h6.set m6 (.dct false true (rowK r)) = h6 from by
          obtain ⟨hlt, he⟩ := List.getElem?_eq_some_iff.mp q2
          rw [← he]; exact List.set_getElem_self hlt]; exact .refl
    have q3 : (h6.set m6 (.dct false true (rowK r)))[m6]? = some (.dct false true (rowK r)) := set_at q2
    generalize h6.set m6 (.dct false true (rowK r)) = h7 at lgr q3 ⊢
    refine lc_by ((rowK r).map (·.1)) (fun i acc h' => h' = h7 ∧ acc = (rowK ((r.take i).filter fun p => decide (p.1 ≠ a))).map fun p => D.tup [p.1, p.2]) ⟨rfl, rfl⟩ (fun i acc h' _ p => by rw [p.1]; exact itKeys_at q3 i) (fun i x acc h' e p => ?_) (fun acc h' p => ?_)
    · obtain ⟨rfl, rfl⟩ := p
      rw [List.getElem?_map] at e
      obtain ⟨y, ey, rfl⟩ := Option.map_eq_some_iff.mp e
      unfold rowK at ey
      rw [List.getElem?_map] at ey
      obtain ⟨p, ep1, rfl⟩ := Option.map_eq_some_iff.mp ey
      have hp := List.mem_of_getElem? ep1
      have hir := (List.getElem?_eq_some_iff.mp ep1).1
      have rl := rk.len
      have ns3 := kn.le
      have u13 : ((MP.wipeD sl1 [13]).set 13 (some (.str p.1)))[13]? = some (some (.str p.1)) := List.getElem?_set_self (by show 13 < (sl1.set 13 none).length; rw [List.length_set, nb1.len]; decide)
      have u9 : ((MP.wipeD sl1 [13]).set 13 (some (.str p.1)))[9]? = some (some (.str a)) := by
        rw [List.getElem?_set_ne (by decide)]
        show (sl1.set 13 none)[9]? = _
        rw [List.getElem?_set_ne (by decide)]; exact t9
      have u6 : ((MP.wipeD sl1 [13]).set 13 (some (.str p.1)))[6]? = some (some (.ref m6)) := by
        rw [List.getElem?_set_ne (by decide)]
        show (sl1.set 13 none)[6]? = _
        rw [List.getElem?_set_ne (by decide)]; exact t6
      have nxt : (r.take (i + 1)).filter (fun p => decide (p.1 ≠ a)) = (r.take i).filter (fun p => decide (p.1 ≠ a)) ++ if p.1 = a then [] else [p] := by
        rw [List.take_add_one, ep1, List.filter_append]
        by_cases h : p.1 = a <;> simp [h]
      refine ⟨_, u13, _, u9, !decide (p.1 = a), rfl, ?_⟩
      by_cases hpa : p.1 = a
      · refine iff_ (by simp [hpa]) ⟨rfl, ?_⟩
        rw [nxt, if_pos hpa, List.append_nil]
      · refine ift (by simp [hpa]) ?_
        refine ⟨_, u13, _, u6, _, u13, ?_⟩
        dsimp only
        refine oIx_dct q3 rfl (d := .int (p.2 : Nat)) (by rw [getD_rowK, lk_nd rk.nd p hp]; rfl) ?_
        refine ⟨by show 2 ≤ sizeLine; decide, ?_, rfl, ?_⟩
        · unfold rowK; rw [List.length_map, List.length_map]
          have := List.length_filter_le (fun p : Str × Nat => decide (p.1 ≠ a)) (r.take i)
          rw [List.length_take] at this
          exact size_small (by omega)
        · rw [nxt, if_neg hpa]
          unfold rowK; simp
    · obtain ⟨rfl, rfl⟩ := p
      rw [show ((rowK r).map (·.1)).length = r.length by unfold rowK; simp, List.take_length]
      have eF7 := lgr.lst e6
      have it7 := it6.gr lgr
      have nb7 : NB n m F 1 ns h (c + 1 + 1 + 2) sl1 h' := { nb1 with gx := nb1.gx.trans lgr.x, dc := nb1.dc.gr lgr }
      have fl := List.length_filter_le (fun p : Str × Nat => decide (p.1 ≠ a)) r
      have rl := rk.len
      have ns3 := kn.le
      have rkf : GR ns pl0.length (r.filter fun p => decide (p.1 ≠ a)) := ⟨rk.nd.sublist (List.filter_sublist.map _), fun x hx => rk.sub x ((List.filter_sublist.map _).subset hx), fun p hp => rk.lt p (List.mem_filter.mp hp).1⟩
      have naf : a ∉ keysR (r.filter fun p => decide (p.1 ≠ a)) := fun hx => by
        obtain ⟨p, hp, e⟩ := List.mem_map.mp hx
        exact (of_decide_eq_true (List.mem_filter.mp hp).2) e
      have nb2 : NB n m F 1 ns h (c + 1 + 1 + 2) (sl1.set 8 (some (.ref h'.length))) h' := { nb7 with len := by rw [List.length_set]; exact nb7.len, s0 := by rw [List.getElem?_set_ne (by decide)]; exact nb7.s0, s1 := by rw [List.getElem?_set_ne (by decide)]; exact nb7.s1, s4 := by rw [List.getElem?_set_ne (by decide)]; exact nb7.s4, s5 := by rw [List.getElem?_set_ne (by decide)]; exact nb7.s5 }
      have v3 : (sl1.set 8 (some (.ref h'.length)))[3]? = some (some (.int (at_ : Nat))) := by rw [List.getElem?_set_ne (by decide)]; exact t3
      have v5 := nb2.s5
      have v7 : (sl1.set 8 (some (.ref h'.length)))[7]? = some (some (.bl bb)) := by rw [List.getElem?_set_ne (by decide)]; exact t7
      have v8 : (sl1.set 8 (some (.ref h'.length)))[8]? = some (some (.ref h'.length)) := List.getElem?_set_self (by rw [nb7.len]; decide)
      have v9 : (sl1.set 8 (some (.ref h'.length)))[9]? = some (some (.str a)) := by rw [List.getElem?_set_ne (by decide)]; exact t9
      have v10 : (sl1.set 8 (some (.ref h'.length)))[10]? = some (some (.int (t : Nat))) := by rw [List.getElem?_set_ne (by decide)]; exact t10
      have g78 : Gr h' (h' ++ [Cell.lst ((rowK (r.filter fun p => decide (p.1 ≠ a))).map fun p => D.tup [p.1, p.2])]) := .app _
      have e8 : (h' ++ [Cell.lst ((rowK (r.filter fun p => decide (p.1 ≠ a))).map fun p => D.tup [p.1, p.2])])[h'.length]? = some (.lst ((rowK (r.filter fun p => decide (p.1 ≠ a))).map fun p => D.tup [p.1, p.2])) := app_at
      have aux : ∀ (S : Sd → Hd → Prop) (hh : Hd), S (sl1.set 8 (some (.ref h'.length))) hh → MV.wNm 8 (.ref h'.length) sl1 hh S := fun S hh s => s
      refine aux _ _ ?_
      generalize sl1.set 8 (some (D.ref h'.length)) = sl2 at nb2 v3 v5 v7 v8 v9 v10 ⊢
      generalize h'.length = R8 at v8 e8
      generalize h' ++ [Cell.lst ((rowK (r.filter fun p => decide (p.1 ≠ a))).map fun p => D.tup [p.1, p.2])] = h8 at g78 e8 ⊢
      have eF8 := g78.lst eF7
      refine ⟨_, v8, _, v10, _, v5, _, xs.length, rfl, by simp only [lenD, eF8], _, rfl, ?_⟩
      by_cases htl : t < xs.length
      refine ift (by simpa using htl) ?_
      refine ⟨_, v9, _, v10, by show 2 ≤ sizeLine; decide, by show 1 ≤ sizeLine; decide, ?_⟩
      dsimp only [MV.wNil]
      have gx9 : Gx n h8 (h8 ++ [Cell.lst [D.tup [.str a, .int (t : Nat)]]]) := (Gr.app _).x
      have g89 : Gr h8 (h8 ++ [Cell.lst [D.tup [.str a, .int (t : Nat)]]]) := .app _
      have g79 := g78.trans g89
      have eF9 := g79.lst eF7
      have e89 := g89.lst e8
      have e9 : (h8 ++ [Cell.lst [D.tup [.str a, .int (t : Nat)]]])[h8.length]? = some (.lst [D.tup [.str a, .int (t : Nat)]]) := app_at
      generalize h8.length = R9 at e9 ⊢
      generalize h8 ++ [Cell.lst [D.tup [.str a, .int (t : Nat)]]] = h9 at gx9 g89 g79 eF9 e89 e9 ⊢
      refine ⟨_, _, e89, e9, by unfold rowK; simp only [List.length_map, List.length_cons, List.length_nil]; exact Nat.le_of_lt (size_small (by omega)), ?_⟩
      dsimp only [MV.wNil]
      refine ⟨_, rowK ((r.filter fun p => decide (p.1 ≠ a)) ++ [(a, t)]), rfl, by rw [items_last]; unfold rowK; simp, by unfold rowK; rw [List.all_map]; exact List.all_eq_true.mpr fun p _ => rfl, ?_⟩
      have rk2 : GR ns pl0.length ((r.filter fun p => decide (p.1 ≠ a)) ++ [(a, t)]) := ⟨by
        unfold keysR at naf ⊢
        rw [List.map_append]
        exact List.nodup_append.mpr ⟨rkf.nd, by simp, fun x hx y hy e => by
          simp at hy; obtain rfl := e.trans hy; exact naf hx⟩, fun x hx => by
        unfold keysR at hx
        rw [List.map_append] at hx
        rcases List.mem_append.mp hx with k | k
        · exact rkf.sub x k
        · simp at k; rw [k]; exact ha, fun p hp => by
        rcases List.mem_append.mp hp with k | k
        · exact rkf.lt p k
        · rw [List.mem_singleton] at k; rw [k]; omega⟩
      rw [dict_row rk2.nd]
      refine ⟨_, v7, by show 2 ≤ sizeLine; decide, ?_⟩
      refine ⟨_, v5, _, v3, ?_⟩
      have gz : Gr h9 (h9 ++ [Cell.lst (((rowK (r.filter fun p => decide (p.1 ≠ a))).map fun p => D.tup [p.1, p.2]) ++ [D.tup [.str a, .int (t : Nat)]])] ++ [.dct false false (rowK ((r.filter fun p => decide (p.1 ≠ a)) ++ [(a, t)]))]) := (Gr.app _).trans (.app _)
      have eFz := gz.lst eF9
      refine oSet_lst eFz (ixNat hat) ?_
      have nbz : NB n m F 1 ns h (c + 1 + 1 + 2) sl2 (h9 ++ [Cell.lst (((rowK (r.filter fun p => decide (p.1 ≠ a))).map fun p => D.tup [p.1, p.2]) ++ [D.tup [.str a, .int (t : Nat)]])] ++ [.dct false false (rowK ((r.filter fun p => decide (p.1 ≠ a)) ++ [(a, t)]))]) := { nb2 with gx := nb2.gx.trans (g79.x.trans gz.x), dc := nb2.dc.gr (g79.trans gz) }
      refine skip_or nb2.s4 (by decide) (by decide) ?_
      refine near_ret (nbz.setN _ hFh nF) nm (by omega) hc em kn hFh (set_at eFz) (((it7.gr (g79.trans gz)).putI at_ bb (lk0 := false) (r := (r.filter fun p => decide (p.1 ≠ a)) ++ [(a, t)]) app_at).setL eFz _) (gp.set at_ (p := ((r.filter fun p => decide (p.1 ≠ a)) ++ [(a, t)], bb)) rk2) z
      refine iff_ (by simpa using htl) ?_
      refine ⟨by show 0 ≤ sizeLine; decide, ?_⟩
      have gx9 : Gx n h8 (h8 ++ [Cell.lst []]) := (Gr.app _).x
      have g89 : Gr h8 (h8 ++ [Cell.lst []]) := .app _
      have g79 := g78.trans g89
      have eF9 := g79.lst eF7
      have e89 := g89.lst e8
      have e9 : (h8 ++ [Cell.lst []])[h8.length]? = some (.lst []) := app_at
      generalize h8.length = R9 at e9 ⊢
      generalize h8 ++ [Cell.lst []] = h9 at gx9 g89 g79 eF9 e89 e9 ⊢
      refine ⟨_, _, e89, e9, by unfold rowK; simp only [List.length_map, List.length_cons, List.length_nil]; exact Nat.le_of_lt (size_small (by omega)), ?_⟩
      dsimp only [MV.wNil]
      refine ⟨_, rowK (r.filter fun p => decide (p.1 ≠ a)), rfl, by rw [items_last]; unfold rowK; simp, by unfold rowK; rw [List.all_map]; exact List.all_eq_true.mpr fun p _ => rfl, ?_⟩
      have rk2 : GR ns pl0.length (r.filter fun p => decide (p.1 ≠ a)) := rkf
      rw [dict_row rk2.nd]
      refine ⟨_, v7, by show 2 ≤ sizeLine; decide, ?_⟩
      refine ⟨_, v5, _, v3, ?_⟩
      have gz : Gr h9 (h9 ++ [Cell.lst (((rowK (r.filter fun p => decide (p.1 ≠ a))).map fun p => D.tup [p.1, p.2]) ++ [])] ++ [.dct false false (rowK (r.filter fun p => decide (p.1 ≠ a)))]) := (Gr.app _).trans (.app _)
      have eFz := gz.lst eF9
      refine oSet_lst eFz (ixNat hat) ?_
      have nbz : NB n m F 1 ns h (c + 1 + 1 + 2) sl2 (h9 ++ [Cell.lst (((rowK (r.filter fun p => decide (p.1 ≠ a))).map fun p => D.tup [p.1, p.2]) ++ [])] ++ [.dct false false (rowK (r.filter fun p => decide (p.1 ≠ a)))]) := { nb2 with gx := nb2.gx.trans (g79.x.trans gz.x), dc := nb2.dc.gr (g79.trans gz) }
      refine skip_or nb2.s4 (by decide) (by decide) ?_
      refine near_ret (nbz.setN _ hFh nF) nm (by omega) hc em kn hFh (set_at eFz) (((it7.gr (g79.trans gz)).putI at_ bb (lk0 := false) (r := r.filter fun p => decide (p.1 ≠ a)) app_at).setL eFz _) (gp.set at_ (p := (r.filter fun p => decide (p.1 ≠ a), bb)) rk2) z
  · refine skip_eq b.s4 (by omega) ?_
    refine skip_eq b.s4 (by omega) ?_
    rcases (show (way = 2 ∨ way = 3) ∨ way = 4 by omega) with w23 | w4
    · refine take_or b.s4 (by omega) ?_
      refine ⟨_, b.s5, ⟨_, _, rfl, eF3⟩, ?_⟩
      refine ⟨_, b.s6, m6, false, rowK pl0[at_].1, rfl, f3, ?_⟩
      dsimp only [MV.wNil]
      refine ⟨_, rowK pl0[at_].1, rfl, items_last, by unfold rowK; rw [List.all_map]; exact List.all_eq_true.mpr fun p _ => rfl, ?_⟩
      have rk := gp.row _ (List.getElem_mem hat')
      rw [dict_row rk.nd]
      refine ⟨_, b.s7, by show 2 ≤ sizeLine; decide, ?_⟩
      have l3 : h1.length ≤ h3.length := by have := g2.1; have := g3.1; omega
      have kk := (k3.app [Cell.lst ((rowK pl0[at_].1).map fun p => D.tup [p.1, p.2])]).push (by simp; omega) pl0[at_] []
      rw [List.append_nil] at kk
      have g4 : Gr h3 (h3 ++ [Cell.lst ((rowK pl0[at_].1).map fun p => D.tup [p.1, p.2])] ++ [.dct false false (rowK pl0[at_].1)]) := (Gr.app _).trans (.app _)
      have eF4 := g4.lst eF3
      have d4 := d3.gr g4
      generalize (h3 ++ [Cell.lst ((rowK pl0[at_].1).map fun p => D.tup [p.1, p.2])]).length = R at kk ⊢
      generalize h3 ++ [Cell.lst ((rowK pl0[at_].1).map fun p => D.tup [p.1, p.2])] ++ [.dct false false (rowK pl0[at_].1)] = h4 at g4 eF4 d4 kk ⊢
      refine ⟨F, xs, _, rfl, rfl, eF4, by rw [lx]; exact size_small (by omega), ?_⟩
      have nb : NB n m F way ns h (c + 1 + 1) sl h4 := { b.toNB with gx := b.gx.trans g4.x, dc := d4 }
      refine near_turn (L := pl0.length + 1) (lo := h1.length) ⟨nb.setN _ hFh nF, b.s3, set_at eF4, kk.setL eF4 _, gp.push (by omega) rk, by simp⟩ nm (by omega) em kn hlo nF (by omega) (by omega) fun pl' sl' h' p => ?_
      exact near_ret p.toNB nm (by omega) hc em kn hFh p.ls p.pf.its p.gp z
    · refine skip_or b.s4 (by omega) (by omega) ?_
      exact near_ret b.toNB nm (by omega) hc em kn hFh eF3 kt gp z
end K07S

set_option Elab.async false
set_option linter.all false
set_option maxRecDepth 100000
set_option maxHeartbeats 2000000
/-! K07C: plain facts of the first difference. -/
namespace K07S
open PySem PySem.Spec
open PyProof.Rows hiding St
open L2
def Diag (ws : St2) : Prop := ∀ e ∈ ws, e.1.1 = e.1.2
theorem Diag.act {one : Pl} {l : Nat} {w : List Str} {ws : St2} {a : Str} (d : Diag ws) : Diag (act1 one one l l w ws a) := by
  unfold act1
  cases e : step one l a with
  | none => exact d
  | some x =>
    simp only
    split
    · exact d
    · intro y hy
      rcases List.mem_append.mp hy with q | q
      · exact d y q
      · rw [List.mem_singleton] at q; rw [q]
theorem Diag.fold {one : Pl} {l : Nat} {w : List Str} : ∀ (xs : List Str) {ws : St2}, Diag ws → Diag (xs.foldl (act1 one one l l w) ws)
  | [], _, d => d
  | x :: xs, _, d => Diag.fold xs d.act
theorem Diag.turn {one : Pl} {ws : St2} {at_ : Nat} (d : Diag ws) : Diag (turn one one ws at_) := by
  unfold K07S.turn
  cases e : ws[at_]? with
  | none => exact d
  | some y =>
    obtain ⟨⟨l, r⟩, w⟩ := y
    have : l = r := d _ (List.mem_of_getElem? e)
    subst this
    exact Diag.fold _ d
theorem Diag.bfs {one : Pl} : ∀ (n : Nat) {ws : St2} {at_ : Nat}, Diag ws → Diag (bfs one one n ws at_)
  | 0, _, _, d => d
  | n + 1, ws, at_, d => by
    unfold K07S.bfs
    split
    · exact Diag.bfs n d.turn
    · exact d
theorem first_self (one : Pl) : first one one = none := first_none fun e he => by
  have : e.1.1 = e.1.2 := Diag.bfs _ (fun e he => by rw [List.mem_singleton] at he; rw [he]) e he
  obtain ⟨⟨l, r⟩, w⟩ := e
  simp only at this
  subst this
  unfold diffAt; simp
end K07S

set_option Elab.async false
set_option linter.all false
set_option maxRecDepth 100000
set_option maxHeartbeats 2000000
/-! K07Sy: the first difference, the other way round. -/
namespace K07S
open PySem PySem.Spec
open PyProof.Rows hiding St
open MP (sortS leS)
open L2
def sw (e : (Nat × Nat) × List Str) : (Nat × Nat) × List Str := ((e.1.2, e.1.1), e.2)
def swS (ws : St2) : St2 := ws.map sw
theorem mem_sw {ws : St2} {x y : Nat} : (y, x) ∈ keys2 (swS ws) ↔ (x, y) ∈ keys2 ws := by
  unfold keys2 swS
  simp only [List.mem_map, sw]
  constructor
  · rintro ⟨e, ⟨e2, h2, rfl⟩, h⟩
    refine ⟨e2, h2, ?_⟩
    simp only [Prod.mk.injEq] at h
    exact Prod.ext h.2 h.1
  · rintro ⟨e, h2, h⟩
    exact ⟨_, ⟨e, h2, rfl⟩, by rw [h]⟩
theorem sw_act {one other : Pl} {l r : Nat} {w : List Str} (ws : St2) (a : Str) : swS (act1 one other l r w ws a) = act1 other one r l w (swS ws) a := by
  unfold act1
  cases step one l a with
  | none => cases step other r a <;> rfl
  | some x =>
    cases step other r a with
    | none => rfl
    | some y =>
      simp only
      by_cases h : (x, y) ∈ keys2 ws
      · rw [if_pos h, if_pos (mem_sw.mpr h)]
      · rw [if_neg h, if_neg (fun z => h (mem_sw.mp z))]
        unfold swS; simp [sw]
theorem sw_fold {one other : Pl} {l r : Nat} {w : List Str} : ∀ (xs : List Str) (ws : St2), swS (xs.foldl (act1 one other l r w) ws) = xs.foldl (act1 other one r l w) (swS ws)
  | [], _ => rfl
  | x :: xs, ws => by
    rw [List.foldl_cons, List.foldl_cons, sw_fold xs, sw_act]
def both (one other : Pl) (l r : Nat) (a : Str) : Bool := (step one l a).isSome && (step other r a).isSome
theorem fold_both {one other : Pl} {l r : Nat} {w : List Str} : ∀ (xs : List Str) (ws : St2), xs.foldl (act1 one other l r w) ws = (xs.filter (both one other l r)).foldl (act1 one other l r w) ws
  | [], _ => rfl
  | x :: xs, ws => by
    rw [List.foldl_cons, fold_both xs]
    by_cases h : both one other l r x = true
    · rw [List.filter_cons_of_pos h, List.foldl_cons]
    · rw [List.filter_cons_of_neg h]
      have : act1 one other l r w ws x = ws := by
        unfold act1
        unfold both at h
        cases h1 : step one l x with
        | none => rfl
        | some a => cases h2 : step other r x with
          | none => rfl
          | some b => rw [h1, h2] at h; exact absurd rfl h
      rw [this]
theorem mem_off {pl : Pl} {l : Nat} {a : Str} : a ∈ offK pl l ↔ (step pl l a).isSome = true := by
  unfold offK step
  cases pl[l]? with
  | none => simp
  | some p =>
    simp only [Option.map_some, Option.getD_some, Option.bind_some]
    rw [(MP.sortS_perm _).mem_iff]
    constructor
    · intro h; obtain ⟨n, e⟩ := lk_mem h; rw [e]; rfl
    · intro h
      obtain ⟨n, e⟩ := Option.isSome_iff_exists.mp h
      exact List.mem_map.mpr ⟨_, lk_val e, rfl⟩
theorem off_nd {pl : Pl} (k : ∀ p ∈ pl, RowOk p.1) (l : Nat) : (offK pl l).Nodup ∧ (offK pl l).Pairwise fun a b => leS a b = true := by
  unfold offK
  cases e : pl[l]? with
  | none => exact ⟨List.nodup_nil, .nil⟩
  | some p => exact ⟨(MP.sortS_perm _).nodup_iff.mpr (k p (List.mem_of_getElem? e)).nd, MP.sortS_pw _⟩
theorem both_comm (one other : Pl) (l r : Nat) : both other one r l = both one other l r := funext fun a => Bool.and_comm _ _
theorem off_both {one other : Pl} (k1 : ∀ p ∈ one, RowOk p.1) (k2 : ∀ p ∈ other, RowOk p.1) (l r : Nat) : (offK one l).filter (both one other l r) = (offK other r).filter (both one other l r) := by
  have n1 := off_nd k1 l
  have n2 := off_nd k2 r
  have perm : ((offK one l).filter (both one other l r)).Perm ((offK other r).filter (both one other l r)) := by
    refine (List.perm_ext_iff_of_nodup (n1.1.filter _) (n2.1.filter _)).mpr fun a => ?_
    rw [List.mem_filter, List.mem_filter, mem_off, mem_off]
    unfold both
    simp only [Bool.and_eq_true]
    constructor
    · rintro ⟨_, h1, h2⟩; exact ⟨h2, h1, h2⟩
    · rintro ⟨_, h1, h2⟩; exact ⟨h1, h1, h2⟩
  rw [MP.sortS_uniq perm (n1.2.filter _), MP.sortS_self (n2.2.filter _)]
theorem sw_turn {one other : Pl} (k1 : ∀ p ∈ one, RowOk p.1) (k2 : ∀ p ∈ other, RowOk p.1) (ws : St2) (at_ : Nat) : swS (turn one other ws at_) = turn other one (swS ws) at_ := by
  unfold K07S.turn
  have e : (swS ws)[at_]? = (ws[at_]?).map sw := by unfold swS; rw [List.getElem?_map]
  rw [e]
  cases ws[at_]? with
  | none => rfl
  | some y =>
    obtain ⟨⟨l, r⟩, w⟩ := y
    simp only [Option.map_some, sw]
    rw [sw_fold, fold_both, both_comm, fold_both (offK other r), both_comm, off_both k2 k1]
theorem sw_bfs {one other : Pl} (k1 : ∀ p ∈ one, RowOk p.1) (k2 : ∀ p ∈ other, RowOk p.1) : ∀ (n : Nat) (ws : St2) (at_ : Nat), swS (bfs one other n ws at_) = bfs other one n (swS ws) at_
  | 0, _, _ => rfl
  | n + 1, ws, at_ => by
    unfold K07S.bfs
    have : (swS ws).length = ws.length := by unfold swS; simp
    rw [this]
    split
    · rw [sw_bfs k1 k2 n, sw_turn k1 k2]
    · rfl
theorem sw_walk {one other : Pl} (k1 : ∀ p ∈ one, RowOk p.1) (k2 : ∀ p ∈ other, RowOk p.1) : walk other one = swS (walk one other) := by
  unfold walk
  rw [sw_bfs k1 k2, Nat.mul_comm]; rfl
theorem diff_comm (one other : Pl) (l r : Nat) : diffAt other one (r, l) = diffAt one other (l, r) := by
  unfold diffAt
  simp only
  rw [show decide (offK other r = offK one l) = decide (offK one l = offK other r) from decide_eq_decide.mpr eq_comm, Bool.beq_comm]
theorem first_comm {one other : Pl} (k1 : ∀ p ∈ one, RowOk p.1) (k2 : ∀ p ∈ other, RowOk p.1) : first other one = first one other := by
  unfold first
  rw [sw_walk k1 k2]
  unfold swS
  rw [List.find?_map]
  have : ((fun e => diffAt other one e.1) ∘ sw : (Nat × Nat) × List Str → Bool) = fun e => diffAt one other e.1 := funext fun e => diff_comm one other e.1.1 e.1.2
  rw [this]
  cases (walk one other).find? fun e => diffAt one other e.1 <;> rfl
end K07S

set_option Elab.async false
set_option linter.all false
set_option maxRecDepth 100000
set_option maxHeartbeats 2000000
/-! K07RA: plain facts for the law's main check: told words, and what repr gives. -/
namespace K07S
open PySem PySem.Spec
open PyProof.Rows hiding St
open L2
open MP (D Cell Hd Sd WE WT WA WS WG WI EndsD ItD SpD endR startD itSeq items tyD truD getD putD keyOk wipeD lenD sortS ltS leS dctOf itKeys itVals PyR PyRs dictOfPairs)
open MV K07V
/-- all letters of the words are steps of the one part -/
def Steps (one : Pl) (ws : St2) : Prop := ∀ e ∈ ws, ∀ x ∈ e.2, ∃ l, (step one l x).isSome = true
theorem Steps.act {one other : Pl} {l r : Nat} {w : List Str} {ws : St2} {a : Str} (hw : ∀ x ∈ w, ∃ l, (step one l x).isSome = true) (d : Steps one ws) : Steps one (act1 one other l r w ws a) := by
  unfold act1
  split
  · rename_i x y e1 e2
    split
    · exact d
    · intro e he
      rcases List.mem_append.mp he with q | q
      · exact d e q
      · rw [List.mem_singleton] at q
        rw [q]
        intro b hb
        rcases List.mem_append.mp hb with q | q
        · exact hw b q
        · rw [List.mem_singleton] at q
          exact ⟨l, by rw [q, e1]; rfl⟩
  · exact d
theorem Steps.fold {one other : Pl} {l r : Nat} {w : List Str} (hw : ∀ x ∈ w, ∃ l, (step one l x).isSome = true) : ∀ (xs : List Str) {ws : St2}, Steps one ws → Steps one (xs.foldl (act1 one other l r w) ws)
  | [], _, d => d
  | x :: xs, _, d => Steps.fold hw xs (d.act hw)
theorem Steps.turn {one other : Pl} {ws : St2} {at_ : Nat} (d : Steps one ws) : Steps one (turn one other ws at_) := by
  unfold K07S.turn
  split
  · rename_i p w e
    exact Steps.fold (fun x hx => d _ (List.mem_of_getElem? e) x hx) _ d
  · exact d
theorem Steps.bfs {one other : Pl} : ∀ (n : Nat) {ws : St2} {at_ : Nat}, Steps one ws → Steps one (bfs one other n ws at_)
  | 0, _, _, d => d
  | n + 1, ws, at_, d => by
    unfold K07S.bfs
    split
    · exact Steps.bfs n d.turn
    · exact d
theorem first_steps {one other : Pl} {w : List Str} (e : first one other = some w) : ∀ x ∈ w, ∃ l, (step one l x).isSome = true := by
  unfold first at e
  obtain ⟨y, hy, rfl⟩ := Option.map_eq_some_iff.mp e
  exact Steps.bfs _ (fun e he => by rw [List.mem_singleton] at he; rw [he]; intro x hx; cases hx) y (List.mem_of_find?_eq_some hy)
theorem first_nm {one other : Pl} {w : List Str} (k : PlOk one) (e : first one other = some w) : ∀ x ∈ w, nameS x = true := fun x hx => by
  obtain ⟨l, hl⟩ := first_steps e x hx
  have := mem_off.mpr hl
  unfold offK at this
  cases ep : one[l]? with
  | none => rw [ep] at this; simp at this
  | some p =>
    rw [ep] at this
    exact k.nm p (List.mem_of_getElem? ep) x (MP.mem_sortS.mp this)
theorem first_len {one other : Pl} {w : List Str} (k1 : PlOk one) (k2 : PlOk other) (e : first one other = some w) : w.length ≤ 64 := by
  unfold first at e
  obtain ⟨y, hy, rfl⟩ := Option.map_eq_some_iff.mp e
  have ok := walk_ok k1 k2
  have h1 := ok.wl y (List.mem_of_find?_eq_some hy)
  have h2 := ok.len
  have h3 : one.length * other.length ≤ 64 := Nat.mul_le_mul k1.le k2.le
  omega
theorem first_none_iff (W : Option (List Str)) : decide (wordO W = .non) = W.isNone := by
  cases W with
  | none => rfl
  | some w => exact decide_eq_false (fun z => by cases z)
/-! ### repr -/
def wordP : Option (List Str) → PyData
  | none => .none
  | some w => .tuple (strsP w)
theorem word_pyR (h : Hd) : ∀ W : Option (List Str), PyR h (wordO W) (wordP W)
  | none => .non
  | some w => .tup (pyRs_str h w)
def Wok (W : Option (List Str)) : Prop := ∀ w, W = some w → (∀ x ∈ w, nameS x = true) ∧ w.length ≤ 64
theorem name_shown {x : Str} (h : nameS x = true) : (reprText x).length ≤ 82 := by
  have h1 := StrLaws.reprText_len x fun c hc => by
    unfold nameS at h
    simp only [Bool.and_eq_true, List.all_eq_true] at h
    have := h.2 c hc
    unfold isL at this
    simp only [Bool.and_eq_true, decide_eq_true_eq] at this
    have : (16 : Nat) ^ 8 = 4294967296 := by decide
    omega
  have h2 : x.length ≤ 8 := by
    unfold nameS at h
    simp only [Bool.and_eq_true, decide_eq_true_eq] at h
    exact h.1.2
  omega
theorem strs_piled : ∀ {xs : List Str}, (∀ x ∈ xs, nameS x = true) → piled (PyData.shownAll (strsP xs)) ≤ 84 * xs.length
  | [], _ => Nat.le_refl _
  | x :: xs, h => by
    have h1 := strs_piled (xs := xs) fun y hy => h y (List.mem_cons_of_mem _ hy)
    have h2 := name_shown (h x List.mem_cons_self)
    unfold strsP at *
    rw [List.map_cons, PyData.shownAll, piled_cons, PyData.shown, List.length_cons]
    omega
theorem tuple_len (ts : List Str) : (tupleText ts).length ≤ 3 + piled ts := by
  unfold tupleText
  rw [strLen_append, strLen_append]
  have h1 : (Str.join ", " ts).length ≤ piled ts := by
    by_cases h : ts = []
    · subst h; exact Nat.le_refl _
    · have := join_length_add ts h; omega
  have h2 : ((if ts.length == 1 then ",)" else ")" : String) : Str).length ≤ 2 := by
    split <;> decide
  have h3 : ("(" : Str).length = 1 := rfl
  omega
theorem list_len2 (a b : Str) : (listText [a, b]).length = a.length + b.length + 4 := by
  unfold listText textFrom textFrom textFrom
  simp only [strLen_append]
  have e0 : (Str.ofString "[").length = 1 := rfl
  have e1 : (Str.ofString "]").length = 1 := rfl
  have e2 : (Str.ofString ", ").length = 2 := rfl
  have e3 : (Str.ofString "").length = 0 := rfl
  simp [e0, e1, e2, e3]
  omega
theorem strs_show : ∀ xs : List Str, PyData.showableAll (strsP xs) = true ∧ PyData.hasDictAll (strsP xs) = false ∧ PyData.depthAll (strsP xs) = 0
  | [] => ⟨rfl, rfl, rfl⟩
  | x :: xs => by
    have ih := strs_show xs
    unfold strsP at *
    rw [List.map_cons]
    exact ⟨by rw [PyData.showableAll, PyData.showable, ih.1]; rfl, by rw [PyData.hasDictAll, PyData.hasDict, ih.2.1]; rfl, by rw [PyData.depthAll, PyData.depth, ih.2.2]; rfl⟩
theorem word_show : ∀ {W : Option (List Str)}, Wok W → (wordP W).showable = true ∧ (wordP W).hasDict = false ∧ (wordP W).depth ≤ 1 ∧ (wordP W).shown.length ≤ 10000
  | none, _ => ⟨rfl, rfl, by decide, by show (4 : Nat) ≤ 10000; decide⟩
  | some w, k => by
    obtain ⟨h1, h2⟩ := k w rfl
    obtain ⟨a, b, c⟩ := strs_show w
    refine ⟨by show PyData.showable (.tuple _) = true; rw [PyData.showable]; exact a, by show PyData.hasDict (.tuple _) = false; rw [PyData.hasDict]; exact b, by show PyData.depth (.tuple _) ≤ 1; rw [PyData.depth, c]; decide, ?_⟩
    show (PyData.shown (.tuple _)).length ≤ _
    rw [PyData.shown]
    have := tuple_len (PyData.shownAll (strsP w))
    have := strs_piled h1
    omega
/-- a list of two words, and its repr -/
theorem repr_words {h : Hd} {W : Option (List Str)} {Q : D → Hd → Prop} (k : Wok W) {m : Nat} (e : h[m]? = some (.lst [wordO W, wordO W])) (z : Q (.str (PyData.shown (.list [wordP W, wordP W]))) h) : MV.cRepr [.ref m] h Q := by
  obtain ⟨a, b, c, d⟩ := word_show k
  refine ⟨_, .list [wordP W, wordP W], rfl, .lst (by unfold MP.items; rw [e]) (.cons (word_pyR h W) (.cons (word_pyR h W) .nil)), ?_, ?_, ?_, ?_, z⟩
  · rw [PyData.showable, PyData.showableAll, PyData.showableAll, PyData.showableAll, a]; rfl
  · rw [PyData.hasDict, PyData.hasDictAll, PyData.hasDictAll, PyData.hasDictAll, b]; rfl
  · rw [PyData.shown, PyData.shownAll, PyData.shownAll, PyData.shownAll, list_len2]
    have : sizeLine = 16777216 := sizeLine_eq
    omega
  · rw [PyData.depth, PyData.depthAll, PyData.depthAll, PyData.depthAll]; omega
theorem repr_bl {h : Hd} {b : Bool} {Q : D → Hd → Prop} (z : Q (.str (PyData.shown (.bool b))) h) : MV.cRepr [.bl b] h Q :=
  ⟨_, .bool b, rfl, .bl b, rfl, rfl, by cases b <;> (show _ ≤ sizeLine) <;> rw [sizeLine_eq] <;> decide +kernel, Nat.zero_le _, z⟩
theorem repr_bls {h : Hd} {b : Bool} {Q : D → Hd → Prop} {m : Nat} (e : h[m]? = some (.lst [.bl b, .bl b])) (z : Q (.str (PyData.shown (.list [.bool b, .bool b]))) h) : MV.cRepr [.ref m] h Q := by
  refine ⟨_, .list [.bool b, .bool b], rfl, .lst (by unfold MP.items; rw [e]) (.cons (.bl b) (.cons (.bl b) .nil)), ?_, ?_, ?_, ?_, z⟩
  · cases b <;> rfl
  · cases b <;> rfl
  · rw [sizeLine_eq]; cases b <;> decide +kernel
  · cases b <;> decide
end K07S

set_option Elab.async false
set_option linter.all false
set_option maxRecDepth 100000
set_option maxHeartbeats 2000000
/-! K07RB: the law's main check. -/
namespace K07S
open PySem PySem.Spec
open PyProof.Rows hiding St
open L2
open MP (D Cell Hd Sd WE WT WA WS WG WI EndsD ItD SpD endR startD itSeq items tyD truD getD putD keyOk wipeD lenD sortS ltS leS dctOf itKeys itVals PyR PyRs dictOfPairs)
open MV K07V
/-- what stays from the parts' making on -/
structure RT (k F F2 : Nat) (d1 d2 : D) (ns : List Str) (xs xs2 : List D) (one other : Pl) (W : Option (List Str)) (sl : Sd) (h : Hd) : Prop where
  len : sl.length = 10
  s1 : sl[1]? = some (some (.ref k))
  s2 : sl[2]? = some (some (.ref F))
  s3 : sl[3]? = some (some (.ref F2))
  s4 : sl[4]? = some (some (wordO W))
  s8 : sl[8]? = some (some d1)
  s9 : sl[9]? = some (some d2)
  ek : h[k]? = some (.lst (ns.map .str))
  kn : NS ns
  n0 : 0 < ns.length
  i1 : IsPlain h (.ref F) one
  i2 : IsPlain h (.ref F2) other
  p1 : IsPart h d1 one
  p2 : IsPart h d2 other
  k1 : PlOk one
  k2 : PlOk other
  fw : first one other = W
  wk : Wok W
theorem RT.gr {k F F2 : Nat} {d1 d2 : D} {ns : List Str} {xs xs2 : List D} {one other : Pl} {W : Option (List Str)} {sl : Sd} {h h' : Hd} (r : RT k F F2 d1 d2 ns xs xs2 one other W sl h) (g : Gr h h') : RT k F F2 d1 d2 ns xs xs2 one other W sl h' :=
  ⟨r.len, r.s1, r.s2, r.s3, r.s4, r.s8, r.s9, g.lst r.ek, r.kn, r.n0, r.i1.gr g, r.i2.gr g, r.p1.gr g, r.p2.gr g, r.k1, r.k2, r.fw, r.wk⟩
theorem RT.set {k F F2 : Nat} {d1 d2 : D} {ns : List Str} {xs xs2 : List D} {one other : Pl} {W : Option (List Str)} {sl : Sd} {h : Hd} (r : RT k F F2 d1 d2 ns xs xs2 one other W sl h) {i : Nat} (hi : i = 5 ∨ i = 6 ∨ i = 7) (d : D) : RT k F F2 d1 d2 ns xs xs2 one other W (sl.set i (some d)) h :=
  ⟨by rw [List.length_set]; exact r.len, by rw [List.getElem?_set_ne (by omega)]; exact r.s1, by rw [List.getElem?_set_ne (by omega)]; exact r.s2, by rw [List.getElem?_set_ne (by omega)]; exact r.s3, by rw [List.getElem?_set_ne (by omega)]; exact r.s4, by rw [List.getElem?_set_ne (by omega)]; exact r.s8, by rw [List.getElem?_set_ne (by omega)]; exact r.s9,
   r.ek, r.kn, r.n0, r.i1, r.i2, r.p1, r.p2, r.k1, r.k2, r.fw, r.wk⟩
theorem at_0 {ns : List Str} (h : 0 < ns.length) : ∃ a ∈ ns, (ns.map D.str)[0]? = some (D.str a) :=
  ⟨ns[0], List.getElem_mem h, by rw [List.getElem?_map, List.getElem?_eq_getElem h]; rfl⟩
theorem or_list {W : Option (List Str)} {sl : Sd} {h : Hd} {Q : D → Hd → Prop} (s4 : sl[4]? = some (some (wordO W))) (z : ∀ xs, Q (.ref h.length) (h ++ [.lst xs])) : MV.wCB cList (wCons (wOrV (wSlot 4) (wTup wNil)) wNil) sl h Q := by
  refine ⟨_, s4, ?_⟩
  cases W with
  | none =>
    refine ⟨false, rfl, iff_ rfl ?_⟩
    exact ⟨Nat.zero_le _, z _⟩
  | some w =>
    cases w with
    | nil =>
      refine ⟨false, rfl, iff_ rfl ?_⟩
      exact ⟨Nat.zero_le _, z _⟩
    | cons a w =>
      refine ⟨true, rfl, ift rfl ?_⟩
      exact z _
theorem right_vals {k F F2 : Nat} {d1 d2 : D} {ns : List Str} {xs xs2 : List D} {one other : Pl} {W : Option (List Str)} {sl : Sd} {h : Hd} {q : D → Hd → Prop} (r : RT k F F2 d1 d2 ns xs xs2 one other W sl h) (z : ∀ h', Gr h h' → q (.bl true) h') :
    (MV.wSeq (wFor (wOver (wLst (wCons (wC .non) (wCons (wC (.int 0)) (wCons (wC (.str "")) (wCons (wBin oIx (wSlot 1) (wC (.int 0))) (wCons (wLst wNil) (wCons (wCB cList (wCons (wOrV (wSlot 4) (wTup wNil)) wNil)) (wCons (wTup (wCons (wC (.int 1)) wNil)) (wCons (wTup (wCons (wC (.str "A")) wNil)) (wCons (wTup (wCons (wTup wNil) wNil)) (wCons (wDNew false) (wCons (wC (.bl true)) (wCons (wTup (wCons (wC .non) wNil)) (wCons (wSlot 8) wNil)))))))))))))) fLst) (wNm 7)
      (wIfS (wBl (wBin (oIs true) (wCall s_is_difference (wCons (wSlot 8) (wCons (wSlot 9) (wCons (wSlot 7) wNil)))) (wC (.bl false)))) (wRet (wC (.bl false))) wNext))
    (wRet (wC (.bl true)))) (endR q) sl h := by
  obtain ⟨na, hna, a0⟩ := at_0 r.n0
  refine ⟨_, r.s1, ?_⟩
  dsimp only [MV.wC]
  refine oIx_lst (i := ((0 : Nat) : Int)) r.ek (atI_natI a0) ?_
  refine ⟨Nat.zero_le _, ?_⟩
  have g1 : Gr h (h ++ [Cell.lst []]) := .app _
  have x1 : okD (h ++ [Cell.lst []]) (.ref h.length) := ⟨_, app_at, rfl⟩
  generalize h ++ [Cell.lst []] = h1 at g1 x1 ⊢
  refine or_list r.s4 fun ys => ?_
  have g2 : Gr h1 (h1 ++ [Cell.lst ys]) := .app _
  have x2 : okD (h1 ++ [Cell.lst ys]) (.ref h1.length) := ⟨_, app_at, rfl⟩
  generalize h1 ++ [Cell.lst ys] = h2 at g2 x2 ⊢
  refine ⟨by show 1 ≤ sizeLine; decide, by show 1 ≤ sizeLine; decide, Nat.zero_le _, by show 1 ≤ sizeLine; decide, ?_⟩
  have g3 : Gr h2 (h2 ++ [Cell.dct false false []]) := .app _
  have x3 : okD (h2 ++ [Cell.dct false false []]) (.ref h2.length) := ⟨_, app_at, rfl⟩
  generalize e3 : h2 ++ [Cell.dct false false []] = h3 at g3 x3
  refine ⟨by show 1 ≤ sizeLine; decide, _, r.s8, by show 13 ≤ sizeLine; decide, ?_⟩
  have g13 := g1.trans (g2.trans g3)
  obtain ⟨nA, refA, actA, rfl, eA, _⟩ := (r.p1.gr g13)
  have nm0 : nameS na = true := r.kn.nm _ hna
  have all : ∀ x ∈ [D.non, .int 0, .str "", .str na, .ref h.length, .ref h1.length, .tup [.int 1], .tup [.str "A"], .tup [.tup []], .ref h2.length, .bl true, .tup [.non], .ref nA], okW h3 x ∧ wordD x = false := by
    have t1 : ∀ d, okD h3 d → okW h3 (.tup [d]) := fun d k => ⟨by show 1 < sizeLine; decide, fun x hx => by rw [List.mem_singleton] at hx; rw [hx]; exact k⟩
    have nA : nameS "A" = false := by decide
    intro x hx
    simp only [List.mem_cons, List.not_mem_nil, or_false] at hx
    rcases hx with rfl | rfl | rfl | rfl | rfl | rfl | rfl | rfl | rfl | rfl | rfl | rfl | rfl
    · exact ⟨trivial, rfl⟩
    · exact ⟨trivial, rfl⟩
    · exact ⟨Nat.zero_le _, rfl⟩
    · exact ⟨nameS_len nm0, rfl⟩
    · exact ⟨(x1.gr g2).gr g3, rfl⟩
    · exact ⟨x2.gr g3, rfl⟩
    · exact ⟨t1 _ trivial, rfl⟩
    · exact ⟨t1 _ (by show 1 ≤ sizeLine; decide), by simp only [wordD, List.all_cons, nameD, nA]; rfl⟩
    · exact ⟨t1 _ trivial, rfl⟩
    · exact ⟨x3, rfl⟩
    · exact ⟨trivial, rfl⟩
    · exact ⟨t1 _ trivial, rfl⟩
    · exact ⟨⟨_, eA, isTd_part⟩, rfl⟩
  show ∃ n xs, _ = D.ref n ∧ items _ n = some xs ∧ _
  refine ⟨_, _, rfl, items_last, ?_⟩
  rw [e3]
  have r3 := r.gr (g13.trans (.app [Cell.lst [D.non, .int 0, .str "", .str na, .ref h.length, .ref h1.length, .tup [.int 1], .tup [.str "A"], .tup [.tup []], .ref h2.length, .bl true, .tup [.non], .ref nA]]))
  have g4 : Gr h (h3 ++ [Cell.lst [D.non, .int 0, .str "", .str na, .ref h.length, .ref h1.length, .tup [.int 1], .tup [.str "A"], .tup [.tup []], .ref h2.length, .bl true, .tup [.non], .ref nA]]) := (g13.trans (.app _))
  have all' : ∀ x ∈ [D.non, .int 0, .str "", .str na, .ref h.length, .ref h1.length, .tup [.int 1], .tup [.str "A"], .tup [.tup []], .ref h2.length, .bl true, .tup [.non], .ref nA], okW (h3 ++ [Cell.lst [D.non, .int 0, .str "", .str na, .ref h.length, .ref h1.length, .tup [.int 1], .tup [.str "A"], .tup [.tup []], .ref h2.length, .bl true, .tup [.non], .ref nA]]) x ∧ wordD x = false := fun x hx => ⟨(all x hx).1.gr (.app _), (all x hx).2⟩
  have eL : (h3 ++ [Cell.lst [D.non, .int 0, .str "", .str na, .ref h.length, .ref h1.length, .tup [.int 1], .tup [.str "A"], .tup [.tup []], .ref h2.length, .bl true, .tup [.non], .ref nA]])[h3.length]? = some (Cell.lst [D.non, .int 0, .str "", .str na, .ref h.length, .ref h1.length, .tup [.int 1], .tup [.str "A"], .tup [.tup []], .ref h2.length, .bl true, .tup [.non], .ref nA]) := app_at
  clear all x1 x2 x3
  generalize h3.length = L at eL ⊢
  generalize [D.non, .int 0, .str "", .str na, .ref h.length, .ref h1.length, .tup [.int 1], .tup [.str "A"], .tup [.tup []], .ref h2.length, .bl true, .tup [.non], .ref nA] = vs at r3 g4 all' eL ⊢
  generalize h3 ++ [Cell.lst vs] = h4 at r3 g4 all' eL ⊢
  refine it_by vs (fun i sl' h' => RT k F F2 (.ref nA) d2 ns xs xs2 one other W sl' h' ∧ Gr h4 h') ⟨r3, .refl⟩ (fun i sl' h' _ p => by unfold MP.itLst MP.items; rw [p.2.lst eL]; rfl) (fun i x sl' h' e p => ?_) (fun sl' h' p => ?_)
  · obtain ⟨r', g'⟩ := p
    have hx := List.mem_of_getElem? e
    have s7 : (sl'.set 7 (some x))[7]? = some (some x) := List.getElem?_set_self (by rw [r'.len]; decide)
    have r5 := r'.set (i := 7) (.inr (.inr rfl)) x
    show MV.wIfS _ _ _ _ (sl'.set 7 (some x)) h'
    generalize sl'.set 7 (some x) = sl5 at s7 r5 ⊢
    refine ⟨_, r5.s8, _, r5.s9, _, s7, ?_⟩
    dsimp only [MV.wNil]
    refine ⟨.ref nA, d2, one, other, x, rfl, r5.p1, r5.p2, r5.k1, r5.k2, .inl ⟨(all' x hx).1.gr g', (all' x hx).2, fun h6 g6 => ?_⟩⟩
    refine ⟨_, rfl, ?_⟩
    refine iff_ rfl ?_
    exact ⟨r5.gr g6, g'.trans g6⟩
  · exact z _ (g4.trans p.2)
/-- the loop over the words -/
theorem right_words {k F F2 : Nat} {d1 d2 : D} {ns : List Str} {xs xs2 : List D} {one other : Pl} {W : Option (List Str)} {sl : Sd} {h : Hd} {q : D → Hd → Prop} {L : Nat} {ws : List (List Str)} (r : RT k F F2 d1 d2 ns xs xs2 one other W sl h) (s5 : sl[5]? = some (some (.ref L))) (eL : h[L]? = some (.lst (ws.map wD))) (kw : ∀ w ∈ ws, (∀ x ∈ w, nameS x = true) ∧ w.length ≤ 1000) (z : ∀ h', Gr h h' → q (.bl true) h') :
    (MV.wSeq (wFor (wOver (wSlot 5) fLst) (wNm 6)
      (wIfS (wBl (wBin (oEq true) (wCB cRepr (wCons (wCall s_is_difference (wCons (wSlot 8) (wCons (wSlot 9) (wCons (wSlot 6) wNil)))) wNil)) (wCB cRepr (wCons (wCall s__law_due (wCons (wSlot 2) (wCons (wSlot 3) (wCons (wSlot 6) wNil)))) wNil)))) (wRet (wC (.bl false))) wNext))
     (wSeq (wFor (wOver (wLst (wCons (wC .non) (wCons (wC (.int 0)) (wCons (wC (.str "")) (wCons (wBin oIx (wSlot 1) (wC (.int 0))) (wCons (wLst wNil) (wCons (wCB cList (wCons (wOrV (wSlot 4) (wTup wNil)) wNil)) (wCons (wTup (wCons (wC (.int 1)) wNil)) (wCons (wTup (wCons (wC (.str "A")) wNil)) (wCons (wTup (wCons (wTup wNil) wNil)) (wCons (wDNew false) (wCons (wC (.bl true)) (wCons (wTup (wCons (wC .non) wNil)) (wCons (wSlot 8) wNil)))))))))))))) fLst) (wNm 7)
      (wIfS (wBl (wBin (oIs true) (wCall s_is_difference (wCons (wSlot 8) (wCons (wSlot 9) (wCons (wSlot 7) wNil)))) (wC (.bl false)))) (wRet (wC (.bl false))) wNext))
    (wRet (wC (.bl true))))) (endR q) sl h := by
  refine ⟨_, s5, L, _, rfl, by unfold MP.items; rw [eL], ?_⟩
  refine it_by (ws.map wD) (fun i sl' h' => RT k F F2 d1 d2 ns xs xs2 one other W sl' h' ∧ Gr h h') ⟨r, .refl⟩ (fun i sl' h' _ p => by unfold MP.itLst MP.items; rw [p.2.lst eL]; rfl) (fun i x sl' h' e p => ?_) (fun sl' h' p => ?_)
  · obtain ⟨r', g'⟩ := p
    rw [List.getElem?_map] at e
    obtain ⟨w, ew, rfl⟩ := Option.map_eq_some_iff.mp e
    obtain ⟨wn, wl⟩ := kw w (List.mem_of_getElem? ew)
    have s6 : (sl'.set 6 (some (wD w)))[6]? = some (some (wD w)) := List.getElem?_set_self (by rw [r'.len]; decide)
    have r5 := r'.set (i := 6) (.inr (.inl rfl)) (wD w)
    show MV.wIfS _ _ _ _ (sl'.set 6 (some (wD w))) h'
    generalize sl'.set 6 (some (wD w)) = sl5 at s6 r5 ⊢
    refine ⟨_, r5.s8, _, r5.s9, _, s6, ?_⟩
    dsimp only [MV.wNil]
    refine ⟨d1, d2, one, other, wD w, rfl, r5.p1, r5.p2, r5.k1, r5.k2, .inr ⟨w, rfl, wn, size_small wl, fun h6 g6 => ?_⟩⟩
    refine repr_bl ?_
    have r6 := r5.gr g6
    refine ⟨_, r6.s2, _, r6.s3, _, s6, ?_⟩
    dsimp only [MV.wNil]
    refine ⟨_, _, one, other, w, rfl, r6.i1, r6.i2, r6.k1, r6.k2, fun h7 g7 => ?_⟩
    refine repr_bl ?_
    refine ⟨_, rfl, ?_⟩
    refine iff_ (by simp) ?_
    exact ⟨r6.gr g7, g'.trans (g6.trans g7)⟩
  · exact right_vals p.1 fun h' g => z _ (p.2.trans g)
end K07S

set_option Elab.async false
set_option linter.all false
set_option maxRecDepth 100000
set_option maxHeartbeats 2000000
/-! K07RC: the law's main check, whole. -/
namespace K07S
open PySem PySem.Spec
open PyProof.Rows hiding St
open L2
open MP (D Cell Hd Sd WE WT WA WS WG WI EndsD ItD SpD endR startD itSeq items tyD truD getD putD keyOk wipeD lenD sortS ltS leS dctOf itKeys itVals PyR PyRs dictOfPairs)
open MV K07V
theorem cut_some (w : List Str) (lo hi : Option Int) : ∃ w' : List Str, MP.cutD (w.map D.str) lo hi = w'.map D.str ∧ (∀ x ∈ w', x ∈ w) ∧ w'.length ≤ w.length := by
  unfold MP.cutD
  rw [← List.map_drop, ← List.map_take]
  exact ⟨_, rfl, fun x hx => List.mem_of_mem_drop (List.mem_of_mem_take hx), by rw [List.length_take, List.length_drop]; omega⟩
theorem atI_end {ns : List Str} (h : 0 < ns.length) : ∃ a ∈ ns, L2.atI (ns.map D.str) (-1) = some (D.str a) := by
  have hn : ns ≠ [] := List.ne_nil_of_length_pos h
  refine ⟨ns.getLast hn, List.getLast_mem hn, ?_⟩
  conv => lhs; rw [← List.dropLast_concat_getLast hn]
  rw [List.map_append]
  exact L2.atI_last _ _
theorem wadd {w v : List Str} {h : Hd} {Q : D → Hd → Prop} (hl : w.length + v.length ≤ 1000) (z : Q (wD (w ++ v)) h) : MV.oAdd (wD w) (.tup (v.map .str)) h Q := by
  refine ⟨?_, ?_⟩
  · rw [List.length_map, List.length_map]; exact Nat.le_of_lt (size_small hl)
  · rw [← List.map_append]; exact z
def kws (ws : List (List Str)) : Prop := ∀ w ∈ ws, (∀ x ∈ w, nameS x = true) ∧ w.length ≤ 1000
theorem p_more {k F F2 : Nat} {d1 d2 : D} {ns : List Str} {xs xs2 : List D} {one other : Pl} {w : List Str} {sl : Sd} {h : Hd} {L : Nat} {ws : List (List Str)} {Q : D → Hd → Prop} (r : RT k F F2 d1 d2 ns xs xs2 one other (some w) sl h) (s5 : sl[5]? = some (some (.ref L))) (eL : h[L]? = some (.lst (ws.map wD))) (kw : kws ws) (hl : ws.length ≤ 1000)
    (z : ∀ h' L' ws', Gr h h' → h'[L']? = some (.lst (ws'.map wD)) → kws ws' → Q (.ref L') h') : (MV.wBin oAdd (wSlot 5) (wLst (wCons (wSlot 4) (wCons (wBin oAdd (wSlot 4) (wTup (wCons (wBin oIx (wSlot 1) (wC (.int 0))) wNil))) (wCons (wSlice (wSlot 4) wNoPart (wPart (wNegV (wC (.int 1))))) (wCons (wBin oAdd (wSlot 4) (wSlot 4)) (wCons (wBin oAdd (wSlot 4) (wTup (wCons (wBin oIx (wSlot 1) (wNegV (wC (.int 1)))) (wCons (wBin oIx (wSlot 1) (wC (.int 0))) wNil)))) wNil))))))) sl h Q := by
  obtain ⟨na, hna, a0'⟩ := at_0 r.n0
  have a0 : L2.atI (ns.map D.str) ((0 : Nat) : Int) = some (D.str na) := atI_natI a0'
  obtain ⟨al, hal, al'⟩ := atI_end r.n0
  obtain ⟨w', ew', sub', len'⟩ := cut_some w none (some (-1))
  obtain ⟨wn, wl⟩ := r.wk w rfl
  refine ⟨_, s5, _, r.s4, _, r.s4, _, r.s1, ?_⟩
  dsimp only [MV.wC]
  refine oIx_lst (i := ((0 : Nat) : Int)) r.ek a0 ?_
  refine ⟨by show 1 ≤ sizeLine; decide, ?_⟩
  refine wadd (w := w) (v := [na]) (by simp; omega) ?_
  refine ⟨_, r.s4, 1, rfl, (-1 : Int), rfl, ?_⟩
  refine ⟨_, r.s4, _, r.s4, ?_⟩
  refine wadd (w := w) (v := w) (by omega) ?_
  refine ⟨_, r.s4, _, r.s1, 1, rfl, ?_⟩
  refine oIx_lst r.ek al' ?_
  refine ⟨_, r.s1, ?_⟩
  dsimp only [MV.wC]
  refine oIx_lst (i := ((0 : Nat) : Int)) r.ek a0 ?_
  refine ⟨by show 2 ≤ sizeLine; decide, ?_⟩
  refine wadd (w := w) (v := [al, na]) (by simp; omega) ?_
  refine ⟨by show 5 ≤ sizeLine; decide, ?_⟩
  have e5 : [wordO (some w), wD (w ++ [na]), .tup (MP.cutD (w.map D.str) none (some (-1))), wD (w ++ w), wD (w ++ [al, na])] = [w, w ++ [na], w', w ++ w, w ++ [al, na]].map wD := by
    rw [ew']; rfl
  refine ⟨ws.map wD, [w, w ++ [na], w', w ++ w, w ++ [al, na]].map wD, (Gr.app _).lst eL, ?_, ?_, ?_⟩
  · rw [← e5]; exact app_at
  · rw [List.length_map]
    have := size_small hl
    have e : sizeLine = 16777216 := sizeLine_eq
    show ws.length + 5 ≤ _
    omega
  · rw [← List.map_append]
    refine z _ _ _ ((Gr.app _).trans (.app _)) app_at ?_
    have n0 := r.kn.nm _ hna
    have nl := r.kn.nm _ hal
    intro v hv
    rcases List.mem_append.mp hv with hv | hv
    · exact kw v hv
    · simp only [List.mem_cons, List.not_mem_nil, or_false] at hv
      rcases hv with rfl | rfl | rfl | rfl | rfl
      · exact ⟨wn, by omega⟩
      · refine ⟨fun x hx => ?_, by simp; omega⟩
        rcases List.mem_append.mp hx with hx | hx
        · exact wn x hx
        · rw [List.mem_singleton] at hx; rw [hx]; exact n0
      · exact ⟨fun x hx => wn x (sub' x hx), by omega⟩
      · refine ⟨fun x hx => ?_, by simp; omega⟩
        rcases List.mem_append.mp hx with hx | hx
        · exact wn x hx
        · exact wn x hx
      · refine ⟨fun x hx => ?_, by simp; omega⟩
        rcases List.mem_append.mp hx with hx | hx
        · exact wn x hx
        · simp only [List.mem_cons, List.not_mem_nil, or_false] at hx
          rcases hx with rfl | rfl
          · exact nl
          · exact n0
/-- all behind the first word -/
theorem right_tail {k F F2 : Nat} {d1 d2 : D} {ns : List Str} {xs xs2 : List D} {one other : Pl} {W : Option (List Str)} {sl : Sd} {h : Hd} {q : D → Hd → Prop} (r : RT k F F2 d1 d2 ns xs xs2 one other W sl h) (z : ∀ h', Gr h h' → q (.bl true) h') :
    (MV.wSeq (wIfS (wBl (wBin (oEq true) (wCB cRepr (wCons (wLst (wCons (wCall s_difference (wCons (wSlot 8) (wCons (wSlot 9) wNil))) (wCons (wCall s_difference (wCons (wSlot 9) (wCons (wSlot 8) wNil))) wNil))) wNil)) (wCB cRepr (wCons (wLst (wCons (wSlot 4) (wCons (wSlot 4) wNil))) wNil)))) (wRet (wC (.bl false))) wNext)
    (wSeq (wIfS (wBl (wBin (oEq true) (wCB cRepr (wCons (wLst (wCons (wCall s_are_alike (wCons (wSlot 8) (wCons (wSlot 9) wNil))) (wCons (wCall s_are_alike (wCons (wSlot 9) (wCons (wSlot 8) wNil))) wNil))) wNil)) (wCB cRepr (wCons (wLst (wCons (wBin (oIs false) (wSlot 4) (wC .non)) (wCons (wBin (oIs false) (wSlot 4) (wC .non)) wNil))) wNil)))) (wRet (wC (.bl false))) wNext)
    (wSeq (wIfS (wOr (wBl (wBin (oIs true) (wCall s_difference (wCons (wSlot 8) (wCons (wSlot 8) wNil))) (wC .non))) (wBl (wBin (oIs true) (wCall s_are_alike (wCons (wSlot 9) (wCons (wSlot 9) wNil))) (wC (.bl true))))) (wRet (wC (.bl false))) wNext)
    (wSeq (wAsg (wCall s__law_words (wCons (wSlot 1) (wCons (wC (.int 3)) wNil))) (wNm 5))
    (wSeq (wIfS (wBl (wBin (oIs true) (wSlot 4) (wC .non))) (wAsg (wBin oAdd (wSlot 5) (wLst (wCons (wSlot 4) (wCons (wBin oAdd (wSlot 4) (wTup (wCons (wBin oIx (wSlot 1) (wC (.int 0))) wNil))) (wCons (wSlice (wSlot 4) wNoPart (wPart (wNegV (wC (.int 1))))) (wCons (wBin oAdd (wSlot 4) (wSlot 4)) (wCons (wBin oAdd (wSlot 4) (wTup (wCons (wBin oIx (wSlot 1) (wNegV (wC (.int 1)))) (wCons (wBin oIx (wSlot 1) (wC (.int 0))) wNil)))) wNil))))))) (wNm 5)) wNext)
    (wSeq (wFor (wOver (wSlot 5) fLst) (wNm 6)
      (wIfS (wBl (wBin (oEq true) (wCB cRepr (wCons (wCall s_is_difference (wCons (wSlot 8) (wCons (wSlot 9) (wCons (wSlot 6) wNil)))) wNil)) (wCB cRepr (wCons (wCall s__law_due (wCons (wSlot 2) (wCons (wSlot 3) (wCons (wSlot 6) wNil)))) wNil)))) (wRet (wC (.bl false))) wNext))
     (wSeq (wFor (wOver (wLst (wCons (wC .non) (wCons (wC (.int 0)) (wCons (wC (.str "")) (wCons (wBin oIx (wSlot 1) (wC (.int 0))) (wCons (wLst wNil) (wCons (wCB cList (wCons (wOrV (wSlot 4) (wTup wNil)) wNil)) (wCons (wTup (wCons (wC (.int 1)) wNil)) (wCons (wTup (wCons (wC (.str "A")) wNil)) (wCons (wTup (wCons (wTup wNil) wNil)) (wCons (wDNew false) (wCons (wC (.bl true)) (wCons (wTup (wCons (wC .non) wNil)) (wCons (wSlot 8) wNil)))))))))))))) fLst) (wNm 7)
      (wIfS (wBl (wBin (oIs true) (wCall s_is_difference (wCons (wSlot 8) (wCons (wSlot 9) (wCons (wSlot 7) wNil)))) (wC (.bl false)))) (wRet (wC (.bl false))) wNext))
    (wRet (wC (.bl true)))))))))) (endR q) sl h := by
  have fc : first other one = W := by rw [first_comm (fun p hp => r.k1.sm p hp) (fun p hp => r.k2.sm p hp)]; exact r.fw
  -- the words of both calls
  refine ⟨_, r.s8, _, r.s9, ?_⟩
  dsimp only [MV.wNil]
  refine ⟨d1, d2, one, other, rfl, r.p1, r.p2, r.k1, r.k2, fun h1 g1 => ?_⟩
  rw [r.fw]
  have r1 := r.gr g1
  refine ⟨_, r1.s9, _, r1.s8, ?_⟩
  dsimp only [MV.wNil]
  refine ⟨d2, d1, other, one, rfl, r1.p2, r1.p1, r.k2, r.k1, fun h2 g2 => ?_⟩
  rw [fc]
  have r2 := r1.gr g2
  refine ⟨by show 2 ≤ sizeLine; decide, ?_⟩
  try dsimp only [MV.wNil]
  refine repr_words r.wk app_at ?_
  refine ⟨_, r.s4, _, r.s4, by show 2 ≤ sizeLine; decide, ?_⟩
  try dsimp only [MV.wNil]
  refine repr_words r.wk app_at ?_
  refine ⟨_, rfl, ?_⟩
  refine iff_ (by simp) ?_
  have r3 := r2.gr ((Gr.app [Cell.lst [wordO W, wordO W]]).trans (.app [Cell.lst [wordO W, wordO W]]))
  have g3 := g1.trans (g2.trans ((Gr.app [Cell.lst [wordO W, wordO W]]).trans (.app [Cell.lst [wordO W, wordO W]])))
  show MV.wSeq _ _ _ _ (h2 ++ [Cell.lst [wordO W, wordO W]] ++ [Cell.lst [wordO W, wordO W]])
  generalize h2 ++ [Cell.lst [wordO W, wordO W]] ++ [Cell.lst [wordO W, wordO W]] = h3 at r3 g3 ⊢
  -- are they alike
  refine ⟨_, r3.s8, _, r3.s9, ?_⟩
  dsimp only [MV.wNil]
  refine ⟨d1, d2, one, other, rfl, r3.p1, r3.p2, r.k1, r.k2, fun h4 g4 => ?_⟩
  rw [r.fw]
  have r4 := r3.gr g4
  refine ⟨_, r4.s9, _, r4.s8, ?_⟩
  dsimp only [MV.wNil]
  refine ⟨d2, d1, other, one, rfl, r4.p2, r4.p1, r.k2, r.k1, fun h5 g5 => ?_⟩
  rw [fc]
  have r5 := r4.gr g5
  refine ⟨by show 2 ≤ sizeLine; decide, ?_⟩
  try dsimp only [MV.wNil]
  refine repr_bls app_at ?_
  refine ⟨_, r.s4, _, r.s4, by show 2 ≤ sizeLine; decide, ?_⟩
  have en : (if false = true then !decide (wordO W = .non) else decide (wordO W = .non)) = W.isNone := first_none_iff W
  rw [en]
  try dsimp only [MV.wNil]
  refine repr_bls app_at ?_
  refine ⟨_, rfl, ?_⟩
  refine iff_ (by simp) ?_
  have g5b : Gr h5 (h5 ++ [Cell.lst [.bl W.isNone, .bl W.isNone]] ++ [Cell.lst [.bl W.isNone, .bl W.isNone]]) := (Gr.app _).trans (.app _)
  have r6 := r5.gr g5b
  have g6 := g3.trans (g4.trans (g5.trans g5b))
  show MV.wSeq _ _ _ _ (h5 ++ [Cell.lst [.bl W.isNone, .bl W.isNone]] ++ [Cell.lst [.bl W.isNone, .bl W.isNone]])
  generalize h5 ++ [Cell.lst [.bl W.isNone, .bl W.isNone]] ++ [Cell.lst [.bl W.isNone, .bl W.isNone]] = h6 at r6 g6 ⊢
  clear g5b
  -- a part and itself
  refine ⟨_, r.s8, _, r.s8, ?_⟩
  dsimp only [MV.wNil]
  refine ⟨d1, d1, one, one, rfl, r6.p1, r6.p1, r.k1, r.k1, fun h7 g7 => ?_⟩
  rw [first_self]
  have r7 := r6.gr g7
  refine ⟨_, rfl, ?_⟩
  refine iff_ rfl ?_
  refine ⟨_, r.s9, _, r.s9, ?_⟩
  dsimp only [MV.wNil]
  refine ⟨d2, d2, other, other, rfl, r7.p2, r7.p2, r.k2, r.k2, fun h8 g8 => ?_⟩
  rw [first_self]
  have r8 := r7.gr g8
  refine ⟨_, rfl, ?_⟩
  refine iff_ rfl ?_
  -- all short words
  refine ⟨_, r.s1, ?_⟩
  dsimp only [MV.wC, MV.wNil]
  refine ⟨k, ns, rfl, r8.ek, r.kn.le, fun h9 L ws g9 eL wl => ?_⟩
  have r9 := (r8.gr g9).set (i := 5) (.inl rfl) (.ref L)
  have g10 := g6.trans (g7.trans (g8.trans g9))
  have s5 : (sl.set 5 (some (.ref L)))[5]? = some (some (.ref L)) := List.getElem?_set_self (by rw [r.len]; decide)
  have kw : kws ws := fun w hw => ⟨fun x hx => r.kn.nm x ((wl.nm w hw).1 x hx), by have := (wl.nm w hw).2; omega⟩
  show MV.wSeq _ _ _ (sl.set 5 (some (.ref L))) h9
  generalize sl.set 5 (some (.ref L)) = sl9 at r9 s5 ⊢
  have wle := wl.le
  refine ⟨_, r9.s4, ?_⟩
  dsimp only [MV.wC]
  refine ⟨_, rfl, ?_⟩
  cases W with
  | none =>
    refine iff_ rfl ?_
    exact right_words r9 s5 eL kw fun h' g => z _ (g10.trans g)
  | some w =>
    refine ift rfl ?_
    refine p_more r9 s5 eL kw (by omega) fun h' L' ws' g' eL' kw' => ?_
    have r10 := (r9.gr g').set (i := 5) (.inl rfl) (.ref L')
    exact right_words r10 (List.getElem?_set_self (by rw [r9.len]; decide)) eL' kw' fun h'' g => z _ (g10.trans (g'.trans g))
def s__law_right : SpD := fun ds h q => ∃ n c, ds = [.ref n] ∧ Dice c h n ∧ c + 1000 ≤ 1000000 ∧ ∀ h', Gx n h h' → Dice (c + 300) h' n → q (.bl true) h'
theorem p_right {ds : List D} {h : Hd} {q : D → Hd → Prop} (z : s__law_right ds h q) : v__law_right s__law_actions s__law_roll s__law_part s__law_near_part s__law_made_part s__law_first s_difference s_are_alike s__law_words s_is_difference s__law_due (endR q) (startD K07.N__law_right ds) h := by
  obtain ⟨n, c, rfl, dc, hc, z⟩ := z
  have nlt := dc.lt
  refine ⟨_, rfl, ?_⟩
  refine ⟨_, rfl, ?_⟩
  dsimp only [MV.wC, MV.wNil]
  refine ⟨n, c, 3, rfl, dc, by omega, by decide, by decide, fun h1 r g1 d1 hr => ?_⟩
  refine oAdd_int ?_
  refine ⟨n, c + 1, 1 + r, rfl, d1, by omega, by omega, fun h2 k ns g2 hk d2 ek ln nm => ?_⟩
  have hk1 : h.length ≤ k := by rw [← g1.1]; exact hk
  have kn : NS ns := ⟨by omega, nm⟩
  have nk : n ≠ k := by omega
  have g02 := g1.x.trans g2
  refine ⟨_, rfl, ?_⟩
  refine ⟨_, rfl, ?_⟩
  dsimp only [MV.wC, MV.wNil]
  refine ⟨n, c + 1 + 8, k, 6, ns, rfl, nk, d2, by omega, ek, kn, by decide, by decide, fun h3 F xs one g3 hF d3 eF it gp hl => ?_⟩
  have g03 := g02.trans g3
  have nF : F ≠ n := by have := g02.1; omega
  have ek3 := g3.lst (Ne.symm nk) ek
  refine ⟨_, rfl, ?_⟩
  refine ⟨_, rfl, ?_⟩
  refine ⟨_, rfl, ?_⟩
  dsimp only [MV.wNil]
  refine ⟨n, c + 1 + 8 + 30, k, F, ns, xs, one, rfl, nk, nF, d3, by omega, ek3, kn, by omega, eF, it, gp, hl, fun h4 F2 xs2 other g4 hF2 d4 eF2 it2 gp2 => ?_⟩
  have g04 := g03.trans g4
  have ek4 := g4.lst (Ne.symm nk) ek3
  have eF4 := g4.lst nF eF
  have it4 := it.gd d3 g4
  have d4' : Dice (c + 300) h4 n := d4.mono (by omega)
  have ok1 := gp.ok kn
  have ok2 := gp2.ok kn
  -- the parts
  refine ⟨_, rfl, ?_⟩
  dsimp only [MV.wNil]
  refine ⟨F, xs, one, ns, rfl, eF4, it4, gp, kn, fun h5 da g5 pa => ?_⟩
  refine ⟨_, rfl, ?_⟩
  dsimp only [MV.wNil]
  refine ⟨F2, xs2, other, ns, rfl, g5.lst eF2, it2.gr g5, gp2, kn, fun h6 db g6 pb => ?_⟩
  refine ⟨_, _, rfl, ?_⟩
  have g46 := g5.trans g6
  have i1 : IsPlain h6 (.ref F) one := IsPlain.gr ⟨F, xs, rfl, eF4, it4⟩ g46
  have i2 : IsPlain h6 (.ref F2) other := IsPlain.gr ⟨F2, xs2, rfl, eF2, it2⟩ g46
  refine ⟨_, rfl, ?_⟩
  refine ⟨_, rfl, ?_⟩
  dsimp only [MV.wNil]
  refine ⟨.ref F, .ref F2, one, other, rfl, i1, i2, ok1, ok2, fun h7 g7 => ?_⟩
  have wk : Wok (first one other) := fun w e => ⟨first_nm ok1 e, first_len ok1 ok2 e⟩
  have g47 := g46.trans g7
  have key : ∀ sl, ((((((startD K07.N__law_right [.ref n]).set 1 (some (.ref k))).set 2 (some (.ref F))).set 3 (some (.ref F2))).set 8 (some da)).set 9 (some db)).set 4 (some (wordO (first one other))) = sl → RT k F F2 da db ns xs xs2 one other (first one other) sl h7 := by
    rintro _ rfl
    exact ⟨rfl, rfl, rfl, rfl, rfl, rfl, rfl, g47.lst ek4, kn, by omega, i1.gr g7, i2.gr g7, (pa.gr g6).gr g7, pb.gr g7, ok1, ok2, rfl, wk⟩
  show MV.wSeq _ _ _ (((((((startD K07.N__law_right [.ref n]).set 1 (some (.ref k))).set 2 (some (.ref F))).set 3 (some (.ref F2))).set 8 (some da)).set 9 (some db)).set 4 (some (wordO (first one other)))) h7
  generalize hs : ((((((startD K07.N__law_right [.ref n]).set 1 (some (.ref k))).set 2 (some (.ref F))).set 3 (some (.ref F2))).set 8 (some da)).set 9 (some db)).set 4 (some (wordO (first one other))) = sl8
  have r := key sl8 hs
  clear key hs
  exact right_tail r fun h' g => z _ (g04.trans (g47.trans g).x) (d4'.gr (g47.trans g))
end K07S

set_option Elab.async false
set_option linter.all false
set_option maxRecDepth 100000
set_option maxHeartbeats 2000000
/-! K07RD: the law. -/
namespace K07S
open PySem PySem.Spec
open PyProof.Rows hiding St
open L2
open MP (D Cell Hd Sd WE WT WA WS WG WI EndsD ItD SpD endR startD itSeq items tyD truD getD putD keyOk wipeD lenD sortS ltS leS dctOf itKeys itVals PyR PyRs dictOfPairs)
open MV K07V
theorem rng_at {n i : Nat} {x : D} (e : (MP.rngD 0 n)[i]? = some x) : i < n ∧ x = .int (i : Nat) := by
  unfold MP.rngD at e
  rw [List.getElem?_map] at e
  obtain ⟨k, ek, rfl⟩ := Option.map_eq_some_iff.mp e
  obtain ⟨h1, h2⟩ := List.getElem?_eq_some_iff.mp ek
  rw [List.getElem_range] at h2
  subst h2
  exact ⟨by simpa using h1, by rw [Int.zero_add]⟩
theorem Gx.scr {m : Nat} {h h' : Hd} (g : Gx m h h') {n : Nat} {xs : List D} (hn : n ≠ m) (e : h[n]? = some (.scr xs)) : h'[n]? = some (.scr xs) := by
  obtain ⟨c', e', l⟩ := g.2 n _ hn e
  rcases l with rfl | ⟨_, _, _, q, _⟩
  · exact e'
  · cases q
/-- the concrete parts -/
abbrev quick : Pl := [([("put", 1)], true), ([("get", 0)], false)]
abbrev slow : Pl := [([("put", 1)], true), ([("get", 2)], false), ([("put", 1)], false)]
abbrev fourP : Pl := [([("a", 1)], false), ([("a", 2)], false), ([("a", 3)], false), ([("a", 0)], true)]
abbrev fiveP : Pl := [([("a", 1)], false), ([("a", 2)], false), ([("a", 3)], false), ([("a", 4)], true), ([("a", 0)], false)]
abbrev sameP : Pl := [([("a", 1)], false), ([("a", 2)], false), ([("a", 3)], false), ([("a", 0)], true), ([("a", 4)], false)]
abbrev pg : List Str := ["put", "get"]
abbrev an : List Str := ["a"]
theorem ns_pg : NS pg := ⟨by decide, by decide +kernel⟩
theorem ns_an : NS an := ⟨by decide, by decide +kernel⟩
def gpB (ns : List Str) (pl : Pl) : Bool := decide (0 < pl.length) && decide (pl.length ≤ 8) && pl.all fun p => decide (keysR p.1).Nodup && ((keysR p.1).all fun x => decide (x ∈ ns)) && p.1.all fun q => decide (q.2 < pl.length)
theorem gp_of {ns : List Str} {pl : Pl} (h : gpB ns pl = true) : GP ns pl := by
  unfold gpB at h
  simp only [Bool.and_eq_true, decide_eq_true_eq, List.all_eq_true] at h
  exact ⟨h.1.1, h.1.2, fun p hp => ⟨(h.2 p hp).1.1, (h.2 p hp).1.2, (h.2 p hp).2⟩⟩
theorem gp_quick : GP pg quick := gp_of (by decide +kernel)
theorem gp_slow : GP pg slow := gp_of (by decide +kernel)
theorem gp_four : GP an fourP := gp_of (by decide +kernel)
theorem gp_five : GP an fiveP := gp_of (by decide +kernel)
theorem gp_same : GP an sameP := gp_of (by decide +kernel)
theorem f_qs : first quick slow = some (["put", "get"] : List Str) := by decide +kernel
theorem d_qs : due quick slow ["put", "get"] = true := by decide +kernel
theorem f_45 : first fourP fiveP = some (["a", "a", "a", "a", "a", "a", "a"] : List Str) := by decide +kernel
theorem d_458 : due fourP fiveP ["a", "a", "a", "a", "a", "a", "a", "a"] = true := by decide +kernel
theorem d_453 : due fourP fiveP ["a", "a", "a"] = false := by decide +kernel
theorem f_4s : first fourP sameP = none := by decide +kernel
theorem items_at {h : Hd} {n : Nat} {xs : List D} (e : h[n]? = some (.lst xs)) : items h n = some xs := by unfold items; rw [e]
theorem make_part {ns : List Str} {pl : Pl} {h : Hd} {acc : List D} {rs : List D} {Q : Hd → Prop} (k : GP ns pl) (s : NS ns) (hacc : IsRows h acc (rowsOf pl)) (er : rs = natsD (idx pl)) (z : ∀ h', Gr h h' → IsPart h' (.ref h.length) pl → Q h') :
    s_Part [.ref h.length, .tup acc, .tup rs] (h ++ [.ins "Part" []]) fun v h2 => v = .non ∧ Q h2 := by
  refine ⟨h, acc, rowsOf pl, idx pl, by rw [er], rfl, hacc, rows_ok k s, ⟨ns, by have := s.le; omega, fun x hx => ?_⟩, List.Pairwise.filter _ List.pairwise_lt_range, fun x hx => ?_, fun h4 refs' acts g4 e4 r4 => ⟨rfl, ?_⟩⟩
  · obtain ⟨r, hr, hx⟩ := List.mem_flatMap.mp hx
    obtain ⟨y, hy, rfl⟩ := List.mem_map.mp hr
    exact (k.row y hy).sub x hx
  · unfold rowsOf; rw [List.length_map]
    have := (List.mem_filter.mp hx).1
    simpa using this
  · exact z h4 g4 ⟨h.length, refs', acts, rfl, e4, r4⟩
theorem IsRows.nil {h : Hd} : IsRows h [] [] := ⟨rfl, fun i d r a _ => by simp at a⟩
theorem row_new {h : Hd} {r : Row} : IsRow (h ++ [.dct false false (rowK r)]) (.ref h.length) r := ⟨_, false, rfl, app_at⟩
theorem IsRows.setL {h : Hd} {ds : List D} {rs : List Row} (k : IsRows h ds rs) {F : Nat} {ys : List D} (e : h[F]? = some (.lst ys)) (c : Cell) : IsRows (h.set F c) ds rs := ⟨k.1, fun i d r a b => by
  obtain ⟨m, lk0, rfl, e2⟩ := k.2 i d r a b
  refine ⟨m, lk0, rfl, ?_⟩
  rw [List.getElem?_set_ne (fun z => by rw [← z, e] at e2; cases e2)]
  exact e2⟩
abbrev fa4 (i : Nat) : Row := [("a", (i + 1) % 4)]
abbrev fa5 (i : Nat) : Row := [("a", (i + 1) % 5)]
def rows4 (i : Nat) : List Row := ((List.range i).filter fun j => decide (j < 4)).map fa4
def rows5 (i : Nat) : List Row := (List.range i).map fa5
theorem rows4_s (i : Nat) : rows4 (i + 1) = rows4 i ++ if i < 4 then [fa4 i] else [] := by
  unfold rows4
  rw [List.range_succ, List.filter_append, List.map_append]
  by_cases h : i < 4
  · rw [if_pos h]; simp [h]
  · rw [if_neg h]; simp [h]
theorem rows5_s (i : Nat) : rows5 (i + 1) = rows5 i ++ [fa5 i] := by
  unfold rows5
  rw [List.range_succ, List.map_append]; rfl
structure F45 (i : Nat) (sl : Sd) (h : Hd) (L M : Nat) (xs ys : List D) : Prop where
  len : sl.length = 12
  s8 : sl[8]? = some (some (.ref L))
  s9 : sl[9]? = some (some (.ref M))
  ne : L ≠ M
  eL : h[L]? = some (.lst xs)
  eM : h[M]? = some (.lst ys)
  r4 : IsRows h xs (rows4 i)
  r5 : IsRows h ys (rows5 i)
theorem foot3 {sl : Sd} {h : Hd} {q : D → Hd → Prop} {L M : Nat} {xs ys : List D} (b : F45 5 sl h L M xs ys) (z : ∀ h', q (.bl true) h') : (MV.wSeq (wPar 10 11 (wCons (wMake "Part" s_Part (wCons (wCB cTuple (wCons (wSlot 8) wNil)) (wCons (wTup (wCons (wC (.int 3)) wNil)) wNil))) (wCons (wMake "Part" s_Part (wCons (wCB cTuple (wCons (wSlot 9) wNil)) (wCons (wTup (wCons (wC (.int 3)) wNil)) wNil))) wNil))) (wSeq (wAsg (wLst (wCons (wCall s_difference (wCons (wSlot 10) (wCons (wSlot 11) wNil))) (wCons (wCall s_is_difference (wCons (wSlot 10) (wCons (wSlot 11) (wCons (wBin oMul (wTup (wCons (wC (.str "a")) wNil)) (wC (.int 8))) wNil)))) (wCons (wCall s_is_difference (wCons (wSlot 10) (wCons (wSlot 11) (wCons (wBin oMul (wTup (wCons (wC (.str "a")) wNil)) (wC (.int 3))) wNil)))) wNil)))) (wNm 2)) (wSeq (wAsg (wMake "Part" s_Part (wCons (wCB cTuple (wCons (wBin oAdd (wSlot 8) (wLst (wCons (wD1 (wC (.str "a")) (wC (.int 4))) wNil))) wNil)) (wCons (wTup (wCons (wC (.int 3)) wNil)) wNil))) (wNm 3)) (wRet (wAndV (wBin (oEq false) (wSlot 2) (wLst (wCons (wBin oMul (wTup (wCons (wC (.str "a")) wNil)) (wC (.int 7))) (wCons (wC (.bl true)) (wCons (wC (.bl false)) wNil))))) (wBin (oIs false) (wCall s_difference (wCons (wSlot 10) (wCons (wSlot 3) wNil))) (wC .non))))))) (endR q) sl h := by
  have r4 : IsRows h xs (rowsOf fourP) := b.r4
  have r5 : IsRows h ys (rowsOf fiveP) := b.r5
  have k4 := gp_four.ok ns_an
  have k5 := gp_five.ok ns_an
  have ks := gp_same.ok ns_an
  refine ⟨_, b.s8, xs, by unfold MP.items; rw [b.eL], ?_⟩
  refine ⟨by show 1 ≤ sizeLine; decide, ?_⟩
  dsimp only [MV.wC, MV.wNil]
  refine make_part gp_four ns_an r4 (by decide +kernel : [D.int 3] = natsD (idx fourP)) fun h1 g1 p1 => ?_
  generalize D.ref h.length = d1 at p1 ⊢
  refine ⟨_, b.s9, ys, by unfold MP.items; rw [g1.lst b.eM], ?_⟩
  refine ⟨by show 1 ≤ sizeLine; decide, ?_⟩
  dsimp only [MV.wC, MV.wNil]
  refine make_part gp_five ns_an (r5.gr g1) (by decide +kernel : [D.int 3] = natsD (idx fiveP)) fun h2 g2 p2 => ?_
  generalize D.ref h1.length = d2 at p2 ⊢
  refine ⟨_, _, rfl, ?_⟩
  have p1 := p1.gr g2
  have g12 := g1.trans g2
  have eL := g12.lst b.eL
  have r4 := r4.gr g12
  have l12 : ((sl.set 10 (some d1)).set 11 (some d2)).length = 12 := by simp [b.len]
  have t8 : ((sl.set 10 (some d1)).set 11 (some d2))[8]? = some (some (.ref L)) := by rw [List.getElem?_set_ne (by decide), List.getElem?_set_ne (by decide)]; exact b.s8
  have t10 : ((sl.set 10 (some d1)).set 11 (some d2))[10]? = some (some d1) := by rw [List.getElem?_set_ne (by decide), List.getElem?_set_self (by rw [b.len]; decide)]
  have t11 : ((sl.set 10 (some d1)).set 11 (some d2))[11]? = some (some d2) := List.getElem?_set_self (by rw [List.length_set, b.len]; decide)
  show MV.wSeq _ _ _ ((sl.set 10 (some d1)).set 11 (some d2)) h2
  generalize (sl.set 10 (some d1)).set 11 (some d2) = sl2 at l12 t8 t10 t11 ⊢
  clear r5 g1 g12 b
  refine ⟨_, t10, _, t11, ?_⟩
  dsimp only [MV.wNil]
  refine ⟨d1, d2, fourP, fiveP, rfl, p1, p2, k4, k5, fun h3 g3 => ?_⟩
  rw [f_45]
  refine ⟨_, t10, _, t11, ?_⟩
  refine ⟨by show 1 ≤ sizeLine; decide, ?_⟩
  dsimp only [MV.wC, MV.wNil]
  refine ⟨by simp, by decide, by decide, by decide, ?_⟩
  refine ⟨d1, d2, fourP, fiveP, _, rfl, p1.gr g3, p2.gr g3, k4, k5, .inr ⟨["a", "a", "a", "a", "a", "a", "a", "a"], rfl, by decide +kernel, by show 8 < sizeLine; decide, fun h4 g4 => ?_⟩⟩
  rw [d_458]
  have g34 := g3.trans g4
  refine ⟨_, t10, _, t11, ?_⟩
  refine ⟨by show 1 ≤ sizeLine; decide, ?_⟩
  dsimp only [MV.wC, MV.wNil]
  refine ⟨by simp, by decide, by decide, by decide, ?_⟩
  refine ⟨d1, d2, fourP, fiveP, _, rfl, p1.gr g34, p2.gr g34, k4, k5, .inr ⟨["a", "a", "a"], rfl, by decide +kernel, by show 3 < sizeLine; decide, fun h5 g5 => ?_⟩⟩
  rw [d_453]
  refine ⟨by show 3 ≤ sizeLine; decide, ?_⟩
  have g35 := g34.trans g5
  have g36 := g35.trans (.app [Cell.lst [wordO (some ["a", "a", "a", "a", "a", "a", "a"]), .bl true, .bl false]])
  have eT : (h5 ++ [Cell.lst [wordO (some ["a", "a", "a", "a", "a", "a", "a"]), .bl true, .bl false]])[h5.length]? = some (Cell.lst [wordO (some ["a", "a", "a", "a", "a", "a", "a"]), .bl true, .bl false]) := app_at
  have p1 := p1.gr g36
  have eL := g36.lst eL
  have r4 := r4.gr g36
  have u8 : (sl2.set 2 (some (.ref h5.length)))[8]? = some (some (.ref L)) := by rw [List.getElem?_set_ne (by decide)]; exact t8
  have u10 : (sl2.set 2 (some (.ref h5.length)))[10]? = some (some d1) := by rw [List.getElem?_set_ne (by decide)]; exact t10
  have u2 : (sl2.set 2 (some (.ref h5.length)))[2]? = some (some (.ref h5.length)) := List.getElem?_set_self (by rw [l12]; decide)
  have ul : (sl2.set 2 (some (.ref h5.length))).length = 12 := by rw [List.length_set]; exact l12
  show MV.wSeq _ _ _ (sl2.set 2 (some (.ref h5.length))) _
  generalize sl2.set 2 (some (.ref h5.length)) = sl3 at u8 u10 u2 ul ⊢
  generalize h5.length = T at eT u2
  generalize h5 ++ [Cell.lst [wordO (some ["a", "a", "a", "a", "a", "a", "a"]), .bl true, .bl false]] = h6 at eT p1 eL r4 ⊢
  clear t8 t10 t11 g36 g35 g34 g3 g4 g5 p2
  -- the same with one state more
  refine ⟨_, u8, rfl, by show 1 ≤ sizeLine; decide, ?_⟩
  have ga : Gr h6 (h6 ++ [Cell.dct false false [(D.str "a", D.int 4)]]) := .app _
  have gb : Gr (h6 ++ [Cell.dct false false [(D.str "a", D.int 4)]]) (h6 ++ [Cell.dct false false [(D.str "a", D.int 4)]] ++ [Cell.lst [.ref h6.length]]) := .app _
  have gc := (ga.trans gb).trans (.app [Cell.lst (xs ++ [.ref h6.length])])
  refine ⟨xs, [.ref h6.length], (ga.trans gb).lst eL, app_at, ?_, xs ++ [.ref h6.length], ?_, ?_⟩
  · have := r4.1
    have e : sizeLine = 16777216 := sizeLine_eq
    have : (rowsOf fourP).length = 4 := rfl
    show xs.length + 1 ≤ _
    omega
  · exact items_last
  refine ⟨by show 1 ≤ sizeLine; decide, ?_⟩
  dsimp only [MV.wC, MV.wNil]
  have rs : IsRows (h6 ++ [Cell.dct false false [(D.str "a", D.int 4)]] ++ [Cell.lst [.ref h6.length]] ++ [Cell.lst (xs ++ [.ref h6.length])]) (xs ++ [.ref h6.length]) (rowsOf sameP) := ((r4.gr ga).push (row_new (r := [("a", 4)]))).gr (gb.trans (.app _))
  have p1 := p1.gr gc
  have eT := gc.lst eT
  refine make_part (h := h6 ++ [Cell.dct false false [(D.str "a", D.int 4)]] ++ [Cell.lst [.ref h6.length]] ++ [Cell.lst (xs ++ [.ref h6.length])]) gp_same ns_an rs (by decide +kernel : [D.int 3] = natsD (idx sameP)) fun h9 g9 p3 => ?_
  generalize D.ref (h6 ++ [Cell.dct false false [(D.str "a", D.int 4)]] ++ [Cell.lst [.ref h6.length]] ++ [Cell.lst (xs ++ [.ref h6.length])]).length = d3 at p3 ⊢
  have p1 := p1.gr g9
  have eT := g9.lst eT
  have v10 : (sl3.set 3 (some d3))[10]? = some (some d1) := by rw [List.getElem?_set_ne (by decide)]; exact u10
  have v2 : (sl3.set 3 (some d3))[2]? = some (some (.ref T)) := by rw [List.getElem?_set_ne (by decide)]; exact u2
  have v3 : (sl3.set 3 (some d3))[3]? = some (some d3) := List.getElem?_set_self (by rw [ul]; decide)
  show MV.wRet _ _ (sl3.set 3 (some d3)) h9
  generalize sl3.set 3 (some d3) = sl4 at v10 v2 v3 ⊢
  clear gc g9 gb ga
  refine ⟨_, v2, ?_⟩
  refine ⟨by show 1 ≤ sizeLine; decide, ?_⟩
  dsimp only [MV.wC]
  refine ⟨by simp, by decide, by decide, by decide, ?_⟩
  refine ⟨by show 3 ≤ sizeLine; decide, ?_⟩
  have g10 : Gr h9 (h9 ++ [Cell.lst [.tup (MP.repD 7 [.str "a"]), .bl true, .bl false]]) := .app _
  have eU : (h9 ++ [Cell.lst [.tup (MP.repD 7 [.str "a"]), .bl true, .bl false]])[h9.length]? = some (Cell.lst [.tup (MP.repD 7 [.str "a"]), .bl true, .bl false]) := app_at
  have pd : PyR (h9 ++ [Cell.lst [.tup (MP.repD 7 [.str "a"]), .bl true, .bl false]]) (.ref T) (.list [.tuple (strsP ["a", "a", "a", "a", "a", "a", "a"]), .bool true, .bool false]) := .lst (items_at (g10.lst eT)) (.cons (.tup (pyRs_str _ _)) (.cons (.bl _) (.cons (.bl _) .nil)))
  have pe : PyR (h9 ++ [Cell.lst [.tup (MP.repD 7 [.str "a"]), .bl true, .bl false]]) (.ref h9.length) (.list [.tuple (strsP ["a", "a", "a", "a", "a", "a", "a"]), .bool true, .bool false]) := .lst (items_at eU) (.cons (.tup (pyRs_str _ ["a", "a", "a", "a", "a", "a", "a"])) (.cons (.bl _) (.cons (.bl _) .nil)))
  refine ⟨_, _, pd, pe, by decide +kernel, by decide +kernel, true, ?_, ?_⟩
  · have : PyData.eqv (.list [.tuple (strsP ["a", "a", "a", "a", "a", "a", "a"]), .bool true, .bool false]) (.list [.tuple (strsP ["a", "a", "a", "a", "a", "a", "a"]), .bool true, .bool false]) = true := by decide +kernel
    rw [this]; rfl
  refine ift rfl ?_
  refine ⟨_, v10, _, v3, ?_⟩
  dsimp only [MV.wNil]
  refine ⟨d1, d3, fourP, sameP, rfl, p1.gr g10, p3.gr g10, k4, ks, fun h11 g11 => ?_⟩
  rw [f_4s]
  exact z _
theorem step45 {i : Nat} (hi : i < 5) {sl : Sd} {h : Hd} {L M : Nat} {xs ys : List D} (b : F45 i sl h L M xs ys) {E : EndsD} (z : ∀ sl' h' L' xs' ys', F45 (i + 1) sl' h' L' M xs' ys' → E.nx sl' h') :
    (MV.wSeq (wAsg (wBin oAdd (wSlot 8) (wBin oMul (wLst (wCons (wD1 (wC (.str "a")) (wBin oMod (wCB cInt (wCons (wBin oAdd (wSlot 1) (wC (.int 1))) wNil)) (wC (.int 4)))) wNil)) (wCB cInt (wCons (wBin oLt (wSlot 1) (wC (.int 4))) wNil)))) (wNm 8)) (wExpr (wBM mAppend (wSlot 9) (wCons (wD1 (wC (.str "a")) (wBin oMod (wCB cInt (wCons (wBin oAdd (wSlot 1) (wC (.int 1))) wNil)) (wC (.int 5)))) wNil)))) E (sl.set 1 (some (.int (i : Nat)))) h := by
  have t8 : (sl.set 1 (some (.int (i : Nat))))[8]? = some (some (.ref L)) := by rw [List.getElem?_set_ne (by decide)]; exact b.s8
  have t9 : (sl.set 1 (some (.int (i : Nat))))[9]? = some (some (.ref M)) := by rw [List.getElem?_set_ne (by decide)]; exact b.s9
  have t1 : (sl.set 1 (some (.int (i : Nat))))[1]? = some (some (.int (i : Nat))) := List.getElem?_set_self (by rw [b.len]; decide)
  have tl : (sl.set 1 (some (.int (i : Nat)))).length = 12 := by rw [List.length_set]; exact b.len
  generalize sl.set 1 (some (.int (i : Nat))) = sl1 at t8 t9 t1 tl ⊢
  have hx4 : xs.length ≤ 5 := by
    have := b.r4.1
    have : (rows4 i).length ≤ i := by unfold rows4; rw [List.length_map]; have := List.length_filter_le (fun j => decide (j < 4)) (List.range i); simpa using this
    omega
  have hy5 : ys.length = i := by rw [b.r5.1]; unfold rows5; simp
  have m4 : ((i : Int) + 1) % 4 = (((i + 1) % 4 : Nat) : Int) := by omega
  have m5 : ((i : Int) + 1) % 5 = (((i + 1) % 5 : Nat) : Int) := by omega
  have esz : sizeLine = 16777216 := sizeLine_eq
  refine ⟨_, t8, ?_⟩
  refine ⟨_, t1, ?_⟩
  dsimp only [MV.wC, MV.wNil]
  refine oAdd_int ?_
  refine .inl ⟨_, rfl, ?_⟩
  refine ⟨show (0 : Int) < 4 by decide, rfl, by show 1 ≤ sizeLine; decide, ?_⟩
  dsimp only
  rw [m4]
  refine ⟨_, t1, ?_⟩
  have ga : Gr h (h ++ [Cell.dct false false (rowK (fa4 i))]) := .app _
  have gb : Gr (h ++ [Cell.dct false false (rowK (fa4 i))]) (h ++ [Cell.dct false false (rowK (fa4 i))] ++ [Cell.lst [.ref h.length]]) := .app _
  have rw4 : IsRow (h ++ [Cell.dct false false (rowK (fa4 i))]) (.ref h.length) (fa4 i) := row_new
  have hM : M < h.length := (List.getElem?_eq_some_iff.mp b.eM).1
  have hL : L < h.length := (List.getElem?_eq_some_iff.mp b.eL).1
  -- how many
  have key : ∀ zs, zs = (if i < 4 then [D.ref h.length] else []) → IsRows (h ++ [Cell.dct false false (rowK (fa4 i))] ++ [Cell.lst [.ref h.length]] ++ [Cell.lst zs] ++ [Cell.lst (xs ++ zs)]) (xs ++ zs) (rows4 (i + 1)) := fun zs ez => by
    have g1 : Gr (h ++ [Cell.dct false false (rowK (fa4 i))]) (h ++ [Cell.dct false false (rowK (fa4 i))] ++ [Cell.lst [.ref h.length]] ++ [Cell.lst zs] ++ [Cell.lst (xs ++ zs)]) := (gb.trans (.app _)).trans (.app _)
    rw [rows4_s, ez]
    by_cases h4 : i < 4
    · rw [if_pos h4, if_pos h4]
      exact ((b.r4.gr ga).push rw4).gr (by rw [if_pos h4] at ez; rw [ez] at g1; exact g1)
    · rw [if_neg h4, if_neg h4, List.append_nil, List.append_nil]
      exact b.r4.gr (ga.trans (by rw [if_neg h4] at ez; rw [ez, List.append_nil] at g1; exact g1))
  refine .inr ⟨_, rfl, ?_⟩
  have ez : ∃ k : Int, (if decide ((i : Int) < 4) = true then (1 : Int) else 0) = k ∧ 0 ≤ k ∧ k ≤ 1 ∧ MP.repD k.toNat [D.ref h.length] = if i < 4 then [D.ref h.length] else [] := by
    by_cases h4 : i < 4
    · exact ⟨1, by rw [if_pos (by simp; omega)], by decide, by decide, by rw [if_pos h4]; rfl⟩
    · exact ⟨0, by rw [if_neg (by simp; omega)], by decide, by decide, by rw [if_neg h4]; rfl⟩
  obtain ⟨k, ek, k0, k1, er⟩ := ez
  have cast : (if decide ((i : Int) < 4) then D.int 1 else D.int 0) = D.int k := by rw [← ek]; split <;> rfl
  dsimp only
  rw [ek]
  refine ⟨[.ref h.length], app_at, by omega, by omega, ?_, ?_⟩
  · have : k.toNat ≤ 1 := by omega
    show 1 * k.toNat ≤ _
    omega
  rw [er]
  have kk := key _ rfl
  generalize ezs : (if i < 4 then [D.ref h.length] else []) = zs at kk ⊢
  have lz : zs.length ≤ 1 := by rw [← ezs]; split <;> simp
  have gc : Gr h (h ++ [Cell.dct false false (rowK (fa4 i))] ++ [Cell.lst [.ref h.length]] ++ [Cell.lst zs]) := (ga.trans gb).trans (.app _)
  refine ⟨xs, zs, gc.lst b.eL, app_at, by omega, ?_⟩
  have gd := gc.trans (.app [Cell.lst (xs ++ zs)])
  have eL' : (h ++ [Cell.dct false false (rowK (fa4 i))] ++ [Cell.lst [.ref h.length]] ++ [Cell.lst zs] ++ [Cell.lst (xs ++ zs)])[(h ++ [Cell.dct false false (rowK (fa4 i))] ++ [Cell.lst [.ref h.length]] ++ [Cell.lst zs]).length]? = some (Cell.lst (xs ++ zs)) := app_at
  have hL' : h.length < (h ++ [Cell.dct false false (rowK (fa4 i))] ++ [Cell.lst [.ref h.length]] ++ [Cell.lst zs]).length := by simp
  show MV.wExpr _ _ (sl1.set 8 (some (.ref (h ++ [Cell.dct false false (rowK (fa4 i))] ++ [Cell.lst [.ref h.length]] ++ [Cell.lst zs]).length))) (h ++ [Cell.dct false false (rowK (fa4 i))] ++ [Cell.lst [.ref h.length]] ++ [Cell.lst zs] ++ [Cell.lst (xs ++ zs)])
  generalize (h ++ [Cell.dct false false (rowK (fa4 i))] ++ [Cell.lst [.ref h.length]] ++ [Cell.lst zs]).length = L' at eL' hL' ⊢
  generalize h ++ [Cell.dct false false (rowK (fa4 i))] ++ [Cell.lst [.ref h.length]] ++ [Cell.lst zs] ++ [Cell.lst (xs ++ zs)] = h5 at eL' kk gd ⊢
  have u8 : (sl1.set 8 (some (.ref L')))[8]? = some (some (.ref L')) := List.getElem?_set_self (by rw [tl]; decide)
  have u9 : (sl1.set 8 (some (.ref L')))[9]? = some (some (.ref M)) := by rw [List.getElem?_set_ne (by decide)]; exact t9
  have u1 : (sl1.set 8 (some (.ref L')))[1]? = some (some (.int (i : Nat))) := by rw [List.getElem?_set_ne (by decide)]; exact t1
  have ul : (sl1.set 8 (some (.ref L'))).length = 12 := by rw [List.length_set]; exact tl
  generalize sl1.set 8 (some (.ref L')) = sl2 at u8 u9 u1 ul ⊢
  clear gc key rw4 ga gb t8 t9 t1 tl
  have eM5 := gd.lst b.eM
  refine ⟨_, u9, ⟨_, _, rfl, eM5⟩, _, u1, ?_⟩
  dsimp only [MV.wC, MV.wNil]
  refine oAdd_int ?_
  refine .inl ⟨_, rfl, ?_⟩
  refine ⟨show (0 : Int) < 5 by decide, rfl, ?_⟩
  dsimp only
  rw [m5]
  have g6 : Gr h5 (h5 ++ [Cell.dct false false (rowK (fa5 i))]) := .app _
  refine ⟨M, ys, .ref h5.length, rfl, rfl, g6.lst eM5, by rw [hy5]; omega, ?_⟩
  refine z sl2 _ L' (xs ++ zs) (ys ++ [.ref h5.length]) ⟨ul, u8, u9, by omega, ?_, ?_, ?_, ?_⟩
  · show ((h5 ++ [Cell.dct false false (rowK (fa5 i))]).set M (.lst (ys ++ [.ref h5.length])))[L']? = _
    rw [List.getElem?_set_ne (by omega)]
    exact g6.lst eL'
  · exact set_at (g6.lst eM5)
  · exact (kk.gr g6).setL (g6.lst eM5) _
  · rw [rows5_s]
    exact (((b.r5.gr gd).gr g6).push row_new).setL (g6.lst eM5) _
theorem foot2 {sl : Sd} {h : Hd} {q : D → Hd → Prop} (l12 : sl.length = 12) (z : ∀ h', q (.bl true) h') : (MV.wSeq (wPar 8 9 (wCons (wLst wNil) (wCons (wLst wNil) wNil))) (wSeq (wFor (wRange1 (wCons (wC (.int 5)) wNil)) (wNm 1) (wSeq (wAsg (wBin oAdd (wSlot 8) (wBin oMul (wLst (wCons (wD1 (wC (.str "a")) (wBin oMod (wCB cInt (wCons (wBin oAdd (wSlot 1) (wC (.int 1))) wNil)) (wC (.int 4)))) wNil)) (wCB cInt (wCons (wBin oLt (wSlot 1) (wC (.int 4))) wNil)))) (wNm 8)) (wExpr (wBM mAppend (wSlot 9) (wCons (wD1 (wC (.str "a")) (wBin oMod (wCB cInt (wCons (wBin oAdd (wSlot 1) (wC (.int 1))) wNil)) (wC (.int 5)))) wNil))))) (wSeq (wPar 10 11 (wCons (wMake "Part" s_Part (wCons (wCB cTuple (wCons (wSlot 8) wNil)) (wCons (wTup (wCons (wC (.int 3)) wNil)) wNil))) (wCons (wMake "Part" s_Part (wCons (wCB cTuple (wCons (wSlot 9) wNil)) (wCons (wTup (wCons (wC (.int 3)) wNil)) wNil))) wNil))) (wSeq (wAsg (wLst (wCons (wCall s_difference (wCons (wSlot 10) (wCons (wSlot 11) wNil))) (wCons (wCall s_is_difference (wCons (wSlot 10) (wCons (wSlot 11) (wCons (wBin oMul (wTup (wCons (wC (.str "a")) wNil)) (wC (.int 8))) wNil)))) (wCons (wCall s_is_difference (wCons (wSlot 10) (wCons (wSlot 11) (wCons (wBin oMul (wTup (wCons (wC (.str "a")) wNil)) (wC (.int 3))) wNil)))) wNil)))) (wNm 2)) (wSeq (wAsg (wMake "Part" s_Part (wCons (wCB cTuple (wCons (wBin oAdd (wSlot 8) (wLst (wCons (wD1 (wC (.str "a")) (wC (.int 4))) wNil))) wNil)) (wCons (wTup (wCons (wC (.int 3)) wNil)) wNil))) (wNm 3)) (wRet (wAndV (wBin (oEq false) (wSlot 2) (wLst (wCons (wBin oMul (wTup (wCons (wC (.str "a")) wNil)) (wC (.int 7))) (wCons (wC (.bl true)) (wCons (wC (.bl false)) wNil))))) (wBin (oIs false) (wCall s_difference (wCons (wSlot 10) (wCons (wSlot 3) wNil))) (wC .non))))))))) (endR q) sl h := by
  refine ⟨Nat.zero_le _, Nat.zero_le _, _, _, rfl, ?_⟩
  have b0 : F45 0 ((sl.set 8 (some (.ref h.length))).set 9 (some (.ref (h ++ [Cell.lst []]).length))) (h ++ [Cell.lst []] ++ [Cell.lst []]) h.length (h ++ [Cell.lst []]).length [] [] :=
    ⟨by simp [l12], by rw [List.getElem?_set_ne (by decide), List.getElem?_set_self (by omega)], List.getElem?_set_self (by rw [List.length_set]; omega), by simp, (Gr.app _).lst app_at, app_at, .nil, .nil⟩
  show MV.wSeq _ _ _ ((sl.set 8 (some (.ref h.length))).set 9 (some (.ref (h ++ [Cell.lst []]).length))) (h ++ [Cell.lst []] ++ [Cell.lst []])
  generalize (sl.set 8 (some (.ref h.length))).set 9 (some (.ref (h ++ [Cell.lst []]).length)) = sl0 at b0 ⊢
  generalize (h ++ [Cell.lst []]).length = M at b0
  generalize h.length = L at b0
  generalize h ++ [Cell.lst []] ++ [Cell.lst []] = h0 at b0 ⊢
  refine ⟨5, rfl, by decide, by decide, ?_⟩
  refine it_by (MP.rngD 0 5) (fun i sl' h' => ∃ L xs ys, F45 i sl' h' L M xs ys) ⟨L, [], [], b0⟩ (fun i sl' h' _ _ => rfl) (fun i x sl' h' e p => ?_) (fun sl' h' p => ?_)
  · obtain ⟨L', xs, ys, b⟩ := p
    have hi : i < 5 := (List.getElem?_eq_some_iff.mp e).1
    have ex : x = .int (i : Nat) := by
      rw [show (MP.rngD 0 5)[i]? = some (.int (i : Nat)) from by
        match i, hi with
        | 0, _ => rfl
        | 1, _ => rfl
        | 2, _ => rfl
        | 3, _ => rfl
        | 4, _ => rfl] at e
      exact (Option.some.inj e).symm
    subst ex
    exact step45 hi b fun sl'' h'' L'' xs' ys' b' => ⟨L'', xs', ys', b'⟩
  · obtain ⟨L', xs, ys, b⟩ := p
    exact foot3 b z
theorem foot1 {sl : Sd} {h : Hd} {q : D → Hd → Prop} (l12 : sl.length = 12) (z : ∀ h', q (.bl true) h') : (MV.wSeq (wPar 6 7 (wCons (wMake "Part" s_Part (wCons (wTup (wCons (wD1 (wC (.str "put")) (wC (.int 1))) (wCons (wD1 (wC (.str "get")) (wC (.int 0))) wNil))) (wCons (wTup (wCons (wC (.int 0)) wNil)) wNil))) (wCons (wMake "Part" s_Part (wCons (wTup (wCons (wD1 (wC (.str "put")) (wC (.int 1))) (wCons (wD1 (wC (.str "get")) (wC (.int 2))) (wCons (wD1 (wC (.str "put")) (wC (.int 1))) wNil)))) (wCons (wTup (wCons (wC (.int 0)) wNil)) wNil))) wNil))) (wSeq (wAsg (wLst (wCons (wCall s_are_alike (wCons (wSlot 6) (wCons (wSlot 7) wNil))) (wCons (wCall s_difference (wCons (wSlot 6) (wCons (wSlot 7) wNil))) (wCons (wCall s_is_difference (wCons (wSlot 6) (wCons (wSlot 7) (wCons (wTup (wCons (wC (.str "put")) (wCons (wC (.str "get")) wNil))) wNil)))) wNil)))) (wNm 2)) (wSeq (wIfS (wBl (wBin (oEq true) (wSlot 2) (wLst (wCons (wC (.bl false)) (wCons (wTup (wCons (wC (.str "put")) (wCons (wC (.str "get")) wNil))) (wCons (wC (.bl true)) wNil)))))) (wRet (wC (.bl false))) wNext) (wSeq (wPar 8 9 (wCons (wLst wNil) (wCons (wLst wNil) wNil))) (wSeq (wFor (wRange1 (wCons (wC (.int 5)) wNil)) (wNm 1) (wSeq (wAsg (wBin oAdd (wSlot 8) (wBin oMul (wLst (wCons (wD1 (wC (.str "a")) (wBin oMod (wCB cInt (wCons (wBin oAdd (wSlot 1) (wC (.int 1))) wNil)) (wC (.int 4)))) wNil)) (wCB cInt (wCons (wBin oLt (wSlot 1) (wC (.int 4))) wNil)))) (wNm 8)) (wExpr (wBM mAppend (wSlot 9) (wCons (wD1 (wC (.str "a")) (wBin oMod (wCB cInt (wCons (wBin oAdd (wSlot 1) (wC (.int 1))) wNil)) (wC (.int 5)))) wNil))))) (wSeq (wPar 10 11 (wCons (wMake "Part" s_Part (wCons (wCB cTuple (wCons (wSlot 8) wNil)) (wCons (wTup (wCons (wC (.int 3)) wNil)) wNil))) (wCons (wMake "Part" s_Part (wCons (wCB cTuple (wCons (wSlot 9) wNil)) (wCons (wTup (wCons (wC (.int 3)) wNil)) wNil))) wNil))) (wSeq (wAsg (wLst (wCons (wCall s_difference (wCons (wSlot 10) (wCons (wSlot 11) wNil))) (wCons (wCall s_is_difference (wCons (wSlot 10) (wCons (wSlot 11) (wCons (wBin oMul (wTup (wCons (wC (.str "a")) wNil)) (wC (.int 8))) wNil)))) (wCons (wCall s_is_difference (wCons (wSlot 10) (wCons (wSlot 11) (wCons (wBin oMul (wTup (wCons (wC (.str "a")) wNil)) (wC (.int 3))) wNil)))) wNil)))) (wNm 2)) (wSeq (wAsg (wMake "Part" s_Part (wCons (wCB cTuple (wCons (wBin oAdd (wSlot 8) (wLst (wCons (wD1 (wC (.str "a")) (wC (.int 4))) wNil))) wNil)) (wCons (wTup (wCons (wC (.int 3)) wNil)) wNil))) (wNm 3)) (wRet (wAndV (wBin (oEq false) (wSlot 2) (wLst (wCons (wBin oMul (wTup (wCons (wC (.str "a")) wNil)) (wC (.int 7))) (wCons (wC (.bl true)) (wCons (wC (.bl false)) wNil))))) (wBin (oIs false) (wCall s_difference (wCons (wSlot 10) (wCons (wSlot 3) wNil))) (wC .non)))))))))))) (endR q) sl h := by
  have kq := gp_quick.ok ns_pg
  have ks := gp_slow.ok ns_pg
  -- quick
  refine ⟨rfl, rfl, by show 2 ≤ sizeLine; decide, by show 1 ≤ sizeLine; decide, ?_⟩
  have r1 : IsRows (h ++ [Cell.dct false false [(D.str "put", D.int 1)]] ++ [Cell.dct false false [(D.str "get", D.int 0)]]) [.ref h.length, .ref (h ++ [Cell.dct false false [(D.str "put", D.int 1)]]).length] (rowsOf quick) :=
    ((IsRows.nil.push (row_new (h := h) (r := [("put", 1)]))).gr (.app _)).push (row_new (h := h ++ [Cell.dct false false [(D.str "put", D.int 1)]]) (r := [("get", 0)]))
  dsimp only [MV.wNil]
  refine make_part (h := h ++ [Cell.dct false false [(D.str "put", D.int 1)]] ++ [Cell.dct false false [(D.str "get", D.int 0)]]) gp_quick ns_pg r1 (by decide +kernel : [D.int 0] = natsD (idx quick)) fun h1 g1 p1 => ?_
  generalize D.ref (h ++ [Cell.dct false false [(D.str "put", D.int 1)]] ++ [Cell.dct false false [(D.str "get", D.int 0)]]).length = d1 at p1 ⊢
  -- slow
  refine ⟨rfl, rfl, rfl, by show 3 ≤ sizeLine; decide, by show 1 ≤ sizeLine; decide, ?_⟩
  have r2 : IsRows (h1 ++ [Cell.dct false false [(D.str "put", D.int 1)]] ++ [Cell.dct false false [(D.str "get", D.int 2)]] ++ [Cell.dct false false [(D.str "put", D.int 1)]]) [.ref h1.length, .ref (h1 ++ [Cell.dct false false [(D.str "put", D.int 1)]]).length, .ref (h1 ++ [Cell.dct false false [(D.str "put", D.int 1)]] ++ [Cell.dct false false [(D.str "get", D.int 2)]]).length] (rowsOf slow) :=
    ((((IsRows.nil.push (row_new (h := h1) (r := [("put", 1)]))).gr (.app _)).push (row_new (h := h1 ++ [Cell.dct false false [(D.str "put", D.int 1)]]) (r := [("get", 2)]))).gr (.app _)).push (row_new (h := h1 ++ [Cell.dct false false [(D.str "put", D.int 1)]] ++ [Cell.dct false false [(D.str "get", D.int 2)]]) (r := [("put", 1)]))
  dsimp only [MV.wNil]
  refine make_part (h := h1 ++ [Cell.dct false false [(D.str "put", D.int 1)]] ++ [Cell.dct false false [(D.str "get", D.int 2)]] ++ [Cell.dct false false [(D.str "put", D.int 1)]]) gp_slow ns_pg r2 (by decide +kernel : [D.int 0] = natsD (idx slow)) fun h2 g2 p2 => ?_
  generalize D.ref (h1 ++ [Cell.dct false false [(D.str "put", D.int 1)]] ++ [Cell.dct false false [(D.str "get", D.int 2)]] ++ [Cell.dct false false [(D.str "put", D.int 1)]]).length = d2 at p2 ⊢
  have p1 := p1.gr ((((Gr.app _).trans (.app _)).trans (.app _)).trans g2)
  refine ⟨_, _, rfl, ?_⟩
  have l12 : ((sl.set 6 (some d1)).set 7 (some d2)).length = 12 := by simp [l12]
  have t6 : ((sl.set 6 (some d1)).set 7 (some d2))[6]? = some (some d1) := by rw [List.getElem?_set_ne (by decide), List.getElem?_set_self (by simp at l12; omega)]
  have t7 : ((sl.set 6 (some d1)).set 7 (some d2))[7]? = some (some d2) := List.getElem?_set_self (by rw [List.length_set]; simp at l12; omega)
  show MV.wSeq _ _ _ ((sl.set 6 (some d1)).set 7 (some d2)) h2
  generalize (sl.set 6 (some d1)).set 7 (some d2) = sl2 at l12 t6 t7 ⊢
  clear r1 r2 g1 g2
  refine ⟨_, t6, _, t7, ?_⟩
  dsimp only [MV.wNil]
  refine ⟨d1, d2, quick, slow, rfl, p1, p2, kq, ks, fun h3 g3 => ?_⟩
  rw [f_qs]
  refine ⟨_, t6, _, t7, ?_⟩
  dsimp only [MV.wNil]
  refine ⟨d1, d2, quick, slow, rfl, p1.gr g3, p2.gr g3, kq, ks, fun h4 g4 => ?_⟩
  rw [f_qs]
  have g34 := g3.trans g4
  refine ⟨_, t6, _, t7, by show 2 ≤ sizeLine; decide, ?_⟩
  dsimp only [MV.wNil]
  refine ⟨d1, d2, quick, slow, _, rfl, p1.gr g34, p2.gr g34, kq, ks, .inr ⟨["put", "get"], rfl, by decide +kernel, by show 2 < sizeLine; decide, fun h5 g5 => ?_⟩⟩
  rw [d_qs]
  refine ⟨by show 3 ≤ sizeLine; decide, ?_⟩
  have u2 : (sl2.set 2 (some (.ref h5.length)))[2]? = some (some (.ref h5.length)) := List.getElem?_set_self (by rw [l12]; decide)
  have ul : (sl2.set 2 (some (.ref h5.length))).length = 12 := by rw [List.length_set]; exact l12
  show MV.wSeq _ _ _ (sl2.set 2 (some (.ref h5.length))) (h5 ++ [Cell.lst [.bl false, wordO (some ["put", "get"]), .bl true]])
  have eT : (h5 ++ [Cell.lst [.bl false, wordO (some ["put", "get"]), .bl true]])[h5.length]? = some (Cell.lst [.bl false, wordO (some ["put", "get"]), .bl true]) := app_at
  generalize sl2.set 2 (some (.ref h5.length)) = sl3 at u2 ul ⊢
  generalize h5.length = T at u2 eT
  generalize h5 ++ [Cell.lst [.bl false, wordO (some ["put", "get"]), .bl true]] = h6 at eT ⊢
  refine ⟨_, u2, by show 2 ≤ sizeLine; decide, by show 3 ≤ sizeLine; decide, ?_⟩
  have eU : (h6 ++ [Cell.lst [.bl false, .tup [.str "put", .str "get"], .bl true]])[h6.length]? = some (Cell.lst [.bl false, .tup [.str "put", .str "get"], .bl true]) := app_at
  have pd : PyR (h6 ++ [Cell.lst [.bl false, .tup [.str "put", .str "get"], .bl true]]) (.ref T) (.list [.bool false, .tuple (strsP ["put", "get"]), .bool true]) := .lst (items_at ((Gr.app _).lst eT)) (.cons (.bl _) (.cons (.tup (pyRs_str _ _)) (.cons (.bl _) .nil)))
  have pe : PyR (h6 ++ [Cell.lst [.bl false, .tup [.str "put", .str "get"], .bl true]]) (.ref h6.length) (.list [.bool false, .tuple (strsP ["put", "get"]), .bool true]) := .lst (items_at eU) (.cons (.bl _) (.cons (.tup (pyRs_str _ ["put", "get"])) (.cons (.bl _) .nil)))
  refine ⟨_, _, pd, pe, by decide +kernel, by decide +kernel, _, rfl, ?_⟩
  have : PyData.eqv (.list [.bool false, .tuple (strsP ["put", "get"]), .bool true]) (.list [.bool false, .tuple (strsP ["put", "get"]), .bool true]) = true := by decide +kernel
  refine iff_ (by rw [this]; rfl) ?_
  exact foot2 ul z
def s_law : SpD := fun ds h q => ∃ (n : Nat) (xs : List D), ds = [.ref n] ∧ h[n]? = some (.scr xs) ∧ (∀ x ∈ xs, ∃ i : Int, x = .int i) ∧ ∀ h', q (.bl true) h'
theorem p_law {ds : List D} {h : Hd} {q : D → Hd → Prop} (z : s_law ds h q) : v_law s__law_dice s__law_right s_is_difference s_difference s_are_alike s_Part (endR q) (startD K07.N_law ds) h := by
  obtain ⟨n, xs, rfl, en, hi, z⟩ := z
  refine ⟨_, rfl, ?_⟩
  refine ⟨_, xs.length, rfl, by simp only [lenD, en], _, _, rfl, _, _, rfl, ?_⟩
  have bd : ∃ j : Nat, (if (if ((xs.length : Nat) : Int) < 10 then ((xs.length : Nat) : Int) else 10) > 1 then (if ((xs.length : Nat) : Int) < 10 then ((xs.length : Nat) : Int) else 10) else 1) = (j : Int) ∧ j ≤ 10 := by
    by_cases h1 : ((xs.length : Nat) : Int) < 10
    · rw [if_pos h1]
      by_cases h2 : ((xs.length : Nat) : Int) > 1
      · rw [if_pos h2]; exact ⟨xs.length, rfl, by omega⟩
      · rw [if_neg h2]; exact ⟨1, rfl, by decide⟩
    · rw [if_neg h1]; exact ⟨10, rfl, by decide⟩
  obtain ⟨j, ej, hj⟩ := bd
  refine ⟨(j : Int), congrArg (fun i => [D.int i]) ej, by omega, by omega, ?_⟩
  rw [Int.toNat_natCast]
  refine it_by (MP.rngD 0 j) (fun i sl h' => sl.length = 12 ∧ sl[0]? = some (some (.ref n)) ∧ h'[n]? = some (.scr xs)) ⟨rfl, rfl, en⟩ (fun i sl h' _ _ => rfl) (fun i x sl h' e p => ?_) (fun sl h' p => ?_)
  · obtain ⟨l12, s0, en'⟩ := p
    obtain ⟨hij, ex⟩ := rng_at e
    subst ex
    have nlt : n < h'.length := (List.getElem?_eq_some_iff.mp en').1
    have t0 : (sl.set 1 (some (.int (i : Nat))))[0]? = some (some (.ref n)) := by rw [List.getElem?_set_ne (by decide)]; exact s0
    have t1 : (sl.set 1 (some (.int (i : Nat))))[1]? = some (some (.int (i : Nat))) := List.getElem?_set_self (by omega)
    have tl : (sl.set 1 (some (.int (i : Nat)))).length = 12 := by rw [List.length_set]; exact l12
    show MV.wSeq _ _ _ (sl.set 1 (some (.int (i : Nat)))) h'
    generalize sl.set 1 (some (.int (i : Nat))) = sl1 at t0 t1 tl ⊢
    refine ⟨_, t0, _, t1, ?_⟩
    dsimp only [MV.wNil]
    refine ⟨n, xs, i, rfl, en', hi, by omega, fun h1 m g1 hm d1 => ?_⟩
    have nm : n ≠ m := by omega
    have u0 : (sl1.set 4 (some (.ref m)))[0]? = some (some (.ref n)) := by rw [List.getElem?_set_ne (by decide)]; exact t0
    have u4 : (sl1.set 4 (some (.ref m)))[4]? = some (some (.ref m)) := List.getElem?_set_self (by omega)
    have ul : (sl1.set 4 (some (.ref m))).length = 12 := by rw [List.length_set]; exact tl
    show MV.wFor _ _ _ _ (sl1.set 4 (some (.ref m))) h1
    generalize sl1.set 4 (some (.ref m)) = sl2 at u0 u4 ul ⊢
    refine ⟨4, rfl, by decide, by decide, ?_⟩
    refine it_by (MP.rngD 0 4) (fun k sl' h'' => sl'.length = 12 ∧ sl'[0]? = some (some (.ref n)) ∧ sl'[4]? = some (some (.ref m)) ∧ h''[n]? = some (.scr xs) ∧ Dice (300 * k) h'' m) ⟨ul, u0, u4, g1.scr en', d1⟩ (fun k sl' h'' _ _ => rfl) (fun k x sl' h'' e p => ?_) (fun sl' h'' p => ?_)
    · obtain ⟨l12', s0', s4', en'', dk⟩ := p
      obtain ⟨hk, ex⟩ := rng_at e
      subst ex
      refine ⟨_, by rw [List.getElem?_set_ne (by decide)]; exact s4', ?_⟩
      dsimp only [MV.wNil]
      refine ⟨m, 300 * k, rfl, dk, by omega, fun h2 g2 d2 => ?_⟩
      refine ⟨true, rfl, ?_⟩
      refine iff_ rfl ?_
      exact ⟨by rw [List.length_set]; exact l12', by rw [List.getElem?_set_ne (by decide)]; exact s0', by rw [List.getElem?_set_ne (by decide)]; exact s4', g2.scr nm en'', by rw [show 300 * (k + 1) = 300 * k + 300 by omega]; exact d2⟩
    · obtain ⟨l12', s0', _, en'', _⟩ := p
      exact ⟨l12', s0', en''⟩
  · exact foot1 p.1 z
end K07S

set_option Elab.async false
set_option linter.all false
set_option maxRecDepth 100000
set_option maxHeartbeats 2000000
/-! K07Q2: the law's def called with the script, from the layer's promise. -/
namespace MP
open PySem PySem.Spec
open PyProof.Rows hiding St
open L2
def isListC (p : Addr × Obj) : Bool := decide (p.2.cls = .type "list")
theorem notIn {K : PySem.W.Frag} {a : Addr} {o : Obj} (h : (K.all fun p => !isListC p) = true) (c : o.cls = .type "list") : K.lookup a ≠ some o := fun e => by
  have m : (a, o) ∈ K := by
    clear h
    induction K with
    | nil => cases e
    | cons p r ih =>
      obtain ⟨b, ob⟩ := p
      rw [List.lookup_cons] at e
      by_cases hb : a == b
      · rw [hb] at e
        have e2 : ob = o := Option.some.inj e
        rw [e2, eq_of_beq hb]; exact List.mem_cons_self
      · have hb' : (a == b) = false := by simpa using hb
        rw [hb'] at e
        exact List.mem_cons_of_mem _ (ih e)
  have := List.all_eq_true.mp h _ m
  unfold isListC at this
  rw [decide_eq_true c] at this
  cases this
abbrev scrO (vs : List Value) : Obj := { cls := .type "list", data := .seq vs.toArray }
/-- the heap in which nothing but the script is told -/
def scrH (a : Addr) (vs : List Value) (ns : List Int) : Hp := fun b => if b = a then some (.frz (scrO vs) (.lst (ns.map V.int))) else none
theorem scrH_at {a : Addr} {vs : List Value} {ns : List Int} : scrH a vs ns a = some (.frz (scrO vs) (.lst (ns.map V.int))) := if_pos rfl
theorem scrH_ne {a b : Addr} {vs : List Value} {ns : List Int} (h : b ≠ a) : scrH a vs ns b = none := if_neg h
theorem rds_ints {io : List Addr} {H : Hp} : ∀ ns : List Int, RDs io H (ns.map D.int) (ns.map V.int)
  | [] => .nil
  | n :: ns => .cons (.int n) (rds_ints ns)
/-- the layer's state at the script alone -/
theorem scr_spD {K : PySem.W.Frag} {mg : Str → Option Value} {a : Addr} {vs : List Value} {ns : List Int} {sp : SpD} (z : ∀ q : D → Hd → Prop, (∀ h', q (.bl true) h') → sp [.ref 0] [.scr (ns.map D.int)] q) :
    spD K mg 1 sp [.ref a] (scrH a vs ns) (fun v _ => v = .bl true) fun _ _ _ => False := by
  refine ⟨rfl, [.ref 0], [.scr (ns.map D.int)], [a], fun d _ => d = .bl true, ?_, .cons (.ref rfl) .nil, z _ fun _ => rfl, ?_⟩
  · refine ⟨rfl, fun n m b e1 e2 => ?_, fun n c b e1 e2 => ?_⟩
    · have h1 := (List.getElem?_eq_some_iff.mp e1).1
      have h2 := (List.getElem?_eq_some_iff.mp e2).1
      simp at h1 h2; omega
    · have h1 := (List.getElem?_eq_some_iff.mp e1).1
      have h0 : n = 0 := by simpa using h1
      subst h0
      simp at e1 e2
      subst e1; subst e2
      exact ⟨_, _, scrH_at, rds_ints ns⟩
  · intro d h' hd v io' H' x rh r
    subst hd
    cases r
    rfl
theorem law_callG {P : Program} {w : World} {K : PySem.W.Frag} {mg mb : Str → Option Value} {k : Nat} {fa a : Addr} {fd : FuncData} {x : Str} {sp : SpD} {s1 : Shared} {vs : List Value} {ns : List Int}
    (KX : K.In s1.heap) (hns : s1.heap.Ns mainGlobals mg) (hb : s1.heap.Ns builtinsNs mb) (hbb : ∀ x : Str, x ≠ "__name__" → mb x = bootBuiltins x) (hlim : s1.heap.NoLimit) (hg : s1.gens = #[])
    (ha : s1.heap.get? a = some (scrO vs)) (hi : IntsAre vs ns) (hl : ns.length ≤ sizeLine) (hr : Room k callerA) (hgd : callerA.guards = some [])
    (F : ∀ base : Heap, FnG P w K mg base CX0 k fa fd [x] (spD K mg 1 sp)) (hbind : ∀ (s : Shared) (u : Value), BindsTo s fd ⟨[u], []⟩ [(x, u)]) (hnl : (K.all fun p => !isListC p) = true)
    (z : ∀ q : D → Hd → Prop, (∀ h', q (.bl true) h') → sp [.ref 0] [.scr (ns.map D.int)] q) :
    codeAny (model P w) callerA (.call (.ref fa) ⟨[.ref a], []⟩) (fun r s' => r = .ok (.ret (.bool true)) ∧ OldK s1.heap s'.heap ∧ s'.os = s1.os ∧ AllBare s'.gens) s1 := by
  have rv := vals_ints hi
  let H := scrH a vs ns
  have old : ∀ {b : Addr} {o : Obj}, s1.heap.get? b = some o → b ≠ a → (hidT s1.heap H).get? b = some o := fun e n => hidT_get e (scrH_ne n)
  have neD : ∀ {b : Addr} {o : Obj} {es : Array DictEntry} {ep : Nat}, s1.heap.get? b = some o → o.data = .dict es ep → b ≠ a := by
    intro b o es ep e d h
    subst h
    rw [ha] at e
    cases e
    have d2 : Data.seq vs.toArray _ = Data.dict es ep := d
    cases d2
  have nsO : ∀ {b : Addr} {m : Str → Option Value}, s1.heap.Ns b m → (hidT s1.heap H).Ns b m := by
    rintro b m ⟨o, es, ep, e, d, r⟩
    exact ⟨o, es, ep, old e (neD e d), d, r⟩
  have inO : K.In (hidT s1.heap H) := by
    intro b o e
    have e1 := KX b o e
    refine old e1 fun h => ?_
    subst h
    rw [ha] at e1
    cases e1
    exact notIn hnl rfl e
  obtain ⟨mc, l1, l2⟩ := hlim
  have mo : Mod K mg (hidT s1.heap H) := ⟨inO, nsO hns, ⟨mb, nsO hb, hbb⟩, ⟨mc, nsO l1, l2⟩⟩
  have hok : HOk P w H s1.heap := by
    intro b u e
    by_cases h : b = a
    · subst h
      have e2 := scrH_at.symm.trans e
      cases e2
      exact ⟨ha, by rw [List.length_map]; exact hl, vs, _, rv, ha⟩
    · have e2 := (scrH_ne h).symm.trans e
      cases e2
  have nil : ∀ {b : Addr}, b ∈ ([] : List Addr) → False := fun h => by cases h
  have e0 : Env0 P w K mg (hidT s1.heap H) callerA [] s1 H := ⟨rfl, mo, fun b o e => of_hidT e, Nat.le_of_eq (hidT_size _ _), trivial, fun b h => (nil h).elim, hok, .of_eq hg⟩
  have run := (F (hidT s1.heap H)).run callerA [] s1 H ⟨[.ref a], []⟩ [.ref a] [.ref a] _ _ hr hgd e0 (hbind s1 (.ref a)) (.cons rfl .nil) (scr_spD z)
  refine codeAny_mono run fun r s2 h => ?_
  cases r with
  | error e => exact h.elim
  | ok fl =>
    cases fl with
    | next => exact h.elim
    | brk => exact h.elim
    | cont => exact h.elim
    | ret u =>
      obtain ⟨v, H2, os, bare, un, hok2, r2, q⟩ := h
      obtain rfl : v = .bl true := q
      obtain rfl : u = Value.bool true := r2
      refine ⟨rfl, OldK.of_keep fun b o e => ?_, os, bare⟩
      by_cases h : b = a
      · subst h
        obtain ⟨e1, _⟩ := hok2 b _ (un.frzs b _ _ scrH_at)
        rw [ha] at e
        cases e
        exact e1
      · exact un.keep b o e (scrH_ne h) (fun z => (nil z).elim) (by simp)
end MP

set_option Elab.async false
set_option linter.all false
set_option maxRecDepth 100000
set_option maxHeartbeats 2000000
/-! K07FN: each def keeps its promise (printed by join.py). -/
namespace K07S
open PySem PySem.Spec
open PyProof.Rows hiding St
open L2
open MP (FnD MtD MkD fnD_of mtD_of mkD_of fnG_of FnG SpD spD IsTab Fl cxD)
open K07 MV K07V
theorem binds0 {K : PySem.W.Frag} {x qual : Str} {params : Arguments} {body : List Stmt} {scope : Scope} {d : V} {kws : List (Str × V)} {f : Addr} {fd : FuncData} {ps : List Str} (F : FunD K x qual params body scope [d] kws f fd) (hp : ps.length = 3)
    (h : ∀ (T : Addr) (kV doc pm : Value) (an : Option Addr) (cdv ct : Value) (us its : List Value), us.length = 3 → its.length = 1 →
      ∃ k, bindArgs (PySem.W.fnOf x qual params body scope (.ref T) kV doc pm an cdv ct) ⟨us, []⟩ = seqItems? (.ref T) >>= k ∧ k (some its.toArray) = pure (ps.zip (us ++ its.drop 1))) : Binds K fd ps [] := by
  obtain ⟨ds, v, b⟩ := FunD.binds1 F 3 1 (by simp) (by rw [hp]; rfl) h
  cases v
  exact b
section
variable {w : World} {K : PySem.W.Frag} {mg : Str → Option Value} {base : Heap} {f : Addr} {fd : FuncData}

theorem f_is_name {tk_MAX_LETTERS : Tok} (F : FunD K "is_name" "is_name" (defArgs (top 11)) (defBody (top 11)) (defScope (top 11)) [] [] f fd) (hx : mg "is_name" = some (.ref f)) (g_len : mg "len" = none) (g_isinstance : mg "isinstance" = none) (g_str : mg "str" = none) (g_all : mg "all" = none) (m_MAX_LETTERS : mg "MAX_LETTERS" = some (.int 8 tk_MAX_LETTERS)) (t_str : IsTab K mg (.type "str") tabStr) : FnD P7 w K mg base 1 "is_name" 1 s_is_name :=
  fnD_of (N := N_is_name) (ps := P_is_name) F hx ⟨rfl, rfl, rfl, nd_is_name, rfl, by decide +kernel, by decide +kernel⟩ (F.bindsN fun _ _ _ _ _ _ us hl => match us, hl with | [_], _ => rfl) (fun ds h q z => by first | (obtain ⟨_, rfl, _⟩ := z; rfl) | (obtain ⟨_, _, rfl, _⟩ := z; rfl) | (obtain ⟨_, _, _, rfl, _⟩ := z; rfl) | (obtain ⟨_, _, _, _, rfl, _⟩ := z; rfl) | (obtain ⟨_, _, _, _, _, rfl, _⟩ := z; rfl) | (obtain ⟨_, _, _, _, _, _, rfl, _⟩ := z; rfl) | (obtain ⟨_, _, _, _, _, _, _, rfl, _⟩ := z; rfl)) fun cd A outer s H E hr hgd => ⟨_, l_is_name hr hgd g_len g_isinstance g_str g_all m_MAX_LETTERS t_str, fun ds h q z => by rw [e_is_name]; exact p_is_name z⟩

theorem f_is_ascending  (F : FunD K "is_ascending" "is_ascending" (defArgs (top 12)) (defBody (top 12)) (defScope (top 12)) [] [] f fd) (hx : mg "is_ascending" = some (.ref f)) (g_all : mg "all" = none) (g_zip : mg "zip" = none) : FnD P7 w K mg base 1 "is_ascending" 1 s_is_ascending :=
  fnD_of (N := N_is_ascending) (ps := P_is_ascending) F hx ⟨rfl, rfl, rfl, nd_is_ascending, rfl, by decide +kernel, by decide +kernel⟩ (F.bindsN fun _ _ _ _ _ _ us hl => match us, hl with | [_], _ => rfl) (fun ds h q z => by first | (obtain ⟨_, rfl, _⟩ := z; rfl) | (obtain ⟨_, _, rfl, _⟩ := z; rfl) | (obtain ⟨_, _, _, rfl, _⟩ := z; rfl) | (obtain ⟨_, _, _, _, rfl, _⟩ := z; rfl) | (obtain ⟨_, _, _, _, _, rfl, _⟩ := z; rfl) | (obtain ⟨_, _, _, _, _, _, rfl, _⟩ := z; rfl) | (obtain ⟨_, _, _, _, _, _, _, rfl, _⟩ := z; rfl)) fun cd A outer s H E hr hgd => ⟨_, l_is_ascending hr hgd g_all g_zip, fun ds h q z => by rw [e_is_ascending]; exact p_is_ascending z⟩

theorem f_is_index  (F : FunD K "is_index" "is_index" (defArgs (top 13)) (defBody (top 13)) (defScope (top 13)) [] [] f fd) (hx : mg "is_index" = some (.ref f)) (g_isinstance : mg "isinstance" = none) (g_bool : mg "bool" = none) (g_int : mg "int" = none) (t_bool : IsTab K mg (.type "bool") tabBool) (t_int : IsTab K mg (.type "int") tabInt) : FnD P7 w K mg base 1 "is_index" 2 s_is_index :=
  fnD_of (N := N_is_index) (ps := P_is_index) F hx ⟨rfl, rfl, rfl, nd_is_index, rfl, by decide +kernel, by decide +kernel⟩ (F.bindsN fun _ _ _ _ _ _ us hl => match us, hl with | [_, _], _ => rfl) (fun ds h q z => by first | (obtain ⟨_, rfl, _⟩ := z; rfl) | (obtain ⟨_, _, rfl, _⟩ := z; rfl) | (obtain ⟨_, _, _, rfl, _⟩ := z; rfl) | (obtain ⟨_, _, _, _, rfl, _⟩ := z; rfl) | (obtain ⟨_, _, _, _, _, rfl, _⟩ := z; rfl) | (obtain ⟨_, _, _, _, _, _, rfl, _⟩ := z; rfl) | (obtain ⟨_, _, _, _, _, _, _, rfl, _⟩ := z; rfl)) fun cd A outer s H E hr hgd => ⟨_, l_is_index hr hgd g_isinstance g_bool g_int t_bool t_int, fun ds h q z => by rw [e_is_index]; exact p_is_index z⟩

theorem f_is_word  (F : FunD K "is_word" "is_word" (defArgs (top 14)) (defBody (top 14)) (defScope (top 14)) [] [] f fd) (hx : mg "is_word" = some (.ref f)) (g_all : mg "all" = none) (g_isinstance : mg "isinstance" = none) (g_tuple : mg "tuple" = none) (t_tuple : IsTab K mg (.type "tuple") tabTuple) (F_is_name : FnD P7 w K mg base 1 "is_name" 1 s_is_name) : FnD P7 w K mg base 2 "is_word" 1 s_is_word :=
  fnD_of (N := N_is_word) (ps := P_is_word) F hx ⟨rfl, rfl, rfl, nd_is_word, rfl, by decide +kernel, by decide +kernel⟩ (F.bindsN fun _ _ _ _ _ _ us hl => match us, hl with | [_], _ => rfl) (fun ds h q z => by first | (obtain ⟨_, rfl, _⟩ := z; rfl) | (obtain ⟨_, _, rfl, _⟩ := z; rfl) | (obtain ⟨_, _, _, rfl, _⟩ := z; rfl) | (obtain ⟨_, _, _, _, rfl, _⟩ := z; rfl) | (obtain ⟨_, _, _, _, _, rfl, _⟩ := z; rfl) | (obtain ⟨_, _, _, _, _, _, rfl, _⟩ := z; rfl) | (obtain ⟨_, _, _, _, _, _, _, rfl, _⟩ := z; rfl)) fun cd A outer s H E hr hgd => ⟨_, l_is_word hr hgd g_all g_isinstance g_tuple t_tuple F_is_name, fun ds h q z => by rw [e_is_word]; exact p_is_word z⟩

theorem f_require_word  (F : FunD K "require_word" "require_word" (defArgs (top 15)) (defBody (top 15)) (defScope (top 15)) [] [] f fd) (hx : mg "require_word" = some (.ref f)) (F_is_word : FnD P7 w K mg base 2 "is_word" 1 s_is_word) : FnD P7 w K mg base 3 "require_word" 1 s_require_word :=
  fnD_of (N := N_require_word) (ps := P_require_word) F hx ⟨rfl, rfl, rfl, nd_require_word, rfl, by decide +kernel, by decide +kernel⟩ (F.bindsN fun _ _ _ _ _ _ us hl => match us, hl with | [_], _ => rfl) (fun ds h q z => by first | (obtain ⟨_, rfl, _⟩ := z; rfl) | (obtain ⟨_, _, rfl, _⟩ := z; rfl) | (obtain ⟨_, _, _, rfl, _⟩ := z; rfl) | (obtain ⟨_, _, _, _, rfl, _⟩ := z; rfl) | (obtain ⟨_, _, _, _, _, rfl, _⟩ := z; rfl) | (obtain ⟨_, _, _, _, _, _, rfl, _⟩ := z; rfl) | (obtain ⟨_, _, _, _, _, _, _, rfl, _⟩ := z; rfl)) fun cd A outer s H E hr hgd => ⟨_, l_require_word hr hgd F_is_word, fun ds h q z => by rw [e_require_word]; exact p_require_word z⟩

theorem f_actions_in  (F : FunD K "actions_in" "actions_in" (defArgs (top 19)) (defBody (top 19)) (defScope (top 19)) [] [] f fd) (hx : mg "actions_in" = some (.ref f)) (g_tuple : mg "tuple" = none) (g_sorted : mg "sorted" = none) (g_list : mg "list" = none) : FnD P7 w K mg base 1 "actions_in" 1 s_actions_in :=
  fnD_of (N := N_actions_in) (ps := P_actions_in) F hx ⟨rfl, rfl, rfl, nd_actions_in, rfl, by decide +kernel, by decide +kernel⟩ (F.bindsN fun _ _ _ _ _ _ us hl => match us, hl with | [_], _ => rfl) (fun ds h q z => by first | (obtain ⟨_, rfl, _⟩ := z; rfl) | (obtain ⟨_, _, rfl, _⟩ := z; rfl) | (obtain ⟨_, _, _, rfl, _⟩ := z; rfl) | (obtain ⟨_, _, _, _, rfl, _⟩ := z; rfl) | (obtain ⟨_, _, _, _, _, rfl, _⟩ := z; rfl) | (obtain ⟨_, _, _, _, _, _, rfl, _⟩ := z; rfl) | (obtain ⟨_, _, _, _, _, _, _, rfl, _⟩ := z; rfl)) fun cd A outer s H E hr hgd => ⟨_, l_actions_in hr hgd g_tuple g_sorted g_list, fun ds h q z => by rw [e_actions_in]; exact p_actions_in z⟩

theorem f_are_rows {tk_MAX_STATES : Tok} (F : FunD K "are_rows" "are_rows" (defArgs (top 20)) (defBody (top 20)) (defScope (top 20)) [] [] f fd) (hx : mg "are_rows" = some (.ref f)) (g_len : mg "len" = none) (g_isinstance : mg "isinstance" = none) (g_tuple : mg "tuple" = none) (g_all : mg "all" = none) (g_dict : mg "dict" = none) (m_MAX_STATES : mg "MAX_STATES" = some (.int 8 tk_MAX_STATES)) (t_tuple : IsTab K mg (.type "tuple") tabTuple) (t_dict : IsTab K mg (.type "dict") tabDict) (F_is_index : FnD P7 w K mg base 1 "is_index" 2 s_is_index) (F_is_name : FnD P7 w K mg base 1 "is_name" 1 s_is_name) : FnD P7 w K mg base 2 "are_rows" 1 s_are_rows :=
  fnD_of (N := N_are_rows) (ps := P_are_rows) F hx ⟨rfl, rfl, rfl, nd_are_rows, rfl, by decide +kernel, by decide +kernel⟩ (F.bindsN fun _ _ _ _ _ _ us hl => match us, hl with | [_], _ => rfl) (fun ds h q z => by first | (obtain ⟨_, rfl, _⟩ := z; rfl) | (obtain ⟨_, _, rfl, _⟩ := z; rfl) | (obtain ⟨_, _, _, rfl, _⟩ := z; rfl) | (obtain ⟨_, _, _, _, rfl, _⟩ := z; rfl) | (obtain ⟨_, _, _, _, _, rfl, _⟩ := z; rfl) | (obtain ⟨_, _, _, _, _, _, rfl, _⟩ := z; rfl) | (obtain ⟨_, _, _, _, _, _, _, rfl, _⟩ := z; rfl)) fun cd A outer s H E hr hgd => ⟨_, l_are_rows hr hgd g_len g_isinstance g_tuple g_all g_dict m_MAX_STATES t_tuple t_dict F_is_index F_is_name, fun ds h q z => by rw [e_are_rows]; exact p_are_rows z⟩

theorem f_is_rests  (F : FunD K "is_rests" "is_rests" (defArgs (top 21)) (defBody (top 21)) (defScope (top 21)) [] [] f fd) (hx : mg "is_rests" = some (.ref f)) (g_all : mg "all" = none) (g_isinstance : mg "isinstance" = none) (g_tuple : mg "tuple" = none) (t_tuple : IsTab K mg (.type "tuple") tabTuple) (F_is_index : FnD P7 w K mg base 1 "is_index" 2 s_is_index) (F_is_ascending : FnD P7 w K mg base 1 "is_ascending" 1 s_is_ascending) : FnD P7 w K mg base 2 "is_rests" 2 s_is_rests :=
  fnD_of (N := N_is_rests) (ps := P_is_rests) F hx ⟨rfl, rfl, rfl, nd_is_rests, rfl, by decide +kernel, by decide +kernel⟩ (F.bindsN fun _ _ _ _ _ _ us hl => match us, hl with | [_, _], _ => rfl) (fun ds h q z => by first | (obtain ⟨_, rfl, _⟩ := z; rfl) | (obtain ⟨_, _, rfl, _⟩ := z; rfl) | (obtain ⟨_, _, _, rfl, _⟩ := z; rfl) | (obtain ⟨_, _, _, _, rfl, _⟩ := z; rfl) | (obtain ⟨_, _, _, _, _, rfl, _⟩ := z; rfl) | (obtain ⟨_, _, _, _, _, _, rfl, _⟩ := z; rfl) | (obtain ⟨_, _, _, _, _, _, _, rfl, _⟩ := z; rfl)) fun cd A outer s H E hr hgd => ⟨_, l_is_rests hr hgd g_all g_isinstance g_tuple t_tuple F_is_index F_is_ascending, fun ds h q z => by rw [e_is_rests]; exact p_is_rests z⟩

theorem f_sorted_rows  (F : FunD K "sorted_rows" "sorted_rows" (defArgs (top 22)) (defBody (top 22)) (defScope (top 22)) [] [] f fd) (hx : mg "sorted_rows" = some (.ref f)) (g_tuple : mg "tuple" = none) (g_sorted : mg "sorted" = none) (g_list : mg "list" = none) : FnD P7 w K mg base 1 "sorted_rows" 1 s_sorted_rows :=
  fnD_of (N := N_sorted_rows) (ps := P_sorted_rows) F hx ⟨rfl, rfl, rfl, nd_sorted_rows, rfl, by decide +kernel, by decide +kernel⟩ (F.bindsN fun _ _ _ _ _ _ us hl => match us, hl with | [_], _ => rfl) (fun ds h q z => by first | (obtain ⟨_, rfl, _⟩ := z; rfl) | (obtain ⟨_, _, rfl, _⟩ := z; rfl) | (obtain ⟨_, _, _, rfl, _⟩ := z; rfl) | (obtain ⟨_, _, _, _, rfl, _⟩ := z; rfl) | (obtain ⟨_, _, _, _, _, rfl, _⟩ := z; rfl) | (obtain ⟨_, _, _, _, _, _, rfl, _⟩ := z; rfl) | (obtain ⟨_, _, _, _, _, _, _, rfl, _⟩ := z; rfl)) fun cd A outer s H E hr hgd => ⟨_, l_sorted_rows hr hgd g_tuple g_sorted g_list, fun ds h q z => by rw [e_sorted_rows]; exact p_sorted_rows z⟩

theorem f_next_state  (F : FunD K "next_state" "next_state" (defArgs (top 27)) (defBody (top 27)) (defScope (top 27)) [] [] f fd) (hx : mg "next_state" = some (.ref f)) (T_own_steps : ∀ x ∈ (["Part", "Rows"] : List Str), Fl K mg x "own_steps") : FnD P7 w K mg base 1 "next_state" 3 s_next_state :=
  fnD_of (N := N_next_state) (ps := P_next_state) F hx ⟨rfl, rfl, rfl, nd_next_state, rfl, by decide +kernel, by decide +kernel⟩ (F.bindsN fun _ _ _ _ _ _ us hl => match us, hl with | [_, _, _], _ => rfl) (fun ds h q z => by first | (obtain ⟨_, rfl, _⟩ := z; rfl) | (obtain ⟨_, _, rfl, _⟩ := z; rfl) | (obtain ⟨_, _, _, rfl, _⟩ := z; rfl) | (obtain ⟨_, _, _, _, rfl, _⟩ := z; rfl) | (obtain ⟨_, _, _, _, _, rfl, _⟩ := z; rfl) | (obtain ⟨_, _, _, _, _, _, rfl, _⟩ := z; rfl) | (obtain ⟨_, _, _, _, _, _, _, rfl, _⟩ := z; rfl)) fun cd A outer s H E hr hgd => ⟨_, l_next_state hr hgd T_own_steps, fun ds h q z => by rw [e_next_state]; exact p_next_state z⟩

theorem f_Rows_init  (F : FunD K "__init__" "Rows.__init__" (defArgs (cls 32 0)) (defBody (cls 32 0)) (defScope (cls 32 0)) [] [] f fd) {C : Addr} (hC : mg "Rows" = some (.ref C)) (mk : Mk K C f) (g_tuple : mg "tuple" = none) (g_sorted : mg "sorted" = none) (g_set : mg "set" = none) (T_own_steps : ∀ x ∈ (["Part", "Rows"] : List Str), Fl K mg x "own_steps") (T_own_rests : ∀ x ∈ (["Part", "Rows"] : List Str), Fl K mg x "own_rests") (F_sorted_rows : FnD P7 w K mg base 1 "sorted_rows" 1 s_sorted_rows) : MkD P7 w K mg base 2 "Rows" 3 s_Rows :=
  mkD_of (N := N_Rows_init) (ps := P_Rows_init) F hC mk ⟨rfl, rfl, rfl, nd_Rows_init, rfl, by decide +kernel, by decide +kernel⟩ (F.bindsN fun _ _ _ _ _ _ us hl => match us, hl with | [_, _, _], _ => rfl) (fun ds h q z => by first | (obtain ⟨_, rfl, _⟩ := z; rfl) | (obtain ⟨_, _, rfl, _⟩ := z; rfl) | (obtain ⟨_, _, _, rfl, _⟩ := z; rfl) | (obtain ⟨_, _, _, _, rfl, _⟩ := z; rfl) | (obtain ⟨_, _, _, _, _, rfl, _⟩ := z; rfl) | (obtain ⟨_, _, _, _, _, _, rfl, _⟩ := z; rfl) | (obtain ⟨_, _, _, _, _, _, _, rfl, _⟩ := z; rfl)) fun cd A outer s H E hr hgd => ⟨_, l_Rows_init hr hgd g_tuple g_sorted g_set T_own_steps T_own_rests F_sorted_rows, fun ds h q z => by rw [e_Rows_init]; exact p_Rows_init z⟩

theorem f_checked_rows {tk_MAX_ACTIONS : Tok} (F : FunD K "checked_rows" "checked_rows" (defArgs (top 33)) (defBody (top 33)) (defScope (top 33)) [] [] f fd) (hx : mg "checked_rows" = some (.ref f)) (g_len : mg "len" = none) (m_MAX_ACTIONS : mg "MAX_ACTIONS" = some (.int 4 tk_MAX_ACTIONS)) (F_actions_in : FnD P7 w K mg base 1 "actions_in" 1 s_actions_in) (F_are_rows : FnD P7 w K mg base 2 "are_rows" 1 s_are_rows) (F_is_rests : FnD P7 w K mg base 2 "is_rests" 2 s_is_rests) (F_Rows : MkD P7 w K mg base 2 "Rows" 3 s_Rows) : FnD P7 w K mg base 4 "checked_rows" 2 s_checked_rows :=
  fnD_of (N := N_checked_rows) (ps := P_checked_rows) F hx ⟨rfl, rfl, rfl, nd_checked_rows, rfl, by decide +kernel, by decide +kernel⟩ (F.bindsN fun _ _ _ _ _ _ us hl => match us, hl with | [_, _], _ => rfl) (fun ds h q z => by first | (obtain ⟨_, rfl, _⟩ := z; rfl) | (obtain ⟨_, _, rfl, _⟩ := z; rfl) | (obtain ⟨_, _, _, rfl, _⟩ := z; rfl) | (obtain ⟨_, _, _, _, rfl, _⟩ := z; rfl) | (obtain ⟨_, _, _, _, _, rfl, _⟩ := z; rfl) | (obtain ⟨_, _, _, _, _, _, rfl, _⟩ := z; rfl) | (obtain ⟨_, _, _, _, _, _, _, rfl, _⟩ := z; rfl)) fun cd A outer s H E hr hgd => ⟨_, l_checked_rows hr hgd g_len m_MAX_ACTIONS F_actions_in F_are_rows F_is_rests F_Rows, fun ds h q z => by rw [e_checked_rows]; exact p_checked_rows z⟩

theorem f_Part_init {C_Rows : Addr} {dv : V} (F : FunD K "__init__" "Part.__init__" (defArgs (cls 34 0)) (defBody (cls 34 0)) (defScope (cls 34 0)) [dv] [] f fd) {C : Addr} (hC : mg "Part" = some (.ref C)) (mk : Mk K C f) (g_isinstance : mg "isinstance" = none) (T_own_steps : ∀ x ∈ (["Part", "Rows"] : List Str), Fl K mg x "own_steps") (T_own_rests : ∀ x ∈ (["Part", "Rows"] : List Str), Fl K mg x "own_rests") (T_own_actions : ∀ x ∈ (["Part"] : List Str), Fl K mg x "own_actions") (m_Rows : mg "Rows" = some (.ref C_Rows)) (t_Rows : IsTab K mg (.ref C_Rows) tabRows) (F_checked_rows : FnD P7 w K mg base 4 "checked_rows" 2 s_checked_rows) (F_actions_in : FnD P7 w K mg base 1 "actions_in" 1 s_actions_in) : MkD P7 w K mg base 5 "Part" 3 s_Part :=
  mkD_of (N := N_Part_init) (ps := P_Part_init) F hC mk ⟨rfl, rfl, rfl, nd_Part_init, rfl, by decide +kernel, by decide +kernel⟩ (binds0 F rfl fun _ _ _ _ _ _ _ us its hl hi => match us, hl, its, hi with | [_, _, _], _, [_], _ => ⟨_, rfl, rfl⟩) (fun ds h q z => by first | (obtain ⟨_, rfl, _⟩ := z; rfl) | (obtain ⟨_, _, rfl, _⟩ := z; rfl) | (obtain ⟨_, _, _, rfl, _⟩ := z; rfl) | (obtain ⟨_, _, _, _, rfl, _⟩ := z; rfl) | (obtain ⟨_, _, _, _, _, rfl, _⟩ := z; rfl) | (obtain ⟨_, _, _, _, _, _, rfl, _⟩ := z; rfl) | (obtain ⟨_, _, _, _, _, _, _, rfl, _⟩ := z; rfl)) fun cd A outer s H E hr hgd => ⟨_, l_Part_init hr hgd g_isinstance T_own_steps T_own_rests T_own_actions m_Rows t_Rows F_checked_rows F_actions_in, fun ds h q z => by rw [e_Part_init]; exact p_Part_init z⟩

theorem f_state_after  (F : FunD K "state_after" "state_after" (defArgs (top 38)) (defBody (top 38)) (defScope (top 38)) [] [] f fd) (hx : mg "state_after" = some (.ref f)) (F_next_state : FnD P7 w K mg base 1 "next_state" 3 s_next_state) : FnD P7 w K mg base 2 "state_after" 2 s_state_after :=
  fnD_of (N := N_state_after) (ps := P_state_after) F hx ⟨rfl, rfl, rfl, nd_state_after, rfl, by decide +kernel, by decide +kernel⟩ (F.bindsN fun _ _ _ _ _ _ us hl => match us, hl with | [_, _], _ => rfl) (fun ds h q z => by first | (obtain ⟨_, rfl, _⟩ := z; rfl) | (obtain ⟨_, _, rfl, _⟩ := z; rfl) | (obtain ⟨_, _, _, rfl, _⟩ := z; rfl) | (obtain ⟨_, _, _, _, rfl, _⟩ := z; rfl) | (obtain ⟨_, _, _, _, _, rfl, _⟩ := z; rfl) | (obtain ⟨_, _, _, _, _, _, rfl, _⟩ := z; rfl) | (obtain ⟨_, _, _, _, _, _, _, rfl, _⟩ := z; rfl)) fun cd A outer s H E hr hgd => ⟨_, l_state_after hr hgd F_next_state, fun ds h q z => by rw [e_state_after]; exact p_state_after z⟩

theorem f_Part_after  (F : FunD K "after" "Part.after" (defArgs (cls 34 7)) (defBody (cls 34 7)) (defScope (cls 34 7)) [] [] f fd) {C : Addr} (hC : mg "Part" = some (.ref C)) (cl : Cls K C) (me : Meth K C "after" f) (F_require_word : FnD P7 w K mg base 3 "require_word" 1 s_require_word) (F_state_after : FnD P7 w K mg base 2 "state_after" 2 s_state_after) : MtD P7 w K mg base 4 "Part" "after" 2 s_Part_after :=
  mtD_of (N := N_Part_after) (ps := P_Part_after) F hC cl me ⟨rfl, rfl, rfl, nd_Part_after, rfl, by decide +kernel, by decide +kernel⟩ (F.bindsN fun _ _ _ _ _ _ us hl => match us, hl with | [_, _], _ => rfl) (fun ds h q z => by first | (obtain ⟨_, rfl, _⟩ := z; rfl) | (obtain ⟨_, _, rfl, _⟩ := z; rfl) | (obtain ⟨_, _, _, rfl, _⟩ := z; rfl) | (obtain ⟨_, _, _, _, rfl, _⟩ := z; rfl) | (obtain ⟨_, _, _, _, _, rfl, _⟩ := z; rfl) | (obtain ⟨_, _, _, _, _, _, rfl, _⟩ := z; rfl) | (obtain ⟨_, _, _, _, _, _, _, rfl, _⟩ := z; rfl)) fun cd A outer s H E hr hgd => ⟨_, l_Part_after hr hgd F_require_word F_state_after, fun ds h q z => by rw [e_Part_after]; exact p_Part_after z⟩

theorem f_require_part {C_Part : Addr} (F : FunD K "require_part" "require_part" (defArgs (top 36)) (defBody (top 36)) (defScope (top 36)) [] [] f fd) (hx : mg "require_part" = some (.ref f)) (g_isinstance : mg "isinstance" = none) (m_Part : mg "Part" = some (.ref C_Part)) (t_Part : IsTab K mg (.ref C_Part) tabPart) : FnD P7 w K mg base 1 "require_part" 1 s_require_part :=
  fnD_of (N := N_require_part) (ps := P_require_part) F hx ⟨rfl, rfl, rfl, nd_require_part, rfl, by decide +kernel, by decide +kernel⟩ (F.bindsN fun _ _ _ _ _ _ us hl => match us, hl with | [_], _ => rfl) (fun ds h q z => by first | (obtain ⟨_, rfl, _⟩ := z; rfl) | (obtain ⟨_, _, rfl, _⟩ := z; rfl) | (obtain ⟨_, _, _, rfl, _⟩ := z; rfl) | (obtain ⟨_, _, _, _, rfl, _⟩ := z; rfl) | (obtain ⟨_, _, _, _, _, rfl, _⟩ := z; rfl) | (obtain ⟨_, _, _, _, _, _, rfl, _⟩ := z; rfl) | (obtain ⟨_, _, _, _, _, _, _, rfl, _⟩ := z; rfl)) fun cd A outer s H E hr hgd => ⟨_, l_require_part hr hgd g_isinstance m_Part t_Part, fun ds h q z => by rw [e_require_part]; exact p_require_part z⟩

theorem f_offer_at  (F : FunD K "offer_at" "offer_at" (defArgs (top 37)) (defBody (top 37)) (defScope (top 37)) [] [] f fd) (hx : mg "offer_at" = some (.ref f)) (g_tuple : mg "tuple" = none) (g_list : mg "list" = none) (T_own_rests : ∀ x ∈ (["Part", "Rows"] : List Str), Fl K mg x "own_rests") (T_own_steps : ∀ x ∈ (["Part", "Rows"] : List Str), Fl K mg x "own_steps") : FnD P7 w K mg base 1 "offer_at" 2 s_offer_at :=
  fnD_of (N := N_offer_at) (ps := P_offer_at) F hx ⟨rfl, rfl, rfl, nd_offer_at, rfl, by decide +kernel, by decide +kernel⟩ (F.bindsN fun _ _ _ _ _ _ us hl => match us, hl with | [_, _], _ => rfl) (fun ds h q z => by first | (obtain ⟨_, rfl, _⟩ := z; rfl) | (obtain ⟨_, _, rfl, _⟩ := z; rfl) | (obtain ⟨_, _, _, rfl, _⟩ := z; rfl) | (obtain ⟨_, _, _, _, rfl, _⟩ := z; rfl) | (obtain ⟨_, _, _, _, _, rfl, _⟩ := z; rfl) | (obtain ⟨_, _, _, _, _, _, rfl, _⟩ := z; rfl) | (obtain ⟨_, _, _, _, _, _, _, rfl, _⟩ := z; rfl)) fun cd A outer s H E hr hgd => ⟨_, l_offer_at hr hgd g_tuple g_list T_own_rests T_own_steps, fun ds h q z => by rw [e_offer_at]; exact p_offer_at z⟩

theorem f_both_walked  (F : FunD K "both_walked" "both_walked" (defArgs (top 41)) (defBody (top 41)) (defScope (top 41)) [] [] f fd) (hx : mg "both_walked" = some (.ref f)) (g_len : mg "len" = none) (g_sorted : mg "sorted" = none) (g_list : mg "list" = none) (T_own_steps : ∀ x ∈ (["Part", "Rows"] : List Str), Fl K mg x "own_steps") : FnD P7 w K mg base 1 "both_walked" 2 s_both_walked :=
  fnD_of (N := N_both_walked) (ps := P_both_walked) F hx ⟨rfl, rfl, rfl, nd_both_walked, rfl, by decide +kernel, by decide +kernel⟩ (F.bindsN fun _ _ _ _ _ _ us hl => match us, hl with | [_, _], _ => rfl) (fun ds h q z => by first | (obtain ⟨_, rfl, _⟩ := z; rfl) | (obtain ⟨_, _, rfl, _⟩ := z; rfl) | (obtain ⟨_, _, _, rfl, _⟩ := z; rfl) | (obtain ⟨_, _, _, _, rfl, _⟩ := z; rfl) | (obtain ⟨_, _, _, _, _, rfl, _⟩ := z; rfl) | (obtain ⟨_, _, _, _, _, _, rfl, _⟩ := z; rfl) | (obtain ⟨_, _, _, _, _, _, _, rfl, _⟩ := z; rfl)) fun cd A outer s H E hr hgd => ⟨_, l_both_walked hr hgd g_len g_sorted g_list T_own_steps, fun ds h q z => by rw [e_both_walked]; exact p_both_walked z⟩

theorem f_are_unlike  (F : FunD K "are_unlike" "are_unlike" (defArgs (top 42)) (defBody (top 42)) (defScope (top 42)) [] [] f fd) (hx : mg "are_unlike" = some (.ref f)) (F_offer_at : FnD P7 w K mg base 1 "offer_at" 2 s_offer_at) : FnD P7 w K mg base 2 "are_unlike" 3 s_are_unlike :=
  fnD_of (N := N_are_unlike) (ps := P_are_unlike) F hx ⟨rfl, rfl, rfl, nd_are_unlike, rfl, by decide +kernel, by decide +kernel⟩ (F.bindsN fun _ _ _ _ _ _ us hl => match us, hl with | [_, _, _], _ => rfl) (fun ds h q z => by first | (obtain ⟨_, rfl, _⟩ := z; rfl) | (obtain ⟨_, _, rfl, _⟩ := z; rfl) | (obtain ⟨_, _, _, rfl, _⟩ := z; rfl) | (obtain ⟨_, _, _, _, rfl, _⟩ := z; rfl) | (obtain ⟨_, _, _, _, _, rfl, _⟩ := z; rfl) | (obtain ⟨_, _, _, _, _, _, rfl, _⟩ := z; rfl) | (obtain ⟨_, _, _, _, _, _, _, rfl, _⟩ := z; rfl)) fun cd A outer s H E hr hgd => ⟨_, l_are_unlike hr hgd F_offer_at, fun ds h q z => by rw [e_are_unlike]; exact p_are_unlike z⟩

theorem f_difference  (F : FunD K "difference" "difference" (defArgs (top 43)) (defBody (top 43)) (defScope (top 43)) [] [] f fd) (hx : mg "difference" = some (.ref f)) (F_require_part : FnD P7 w K mg base 1 "require_part" 1 s_require_part) (F_both_walked : FnD P7 w K mg base 1 "both_walked" 2 s_both_walked) (F_are_unlike : FnD P7 w K mg base 2 "are_unlike" 3 s_are_unlike) : FnD P7 w K mg base 3 "difference" 2 s_difference :=
  fnD_of (N := N_difference) (ps := P_difference) F hx ⟨rfl, rfl, rfl, nd_difference, rfl, by decide +kernel, by decide +kernel⟩ (F.bindsN fun _ _ _ _ _ _ us hl => match us, hl with | [_, _], _ => rfl) (fun ds h q z => by first | (obtain ⟨_, rfl, _⟩ := z; rfl) | (obtain ⟨_, _, rfl, _⟩ := z; rfl) | (obtain ⟨_, _, _, rfl, _⟩ := z; rfl) | (obtain ⟨_, _, _, _, rfl, _⟩ := z; rfl) | (obtain ⟨_, _, _, _, _, rfl, _⟩ := z; rfl) | (obtain ⟨_, _, _, _, _, _, rfl, _⟩ := z; rfl) | (obtain ⟨_, _, _, _, _, _, _, rfl, _⟩ := z; rfl)) fun cd A outer s H E hr hgd => ⟨_, l_difference hr hgd F_require_part F_both_walked F_are_unlike, fun ds h q z => by rw [e_difference]; exact p_difference z⟩

theorem f_are_alike  (F : FunD K "are_alike" "are_alike" (defArgs (top 44)) (defBody (top 44)) (defScope (top 44)) [] [] f fd) (hx : mg "are_alike" = some (.ref f)) (F_difference : FnD P7 w K mg base 3 "difference" 2 s_difference) : FnD P7 w K mg base 4 "are_alike" 2 s_are_alike :=
  fnD_of (N := N_are_alike) (ps := P_are_alike) F hx ⟨rfl, rfl, rfl, nd_are_alike, rfl, by decide +kernel, by decide +kernel⟩ (F.bindsN fun _ _ _ _ _ _ us hl => match us, hl with | [_, _], _ => rfl) (fun ds h q z => by first | (obtain ⟨_, rfl, _⟩ := z; rfl) | (obtain ⟨_, _, rfl, _⟩ := z; rfl) | (obtain ⟨_, _, _, rfl, _⟩ := z; rfl) | (obtain ⟨_, _, _, _, rfl, _⟩ := z; rfl) | (obtain ⟨_, _, _, _, _, rfl, _⟩ := z; rfl) | (obtain ⟨_, _, _, _, _, _, rfl, _⟩ := z; rfl) | (obtain ⟨_, _, _, _, _, _, _, rfl, _⟩ := z; rfl)) fun cd A outer s H E hr hgd => ⟨_, l_are_alike hr hgd F_difference, fun ds h q z => by rw [e_are_alike]; exact p_are_alike z⟩

theorem f_is_difference  (F : FunD K "is_difference" "is_difference" (defArgs (top 45)) (defBody (top 45)) (defScope (top 45)) [] [] f fd) (hx : mg "is_difference" = some (.ref f)) (F_require_part : FnD P7 w K mg base 1 "require_part" 1 s_require_part) (F_is_word : FnD P7 w K mg base 2 "is_word" 1 s_is_word) (F_are_unlike : FnD P7 w K mg base 2 "are_unlike" 3 s_are_unlike) (F_Part_after : MtD P7 w K mg base 4 "Part" "after" 2 s_Part_after) : FnD P7 w K mg base 5 "is_difference" 3 s_is_difference :=
  fnD_of (N := N_is_difference) (ps := P_is_difference) F hx ⟨rfl, rfl, rfl, nd_is_difference, rfl, by decide +kernel, by decide +kernel⟩ (F.bindsN fun _ _ _ _ _ _ us hl => match us, hl with | [_, _, _], _ => rfl) (fun ds h q z => by first | (obtain ⟨_, rfl, _⟩ := z; rfl) | (obtain ⟨_, _, rfl, _⟩ := z; rfl) | (obtain ⟨_, _, _, rfl, _⟩ := z; rfl) | (obtain ⟨_, _, _, _, rfl, _⟩ := z; rfl) | (obtain ⟨_, _, _, _, _, rfl, _⟩ := z; rfl) | (obtain ⟨_, _, _, _, _, _, rfl, _⟩ := z; rfl) | (obtain ⟨_, _, _, _, _, _, _, rfl, _⟩ := z; rfl)) fun cd A outer s H E hr hgd => ⟨_, l_is_difference hr hgd F_require_part F_is_word F_are_unlike F_Part_after, fun ds h q z => by rw [e_is_difference]; exact p_is_difference z⟩

theorem f__law_dice  (F : FunD K "_law_dice" "_law_dice" (defArgs (top 47)) (defBody (top 47)) (defScope (top 47)) [] [] f fd) (hx : mg "_law_dice" = some (.ref f)) (g_len : mg "len" = none) (g_int : mg "int" = none) (g_abs : mg "abs" = none) : FnD P7 w K mg base 1 "_law_dice" 2 s__law_dice :=
  fnD_of (N := N__law_dice) (ps := P__law_dice) F hx ⟨rfl, rfl, rfl, nd__law_dice, rfl, by decide +kernel, by decide +kernel⟩ (F.bindsN fun _ _ _ _ _ _ us hl => match us, hl with | [_, _], _ => rfl) (fun ds h q z => by first | (obtain ⟨_, rfl, _⟩ := z; rfl) | (obtain ⟨_, _, rfl, _⟩ := z; rfl) | (obtain ⟨_, _, _, rfl, _⟩ := z; rfl) | (obtain ⟨_, _, _, _, rfl, _⟩ := z; rfl) | (obtain ⟨_, _, _, _, _, rfl, _⟩ := z; rfl) | (obtain ⟨_, _, _, _, _, _, rfl, _⟩ := z; rfl) | (obtain ⟨_, _, _, _, _, _, _, rfl, _⟩ := z; rfl)) fun cd A outer s H E hr hgd => ⟨_, l__law_dice hr hgd g_len g_int g_abs, fun ds h q z => by rw [e__law_dice]; exact p_dice z⟩

theorem f__law_roll  (F : FunD K "_law_roll" "_law_roll" (defArgs (top 48)) (defBody (top 48)) (defScope (top 48)) [] [] f fd) (hx : mg "_law_roll" = some (.ref f)) (g_int : mg "int" = none) : FnD P7 w K mg base 1 "_law_roll" 2 s__law_roll :=
  fnD_of (N := N__law_roll) (ps := P__law_roll) F hx ⟨rfl, rfl, rfl, nd__law_roll, rfl, by decide +kernel, by decide +kernel⟩ (F.bindsN fun _ _ _ _ _ _ us hl => match us, hl with | [_, _], _ => rfl) (fun ds h q z => by first | (obtain ⟨_, rfl, _⟩ := z; rfl) | (obtain ⟨_, _, rfl, _⟩ := z; rfl) | (obtain ⟨_, _, _, rfl, _⟩ := z; rfl) | (obtain ⟨_, _, _, _, rfl, _⟩ := z; rfl) | (obtain ⟨_, _, _, _, _, rfl, _⟩ := z; rfl) | (obtain ⟨_, _, _, _, _, _, rfl, _⟩ := z; rfl) | (obtain ⟨_, _, _, _, _, _, _, rfl, _⟩ := z; rfl)) fun cd A outer s H E hr hgd => ⟨_, l__law_roll hr hgd g_int, fun ds h q z => by rw [e__law_roll]; exact p_roll z⟩

theorem f__law_one_of  (F : FunD K "_law_one_of" "_law_one_of" (defArgs (top 49)) (defBody (top 49)) (defScope (top 49)) [] [] f fd) (hx : mg "_law_one_of" = some (.ref f)) (g_len : mg "len" = none) (F__law_roll : FnD P7 w K mg base 1 "_law_roll" 2 s__law_roll) : FnD P7 w K mg base 2 "_law_one_of" 2 s__law_one_of :=
  fnD_of (N := N__law_one_of) (ps := P__law_one_of) F hx ⟨rfl, rfl, rfl, nd__law_one_of, rfl, by decide +kernel, by decide +kernel⟩ (F.bindsN fun _ _ _ _ _ _ us hl => match us, hl with | [_, _], _ => rfl) (fun ds h q z => by first | (obtain ⟨_, rfl, _⟩ := z; rfl) | (obtain ⟨_, _, rfl, _⟩ := z; rfl) | (obtain ⟨_, _, _, rfl, _⟩ := z; rfl) | (obtain ⟨_, _, _, _, rfl, _⟩ := z; rfl) | (obtain ⟨_, _, _, _, _, rfl, _⟩ := z; rfl) | (obtain ⟨_, _, _, _, _, _, rfl, _⟩ := z; rfl) | (obtain ⟨_, _, _, _, _, _, _, rfl, _⟩ := z; rfl)) fun cd A outer s H E hr hgd => ⟨_, l__law_one_of hr hgd g_len F__law_roll, fun ds h q z => by rw [e__law_one_of]; exact p_one_of z⟩

theorem f__law_mixed  (F : FunD K "_law_mixed" "_law_mixed" (defArgs (top 50)) (defBody (top 50)) (defScope (top 50)) [] [] f fd) (hx : mg "_law_mixed" = some (.ref f)) (g_list : mg "list" = none) (g_len : mg "len" = none) (F__law_roll : FnD P7 w K mg base 1 "_law_roll" 2 s__law_roll) : FnD P7 w K mg base 2 "_law_mixed" 2 s__law_mixed :=
  fnD_of (N := N__law_mixed) (ps := P__law_mixed) F hx ⟨rfl, rfl, rfl, nd__law_mixed, rfl, by decide +kernel, by decide +kernel⟩ (F.bindsN fun _ _ _ _ _ _ us hl => match us, hl with | [_, _], _ => rfl) (fun ds h q z => by first | (obtain ⟨_, rfl, _⟩ := z; rfl) | (obtain ⟨_, _, rfl, _⟩ := z; rfl) | (obtain ⟨_, _, _, rfl, _⟩ := z; rfl) | (obtain ⟨_, _, _, _, rfl, _⟩ := z; rfl) | (obtain ⟨_, _, _, _, _, rfl, _⟩ := z; rfl) | (obtain ⟨_, _, _, _, _, _, rfl, _⟩ := z; rfl) | (obtain ⟨_, _, _, _, _, _, _, rfl, _⟩ := z; rfl)) fun cd A outer s H E hr hgd => ⟨_, l__law_mixed hr hgd g_list g_len F__law_roll, fun ds h q z => by rw [e__law_mixed]; exact p_mixed z⟩

theorem f__law_actions  (F : FunD K "_law_actions" "_law_actions" (defArgs (top 51)) (defBody (top 51)) (defScope (top 51)) [] [] f fd) (hx : mg "_law_actions" = some (.ref f)) (g_sorted : mg "sorted" = none) (F__law_mixed : FnD P7 w K mg base 2 "_law_mixed" 2 s__law_mixed) : FnD P7 w K mg base 3 "_law_actions" 2 s__law_actions :=
  fnD_of (N := N__law_actions) (ps := P__law_actions) F hx ⟨rfl, rfl, rfl, nd__law_actions, rfl, by decide +kernel, by decide +kernel⟩ (F.bindsN fun _ _ _ _ _ _ us hl => match us, hl with | [_, _], _ => rfl) (fun ds h q z => by first | (obtain ⟨_, rfl, _⟩ := z; rfl) | (obtain ⟨_, _, rfl, _⟩ := z; rfl) | (obtain ⟨_, _, _, rfl, _⟩ := z; rfl) | (obtain ⟨_, _, _, _, rfl, _⟩ := z; rfl) | (obtain ⟨_, _, _, _, _, rfl, _⟩ := z; rfl) | (obtain ⟨_, _, _, _, _, _, rfl, _⟩ := z; rfl) | (obtain ⟨_, _, _, _, _, _, _, rfl, _⟩ := z; rfl)) fun cd A outer s H E hr hgd => ⟨_, l__law_actions hr hgd g_sorted F__law_mixed, fun ds h q z => by rw [e__law_actions]; exact p_actions z⟩

theorem f__law_part  (F : FunD K "_law_part" "_law_part" (defArgs (top 52)) (defBody (top 52)) (defScope (top 52)) [] [] f fd) (hx : mg "_law_part" = some (.ref f)) (g_range : mg "range" = none) (F__law_roll : FnD P7 w K mg base 1 "_law_roll" 2 s__law_roll) : FnD P7 w K mg base 2 "_law_part" 3 s__law_part :=
  fnD_of (N := N__law_part) (ps := P__law_part) F hx ⟨rfl, rfl, rfl, nd__law_part, rfl, by decide +kernel, by decide +kernel⟩ (F.bindsN fun _ _ _ _ _ _ us hl => match us, hl with | [_, _, _], _ => rfl) (fun ds h q z => by first | (obtain ⟨_, rfl, _⟩ := z; rfl) | (obtain ⟨_, _, rfl, _⟩ := z; rfl) | (obtain ⟨_, _, _, rfl, _⟩ := z; rfl) | (obtain ⟨_, _, _, _, rfl, _⟩ := z; rfl) | (obtain ⟨_, _, _, _, _, rfl, _⟩ := z; rfl) | (obtain ⟨_, _, _, _, _, _, rfl, _⟩ := z; rfl) | (obtain ⟨_, _, _, _, _, _, _, rfl, _⟩ := z; rfl)) fun cd A outer s H E hr hgd => ⟨_, l__law_part hr hgd g_range F__law_roll, fun ds h q z => by rw [e__law_part]; exact p_part z⟩

theorem f__law_made_part  (F : FunD K "_law_made_part" "_law_made_part" (defArgs (top 53)) (defBody (top 53)) (defScope (top 53)) [] [] f fd) (hx : mg "_law_made_part" = some (.ref f)) (g_tuple : mg "tuple" = none) (g_enumerate : mg "enumerate" = none) (g_dict : mg "dict" = none) (g_list : mg "list" = none) (F_Part : MkD P7 w K mg base 5 "Part" 3 s_Part) : FnD P7 w K mg base 7 "_law_made_part" 1 s__law_made_part :=
  fnD_of (N := N__law_made_part) (ps := P__law_made_part) F hx ⟨rfl, rfl, rfl, nd__law_made_part, rfl, by decide +kernel, by decide +kernel⟩ (F.bindsN fun _ _ _ _ _ _ us hl => match us, hl with | [_], _ => rfl) (fun ds h q z => by first | (obtain ⟨_, rfl, _⟩ := z; rfl) | (obtain ⟨_, _, rfl, _⟩ := z; rfl) | (obtain ⟨_, _, _, rfl, _⟩ := z; rfl) | (obtain ⟨_, _, _, _, rfl, _⟩ := z; rfl) | (obtain ⟨_, _, _, _, _, rfl, _⟩ := z; rfl) | (obtain ⟨_, _, _, _, _, _, rfl, _⟩ := z; rfl) | (obtain ⟨_, _, _, _, _, _, _, rfl, _⟩ := z; rfl)) fun cd A outer s H E hr hgd => ⟨_, l__law_made_part hr hgd g_tuple g_enumerate g_dict g_list F_Part, fun ds h q z => by rw [e__law_made_part]; exact p_made_part z⟩

theorem f__law_offer  (F : FunD K "_law_offer" "_law_offer" (defArgs (top 54)) (defBody (top 54)) (defScope (top 54)) [] [] f fd) (hx : mg "_law_offer" = some (.ref f)) (g_tuple : mg "tuple" = none) (g_sorted : mg "sorted" = none) : FnD P7 w K mg base 1 "_law_offer" 2 s__law_offer :=
  fnD_of (N := N__law_offer) (ps := P__law_offer) F hx ⟨rfl, rfl, rfl, nd__law_offer, rfl, by decide +kernel, by decide +kernel⟩ (F.bindsN fun _ _ _ _ _ _ us hl => match us, hl with | [_, _], _ => rfl) (fun ds h q z => by first | (obtain ⟨_, rfl, _⟩ := z; rfl) | (obtain ⟨_, _, rfl, _⟩ := z; rfl) | (obtain ⟨_, _, _, rfl, _⟩ := z; rfl) | (obtain ⟨_, _, _, _, rfl, _⟩ := z; rfl) | (obtain ⟨_, _, _, _, _, rfl, _⟩ := z; rfl) | (obtain ⟨_, _, _, _, _, _, rfl, _⟩ := z; rfl) | (obtain ⟨_, _, _, _, _, _, _, rfl, _⟩ := z; rfl)) fun cd A outer s H E hr hgd => ⟨_, l__law_offer hr hgd g_tuple g_sorted, fun ds h q z => by rw [e__law_offer]; exact p_offer z⟩

theorem f__law_near_part  (F : FunD K "_law_near_part" "_law_near_part" (defArgs (top 55)) (defBody (top 55)) (defScope (top 55)) [] [] f fd) (hx : mg "_law_near_part" = some (.ref f)) (g_dict : mg "dict" = none) (g_list : mg "list" = none) (g_len : mg "len" = none) (F__law_roll : FnD P7 w K mg base 1 "_law_roll" 2 s__law_roll) (F__law_one_of : FnD P7 w K mg base 2 "_law_one_of" 2 s__law_one_of) (F__law_part : FnD P7 w K mg base 2 "_law_part" 3 s__law_part) : FnD P7 w K mg base 3 "_law_near_part" 3 s__law_near_part :=
  fnD_of (N := N__law_near_part) (ps := P__law_near_part) F hx ⟨rfl, rfl, rfl, nd__law_near_part, rfl, by decide +kernel, by decide +kernel⟩ (F.bindsN fun _ _ _ _ _ _ us hl => match us, hl with | [_, _, _], _ => rfl) (fun ds h q z => by first | (obtain ⟨_, rfl, _⟩ := z; rfl) | (obtain ⟨_, _, rfl, _⟩ := z; rfl) | (obtain ⟨_, _, _, rfl, _⟩ := z; rfl) | (obtain ⟨_, _, _, _, rfl, _⟩ := z; rfl) | (obtain ⟨_, _, _, _, _, rfl, _⟩ := z; rfl) | (obtain ⟨_, _, _, _, _, _, rfl, _⟩ := z; rfl) | (obtain ⟨_, _, _, _, _, _, _, rfl, _⟩ := z; rfl)) fun cd A outer s H E hr hgd => ⟨_, l__law_near_part hr hgd g_dict g_list g_len F__law_roll F__law_one_of F__law_part, fun ds h q z => by rw [e__law_near_part]; exact p_near z⟩

theorem f__law_both  (F : FunD K "_law_both" "_law_both" (defArgs (top 56)) (defBody (top 56)) (defScope (top 56)) [] [] f fd) (hx : mg "_law_both" = some (.ref f)) (g_len : mg "len" = none) (g_sorted : mg "sorted" = none) : FnD P7 w K mg base 1 "_law_both" 2 s__law_both :=
  fnD_of (N := N__law_both) (ps := P__law_both) F hx ⟨rfl, rfl, rfl, nd__law_both, rfl, by decide +kernel, by decide +kernel⟩ (F.bindsN fun _ _ _ _ _ _ us hl => match us, hl with | [_, _], _ => rfl) (fun ds h q z => by first | (obtain ⟨_, rfl, _⟩ := z; rfl) | (obtain ⟨_, _, rfl, _⟩ := z; rfl) | (obtain ⟨_, _, _, rfl, _⟩ := z; rfl) | (obtain ⟨_, _, _, _, rfl, _⟩ := z; rfl) | (obtain ⟨_, _, _, _, _, rfl, _⟩ := z; rfl) | (obtain ⟨_, _, _, _, _, _, rfl, _⟩ := z; rfl) | (obtain ⟨_, _, _, _, _, _, _, rfl, _⟩ := z; rfl)) fun cd A outer s H E hr hgd => ⟨_, l__law_both hr hgd g_len g_sorted, fun ds h q z => by rw [e__law_both]; exact p_both z⟩

theorem f__law_after  (F : FunD K "_law_after" "_law_after" (defArgs (top 57)) (defBody (top 57)) (defScope (top 57)) [] [] f fd) (hx : mg "_law_after" = some (.ref f))  : FnD P7 w K mg base 1 "_law_after" 2 s__law_after :=
  fnD_of (N := N__law_after) (ps := P__law_after) F hx ⟨rfl, rfl, rfl, nd__law_after, rfl, by decide +kernel, by decide +kernel⟩ (F.bindsN fun _ _ _ _ _ _ us hl => match us, hl with | [_, _], _ => rfl) (fun ds h q z => by first | (obtain ⟨_, rfl, _⟩ := z; rfl) | (obtain ⟨_, _, rfl, _⟩ := z; rfl) | (obtain ⟨_, _, _, rfl, _⟩ := z; rfl) | (obtain ⟨_, _, _, _, rfl, _⟩ := z; rfl) | (obtain ⟨_, _, _, _, _, rfl, _⟩ := z; rfl) | (obtain ⟨_, _, _, _, _, _, rfl, _⟩ := z; rfl) | (obtain ⟨_, _, _, _, _, _, _, rfl, _⟩ := z; rfl)) fun cd A outer s H E hr hgd => ⟨_, l__law_after hr hgd , fun ds h q z => by rw [e__law_after]; exact p_after z⟩

theorem f__law_words  (F : FunD K "_law_words" "_law_words" (defArgs (top 58)) (defBody (top 58)) (defScope (top 58)) [] [] f fd) (hx : mg "_law_words" = some (.ref f)) (g_range : mg "range" = none) (g_list : mg "list" = none) : FnD P7 w K mg base 1 "_law_words" 2 s__law_words :=
  fnD_of (N := N__law_words) (ps := P__law_words) F hx ⟨rfl, rfl, rfl, nd__law_words, rfl, by decide +kernel, by decide +kernel⟩ (F.bindsN fun _ _ _ _ _ _ us hl => match us, hl with | [_, _], _ => rfl) (fun ds h q z => by first | (obtain ⟨_, rfl, _⟩ := z; rfl) | (obtain ⟨_, _, rfl, _⟩ := z; rfl) | (obtain ⟨_, _, _, rfl, _⟩ := z; rfl) | (obtain ⟨_, _, _, _, rfl, _⟩ := z; rfl) | (obtain ⟨_, _, _, _, _, rfl, _⟩ := z; rfl) | (obtain ⟨_, _, _, _, _, _, rfl, _⟩ := z; rfl) | (obtain ⟨_, _, _, _, _, _, _, rfl, _⟩ := z; rfl)) fun cd A outer s H E hr hgd => ⟨_, l__law_words hr hgd g_range g_list, fun ds h q z => by rw [e__law_words]; exact p_words z⟩

theorem f__law_first  (F : FunD K "_law_first" "_law_first" (defArgs (top 59)) (defBody (top 59)) (defScope (top 59)) [] [] f fd) (hx : mg "_law_first" = some (.ref f)) (F__law_both : FnD P7 w K mg base 1 "_law_both" 2 s__law_both) (F__law_offer : FnD P7 w K mg base 1 "_law_offer" 2 s__law_offer) : FnD P7 w K mg base 2 "_law_first" 2 s__law_first :=
  fnD_of (N := N__law_first) (ps := P__law_first) F hx ⟨rfl, rfl, rfl, nd__law_first, rfl, by decide +kernel, by decide +kernel⟩ (F.bindsN fun _ _ _ _ _ _ us hl => match us, hl with | [_, _], _ => rfl) (fun ds h q z => by first | (obtain ⟨_, rfl, _⟩ := z; rfl) | (obtain ⟨_, _, rfl, _⟩ := z; rfl) | (obtain ⟨_, _, _, rfl, _⟩ := z; rfl) | (obtain ⟨_, _, _, _, rfl, _⟩ := z; rfl) | (obtain ⟨_, _, _, _, _, rfl, _⟩ := z; rfl) | (obtain ⟨_, _, _, _, _, _, rfl, _⟩ := z; rfl) | (obtain ⟨_, _, _, _, _, _, _, rfl, _⟩ := z; rfl)) fun cd A outer s H E hr hgd => ⟨_, l__law_first hr hgd F__law_both F__law_offer, fun ds h q z => by rw [e__law_first]; exact p_first z⟩

theorem f__law_due  (F : FunD K "_law_due" "_law_due" (defArgs (top 60)) (defBody (top 60)) (defScope (top 60)) [] [] f fd) (hx : mg "_law_due" = some (.ref f)) (F__law_after : FnD P7 w K mg base 1 "_law_after" 2 s__law_after) (F__law_offer : FnD P7 w K mg base 1 "_law_offer" 2 s__law_offer) : FnD P7 w K mg base 2 "_law_due" 3 s__law_due :=
  fnD_of (N := N__law_due) (ps := P__law_due) F hx ⟨rfl, rfl, rfl, nd__law_due, rfl, by decide +kernel, by decide +kernel⟩ (F.bindsN fun _ _ _ _ _ _ us hl => match us, hl with | [_, _, _], _ => rfl) (fun ds h q z => by first | (obtain ⟨_, rfl, _⟩ := z; rfl) | (obtain ⟨_, _, rfl, _⟩ := z; rfl) | (obtain ⟨_, _, _, rfl, _⟩ := z; rfl) | (obtain ⟨_, _, _, _, rfl, _⟩ := z; rfl) | (obtain ⟨_, _, _, _, _, rfl, _⟩ := z; rfl) | (obtain ⟨_, _, _, _, _, _, rfl, _⟩ := z; rfl) | (obtain ⟨_, _, _, _, _, _, _, rfl, _⟩ := z; rfl)) fun cd A outer s H E hr hgd => ⟨_, l__law_due hr hgd F__law_after F__law_offer, fun ds h q z => by rw [e__law_due]; exact p_due z⟩

theorem f__law_right  (F : FunD K "_law_right" "_law_right" (defArgs (top 61)) (defBody (top 61)) (defScope (top 61)) [] [] f fd) (hx : mg "_law_right" = some (.ref f)) (g_repr : mg "repr" = none) (g_list : mg "list" = none) (F__law_actions : FnD P7 w K mg base 3 "_law_actions" 2 s__law_actions) (F__law_roll : FnD P7 w K mg base 1 "_law_roll" 2 s__law_roll) (F__law_part : FnD P7 w K mg base 2 "_law_part" 3 s__law_part) (F__law_near_part : FnD P7 w K mg base 3 "_law_near_part" 3 s__law_near_part) (F__law_made_part : FnD P7 w K mg base 7 "_law_made_part" 1 s__law_made_part) (F__law_first : FnD P7 w K mg base 2 "_law_first" 2 s__law_first) (F_difference : FnD P7 w K mg base 3 "difference" 2 s_difference) (F_are_alike : FnD P7 w K mg base 4 "are_alike" 2 s_are_alike) (F__law_words : FnD P7 w K mg base 1 "_law_words" 2 s__law_words) (F_is_difference : FnD P7 w K mg base 5 "is_difference" 3 s_is_difference) (F__law_due : FnD P7 w K mg base 2 "_law_due" 3 s__law_due) : FnD P7 w K mg base 8 "_law_right" 1 s__law_right :=
  fnD_of (N := N__law_right) (ps := P__law_right) F hx ⟨rfl, rfl, rfl, nd__law_right, rfl, by decide +kernel, by decide +kernel⟩ (F.bindsN fun _ _ _ _ _ _ us hl => match us, hl with | [_], _ => rfl) (fun ds h q z => by first | (obtain ⟨_, rfl, _⟩ := z; rfl) | (obtain ⟨_, _, rfl, _⟩ := z; rfl) | (obtain ⟨_, _, _, rfl, _⟩ := z; rfl) | (obtain ⟨_, _, _, _, rfl, _⟩ := z; rfl) | (obtain ⟨_, _, _, _, _, rfl, _⟩ := z; rfl) | (obtain ⟨_, _, _, _, _, _, rfl, _⟩ := z; rfl) | (obtain ⟨_, _, _, _, _, _, _, rfl, _⟩ := z; rfl)) fun cd A outer s H E hr hgd => ⟨_, l__law_right hr hgd g_repr g_list F__law_actions F__law_roll F__law_part F__law_near_part F__law_made_part F__law_first F_difference F_are_alike F__law_words F_is_difference F__law_due, fun ds h q z => by rw [e__law_right]; exact p_right z⟩

theorem f_law  (F : FunD K "law" "law" (defArgs (top 62)) (defBody (top 62)) (defScope (top 62)) [] [] f fd) (g_range : mg "range" = none) (g_max : mg "max" = none) (g_min : mg "min" = none) (g_len : mg "len" = none) (g_int : mg "int" = none) (g_tuple : mg "tuple" = none) (F__law_dice : FnD P7 w K mg base 1 "_law_dice" 2 s__law_dice) (F__law_right : FnD P7 w K mg base 8 "_law_right" 1 s__law_right) (F_is_difference : FnD P7 w K mg base 5 "is_difference" 3 s_is_difference) (F_difference : FnD P7 w K mg base 3 "difference" 2 s_difference) (F_are_alike : FnD P7 w K mg base 4 "are_alike" 2 s_are_alike) (F_Part : MkD P7 w K mg base 5 "Part" 3 s_Part) : FnG P7 w K mg base CX0 9 f fd P_law (spD K mg 1 s_law) :=
  fnG_of (N := N_law) (ps := P_law) F ⟨rfl, rfl, rfl, nd_law, rfl, by decide +kernel, by decide +kernel⟩ (fun ds h q z => by first | (obtain ⟨_, rfl, _⟩ := z; rfl) | (obtain ⟨_, _, rfl, _⟩ := z; rfl) | (obtain ⟨_, _, _, rfl, _⟩ := z; rfl) | (obtain ⟨_, _, _, _, rfl, _⟩ := z; rfl) | (obtain ⟨_, _, _, _, _, rfl, _⟩ := z; rfl) | (obtain ⟨_, _, _, _, _, _, rfl, _⟩ := z; rfl) | (obtain ⟨_, _, _, _, _, _, _, rfl, _⟩ := z; rfl)) fun cd A outer s H E hr hgd => ⟨_, l_law hr hgd g_range g_max g_min g_len g_int g_tuple F__law_dice F__law_right F_is_difference F_difference F_are_alike F_Part, fun ds h q z => by rw [e_law]; exact p_law z⟩

end
end K07S

set_option Elab.async false
set_option linter.all false
set_option maxRecDepth 100000
set_option maxHeartbeats 0
namespace K07
open PySem PySem.Spec PyProof.Rows L2
abbrev R : PySem.W.OpenRow := PySem.W.OpenLaw.row PySem.Challenge.rw_whatparts_k07_differences_of_parts
abbrev ga := He.ga
def fn : List He.DefD := [⟨("is_name", none), "is_name", "is_name", defArgs (top 11), defBody (top 11), defScope (top 11), [], []⟩,
  ⟨("is_ascending", none), "is_ascending", "is_ascending", defArgs (top 12), defBody (top 12), defScope (top 12), [], []⟩,
  ⟨("is_index", none), "is_index", "is_index", defArgs (top 13), defBody (top 13), defScope (top 13), [], []⟩,
  ⟨("is_word", none), "is_word", "is_word", defArgs (top 14), defBody (top 14), defScope (top 14), [], []⟩,
  ⟨("require_word", none), "require_word", "require_word", defArgs (top 15), defBody (top 15), defScope (top 15), [], []⟩,
  ⟨("actions_in", none), "actions_in", "actions_in", defArgs (top 19), defBody (top 19), defScope (top 19), [], []⟩,
  ⟨("are_rows", none), "are_rows", "are_rows", defArgs (top 20), defBody (top 20), defScope (top 20), [], []⟩,
  ⟨("is_rests", none), "is_rests", "is_rests", defArgs (top 21), defBody (top 21), defScope (top 21), [], []⟩,
  ⟨("sorted_rows", none), "sorted_rows", "sorted_rows", defArgs (top 22), defBody (top 22), defScope (top 22), [], []⟩,
  ⟨("next_state", none), "next_state", "next_state", defArgs (top 27), defBody (top 27), defScope (top 27), [], []⟩,
  ⟨("Rows", some "__init__"), "__init__", "Rows.__init__", defArgs (cls 32 0), defBody (cls 32 0), defScope (cls 32 0), [], []⟩,
  ⟨("checked_rows", none), "checked_rows", "checked_rows", defArgs (top 33), defBody (top 33), defScope (top 33), [], []⟩,
  ⟨("Part", some "__init__"), "__init__", "Part.__init__", defArgs (cls 34 0), defBody (cls 34 0), defScope (cls 34 0), [.adr (He.dflAt ("Part", some "__init__") 0)], []⟩,
  ⟨("state_after", none), "state_after", "state_after", defArgs (top 38), defBody (top 38), defScope (top 38), [], []⟩,
  ⟨("Part", some "after"), "after", "Part.after", defArgs (cls 34 7), defBody (cls 34 7), defScope (cls 34 7), [], []⟩,
  ⟨("require_part", none), "require_part", "require_part", defArgs (top 36), defBody (top 36), defScope (top 36), [], []⟩,
  ⟨("offer_at", none), "offer_at", "offer_at", defArgs (top 37), defBody (top 37), defScope (top 37), [], []⟩,
  ⟨("both_walked", none), "both_walked", "both_walked", defArgs (top 41), defBody (top 41), defScope (top 41), [], []⟩,
  ⟨("are_unlike", none), "are_unlike", "are_unlike", defArgs (top 42), defBody (top 42), defScope (top 42), [], []⟩,
  ⟨("difference", none), "difference", "difference", defArgs (top 43), defBody (top 43), defScope (top 43), [], []⟩,
  ⟨("are_alike", none), "are_alike", "are_alike", defArgs (top 44), defBody (top 44), defScope (top 44), [], []⟩,
  ⟨("is_difference", none), "is_difference", "is_difference", defArgs (top 45), defBody (top 45), defScope (top 45), [], []⟩,
  ⟨("_law_dice", none), "_law_dice", "_law_dice", defArgs (top 47), defBody (top 47), defScope (top 47), [], []⟩,
  ⟨("_law_roll", none), "_law_roll", "_law_roll", defArgs (top 48), defBody (top 48), defScope (top 48), [], []⟩,
  ⟨("_law_one_of", none), "_law_one_of", "_law_one_of", defArgs (top 49), defBody (top 49), defScope (top 49), [], []⟩,
  ⟨("_law_mixed", none), "_law_mixed", "_law_mixed", defArgs (top 50), defBody (top 50), defScope (top 50), [], []⟩,
  ⟨("_law_actions", none), "_law_actions", "_law_actions", defArgs (top 51), defBody (top 51), defScope (top 51), [], []⟩,
  ⟨("_law_part", none), "_law_part", "_law_part", defArgs (top 52), defBody (top 52), defScope (top 52), [], []⟩,
  ⟨("_law_made_part", none), "_law_made_part", "_law_made_part", defArgs (top 53), defBody (top 53), defScope (top 53), [], []⟩,
  ⟨("_law_offer", none), "_law_offer", "_law_offer", defArgs (top 54), defBody (top 54), defScope (top 54), [], []⟩,
  ⟨("_law_near_part", none), "_law_near_part", "_law_near_part", defArgs (top 55), defBody (top 55), defScope (top 55), [], []⟩,
  ⟨("_law_both", none), "_law_both", "_law_both", defArgs (top 56), defBody (top 56), defScope (top 56), [], []⟩,
  ⟨("_law_after", none), "_law_after", "_law_after", defArgs (top 57), defBody (top 57), defScope (top 57), [], []⟩,
  ⟨("_law_words", none), "_law_words", "_law_words", defArgs (top 58), defBody (top 58), defScope (top 58), [], []⟩,
  ⟨("_law_first", none), "_law_first", "_law_first", defArgs (top 59), defBody (top 59), defScope (top 59), [], []⟩,
  ⟨("_law_due", none), "_law_due", "_law_due", defArgs (top 60), defBody (top 60), defScope (top 60), [], []⟩,
  ⟨("_law_right", none), "_law_right", "_law_right", defArgs (top 61), defBody (top 61), defScope (top 61), [], []⟩,
  ⟨("law", none), "law", "law", defArgs (top 62), defBody (top 62), defScope (top 62), [], []⟩]
def fa : List He.Fa := [.glo "is_name", .glo "is_ascending", .glo "is_index", .glo "is_word", .glo "require_word", .glo "actions_in", .glo "are_rows", .glo "is_rests", .glo "sorted_rows", .glo "next_state", .glo "checked_rows", .glo "state_after", .glo "require_part", .glo "offer_at", .glo "both_walked", .glo "are_unlike", .glo "difference", .glo "are_alike", .glo "is_difference", .glo "_law_dice", .glo "_law_roll", .glo "_law_one_of", .glo "_law_mixed", .glo "_law_actions", .glo "_law_part", .glo "_law_made_part", .glo "_law_offer", .glo "_law_near_part", .glo "_law_both", .glo "_law_after", .glo "_law_words", .glo "_law_first", .glo "_law_due", .glo "_law_right", .glo "law", .glo "Part", .glo "Rows", .free "len", .free "isinstance", .free "str", .free "all", .free "zip", .free "bool", .free "int", .free "tuple", .free "sorted", .free "list", .free "dict", .free "set", .free "abs", .free "range", .free "enumerate", .free "repr", .free "max", .free "min", .int "MAX_LETTERS" 8, .int "MAX_STATES" 8, .int "MAX_ACTIONS" 4, .cls "Part", .cls "Rows", .mkr "Part", .mkr "Rows", .meth "Part" "after", .noat "Part" "own_steps", .noat "Part" "own_rests", .noat "Part" "own_actions", .noat "Rows" "own_steps", .noat "Rows" "own_rests"]
def ex : List (PySem.W.Frag → Bool) := [fun K => decide (PySem.W.findIn K (.ref (ga K "Part")) "__class__" = some (some (.builtin "object.__class__"))),
  fun K => decide (PySem.W.specialIn K (.builtin "object.__class__") "__get__" = some (some (.builtin "getset_descriptor.__get__"))),
  fun K => decide (PySem.W.takesIn K (.builtin "object.__class__") = some true),
  fun K => decide (PySem.W.mroIn K (ga K "Part") (.type "object") = some true),
  fun K => K.all fun p => !MP.isListC p,
  fun K => decide (PySem.W.kitOne K (.type "tuple") (.ref (ga K "Rows")) = some false),
  fun K => decide (PySem.W.kitOne K (.ref (ga K "Part")) (.ref (ga K "Part")) = some true),
  fun K => decide (PySem.W.kitOne K (.ref (ga K "Part")) (.type "str") = some false),
  fun K => decide (PySem.W.kitOne K (.ref (ga K "Part")) (.type "int") = some false),
  fun K => decide (PySem.W.kitOne K (.ref (ga K "Part")) (.type "bool") = some false),
  fun K => decide (PySem.W.kitOne K (.ref (ga K "Part")) (.type "tuple") = some false),
  fun K => decide (PySem.W.kitOne K (.ref (ga K "Part")) (.type "dict") = some false)]
abbrev AlX : Type := Bool × He.AlD
def hookX (n : Nat) (ex : List (PySem.W.Frag → Bool)) (fa : List He.Fa) (fn : List He.DefD) : PySem.W.Hook where
  α := AlX
  obs := fun s => (ex.all fun f => f (He.frG s.heap.get? (He.asD s.heap.get? n)), He.obsDG n fa fn s.heap.get?)
  val := fun _ => (true, He.valD fn)
  says := fun _ h => ∃ K : PySem.W.Frag, K.In h ∧ (ex.all fun f => f K) = true ∧ He.SaysD fa fn K
  of := fun _ _ e => ⟨_, He.frG_in, congrArg (fun z : AlX => z.1) e, congrArg (fun z : AlX => z.2) e⟩
  keeps := fun _ _ _ ⟨K, hK, c⟩ k => ⟨K, PySem.W.Frag.In.keeps hK k, c⟩
abbrev hk : PySem.W.Hook := hookX 5 ex fa fn
def ob (s : PySem.W.SharedT) : AlX := (ex.all fun f => f (He.frG (HandSHeadRun.getT s) (He.asD (HandSHeadRun.getT s) 5)), He.obsDG 5 fa fn (HandSHeadRun.getT s))
theorem ob_eq (s : PySem.W.SharedT) : ob s = hk.obs s.abs := by
  have e : HandSHeadRun.getT s = s.abs.heap.get? := funext fun a => HandSHeadRun.getT_eq s a
  show (_, _) = (_, _)
  rw [e]
def loose : List Str := (["_wall", "PartError", "InvalidPart", "InvalidOperation", "InvalidNumber", "TooMany", "MAX_ACTIONS", "MAX_LETTERS", "MAX_WORD", "is_name", "is_ascending", "is_index", "is_word", "require_word", "require_most", "MAX_STATES", "actions_in", "are_rows", "is_rests", "sorted_rows", "first_numbered", "place_numbers", "blocks_of", "paired_states", "next_state", "pairs_behind", "row_at", "does_rest", "paired_part", "Rows"] : List Str) ++ (["checked_rows", "Part", "part_in", "require_part", "offer_at", "state_after", "least_in", "both_walked", "are_unlike", "difference", "are_alike", "is_difference", "_law_dice", "_law_roll", "_law_one_of", "_law_mixed", "_law_actions", "_law_part", "_law_made_part", "_law_offer", "_law_near_part", "_law_both", "_law_after", "_law_words", "_law_first", "_law_due", "_law_right"] : List Str)
theorem run2 (w : World) : HandSHeadRun.RunEq R (PySem.W.view R.prog [62]) hk ob 20000 loose w := by
  intro os
  kernel_rfl
end K07

set_option Elab.async false
set_option linter.all false
set_option maxRecDepth 100000
set_option maxHeartbeats 2000000
namespace K07S
open PySem PySem.Spec
open PyProof.Rows hiding St
open L2
open MP (FnD MtD MkD FnG SpD spD IsTab Fl InsOk)
open K07
theorem facts {w : World} {K : PySem.W.Frag} {h : Heap} {mg : Str → Option Value} (X : K.In h) (G : h.Ns mainGlobals mg) (c : He.SaysD fa fn K) (x : (ex.all fun f => f K) = true) :
    ∃ fd : FuncData, (∀ (s : Shared) (v : Value), BindsTo s fd ⟨[v], []⟩ [("script", v)]) ∧ (K.all fun p => !MP.isListC p) = true ∧ mg "law" = some (.ref (ga K "law")) ∧ ∀ base : Heap, FnG P7 w K mg base CX0 9 (ga K "law") fd P_law (spD K mg 1 s_law) := by
  have xx : ∀ (i : Nat) (g : PySem.W.Frag → Bool), ex[i]? = some g → g K = true := fun i g e => List.all_eq_true.mp x g (List.mem_of_getElem? e)
  have x0 := of_decide_eq_true (xx 0 _ rfl)
  have x1 := of_decide_eq_true (xx 1 _ rfl)
  have x2 := of_decide_eq_true (xx 2 _ rfl)
  have x3 := of_decide_eq_true (xx 3 _ rfl)
  have x5 := of_decide_eq_true (xx 5 _ rfl)
  have x6 := of_decide_eq_true (xx 6 _ rfl)
  have x7 := of_decide_eq_true (xx 7 _ rfl)
  have x8 := of_decide_eq_true (xx 8 _ rfl)
  have x9 := of_decide_eq_true (xx 9 _ rfl)
  have x10 := of_decide_eq_true (xx 10 _ rfl)
  have x11 := of_decide_eq_true (xx 11 _ rfl)
  have m_is_name := He.glo_ok X G (c.fact 0 (f := .glo "is_name") rfl)
  have m_is_ascending := He.glo_ok X G (c.fact 1 (f := .glo "is_ascending") rfl)
  have m_is_index := He.glo_ok X G (c.fact 2 (f := .glo "is_index") rfl)
  have m_is_word := He.glo_ok X G (c.fact 3 (f := .glo "is_word") rfl)
  have m_require_word := He.glo_ok X G (c.fact 4 (f := .glo "require_word") rfl)
  have m_actions_in := He.glo_ok X G (c.fact 5 (f := .glo "actions_in") rfl)
  have m_are_rows := He.glo_ok X G (c.fact 6 (f := .glo "are_rows") rfl)
  have m_is_rests := He.glo_ok X G (c.fact 7 (f := .glo "is_rests") rfl)
  have m_sorted_rows := He.glo_ok X G (c.fact 8 (f := .glo "sorted_rows") rfl)
  have m_next_state := He.glo_ok X G (c.fact 9 (f := .glo "next_state") rfl)
  have m_checked_rows := He.glo_ok X G (c.fact 10 (f := .glo "checked_rows") rfl)
  have m_state_after := He.glo_ok X G (c.fact 11 (f := .glo "state_after") rfl)
  have m_require_part := He.glo_ok X G (c.fact 12 (f := .glo "require_part") rfl)
  have m_offer_at := He.glo_ok X G (c.fact 13 (f := .glo "offer_at") rfl)
  have m_both_walked := He.glo_ok X G (c.fact 14 (f := .glo "both_walked") rfl)
  have m_are_unlike := He.glo_ok X G (c.fact 15 (f := .glo "are_unlike") rfl)
  have m_difference := He.glo_ok X G (c.fact 16 (f := .glo "difference") rfl)
  have m_are_alike := He.glo_ok X G (c.fact 17 (f := .glo "are_alike") rfl)
  have m_is_difference := He.glo_ok X G (c.fact 18 (f := .glo "is_difference") rfl)
  have m__law_dice := He.glo_ok X G (c.fact 19 (f := .glo "_law_dice") rfl)
  have m__law_roll := He.glo_ok X G (c.fact 20 (f := .glo "_law_roll") rfl)
  have m__law_one_of := He.glo_ok X G (c.fact 21 (f := .glo "_law_one_of") rfl)
  have m__law_mixed := He.glo_ok X G (c.fact 22 (f := .glo "_law_mixed") rfl)
  have m__law_actions := He.glo_ok X G (c.fact 23 (f := .glo "_law_actions") rfl)
  have m__law_part := He.glo_ok X G (c.fact 24 (f := .glo "_law_part") rfl)
  have m__law_made_part := He.glo_ok X G (c.fact 25 (f := .glo "_law_made_part") rfl)
  have m__law_offer := He.glo_ok X G (c.fact 26 (f := .glo "_law_offer") rfl)
  have m__law_near_part := He.glo_ok X G (c.fact 27 (f := .glo "_law_near_part") rfl)
  have m__law_both := He.glo_ok X G (c.fact 28 (f := .glo "_law_both") rfl)
  have m__law_after := He.glo_ok X G (c.fact 29 (f := .glo "_law_after") rfl)
  have m__law_words := He.glo_ok X G (c.fact 30 (f := .glo "_law_words") rfl)
  have m__law_first := He.glo_ok X G (c.fact 31 (f := .glo "_law_first") rfl)
  have m__law_due := He.glo_ok X G (c.fact 32 (f := .glo "_law_due") rfl)
  have m__law_right := He.glo_ok X G (c.fact 33 (f := .glo "_law_right") rfl)
  have m_law := He.glo_ok X G (c.fact 34 (f := .glo "law") rfl)
  have m_Part := He.glo_ok X G (c.fact 35 (f := .glo "Part") rfl)
  have m_Rows := He.glo_ok X G (c.fact 36 (f := .glo "Rows") rfl)
  have g_len := He.free_ok X G (c.fact 37 (f := .free "len") rfl)
  have g_isinstance := He.free_ok X G (c.fact 38 (f := .free "isinstance") rfl)
  have g_str := He.free_ok X G (c.fact 39 (f := .free "str") rfl)
  have g_all := He.free_ok X G (c.fact 40 (f := .free "all") rfl)
  have g_zip := He.free_ok X G (c.fact 41 (f := .free "zip") rfl)
  have g_bool := He.free_ok X G (c.fact 42 (f := .free "bool") rfl)
  have g_int := He.free_ok X G (c.fact 43 (f := .free "int") rfl)
  have g_tuple := He.free_ok X G (c.fact 44 (f := .free "tuple") rfl)
  have g_sorted := He.free_ok X G (c.fact 45 (f := .free "sorted") rfl)
  have g_list := He.free_ok X G (c.fact 46 (f := .free "list") rfl)
  have g_dict := He.free_ok X G (c.fact 47 (f := .free "dict") rfl)
  have g_set := He.free_ok X G (c.fact 48 (f := .free "set") rfl)
  have g_abs := He.free_ok X G (c.fact 49 (f := .free "abs") rfl)
  have g_range := He.free_ok X G (c.fact 50 (f := .free "range") rfl)
  have g_enumerate := He.free_ok X G (c.fact 51 (f := .free "enumerate") rfl)
  have g_repr := He.free_ok X G (c.fact 52 (f := .free "repr") rfl)
  have g_max := He.free_ok X G (c.fact 53 (f := .free "max") rfl)
  have g_min := He.free_ok X G (c.fact 54 (f := .free "min") rfl)
  obtain ⟨tk_MAX_LETTERS, m_MAX_LETTERS⟩ := He.int_ok X G (c.fact 55 (f := .int "MAX_LETTERS" 8) rfl)
  obtain ⟨tk_MAX_STATES, m_MAX_STATES⟩ := He.int_ok X G (c.fact 56 (f := .int "MAX_STATES" 8) rfl)
  obtain ⟨tk_MAX_ACTIONS, m_MAX_ACTIONS⟩ := He.int_ok X G (c.fact 57 (f := .int "MAX_ACTIONS" 4) rfl)
  have cls_Part := He.cls_ok (c.fact 58 (f := .cls "Part") rfl)
  have cls_Rows := He.cls_ok (c.fact 59 (f := .cls "Rows") rfl)
  have mkr_Part := He.mkr_ok (c.fact 60 (f := .mkr "Part") rfl)
  have mkr_Rows := He.mkr_ok (c.fact 61 (f := .mkr "Rows") rfl)
  have meth_Part_after := He.meth_ok (c.fact 62 (f := .meth "Part" "after") rfl)
  have noat_Part_own_steps := He.noat_ok (c.fact 63 (f := .noat "Part" "own_steps") rfl)
  have noat_Part_own_rests := He.noat_ok (c.fact 64 (f := .noat "Part" "own_rests") rfl)
  have noat_Part_own_actions := He.noat_ok (c.fact 65 (f := .noat "Part" "own_actions") rfl)
  have noat_Rows_own_steps := He.noat_ok (c.fact 66 (f := .noat "Rows" "own_steps") rfl)
  have noat_Rows_own_rests := He.noat_ok (c.fact 67 (f := .noat "Rows" "own_rests") rfl)
  have ioP : InsOk K (ga K "Part") := ⟨cls_Part, x0, x1, x2, x3⟩
  have T_own_steps : ∀ x ∈ (["Part", "Rows"] : List Str), Fl K mg x "own_steps" := fun x hx C hC => by
    rcases List.mem_cons.mp hx with rfl | hx
    · cases m_Part.symm.trans hC; exact ⟨cls_Part, noat_Part_own_steps⟩
    · rw [List.mem_singleton] at hx; subst hx
      cases m_Rows.symm.trans hC; exact ⟨cls_Rows, noat_Rows_own_steps⟩
  have T_own_rests : ∀ x ∈ (["Part", "Rows"] : List Str), Fl K mg x "own_rests" := fun x hx C hC => by
    rcases List.mem_cons.mp hx with rfl | hx
    · cases m_Part.symm.trans hC; exact ⟨cls_Part, noat_Part_own_rests⟩
    · rw [List.mem_singleton] at hx; subst hx
      cases m_Rows.symm.trans hC; exact ⟨cls_Rows, noat_Rows_own_rests⟩
  have T_own_actions : ∀ x ∈ (["Part"] : List Str), Fl K mg x "own_actions" := fun x hx C hC => by
    rw [List.mem_singleton] at hx; subst hx
    cases m_Part.symm.trans hC; exact ⟨cls_Part, noat_Part_own_actions⟩
  have t_str : IsTab K mg (.type "str") tabStr := ⟨fun T b e => e, fun cn b C e hC => by
    have e : (if cn = "Part" then some false else none) = some b := e
    by_cases hp : cn = "Part"
    · subst hp
      cases e
      cases m_Part.symm.trans hC; exact ⟨ioP, x7⟩
    · rw [if_neg hp] at e; cases e⟩
  have t_int : IsTab K mg (.type "int") tabInt := ⟨fun T b e => e, fun cn b C e hC => by
    have e : (if cn = "Part" then some false else none) = some b := e
    by_cases hp : cn = "Part"
    · subst hp
      cases e
      cases m_Part.symm.trans hC; exact ⟨ioP, x8⟩
    · rw [if_neg hp] at e; cases e⟩
  have t_bool : IsTab K mg (.type "bool") tabBool := ⟨fun T b e => e, fun cn b C e hC => by
    have e : (if cn = "Part" then some false else none) = some b := e
    by_cases hp : cn = "Part"
    · subst hp
      cases e
      cases m_Part.symm.trans hC; exact ⟨ioP, x9⟩
    · rw [if_neg hp] at e; cases e⟩
  have t_tuple : IsTab K mg (.type "tuple") tabTuple := ⟨fun T b e => e, fun cn b C e hC => by
    have e : (if cn = "Part" then some false else none) = some b := e
    by_cases hp : cn = "Part"
    · subst hp
      cases e
      cases m_Part.symm.trans hC; exact ⟨ioP, x10⟩
    · rw [if_neg hp] at e; cases e⟩
  have t_dict : IsTab K mg (.type "dict") tabDict := ⟨fun T b e => e, fun cn b C e hC => by
    have e : (if cn = "Part" then some false else none) = some b := e
    by_cases hp : cn = "Part"
    · subst hp
      cases e
      cases m_Part.symm.trans hC; exact ⟨ioP, x11⟩
    · rw [if_neg hp] at e; cases e⟩
  have t_Rows : IsTab K mg (.ref (ga K "Rows")) tabRows := by
    constructor
    · intro T b e
      unfold tabRows at e
      split at e
      · rename_i q; cases q; cases e; exact x5
      · cases e
    · intro cn b C e hC
      cases e
  have t_Part : IsTab K mg (.ref (ga K "Part")) tabPart := by
    constructor
    · intro T b e
      cases e
    · intro cn b C e hC
      unfold tabPart at e
      split at e
      · rename_i q; cases q; cases e
        cases m_Part.symm.trans hC; exact ⟨ioP, x6⟩
      · cases e
  obtain ⟨fd0, D0⟩ := c.def_ 0 rfl
  obtain ⟨fd1, D1⟩ := c.def_ 1 rfl
  obtain ⟨fd2, D2⟩ := c.def_ 2 rfl
  obtain ⟨fd3, D3⟩ := c.def_ 3 rfl
  obtain ⟨fd4, D4⟩ := c.def_ 4 rfl
  obtain ⟨fd5, D5⟩ := c.def_ 5 rfl
  obtain ⟨fd6, D6⟩ := c.def_ 6 rfl
  obtain ⟨fd7, D7⟩ := c.def_ 7 rfl
  obtain ⟨fd8, D8⟩ := c.def_ 8 rfl
  obtain ⟨fd9, D9⟩ := c.def_ 9 rfl
  obtain ⟨fd10, D10⟩ := c.def_ 10 rfl
  obtain ⟨fd11, D11⟩ := c.def_ 11 rfl
  obtain ⟨fd12, D12⟩ := c.def_ 12 rfl
  obtain ⟨fd13, D13⟩ := c.def_ 13 rfl
  obtain ⟨fd14, D14⟩ := c.def_ 14 rfl
  obtain ⟨fd15, D15⟩ := c.def_ 15 rfl
  obtain ⟨fd16, D16⟩ := c.def_ 16 rfl
  obtain ⟨fd17, D17⟩ := c.def_ 17 rfl
  obtain ⟨fd18, D18⟩ := c.def_ 18 rfl
  obtain ⟨fd19, D19⟩ := c.def_ 19 rfl
  obtain ⟨fd20, D20⟩ := c.def_ 20 rfl
  obtain ⟨fd21, D21⟩ := c.def_ 21 rfl
  obtain ⟨fd22, D22⟩ := c.def_ 22 rfl
  obtain ⟨fd23, D23⟩ := c.def_ 23 rfl
  obtain ⟨fd24, D24⟩ := c.def_ 24 rfl
  obtain ⟨fd25, D25⟩ := c.def_ 25 rfl
  obtain ⟨fd26, D26⟩ := c.def_ 26 rfl
  obtain ⟨fd27, D27⟩ := c.def_ 27 rfl
  obtain ⟨fd28, D28⟩ := c.def_ 28 rfl
  obtain ⟨fd29, D29⟩ := c.def_ 29 rfl
  obtain ⟨fd30, D30⟩ := c.def_ 30 rfl
  obtain ⟨fd31, D31⟩ := c.def_ 31 rfl
  obtain ⟨fd32, D32⟩ := c.def_ 32 rfl
  obtain ⟨fd33, D33⟩ := c.def_ 33 rfl
  obtain ⟨fd34, D34⟩ := c.def_ 34 rfl
  obtain ⟨fd35, D35⟩ := c.def_ 35 rfl
  obtain ⟨fd36, D36⟩ := c.def_ 36 rfl
  obtain ⟨fd37, D37⟩ := c.def_ 37 rfl
  have b := FunD.bindsA (ps := P_law) D37 fun _ _ _ _ _ _ us hl => match us, hl with | [_], _ => rfl
  refine ⟨_, fun s v => b s [v] rfl, xx 4 _ rfl, m_law, fun base => ?_⟩
  have F_is_name := f_is_name (w := w) (base := base) D0 m_is_name g_len g_isinstance g_str g_all m_MAX_LETTERS t_str
  have F_is_ascending := f_is_ascending (w := w) (base := base) D1 m_is_ascending g_all g_zip
  have F_is_index := f_is_index (w := w) (base := base) D2 m_is_index g_isinstance g_bool g_int t_bool t_int
  have F_is_word := f_is_word (w := w) (base := base) D3 m_is_word g_all g_isinstance g_tuple t_tuple F_is_name
  have F_require_word := f_require_word (w := w) (base := base) D4 m_require_word F_is_word
  have F_actions_in := f_actions_in (w := w) (base := base) D5 m_actions_in g_tuple g_sorted g_list
  have F_are_rows := f_are_rows (w := w) (base := base) D6 m_are_rows g_len g_isinstance g_tuple g_all g_dict m_MAX_STATES t_tuple t_dict F_is_index F_is_name
  have F_is_rests := f_is_rests (w := w) (base := base) D7 m_is_rests g_all g_isinstance g_tuple t_tuple F_is_index F_is_ascending
  have F_sorted_rows := f_sorted_rows (w := w) (base := base) D8 m_sorted_rows g_tuple g_sorted g_list
  have F_next_state := f_next_state (w := w) (base := base) D9 m_next_state T_own_steps
  have F_Rows := f_Rows_init (w := w) (base := base) D10 m_Rows mkr_Rows g_tuple g_sorted g_set T_own_steps T_own_rests F_sorted_rows
  have F_checked_rows := f_checked_rows (w := w) (base := base) D11 m_checked_rows g_len m_MAX_ACTIONS F_actions_in F_are_rows F_is_rests F_Rows
  have F_Part := f_Part_init (w := w) (base := base) D12 m_Part mkr_Part g_isinstance T_own_steps T_own_rests T_own_actions m_Rows t_Rows F_checked_rows F_actions_in
  have F_state_after := f_state_after (w := w) (base := base) D13 m_state_after F_next_state
  have F_Part_after := f_Part_after (w := w) (base := base) D14 m_Part cls_Part meth_Part_after F_require_word F_state_after
  have F_require_part := f_require_part (w := w) (base := base) D15 m_require_part g_isinstance m_Part t_Part
  have F_offer_at := f_offer_at (w := w) (base := base) D16 m_offer_at g_tuple g_list T_own_rests T_own_steps
  have F_both_walked := f_both_walked (w := w) (base := base) D17 m_both_walked g_len g_sorted g_list T_own_steps
  have F_are_unlike := f_are_unlike (w := w) (base := base) D18 m_are_unlike F_offer_at
  have F_difference := f_difference (w := w) (base := base) D19 m_difference F_require_part F_both_walked F_are_unlike
  have F_are_alike := f_are_alike (w := w) (base := base) D20 m_are_alike F_difference
  have F_is_difference := f_is_difference (w := w) (base := base) D21 m_is_difference F_require_part F_is_word F_are_unlike F_Part_after
  have F__law_dice := f__law_dice (w := w) (base := base) D22 m__law_dice g_len g_int g_abs
  have F__law_roll := f__law_roll (w := w) (base := base) D23 m__law_roll g_int
  have F__law_one_of := f__law_one_of (w := w) (base := base) D24 m__law_one_of g_len F__law_roll
  have F__law_mixed := f__law_mixed (w := w) (base := base) D25 m__law_mixed g_list g_len F__law_roll
  have F__law_actions := f__law_actions (w := w) (base := base) D26 m__law_actions g_sorted F__law_mixed
  have F__law_part := f__law_part (w := w) (base := base) D27 m__law_part g_range F__law_roll
  have F__law_made_part := f__law_made_part (w := w) (base := base) D28 m__law_made_part g_tuple g_enumerate g_dict g_list F_Part
  have F__law_offer := f__law_offer (w := w) (base := base) D29 m__law_offer g_tuple g_sorted
  have F__law_near_part := f__law_near_part (w := w) (base := base) D30 m__law_near_part g_dict g_list g_len F__law_roll F__law_one_of F__law_part
  have F__law_both := f__law_both (w := w) (base := base) D31 m__law_both g_len g_sorted
  have F__law_after := f__law_after (w := w) (base := base) D32 m__law_after 
  have F__law_words := f__law_words (w := w) (base := base) D33 m__law_words g_range g_list
  have F__law_first := f__law_first (w := w) (base := base) D34 m__law_first F__law_both F__law_offer
  have F__law_due := f__law_due (w := w) (base := base) D35 m__law_due F__law_after F__law_offer
  have F__law_right := f__law_right (w := w) (base := base) D36 m__law_right g_repr g_list F__law_actions F__law_roll F__law_part F__law_near_part F__law_made_part F__law_first F_difference F_are_alike F__law_words F_is_difference F__law_due
  exact f_law (w := w) (base := base) D37 g_range g_max g_min g_len g_int g_tuple F__law_dice F__law_right F_is_difference F_difference F_are_alike F_Part
end K07S

set_option Elab.async false
set_option linter.all false
set_option maxRecDepth 100000
set_option maxHeartbeats 0
open PySem PySem.W PySem.Calls PyProof.Rows
theorem PySem.Challenge.cw_whatparts_k07_differences_of_parts_holds : PySem.Challenge.rw_whatparts_k07_differences_of_parts.Holds := by
  w_on; o_law
  refine HandSHeadRun.head_any (r := K07.R) (q := view K07.R.prog [62]) (H := K07.hk) (ob := K07.ob) (M := 20000) (loose := K07.loose) (d := HandSHeadRun.topDef K07.R.prog 62) (kwd := []) K07.ob_eq
    (by kernel_rfl) (fun s => by kernel_rfl) K07.run2 (by kernel_rfl) (by kernel_rfl) (by kernel_rfl) (by rfl) (by first | assumption | decide +kernel) (by decide +kernel) ⟨rfl, rfl, rfl, rfl, rfl, by decide +kernel⟩ ?hw ?hc
  case hw => w_witness2
  case hc =>
    refine Att.attach_call (l := PySem.Challenge.rw_whatparts_k07_differences_of_parts) (n := 63) rfl (by kernel_rfl) fun w s₀ s₁ mg mb fa o pm cd doc a vs ns G Y ho hd hcd hmg0 hobj hints hlen hg => ?_
    obtain ⟨K, KX, x, c⟩ := Y
    have hmg : mg ("law" : PySem.Str) = some (.ref fa) := by
      have e : (HandSHeadRun.topDef K07.R.prog 62).name = ("law" : PySem.Str) := by kernel_rfl
      rw [← e]
      exact hmg0
    obtain ⟨fd, hb, hnl, hm, hF⟩ := K07S.facts (w := w) KX G.T.g c x
    have efa : fa = He.ga K "law" := by
      have := hmg.symm.trans hm
      cases this; rfl
    subst efa
    exact MP.law_callG KX G.T.g G.T.b G.T.builtins G.T.nolimit hg hobj hints (Nat.le_trans hlen (by decide)) ⟨rfl, by decide, by decide⟩ rfl hF hb hnl fun q z => ⟨0, ns.map MP.D.int, rfl, rfl, fun x hx => by
      obtain ⟨i, _, rfl⟩ := List.mem_map.mp hx
      exact ⟨i, rfl⟩, z⟩
