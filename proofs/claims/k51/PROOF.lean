import PyProof.Rows.All
import Wide.All
import OpenK.AllK
import Wide.FinOn
import HandS.ForMost
import HandS.ForExc
import HandS.Defaults
import HandS.Walk
import KE.KDictKeyed
import HandS.Style
import HandS.WideBits
import HandS.TupAny
import HandS.More
import HandS.IsInst
import HandS.Property
import PyProof.SliceStr2
import HandS.Star
import HandS.Zip
import HandS.HeadHook2
import HandS.Head2
import HandS.HeadEnd
import HandS.ExcInit
import HandS.ExcField
import HandS.ExcIs
import HandS.ExcValue
import PySem.Challenge.RW_lacekeys_k51_errors_made
set_option Elab.async false
set_option linter.all false
set_option maxRecDepth 100000
set_option maxHeartbeats 2000000
/-! Lc, part A: pure data, the store of changeable things, how both stand in the abstract heap. -/
namespace Lc
open PySem PySem.Spec PyProof.Rows L2

/-- pure data: no address in it -/
inductive D where
  | non | bl (b : Bool) | int (i : Int) | str (x : Str) | ty (n : String)
  | tup (xs : List D) | lst (xs : List D) | dic (kvs : List (D × D))
  | ins (c : Str) (fs : List (Str × D)) | exc (c : Str) (fs : List (Str × D))
  deriving Inhabited
/-- a value: data, or the n-th changeable thing -/
inductive Val where
  | d (x : D) | ref (n : Nat)
  deriving Inhabited
inductive Body where
  | lst (xs : List D) | dic (kvs : List (D × D)) | ins (c : Str) (fs : List (Str × Val))
  deriving Inhabited
/-- a changeable thing: let go (data from now on), or live (lk: read only) -/
inductive Cell where
  | dead | live (lk : Bool) (b : Body)
  deriving Inhabited
abbrev Store := List Cell
structure Exn where
  c : Str
  fs : List (Str × D)
  deriving Inhabited
/-- what an evaluation gives: bad tells nothing -/
inductive R (α : Type) where
  | ok (a : α) (S : Store) | err (x : Exn) (S : Store) | bad
@[inline] def R.bind {α β : Type} (r : R α) (f : α → Store → R β) : R β := match r with
  | .ok a S => f a S
  | .err x S => .err x S
  | .bad => .bad
abbrev Loc := List (Option Val)
/-- what a statement gives -/
inductive O where
  | nx (ρ : Loc) (S : Store) | rt (v : Val) (S : Store) | bk (ρ : Loc) (S : Store) | ct (ρ : Loc) (S : Store)
  | err (x : Exn) (ρ : Loc) (S : Store) | bad
abbrev ME := Loc → Store → R Val
abbrev MA := Loc → Store → R (List Val)
abbrev MT := Loc → Store → R Bool
abbrev MS := Loc → Store → O
abbrev Fn := List Val → Store → R Val

/-! ### keys of dicts -/
mutual
def keyOf : D → Option NestedKey
  | .non => some .none
  | .int i => some (.num i)
  | .str x => some (.text x)
  | .tup xs => (keysOf xs).map .tup
  | _ => none
def keysOf : List D → Option (List NestedKey)
  | [] => some []
  | x :: xs => match keyOf x, keysOf xs with
    | some k, some ks => some (k :: ks)
    | _, _ => none
end

/-! ### what stands where -/
/-- a dict with these entries -/
def dictHO (a : Addr) (es : List DictEntry) : HO := .ext fun h => ∃ o ep, h.get? a = some o ∧ o.ExactDict ∧ o.data = .dict es.toArray ep
/-- an exception object, not in the air -/
def excHO (a : Addr) (cls : Value) (d : Option Addr) : HO := .ext fun h => ∃ (oe : Obj) (vs : Array Value), h.get? a = some oe ∧ Zc cls d oe ∧ oe.data = .fields vs

/-- what data is read from: the module's names, the abstract heap, the addresses that stay -/
structure Gr where
  w : World
  mg : Str → Option Value
  H : Hp
  Z : Addr → Prop

mutual
/-- the value v is the data -/
inductive Rep (G : Gr) : D → V → Prop
  | non : Rep G .non .non
  | bl (b) : Rep G (.bl b) (.bl b)
  | int (i) : Rep G (.int i) (.int i)
  | str (x) : Rep G (.str x) (.str x)
  | ty (n) : Rep G (.ty n) (.ty n)
  | tup {xs vs a} : Rd G.H a (.tup vs) → G.Z a → Reps G xs vs → Rep G (.tup xs) (.ref a)
  | lst {xs vs a} : Rd G.H a (.lst vs) → G.Z a → Reps G xs vs → Rep G (.lst xs) (.ref a)
  | dic {kvs es a} : G.H a = some (dictHO a es) → G.Z a → RepE G kvs es → Rep G (.dic kvs) (.ref a)
  | ins {c C fs gs a dx} : G.H a = some (.ins C dx gs) → G.Z a → G.mg c = some (.ref C) → RepF G fs gs → Rep G (.ins c fs) (.ref a)
  | exc0 {c C a} : G.H a = some (excHO a (.ref C) none) → G.Z a → G.mg c = some (.ref C) → Rep G (.exc c []) (.ref a)
  | exc1 {c C fs gs a dx} : G.H a = some (excHO a (.ref C) (some dx)) → G.Z a → G.H dx = some (.xd gs) → G.Z dx → G.mg c = some (.ref C) → RepF G fs gs → Rep G (.exc c fs) (.ref a)
inductive Reps (G : Gr) : List D → List V → Prop
  | nil : Reps G [] []
  | cons {x v xs vs} : Rep G x v → Reps G xs vs → Reps G (x :: xs) (v :: vs)
inductive RepF (G : Gr) : List (Str × D) → List (Str × V) → Prop
  | nil : RepF G [] []
  | cons {f x v xs vs} : Rep G x v → RepF G xs vs → RepF G ((f, x) :: xs) ((f, v) :: vs)
inductive RepE (G : Gr) : List (D × D) → List DictEntry → Prop
  | nil : RepE G [] []
  | cons {k kv d v e n xs es} : Rep G k kv → RelV kv e.key → keyOf k = some n → e.hash = n.hash G.w → n.depth ≤ 8 → Rep G d v → RelV v e.val → RepE G xs es → RepE G ((k, d) :: xs) (e :: es)
end
end Lc

set_option maxHeartbeats 2000000
/-! Lc, part B: what stands stays. -/
namespace Lc
open PySem PySem.Spec PyProof.Rows L2

structure Gr.Le (G G' : Gr) : Prop where
  w : G'.w = G.w
  mg : G'.mg = G.mg
  at_ : ∀ a o, G.H a = some o → G.Z a → G'.H a = some o ∧ G'.Z a
theorem Gr.Le.rd {G G' : Gr} (l : G.Le G') {a : Addr} {u : HO} (h : Rd G.H a u) (z : G.Z a) : Rd G'.H a u := by
  rcases h with h | ⟨o, h⟩
  · exact .inl (l.at_ a _ h z).1
  · exact .inr ⟨o, (l.at_ a _ h z).1⟩
theorem Gr.Le.z {G G' : Gr} (l : G.Le G') {a : Addr} {u : HO} (h : Rd G.H a u) (z : G.Z a) : G'.Z a := by
  rcases h with h | ⟨o, h⟩
  · exact (l.at_ a _ h z).2
  · exact (l.at_ a _ h z).2
mutual
theorem Rep.mono {G G' : Gr} (l : G.Le G') : ∀ {x : D} {v : V}, Rep G x v → Rep G' x v
  | _, _, .non => .non
  | _, _, .bl b => .bl b
  | _, _, .int i => .int i
  | _, _, .str x => .str x
  | _, _, .ty n => .ty n
  | _, _, .tup h z r => .tup (l.rd h z) (l.z h z) (Reps.mono l r)
  | _, _, .lst h z r => .lst (l.rd h z) (l.z h z) (Reps.mono l r)
  | _, _, .dic h z r => .dic (l.at_ _ _ h z).1 (l.at_ _ _ h z).2 (RepE.mono l r)
  | _, _, .ins h z m r => .ins (l.at_ _ _ h z).1 (l.at_ _ _ h z).2 (by rw [l.mg]; exact m) (RepF.mono l r)
  | _, _, .exc0 h z m => .exc0 (l.at_ _ _ h z).1 (l.at_ _ _ h z).2 (by rw [l.mg]; exact m)
  | _, _, .exc1 h z h2 z2 m r => .exc1 (l.at_ _ _ h z).1 (l.at_ _ _ h z).2 (l.at_ _ _ h2 z2).1 (l.at_ _ _ h2 z2).2 (by rw [l.mg]; exact m) (RepF.mono l r)
theorem Reps.mono {G G' : Gr} (l : G.Le G') : ∀ {xs : List D} {vs : List V}, Reps G xs vs → Reps G' xs vs
  | _, _, .nil => .nil
  | _, _, .cons r t => .cons (Rep.mono l r) (Reps.mono l t)
theorem RepF.mono {G G' : Gr} (l : G.Le G') : ∀ {xs : List (Str × D)} {vs : List (Str × V)}, RepF G xs vs → RepF G' xs vs
  | _, _, .nil => .nil
  | _, _, .cons r t => .cons (Rep.mono l r) (RepF.mono l t)
theorem RepE.mono {G G' : Gr} (l : G.Le G') : ∀ {xs : List (D × D)} {es : List DictEntry}, RepE G xs es → RepE G' xs es
  | _, _, .nil => .nil
  | _, _, .cons r a b c d r2 e t => .cons (Rep.mono l r) a b (by rw [l.w]; exact c) d (Rep.mono l r2) e (RepE.mono l t)
end
theorem Reps.length {G : Gr} : ∀ {xs : List D} {vs : List V}, Reps G xs vs → xs.length = vs.length
  | _, _, .nil => rfl
  | _, _, .cons _ t => congrArg Nat.succ (Reps.length t)
theorem Reps.get {G : Gr} : ∀ {xs : List D} {vs : List V} {i : Nat} {x : D}, Reps G xs vs → xs[i]? = some x → ∃ v, vs[i]? = some v ∧ Rep G x v
  | _, _, _, _, .nil, e => by simp at e
  | _, _, 0, _, .cons r _, e => by simp at e; subst e; exact ⟨_, rfl, r⟩
  | _, _, i + 1, x, .cons _ t, e => by
    obtain ⟨v, h1, h2⟩ := Reps.get (i := i) (x := x) t (by simpa using e)
    exact ⟨v, by simpa using h1, h2⟩
theorem Reps.at {G : Gr} : ∀ {xs : List D} {vs : List V} {i : Nat} {v : V}, Reps G xs vs → vs[i]? = some v → ∃ x, xs[i]? = some x ∧ Rep G x v
  | _, _, _, _, .nil, e => by simp at e
  | _, _, 0, _, .cons r _, e => by simp at e; subst e; exact ⟨_, rfl, r⟩
  | _, _, i + 1, x, .cons _ t, e => by
    obtain ⟨v, h1, h2⟩ := Reps.at (i := i) (v := x) t (by simpa using e)
    exact ⟨v, by simpa using h1, h2⟩
theorem Reps.append {G : Gr} : ∀ {xs ys : List D} {vs ws : List V}, Reps G xs vs → Reps G ys ws → Reps G (xs ++ ys) (vs ++ ws)
  | _, _, _, _, .nil, s => s
  | _, _, _, _, .cons r t, s => .cons r (Reps.append t s)
theorem Reps.take {G : Gr} : ∀ {xs : List D} {vs : List V} (n : Nat), Reps G xs vs → Reps G (xs.take n) (vs.take n)
  | _, _, 0, _ => .nil
  | _, _, _ + 1, .nil => .nil
  | _, _, n + 1, .cons r t => .cons r (Reps.take n t)
theorem Reps.drop {G : Gr} : ∀ {xs : List D} {vs : List V} (n : Nat), Reps G xs vs → Reps G (xs.drop n) (vs.drop n)
  | _, _, 0, r => r
  | _, _, _ + 1, .nil => .nil
  | _, _, n + 1, .cons _ t => Reps.drop n t
theorem Reps.set {G : Gr} {x : D} {v : V} (r : Rep G x v) : ∀ {xs : List D} {vs : List V} (i : Nat), Reps G xs vs → Reps G (xs.set i x) (vs.set i v)
  | _, _, _, .nil => .nil
  | _, _, 0, .cons _ t => .cons r t
  | _, _, i + 1, .cons q t => .cons q (Reps.set r i t)
theorem Reps.eraseIdx {G : Gr} : ∀ {xs : List D} {vs : List V} (i : Nat), Reps G xs vs → Reps G (xs.eraseIdx i) (vs.eraseIdx i)
  | _, _, _, .nil => .nil
  | _, _, 0, .cons _ t => t
  | _, _, i + 1, .cons q t => .cons q (Reps.eraseIdx i t)
theorem Reps.reverse {G : Gr} : ∀ {xs : List D} {vs : List V}, Reps G xs vs → Reps G xs.reverse vs.reverse
  | _, _, .nil => .nil
  | _, _, .cons r t => by
    rw [List.reverse_cons, List.reverse_cons]
    exact Reps.append (Reps.reverse t) (.cons r .nil)
theorem RepF.lookup {G : Gr} {f : Str} : ∀ {xs : List (Str × D)} {vs : List (Str × V)} {x : D}, RepF G xs vs → xs.lookup f = some x → ∃ v, vs.lookup f = some v ∧ Rep G x v
  | _, _, _, .nil, e => by cases e
  | _, _, _, .cons (f := g) (x := y) (v := u) r t, e => by
    by_cases h : (f == g) = true
    · rw [List.lookup_cons, h] at e
      have e2 : y = _ := Option.some.inj e
      subst e2
      exact ⟨u, by rw [List.lookup_cons, h], r⟩
    · have h' : (f == g) = false := by simpa using h
      rw [List.lookup_cons, h'] at e
      obtain ⟨v, a, b⟩ := RepF.lookup t e
      exact ⟨v, by rw [List.lookup_cons, h']; exact a, b⟩

/-! ### the changeable things -/
structure Wd where
  M : List Addr
  S : Store
  H : Hp
  F : Hp
/-- the hidden part F beside it -/
def join (A F : Hp) : Hp := fun a => match A a with
  | some o => some o
  | none => F a
theorem join_upd (A F : Hp) (a : Addr) (o : HO) : join (upd A a o) F = upd (join A F) a o := by
  funext b
  unfold join upd
  by_cases h : b = a
  · simp [h]
  · simp [h]
def Wd.full (W : Wd) : Hp := join W.H W.F
theorem Wd.full_at {W : Wd} {a : Addr} {o : HO} (h : W.H a = some o) : W.full a = some o := by unfold Wd.full join; rw [h]
theorem Wd.full_none {W : Wd} {a : Addr} (h : W.full a = none) : W.H a = none ∧ W.F a = none := by
  unfold Wd.full join at h
  cases e : W.H a with
  | none => rw [e] at h; exact ⟨rfl, h⟩
  | some o => rw [e] at h; cases h
theorem Wd.full_rd {W : Wd} {a : Addr} {u : HO} (h : Rd W.H a u) : Rd W.full a u := by
  rcases h with h | ⟨o, h⟩
  · exact .inl (Wd.full_at h)
  · exact .inr ⟨o, Wd.full_at h⟩
/-- data from now on -/
def Wd.Fz (W : Wd) (a : Addr) : Prop := ∀ n : Nat, W.M[n]? = some a → W.S[n]? = some Cell.dead
/-- not written -/
def Wd.Stuck (W : Wd) (a : Addr) : Prop := ∀ n : Nat, W.M[n]? = some a → ∀ b, W.S[n]? ≠ some (Cell.live false b)
theorem Wd.Fz.stuck {W : Wd} {a : Addr} (h : W.Fz a) : W.Stuck a := fun n e b q => by rw [h n e] at q; cases q
section
variable (w : World) (mg : Str → Option Value)
abbrev Wd.gr (W : Wd) : Gr := ⟨w, mg, W.H, W.Fz⟩
def RepV (W : Wd) : Val → V → Prop
  | .d x, v => Rep (W.gr w mg) x v
  | .ref n, v => ∃ a, W.M[n]? = some a ∧ v = .ref a
inductive RepVs (W : Wd) : List Val → List V → Prop
  | nil : RepVs W [] []
  | cons {x v xs vs} : RepV w mg W x v → RepVs W xs vs → RepVs W (x :: xs) (v :: vs)
inductive RepFV (W : Wd) : List (Str × Val) → List (Str × V) → Prop
  | nil : RepFV W [] []
  | cons {f x v xs vs} : RepV w mg W x v → RepFV W xs vs → RepFV W ((f, x) :: xs) ((f, v) :: vs)
def RepB (W : Wd) (a : Addr) : Body → Prop
  | .lst xs => ∃ vs, W.H a = some (.lst vs) ∧ Reps (W.gr w mg) xs vs
  | .dic kvs => ∃ es, W.H a = some (dictHO a es) ∧ RepE (W.gr w mg) kvs es
  | .ins c fs => ∃ C dx gs, W.H a = some (.ins C dx gs) ∧ mg c = some (.ref C) ∧ RepFV w mg W fs gs
structure Hold (W : Wd) : Prop where
  len : W.M.length = W.S.length
  nd : W.M.Nodup
  trk : ∀ a, a ∈ W.M → W.H a ≠ none
  dj : ∀ a, W.H a ≠ none → W.F a = none
  cell : ∀ (n : Nat) lk b, W.S[n]? = some (Cell.live lk b) → ∃ a, W.M[n]? = some a ∧ RepB w mg W a b
end
def Cell.still : Cell → Bool
  | .live false _ => false
  | _ => true
structure Ext (W W' : Wd) : Prop where
  fr : W'.F = W.F
  pre : ∃ more, W'.M = W.M ++ more
  keep : ∀ a o, W.H a = some o → W.Stuck a → W'.H a = some o
  trk : ∀ a, W.H a ≠ none → W'.H a ≠ none
  frz : ∀ a, W.H a ≠ none → W.Fz a → W'.Fz a
  lock : ∀ (n : Nat) (c : Cell), W.S[n]? = some c → c.still = true → W'.S[n]? = some c
theorem Ext.refl (W : Wd) : Ext W W := ⟨rfl, ⟨[], by simp⟩, fun _ _ h _ => h, fun _ h => h, fun _ _ h => h, fun _ _ h _ => h⟩
theorem Ext.M_at {W W' : Wd} (e : Ext W W') {n : Nat} {a : Addr} (h : W.M[n]? = some a) : W'.M[n]? = some a := by
  obtain ⟨more, q⟩ := e.pre
  rw [q]
  have hl : n < W.M.length := (List.getElem?_eq_some_iff.mp h).1
  rw [List.getElem?_append_left hl]
  exact h
section
variable {w : World} {mg : Str → Option Value} {W W' W'' : Wd}
theorem Hold.mem_of (h : Hold w mg W) {n : Nat} {a : Addr} (e : W.M[n]? = some a) : ∃ c, W.S[n]? = some c := by
  have hl : n < W.S.length := by rw [← h.len]; exact (List.getElem?_eq_some_iff.mp e).1
  exact ⟨W.S[n], List.getElem?_eq_getElem hl⟩
theorem nodup_at {l : List Addr} (h : l.Nodup) {i j : Nat} {a : Addr} (e1 : l[i]? = some a) (e2 : l[j]? = some a) : i = j := by
  obtain ⟨h1, e1⟩ := List.getElem?_eq_some_iff.mp e1
  obtain ⟨h2, e2⟩ := List.getElem?_eq_some_iff.mp e2
  exact (List.getElem_inj h).mp (e1.trans e2.symm)
/-- stuck stays stuck -/
theorem Ext.stuck (e : Ext W W') (hold : Hold w mg W) (hold' : Hold w mg W') {a : Addr} (ht : W.H a ≠ none) (hs : W.Stuck a) : W'.Stuck a := by
  by_cases hm : ∃ n : Nat, W.M[n]? = some a
  · obtain ⟨n, hn⟩ := hm
    obtain ⟨c, hc⟩ := hold.mem_of hn
    have st : c.still = true := by
      cases c with
      | dead => rfl
      | live lk b =>
        cases lk with
        | true => rfl
        | false => exact absurd hc (hs n hn b)
    intro m hm' b q
    have en : m = n := nodup_at hold'.nd hm' (e.M_at hn)
    subst en
    rw [e.lock _ _ hc st] at q
    cases q
    cases st
  · have fz : W.Fz a := fun n hn => (hm ⟨n, hn⟩).elim
    exact (e.frz a ht fz).stuck
theorem Ext.trans (e : Ext W W') (e' : Ext W' W'') (hold : Hold w mg W) (hold' : Hold w mg W') : Ext W W'' := by
  obtain ⟨m1, q1⟩ := e.pre
  obtain ⟨m2, q2⟩ := e'.pre
  exact ⟨e'.fr.trans e.fr, ⟨m1 ++ m2, by rw [q2, q1, List.append_assoc]⟩, fun a o h s => e'.keep a o (e.keep a o h s) (e.stuck hold hold' (by rw [h]; simp) s), fun a h => e'.trk a (e.trk a h),
    fun a h f => e'.frz a (e.trk a h) (e.frz a h f), fun n c h s => e'.lock n c (e.lock n c h s) s⟩
theorem Ext.le (e : Ext W W') : (W.gr w mg).Le (W'.gr w mg) := ⟨rfl, rfl, fun a o h z => ⟨e.keep a o h (Wd.Fz.stuck z), e.frz a (by show W.H a ≠ none; rw [show W.H a = some o from h]; simp) z⟩⟩
theorem Ext.rep (e : Ext W W') {x : D} {v : V} (r : Rep (W.gr w mg) x v) : Rep (W'.gr w mg) x v := r.mono e.le
theorem Ext.repV (e : Ext W W') {x : Val} {v : V} (r : RepV w mg W x v) : RepV w mg W' x v := by
  cases x with
  | d x => exact Rep.mono e.le r
  | ref n => obtain ⟨a, h, q⟩ := r; exact ⟨a, e.M_at h, q⟩
theorem Ext.repVs (e : Ext W W') : ∀ {xs : List Val} {vs : List V}, RepVs w mg W xs vs → RepVs w mg W' xs vs
  | _, _, .nil => .nil
  | _, _, .cons r t => .cons (e.repV r) (Ext.repVs e t)
theorem Ext.repFV (e : Ext W W') : ∀ {xs : List (Str × Val)} {vs : List (Str × V)}, RepFV w mg W xs vs → RepFV w mg W' xs vs
  | _, _, .nil => .nil
  | _, _, .cons r t => .cons (e.repV r) (Ext.repFV e t)
theorem RepVs.length : ∀ {xs : List Val} {vs : List V}, RepVs w mg W xs vs → xs.length = vs.length
  | _, _, .nil => rfl
  | _, _, .cons _ t => congrArg Nat.succ (RepVs.length t)
theorem RepVs.append : ∀ {xs ys : List Val} {vs ws : List V}, RepVs w mg W xs vs → RepVs w mg W ys ws → RepVs w mg W (xs ++ ys) (vs ++ ws)
  | _, _, _, _, .nil, s => s
  | _, _, _, _, .cons r t, s => .cons r (RepVs.append t s)

/-! ### the steps -/
/-- nothing changes but the abstract heap, which grows at p -/
theorem ext_new {M : List Addr} {S : Store} {H F : Hp} {p : Addr} {o : HO} (hp : H p = none) : Ext ⟨M, S, H, F⟩ ⟨M, S, upd H p o, F⟩   :=
  ⟨rfl, ⟨[], by simp⟩, fun a u h _ => by show upd H p o a = some u; rw [upd_ne (ne_of_none h hp)]; exact h,
    fun a h => by
      show upd H p o a ≠ none
      by_cases e : a = p
      · rw [e, upd_same]; simp
      · rw [upd_ne e]; exact h, fun _ _ h => h, fun _ _ h _ => h⟩
theorem not_mem_of_trk {M : List Addr} {S : Store} {H F : Hp} {p : Addr} (hold : Hold w mg ⟨M, S, H, F⟩) (hp : H p = none) : p ∉ M := fun h => hold.trk p h hp
/-- what a body says stays along a step -/
theorem RepB.mono {a : Addr} {b : Body} (r : RepB w mg W a b) (hH : W'.H a = W.H a) (e : Ext W W') : RepB w mg W' a b := by
  cases b with
  | lst xs => obtain ⟨vs, h, r⟩ := r; exact ⟨vs, hH.trans h, r.mono e.le⟩
  | dic kvs => obtain ⟨es, h, r⟩ := r; exact ⟨es, hH.trans h, r.mono e.le⟩
  | ins c fs => obtain ⟨C, dx, gs, h, m, r⟩ := r; exact ⟨C, dx, gs, hH.trans h, m, e.repFV r⟩
theorem hold_new {M : List Addr} {S : Store} {H F : Hp} {p : Addr} {o : HO} (hold : Hold w mg ⟨M, S, H, F⟩) (hp : H p = none) (hf : F p = none) : Hold w mg ⟨M, S, upd H p o, F⟩ :=
  ⟨hold.len, hold.nd, fun a ha => (ext_new (M := M) (S := S) (F := F) (o := o) hp).trk a (hold.trk a ha), fun a ha => by
    have ha' : upd H p o a ≠ none := ha
    by_cases e : a = p
    · subst e; exact hf
    · rw [upd_ne e] at ha'; exact hold.dj a ha', fun n lk b h => by
    obtain ⟨a, ha, r⟩ := hold.cell n lk b h
    refine ⟨a, ha, r.mono ?_ (ext_new hp)⟩
    exact upd_ne fun e => not_mem_of_trk hold hp (e ▸ List.mem_of_getElem? ha)⟩
/-- a new thing at p is data from now on -/
theorem fz_new {M : List Addr} {S : Store} {H F : Hp} {p : Addr} (hold : Hold w mg ⟨M, S, H, F⟩) (hp : H p = none) (H' : Hp) : (⟨M, S, H', F⟩ : Wd).Fz p := fun n h => (not_mem_of_trk hold hp (List.mem_of_getElem? h)).elim
/-- a new changeable thing -/
theorem ext_cell {M : List Addr} {S : Store} {H F : Hp} {p : Addr} {o : HO} {c : Cell} (hold : Hold w mg ⟨M, S, H, F⟩) (hp : H p = none) : Ext ⟨M, S, H, F⟩ ⟨M ++ [p], S ++ [c], upd H p o, F⟩ := by
  have len : M.length = S.length := hold.len
  refine ⟨rfl, ⟨[p], rfl⟩, (ext_new (M := M) (S := S) (F := F) hp).keep, (ext_new (M := M) (S := S) (F := F) hp).trk, fun a ht hf n hn => ?_, fun n c' h _ => ?_⟩
  · have hn' : (M ++ [p])[n]? = some a := hn
    by_cases hl : n < M.length
    · rw [List.getElem?_append_left hl] at hn'
      show (S ++ [c])[n]? = some Cell.dead
      rw [List.getElem?_append_left (by omega)]
      exact hf n hn'
    · rw [List.getElem?_append_right (by omega)] at hn'
      have hm : a ∈ [p] := List.mem_of_getElem? hn'
      rw [List.mem_singleton] at hm
      subst hm
      exact (ht hp).elim
  · have h' : S[n]? = some c' := h
    show (S ++ [c])[n]? = some c'
    rw [List.getElem?_append_left (List.getElem?_eq_some_iff.mp h').1]
    exact h'
theorem hold_cell {M : List Addr} {S : Store} {H F : Hp} {p : Addr} {o : HO} {lk : Bool} {b : Body} (hold : Hold w mg ⟨M, S, H, F⟩) (hp : H p = none) (hf : F p = none) (r : RepB w mg ⟨M ++ [p], S ++ [.live lk b], upd H p o, F⟩ p b) :
    Hold w mg ⟨M ++ [p], S ++ [.live lk b], upd H p o, F⟩ := by
  have len : M.length = S.length := hold.len
  refine ⟨by simp [len], ?_, fun a ha => ?_, fun a ha => by
    have ha' : upd H p o a ≠ none := ha
    by_cases e : a = p
    · subst e; exact hf
    · rw [upd_ne e] at ha'; exact hold.dj a ha', fun n lk' b' h => ?_⟩
  · refine List.nodup_append.mpr ⟨hold.nd, by simp, fun a ha b hb => ?_⟩
    rw [List.mem_singleton] at hb
    subst hb
    exact fun e => not_mem_of_trk hold hp (e ▸ ha)
  · have ha' : a ∈ M ++ [p] := ha
    rcases List.mem_append.mp ha' with q | q
    · exact (ext_new (M := M) (S := S) (F := F) hp).trk a (hold.trk a q)
    · rw [List.mem_singleton] at q
      subst q
      show upd H a o a ≠ none
      rw [upd_same]; simp
  · have h' : (S ++ [.live lk b])[n]? = some (Cell.live lk' b') := h
    by_cases hl : n < S.length
    · rw [List.getElem?_append_left hl] at h'
      obtain ⟨a, ha, r'⟩ := hold.cell n lk' b' h'
      refine ⟨a, (ext_cell hold hp).M_at ha, r'.mono ?_ (ext_cell hold hp)⟩
      exact upd_ne fun e => not_mem_of_trk hold hp (e ▸ List.mem_of_getElem? ha)
    · have hn : n = S.length := by
        have := (List.getElem?_eq_some_iff.mp h').1
        simp at this; omega
      subst hn
      rw [List.getElem?_append_right (Nat.le_refl _)] at h'
      simp at h'
      obtain ⟨e1, e2⟩ := h'
      subst e1 e2
      refine ⟨p, ?_, r⟩
      show (M ++ [p])[S.length]? = some p
      rw [← len, List.getElem?_append_right (Nat.le_refl _)]
      simp
/-- a changeable thing is changed -/
theorem ext_set {M : List Addr} {S : Store} {H F : Hp} {n : Nat} {a : Addr} {o : HO} {b b' : Body} (hold : Hold w mg ⟨M, S, H, F⟩) (hn : M[n]? = some a) (hs : S[n]? = some (Cell.live false b)) : Ext ⟨M, S, H, F⟩ ⟨M, S.set n (.live false b'), upd H a o, F⟩ := by
  refine ⟨rfl, ⟨[], by simp⟩, fun c u h st => ?_, fun c h => ?_, fun c _ f m hm => ?_, fun m c h st => ?_⟩
  · show upd H a o c = some u
    rw [upd_ne]
    · exact h
    · intro e
      subst e
      exact st n hn b hs
  · show upd H a o c ≠ none
    by_cases e : c = a
    · rw [e, upd_same]; simp
    · rw [upd_ne e]; exact h
  · have q := f m hm
    show (S.set n _)[m]? = some Cell.dead
    have : n ≠ m := by
      intro e; subst e
      have q' : S[n]? = some Cell.dead := q
      rw [hs] at q'; cases q'
    rw [List.getElem?_set_ne this]
    exact q
  · show (S.set n _)[m]? = some c
    have : n ≠ m := by
      intro e; subst e
      have q' : S[n]? = some c := h
      rw [hs] at q'; cases q'; cases st
    rw [List.getElem?_set_ne this]
    exact h
theorem hold_set {M : List Addr} {S : Store} {H F : Hp} {n : Nat} {a : Addr} {o : HO} {b b' : Body} (hold : Hold w mg ⟨M, S, H, F⟩) (hn : M[n]? = some a) (hs : S[n]? = some (Cell.live false b)) (r : RepB w mg ⟨M, S.set n (.live false b'), upd H a o, F⟩ a b') :
    Hold w mg ⟨M, S.set n (.live false b'), upd H a o, F⟩ := by
  have E := ext_set (o := o) (b' := b') hold hn hs
  refine ⟨by rw [List.length_set]; exact hold.len, hold.nd, fun c hc => E.trk c (hold.trk c hc), fun c hc => ?_, fun m lk' c h => ?_⟩
  · have hc' : upd H a o c ≠ none := hc
    by_cases e : c = a
    · subst e; exact hold.dj c (hold.trk c (List.mem_of_getElem? hn))
    · rw [upd_ne e] at hc'; exact hold.dj c hc'
  have h' : (S.set n (.live false b'))[m]? = some (Cell.live lk' c) := h
  by_cases e : n = m
  · subst e
    rw [List.getElem?_set_self (List.getElem?_eq_some_iff.mp hs).1] at h'
    cases h'
    exact ⟨a, hn, r⟩
  · rw [List.getElem?_set_ne e] at h'
    obtain ⟨c', hc, r'⟩ := hold.cell m lk' c h'
    refine ⟨c', hc, r'.mono (upd_ne fun q => ?_) E⟩
    subst q
    exact e (nodup_at hold.nd hn hc)
/-- a changeable thing becomes data, or is locked -/
theorem ext_mark {M : List Addr} {S : Store} {H F : Hp} {n : Nat} {b : Body} {c : Cell} (hs : S[n]? = some (Cell.live false b)) (hc : c.still = true) : Ext ⟨M, S, H, F⟩ ⟨M, S.set n c, H, F⟩ := by
  refine ⟨rfl, ⟨[], by simp⟩, fun _ _ h _ => h, fun _ h => h, fun a _ f m hm => ?_, fun m c' h st => ?_⟩
  · have q : S[m]? = some Cell.dead := f m hm
    show (S.set n c)[m]? = some Cell.dead
    have : n ≠ m := by
      intro e; subst e
      rw [hs] at q; cases q
    rw [List.getElem?_set_ne this]
    exact q
  · have h' : S[m]? = some c' := h
    show (S.set n c)[m]? = some c'
    have : n ≠ m := by
      intro e; subst e
      rw [hs] at h'; cases h'; cases st
    rw [List.getElem?_set_ne this]
    exact h'
theorem hold_mark {M : List Addr} {S : Store} {H F : Hp} {n : Nat} {b : Body} {c : Cell} (hold : Hold w mg ⟨M, S, H, F⟩) (hs : S[n]? = some (Cell.live false b)) (hc : c = .dead ∨ c = .live true b) : Hold w mg ⟨M, S.set n c, H, F⟩ := by
  have st : c.still = true := by rcases hc with rfl | rfl <;> rfl
  have E : Ext ⟨M, S, H, F⟩ ⟨M, S.set n c, H, F⟩ := ext_mark hs st
  refine ⟨by rw [List.length_set]; exact hold.len, hold.nd, hold.trk, hold.dj, fun m lk' b' h => ?_⟩
  have h' : (S.set n c)[m]? = some (Cell.live lk' b') := h
  by_cases e : n = m
  · subst e
    rw [List.getElem?_set_self (List.getElem?_eq_some_iff.mp hs).1] at h'
    rcases hc with rfl | rfl
    · cases h'
    · cases h'
      obtain ⟨a, ha, r⟩ := hold.cell n false b hs
      exact ⟨a, ha, r.mono rfl E⟩
  · rw [List.getElem?_set_ne e] at h'
    obtain ⟨a, ha, r⟩ := hold.cell m lk' b' h'
    exact ⟨a, ha, r.mono rfl E⟩
end
end Lc

set_option maxHeartbeats 2000000
/-! Lc, part C: the judgements, and the rules that do not look into values. -/
namespace Lc
open PySem PySem.Spec PyProof.Rows L2

abbrev XH := Value → Option Addr → Hp → Prop
section
variable (w : World) (mg : Str → Option Value)
/-- an error, as it stands behind a raise -/
inductive RepX (W : Wd) (x : Exn) : Value → Option Addr → Prop
  | zero {C} : mg x.c = some (.ref C) → x.fs = [] → RepX W x (.ref C) none
  | one {C d gs} : mg x.c = some (.ref C) → W.H d = some (.xd gs) → W.Fz d → RepF (W.gr w mg) x.fs gs → RepX W x (.ref C) (some d)
structure RelL (W : Wd) (ρ : Loc) (σ : L2.St) : Prop where
  len : ρ.length = σ.length
  at_ : ∀ (i : Nat) v, ρ[i]? = some (some v) → ∃ x, σ[i]? = some (some x) ∧ RepV w mg W v x
def outR {α β : Type} (r : R α) (W : Wd) (Rl : Wd → α → β → Prop) (E : XH) (Q : β → Hp → Prop) : Prop := match r with
  | .ok a S' => ∀ (W' : Wd) (x : β), W'.S = S' → Ext W W' → Hold w mg W' → Rl W' a x → Q x W'.full
  | .err e S' => ∀ (W' : Wd) (c : Value) (d : Option Addr), W'.S = S' → Ext W W' → Hold w mg W' → RepX w mg W' e c d → E c d W'.full
  | .bad => False
def outO (o : O) (W : Wd) (E : WX) (D : Ends) : Prop := match o with
  | .nx ρ S' => ∀ (W' : Wd) (σ' : L2.St), W'.S = S' → Ext W W' → Hold w mg W' → RelL w mg W' ρ σ' → D.nx σ' W'.full
  | .rt v S' => ∀ (W' : Wd) (x : V), W'.S = S' → Ext W W' → Hold w mg W' → RepV w mg W' v x → D.rt x W'.full
  | .bk ρ S' => ∀ (W' : Wd) (σ' : L2.St), W'.S = S' → Ext W W' → Hold w mg W' → RelL w mg W' ρ σ' → D.bk σ' W'.full
  | .ct ρ S' => ∀ (W' : Wd) (σ' : L2.St), W'.S = S' → Ext W W' → Hold w mg W' → RelL w mg W' ρ σ' → D.ct σ' W'.full
  | .err e ρ S' => ∀ (W' : Wd) (σ' : L2.St) (c : Value) (d : Option Addr), W'.S = S' → Ext W W' → Hold w mg W' → RelL w mg W' ρ σ' → RepX w mg W' e c d → E c d σ' W'.full
  | .bad => False
def tE (m : ME) (E : WX) : TE := fun σ H Q => ∃ (W : Wd) (ρ : Loc), W.full = H ∧ Hold w mg W ∧ RelL w mg W ρ σ ∧ outR w mg (m ρ W.S) W (RepV w mg) (fun c d H' => E c d σ H') Q
def tA (m : MA) (E : WX) : TA := fun σ H Q => ∃ (W : Wd) (ρ : Loc), W.full = H ∧ Hold w mg W ∧ RelL w mg W ρ σ ∧ outR w mg (m ρ W.S) W (RepVs w mg) (fun c d H' => E c d σ H') Q
def tT (m : MT) (E : WX) : TT := fun σ H Q => ∃ (W : Wd) (ρ : Loc), W.full = H ∧ Hold w mg W ∧ RelL w mg W ρ σ ∧ outR w mg (m ρ W.S) W (fun _ b c => b = c) (fun c d H' => E c d σ H') Q
def tS (m : MS) (E : WX) : TS := fun D σ H => ∃ (W : Wd) (ρ : Loc), W.full = H ∧ Hold w mg W ∧ RelL w mg W ρ σ ∧ outO w mg (m ρ W.S) W E D
def spOf (n : Nat) (φ : Fn) : Sp := fun vs H Q E => vs.length = n ∧ ∃ (W : Wd) (args : List Val), W.full = H ∧ Hold w mg W ∧ RepVs w mg W args vs ∧ outR w mg (φ args W.S) W (RepV w mg) E Q
end
def CE (X : Cx) (e : Expr) (m : ME) : Prop := ∀ E : WX, Takes X E → PE X e (tE X.w X.mg m E)
def CA (X : Cx) (es : List Expr) (m : MA) : Prop := ∀ E : WX, Takes X E → PA X es (tA X.w X.mg m E)
def CT (X : Cx) (e : Expr) (m : MT) : Prop := ∀ E : WX, Takes X E → PT X e (tT X.w X.mg m E)
def CW (X : Cx) (e : Expr) (m : MT) : Prop := ∀ E : WX, Takes X E → PW X e (tT X.w X.mg m E)
def CS (X : Cx) (st : Stmt) (m : MS) : Prop := ∀ E : WX, Takes X E → PS X st (tS X.w X.mg m E)
def CSs (X : Cx) (sts : List Stmt) (m : MS) : Prop := ∀ E : WX, Takes X E → PSs X sts (tS X.w X.mg m E)

/-! ### outcomes -/
section
variable {w : World} {mg : Str → Option Value} {W W' : Wd}
theorem RelL.mono (e : Ext W W') {ρ : Loc} {σ : L2.St} (r : RelL w mg W ρ σ) : RelL w mg W' ρ σ := ⟨r.len, fun i v h => by
  obtain ⟨x, h1, h2⟩ := r.at_ i v h
  exact ⟨x, h1, e.repV h2⟩⟩
theorem RelL.set {ρ : Loc} {σ : L2.St} (r : RelL w mg W ρ σ) {i : Nat} {v : Val} {x : V} (h : RepV w mg W v x) : RelL w mg W (ρ.set i (some v)) (σ.set i (some x)) := by
  refine ⟨by rw [List.length_set, List.length_set]; exact r.len, fun j u e => ?_⟩
  by_cases hij : i = j
  · subst hij
    have hl : i < ρ.length := by
      have := (List.getElem?_eq_some_iff.mp e).1
      rwa [List.length_set] at this
    rw [List.getElem?_set_self hl] at e
    cases e
    exact ⟨x, List.getElem?_set_self (by rw [← r.len]; exact hl), h⟩
  · rw [List.getElem?_set_ne hij] at e
    obtain ⟨y, h1, h2⟩ := r.at_ j u e
    exact ⟨y, by rw [List.getElem?_set_ne hij]; exact h1, h2⟩
theorem outR.shift {α β : Type} {r : R α} {Rl : Wd → α → β → Prop} {E : XH} {Q : β → Hp → Prop} (e : Ext W W') (hold : Hold w mg W) (hold' : Hold w mg W') (h : outR w mg r W Rl E Q) : outR w mg r W' Rl E Q := by
  cases r with
  | ok a S' => exact fun W2 x hs e2 => h W2 x hs (e.trans e2 hold hold')
  | err x S' => exact fun W2 c d hs e2 => h W2 c d hs (e.trans e2 hold hold')
  | bad => exact h
theorem outR.mono {α β : Type} {r : R α} {Rl : Wd → α → β → Prop} {E E' : XH} {Q Q' : β → Hp → Prop} (h : outR w mg r W Rl E Q) (hQ : ∀ x H, Q x H → Q' x H) (hE : ∀ c d H, E c d H → E' c d H) : outR w mg r W Rl E' Q' := by
  cases r with
  | ok a S' => exact fun W2 x hs e2 ho r => hQ _ _ (h W2 x hs e2 ho r)
  | err x S' => exact fun W2 c d hs e2 ho r => hE _ _ _ (h W2 c d hs e2 ho r)
  | bad => exact h
theorem outR.bind {α β γ δ : Type} {r : R α} {f : α → Store → R γ} {Rl : Wd → α → β → Prop} {Rl' : Wd → γ → δ → Prop} {E : XH} {Q : δ → Hp → Prop} (hold : Hold w mg W) (h : outR w mg (r.bind f) W Rl' E Q) :
    outR w mg r W Rl E (fun x H' => ∃ (W' : Wd) (a : α), W'.full = H' ∧ Ext W W' ∧ Hold w mg W' ∧ Rl W' a x ∧ outR w mg (f a W'.S) W' Rl' E Q) := by
  cases r with
  | ok a S' => 
    intro W2 x hs e2 ho r
    subst hs
    exact ⟨W2, a, rfl, e2, ho, r, outR.shift e2 hold ho h⟩
  | err x S' => exact h
  | bad => exact h
theorem outR.here {α β : Type} {a : α} {Rl : Wd → α → β → Prop} {E : XH} {Q : β → Hp → Prop} {x : β} (h : outR w mg (.ok a W.S) W Rl E Q) (hold : Hold w mg W) (r : Rl W a x) : Q x W.full := h W x rfl (Ext.refl W) hold r
/-- a new thing that is data -/
theorem outR.new {x : D} {E : XH} {Q : VK} {p : Addr} {o : HO} (h : outR w mg (.ok (.d x) W.S) W (RepV w mg) E Q) (hold : Hold w mg W) (hp : W.full p = none) (r : Rep ((⟨W.M, W.S, upd W.H p o, W.F⟩ : Wd).gr w mg) x (.ref p)) : Q (.ref p) (upd W.full p o) := by
  have q := h ⟨W.M, W.S, upd W.H p o, W.F⟩ (.ref p) rfl (ext_new (Wd.full_none hp).1) (hold_new hold (Wd.full_none hp).1 (Wd.full_none hp).2) r
  rwa [show (⟨W.M, W.S, upd W.H p o, W.F⟩ : Wd).full = upd W.full p o from join_upd _ _ _ _] at q
theorem outO.shift {o : O} {E : WX} {D : Ends} (e : Ext W W') (hold : Hold w mg W) (hold' : Hold w mg W') (h : outO w mg o W E D) : outO w mg o W' E D := by
  cases o with
  | nx ρ S => exact fun W2 σ hs e2 => h W2 σ hs (e.trans e2 hold hold')
  | rt v S => exact fun W2 σ hs e2 => h W2 σ hs (e.trans e2 hold hold')
  | bk ρ S => exact fun W2 σ hs e2 => h W2 σ hs (e.trans e2 hold hold')
  | ct ρ S => exact fun W2 σ hs e2 => h W2 σ hs (e.trans e2 hold hold')
  | err x ρ S => exact fun W2 σ c d hs e2 => h W2 σ c d hs (e.trans e2 hold hold')
  | bad => exact h
end

theorem PE.imp {X : Cx} {e : Expr} {t t' : TE} (h : PE X e t) (hh : ∀ σ H Q, t' σ H Q → t σ H Q) : PE X e t' := ⟨fun pins s σ H Q I q => h.run pins s σ H Q I (hh σ H Q q)⟩
theorem PT.imp {X : Cx} {e : Expr} {t t' : TT} (h : PT X e t) (hh : ∀ σ H Q, t' σ H Q → t σ H Q) : PT X e t' := ⟨fun pins s σ H Q I q => h.run pins s σ H Q I (hh σ H Q q)⟩
theorem PW.imp {X : Cx} {e : Expr} {t t' : TT} (h : PW X e t) (hh : ∀ σ H Q, t' σ H Q → t σ H Q) : PW X e t' := ⟨fun wh pins s σ H Q I q => h.run wh pins s σ H Q I (hh σ H Q q)⟩
theorem PA.imp {X : Cx} {e : List Expr} {t t' : TA} (h : PA X e t) (hh : ∀ σ H Q, t' σ H Q → t σ H Q) : PA X e t' := ⟨fun pos pins s σ H Q I q => h.run pos pins s σ H Q I (hh σ H Q q)⟩
theorem PS.imp {X : Cx} {e : Stmt} {t t' : TS} (h : PS X e t) (hh : ∀ D σ H, t' D σ H → t D σ H) : PS X e t' := ⟨fun pins s σ H D I q => h.run pins s σ H D I (hh D σ H q)⟩
theorem PSs.imp {X : Cx} {e : List Stmt} {t t' : TS} (h : PSs X e t) (hh : ∀ D σ H, t' D σ H → t D σ H) : PSs X e t' := ⟨fun pins s σ H D I q => h.run pins s σ H D I (hh D σ H q)⟩

/-! ### names, constants -/
section
variable {X : Cx} {pos : Pos}
def mVar (i : Nat) : ME := fun ρ S => match ρ[i]? with
  | some (some v) => .ok v S
  | _ => .bad
def mC (x : D) : ME := fun _ S => .ok (.d x) S
theorem ce_var (i : Nat) {x : Str} (hN : X.N[i]? = some x := by rfl) (hv : Vis X.env.scope x := by first | exact Or.inl rfl | exact Or.inr (Or.inl rfl) | exact Or.inr (Or.inr rfl)) (hd : (x == ("__debug__" : Str)) = false := by decide)
    (hcd : (x == ("__classdict__" : Str)) = false := by decide) : CE X (.Name x pos) (mVar i) := fun E tk => by
  refine PE.imp (pe_var hN hv hd hcd) fun σ H Q h => ?_
  obtain ⟨W, ρ, rfl, hold, rel, out⟩ := h
  unfold mVar at out
  split at out
  · rename_i v e
    obtain ⟨x, h1, h2⟩ := rel.at_ i v e
    exact ⟨x, h1, out.here hold h2⟩
  · exact out.elim
theorem ce_const {e : Expr} {v : V} {x : D} (h : PE X e (tC v)) (r : ∀ G, Rep G x v) : CE X e (mC x) := fun E tk => by
  refine PE.imp h fun σ H Q h => ?_
  obtain ⟨W, ρ, rfl, hold, rel, out⟩ := h
  exact outR.here (x := v) out hold (r _)
theorem ce_int {i : Int} {j} : CE X (.Constant (.int i) j pos) (mC (.int i)) := ce_const pe_int fun _ => .int i
theorem ce_bl {b : Bool} {j} : CE X (.Constant (.bool b) j pos) (mC (.bl b)) := ce_const pe_bl fun _ => .bl b
theorem ce_non {j} : CE X (.Constant .none j pos) (mC .non) := ce_const pe_non fun _ => .non
theorem ce_str {x : Str} {j} : CE X (.Constant (.str x) j pos) (mC (.str x)) := ce_const pe_str fun _ => .str x
/-- a module's int -/
theorem ce_gint {x : Str} {i : Int} {t : Tok} (hm : X.mg x = some (.int i t)) (hg : Gl X x := by rfl) (hd : (x == ("__debug__" : Str)) = false := by decide) : CE X (.Name x pos) (mC (.int i)) := ce_const (pe_glob (v := .int i) hg hm ⟨t, rfl⟩ hd) fun _ => .int i
/-- a built-in class as a value -/
theorem ce_btype {x : Str} {n : String} (hm : X.mg x = none) (hv : bootBuiltins x = some (.type n)) (hg : Gl X x := by rfl) (hn : x ≠ "__name__" := by decide) (hd : (x == ("__debug__" : Str)) = false := by decide) : CE X (.Name x pos) (mC (.ty n)) :=
  ce_const (pe_bltn (v := .ty n) hg hm hv rfl hn hd) fun _ => .ty n

/-! ### arguments -/
def maNil : MA := fun _ S => .ok [] S
def maCons (m : ME) (ms : MA) : MA := fun ρ S => (m ρ S).bind fun v S1 => (ms ρ S1).bind fun vs S2 => .ok (v :: vs) S2
theorem ca_nil : CA X [] maNil := fun E tk => by
  refine PA.imp pa_nil fun σ H Q h => ?_
  obtain ⟨W, ρ, rfl, hold, rel, out⟩ := h
  exact outR.here out hold .nil
theorem ca_cons {e : Expr} {es : List Expr} {m : ME} {ms : MA} (he : CE X e m) (hes : CA X es ms) (hs : starEach (e :: es) X.env = (false, eval e X.env) :: starEach es X.env := by rfl) : CA X (e :: es) (maCons m ms) := fun E tk => by
  refine PA.imp (pa_cons (he E tk) (hes E tk) hs) fun σ H Q h => ?_
  obtain ⟨W, ρ, rfl, hold, rel, out⟩ := h
  refine ⟨W, ρ, rfl, hold, rel, outR.mono (outR.bind (Rl := RepV X.w X.mg) hold out) (fun x H1 h1 => ?_) fun _ _ _ z => z⟩
  obtain ⟨W1, a, rfl, e1, hold1, r1, out1⟩ := h1
  refine ⟨W1, ρ, rfl, hold1, rel.mono e1, outR.mono (outR.bind (Rl := RepVs X.w X.mg) hold1 out1) (fun xs H2 h2 => ?_) fun _ _ _ z => z⟩
  obtain ⟨W2, as, rfl, e2, hold2, r2, out2⟩ := h2
  exact outR.here out2 hold2 (.cons (e2.repV r1) r2)

/-! ### operators by values -/
abbrev F1 := Store → Val → Option D
abbrev F2 := Store → Val → Val → Option D
def okD (o : Option D) (S : Store) : R Val := match o with
  | some x => .ok (.d x) S
  | none => .bad
def rOp (w : World) (mg : Str → Option Value) (f : F2) : R2 := fun x y H Q => ∃ (W : Wd) (v u : Val) (d : D), W.full = H ∧ Hold w mg W ∧ RepV w mg W v x ∧ RepV w mg W u y ∧ f W.S v u = some d ∧ outR w mg (.ok (.d d) W.S) W (RepV w mg) (fun _ _ _ => False) Q
def OpOk (X : Cx) (F : Value → Value → Sem Value) (f : F2) : Prop := OpR X F (rOp X.w X.mg f)
def mBin (f : F2) (ma mb : ME) : ME := fun ρ S => (ma ρ S).bind fun v S1 => (mb ρ S1).bind fun u S2 => okD (f S2 v u) S2
theorem outR.okD_out {w : World} {mg : Str → Option Value} {W : Wd} {o : Option D} {E : XH} {Q : VK} (h : outR w mg (okD o W.S) W (RepV w mg) E Q) : ∃ d, o = some d ∧ outR w mg (.ok (.d d) W.S) W (RepV w mg) (fun _ _ _ => False) Q := by
  cases o with
  | none => exact h.elim
  | some d => exact ⟨d, rfl, fun W' x hs e ho r => h W' x hs e ho r⟩
theorem op2_in {f : F2} {ma mb : ME} {E : WX} {σ : L2.St} {H : Hp} {Q : VK} (h : tE X.w X.mg (mBin f ma mb) E σ H Q) : tOp (rOp X.w X.mg f) (tE X.w X.mg ma E) (tE X.w X.mg mb E) σ H Q := by
  obtain ⟨W, ρ, rfl, hold, rel, out⟩ := h
  refine ⟨W, ρ, rfl, hold, rel, outR.mono (outR.bind (Rl := RepV X.w X.mg) hold out) (fun x H1 h1 => ?_) fun _ _ _ z => z⟩
  obtain ⟨W1, a, rfl, e1, hold1, r1, out1⟩ := h1
  refine ⟨W1, ρ, rfl, hold1, rel.mono e1, outR.mono (outR.bind (Rl := RepV X.w X.mg) hold1 out1) (fun xs H2 h2 => ?_) fun _ _ _ z => z⟩
  obtain ⟨W2, b, rfl, e2, hold2, r2, out2⟩ := h2
  obtain ⟨d, q1, q2⟩ := outR.okD_out out2
  exact ⟨W2, a, b, d, rfl, hold2, e2.repV r1, r2, q1, q2⟩
variable {a b : Expr} {ma mb : ME}
theorem ce_op {op : Operator} {f : F2} (ho : OpOk X (binaryOp op) f) (ha : CE X a ma) (hb : CE X b mb) : CE X (.BinOp a op b pos) (mBin f ma mb) := fun E tk => PE.imp (pe_op ho (ha E tk) (hb E tk)) fun σ H Q h => op2_in h
theorem ce_cmp {op : CmpOp} {f : F2} (ho : OpOk X (compareOp op) f) (ha : CE X a ma) (hb : CE X b mb) (hm : behindInMarks op b = false := by first | exact nomark _ | rfl) : CE X (.Compare a [op] [b] pos) (mBin f ma mb) := fun E tk => PE.imp (pe_cmpR ho (ha E tk) (hb E tk) hm) fun σ H Q h => op2_in h
/-- the value that a test has -/
def mTest (m : ME) : MT := fun ρ S => (m ρ S).bind fun v S1 => match v with
  | .d (.bl k) => .ok k S1
  | _ => .bad
theorem test_in {m : ME} {t : TE} {E : WX} (ht : ∀ σ H Q, tE X.w X.mg m E σ H Q → t σ H Q) {σ : L2.St} {H : Hp} {Q : Bool → Hp → Prop} (h : tT X.w X.mg (mTest m) E σ H Q) : tTest t σ H Q := by
  obtain ⟨W, ρ, rfl, hold, rel, out⟩ := h
  refine ht _ _ _ ⟨W, ρ, rfl, hold, rel, outR.mono (outR.bind (Rl := RepV X.w X.mg) hold out) (fun x H1 h1 => ?_) fun _ _ _ z => z⟩
  obtain ⟨W1, v, rfl, e1, hold1, r1, out1⟩ := h1
  cases v with
  | ref n => exact out1.elim
  | d x =>
    cases x with
    | bl k =>
      cases r1
      exact ⟨k, rfl, outR.here out1 hold1 rfl⟩
    | _ => exact out1.elim
theorem ct_cmp {op : CmpOp} {f : F2} (ho : OpOk X (compareOp op) f) (ha : CE X a ma) (hb : CE X b mb) (hm : behindInMarks op b = false := by first | exact nomark _ | rfl) : CT X (.Compare a [op] [b] pos) (mTest (mBin f ma mb)) := fun E tk =>
  PT.imp (pt_cmpR ho (ha E tk) (hb E tk) hm) fun σ H Q h => test_in (fun σ H Q h => op2_in h) h
/-- an expression of a bool as a test -/
theorem ct_val {e : Expr} {m : ME} (h : CE X e m) (he : ∀ whole, isTrue e X.env whole = (do let v ← whole; standAt e.pos; holding [v] (truthy v)) := by intro _; rfl) : CT X e (mTest m) := fun E tk =>
  PT.imp (pt_val (h E tk) he) fun σ H Q h => test_in (fun σ H Q h => h) h

/-! ### chains -/
def mChain (f g : F2) (ma mb mc : ME) : ME := fun ρ S => (ma ρ S).bind fun v S1 => (mb ρ S1).bind fun u S2 => match f S2 v u with
  | some (.bl true) => (mc ρ S2).bind fun z S3 => okD (g S3 u z) S3
  | some (.bl false) => .ok (.d (.bl false)) S2
  | _ => .bad
end
end Lc

set_option maxHeartbeats 2000000
/-! Lc, part D: chains, and, or, not, conditions; statements. -/
namespace Lc
open PySem PySem.Spec PyProof.Rows L2
section
variable {X : Cx} {pos : Pos} {a b c : Expr} {ma mb mc : ME}
/-! ### chains of comparisons -/
structure PCh (X : Cx) (ops : List CmpOp) (rs : List Expr) (t : V → TE) : Prop where
  run : ∀ (pos : Pos) (pins : List (Addr × Obj)) (s : Shared) (σ : L2.St) (H : Hp) (x : V) (v : Value) (Q : VK), Inv X pins σ H s → RelV x v → t x σ H Q → wpAny (model X.prog X.w) X.A (compareChain pos v ops (evalEach rs X.env)) (EP X pins σ Q) X.xe s
structure PChT (X : Cx) (ops : List CmpOp) (rs : List Expr) (t : V → TT) : Prop where
  run : ∀ (pos : Pos) (pins : List (Addr × Obj)) (s : Shared) (σ : L2.St) (H : Hp) (x : V) (v : Value) (Q : Bool → Hp → Prop), Inv X pins σ H s → RelV x v → t x σ H Q → wpAny (model X.prog X.w) X.A (testChain pos v ops (evalEach rs X.env)) (TP X pins σ Q) X.xe s
theorem pch_last {op : CmpOp} {r : R2} {tb : TE} (ho : OpR X (compareOp op) r) (hb : PE X b tb) : PCh X [op] [b] (fun x σ H Q => tb σ H fun y H1 => r x y H1 Q) :=
  ⟨fun pos pins s σ H x v Q I rx h => chain_last (thn (hb.run pins s σ H _ I h) fun u s1 ⟨y, H1, I1, r1, q1⟩ => ho pins s1 σ H1 x y v u Q I1 rx r1 q1)⟩
theorem pch_link {op op' : CmpOp} {ops : List CmpOp} {r : R2} {tb : TE} {r' : Expr} {rs : List Expr} {t : V → TE} (ho : OpR X (compareOp op) r) (hb : PE X b tb) (ht : PCh X (op' :: ops) (r' :: rs) t) :
    PCh X (op :: op' :: ops) (b :: r' :: rs) (fun x σ H Q => tb σ H fun y H1 => r x y H1 fun z H2 => ∃ k, z = .bl k ∧ (if k = true then t y σ H2 Q else Q (.bl false) H2)) := by
  refine ⟨fun pos pins s σ H x v Q I rx h => ?_⟩
  refine chain_link (thn (hb.run pins s σ H _ I h) fun u s1 ⟨y, H1, I1, r1, q1⟩ => thn (ho pins s1 σ H1 x y v u _ I1 rx r1 q1) fun d s3 ⟨z, H3, I3, r3, k, e, q3⟩ => ?_)
  subst e
  cases r3
  refine wpAny_truthy_bool ?_
  cases k with
  | false => exact ite_ff ⟨.bl false, H3, I3, rfl, q3⟩
  | true => exact ite_tt (ht.run pos pins s3 σ H3 y u Q I3 r1 q3)
theorem pe_chainN {op op' : CmpOp} {ops : List CmpOp} {r' r'' : Expr} {rs : List Expr} {ta : TE} {t : V → TE} (ha : PE X a ta) (ht : PCh X (op :: op' :: ops) (r' :: r'' :: rs) t) (hm : lastMarks (op :: op' :: ops) (r' :: r'' :: rs) = false) :
    PE X (.Compare a (op :: op' :: ops) (r' :: r'' :: rs) pos) (fun σ H Q => ta σ H fun x H1 => t x σ H1 Q) :=
  ⟨fun pins s σ H Q I h => Compare_chain (thn (ha.run pins s σ H _ I h) fun v s1 ⟨x, H1, I1, r1, q1⟩ => ht.run pos pins s1 σ H1 x v Q I1 r1 q1) hm⟩
theorem pcht_last {op : CmpOp} {r : R2} {tb : TE} (ho : OpR X (compareOp op) r) (hb : PE X b tb) : PChT X [op] [b] (fun x σ H Q => tb σ H fun y H1 => r x y H1 fun z H2 => ∃ k, z = .bl k ∧ Q k H2) := by
  refine ⟨fun pos pins s σ H x v Q I rx h => test_last (thn (hb.run pins s σ H _ I h) fun u s1 ⟨y, H1, I1, r1, q1⟩ => thn (ho pins s1 σ H1 x y v u _ I1 rx r1 q1) fun d s3 ⟨z, H3, I3, r3, k, e, q3⟩ => ?_)⟩
  subst e
  cases r3
  exact wpAny_truthy_bool ⟨H3, I3, q3⟩
theorem pcht_link {op op' : CmpOp} {ops : List CmpOp} {r : R2} {tb : TE} {r' : Expr} {rs : List Expr} {t : V → TT} (ho : OpR X (compareOp op) r) (hb : PE X b tb) (ht : PChT X (op' :: ops) (r' :: rs) t) :
    PChT X (op :: op' :: ops) (b :: r' :: rs) (fun x σ H Q => tb σ H fun y H1 => r x y H1 fun z H2 => ∃ k, z = .bl k ∧ (if k = true then t y σ H2 Q else Q false H2)) := by
  refine ⟨fun pos pins s σ H x v Q I rx h => ?_⟩
  refine test_link (thn (hb.run pins s σ H _ I h) fun u s1 ⟨y, H1, I1, r1, q1⟩ => thn (ho pins s1 σ H1 x y v u _ I1 rx r1 q1) fun d s3 ⟨z, H3, I3, r3, k, e, q3⟩ => ?_)
  subst e
  cases r3
  refine wpAny_truthy_bool ?_
  cases k with
  | false => exact ite_ff ⟨H3, I3, q3⟩
  | true => exact ite_tt (ht.run pos pins s3 σ H3 y u Q I3 r1 q3)
theorem pt_chainN {op op' : CmpOp} {ops : List CmpOp} {r' r'' : Expr} {rs : List Expr} {ta : TE} {t : V → TT} (ha : PE X a ta) (ht : PChT X (op :: op' :: ops) (r' :: r'' :: rs) t) (hm : lastMarks (op :: op' :: ops) (r' :: r'' :: rs) = false) :
    PT X (.Compare a (op :: op' :: ops) (r' :: r'' :: rs) pos) (fun σ H Q => ta σ H fun x H1 => t x σ H1 Q) :=
  ⟨fun pins s σ H Q I h => isTrue_chain (thn (ha.run pins s σ H _ I h) fun v s1 ⟨x, H1, I1, r1, q1⟩ => ht.run pos pins s1 σ H1 x v Q I1 r1 q1) hm⟩
/-- the rest of a chain, behind the value of its left -/
abbrev MCh := Val → ME
def tCh (w : World) (mg : Str → Option Value) (m : MCh) (E : WX) : V → TE := fun x σ H Q => ∃ (W : Wd) (ρ : Loc) (v : Val), W.full = H ∧ Hold w mg W ∧ RelL w mg W ρ σ ∧ RepV w mg W v x ∧ outR w mg (m v ρ W.S) W (RepV w mg) (fun c d H' => E c d σ H') Q
def tChT (w : World) (mg : Str → Option Value) (m : MCh) (E : WX) : V → TT := fun x σ H Q => ∃ (W : Wd) (ρ : Loc) (v : Val), W.full = H ∧ Hold w mg W ∧ RelL w mg W ρ σ ∧ RepV w mg W v x ∧ outR w mg ((mTest (m v)) ρ W.S) W (fun _ b c => b = c) (fun c d H' => E c d σ H') Q
structure CCh (X : Cx) (ops : List CmpOp) (rs : List Expr) (m : MCh) : Prop where
  e : ∀ E : WX, Takes X E → PCh X ops rs (tCh X.w X.mg m E)
  t : ∀ E : WX, Takes X E → PChT X ops rs (tChT X.w X.mg m E)
def chLast (f : F2) (mb : ME) : MCh := fun v ρ S => (mb ρ S).bind fun u S2 => okD (f S2 v u) S2
def chLink (f : F2) (mb : ME) (m : MCh) : MCh := fun v ρ S => (mb ρ S).bind fun u S2 => match f S2 v u with
  | some (.bl true) => m u ρ S2
  | some (.bl false) => .ok (.d (.bl false)) S2
  | _ => .bad
def mChn (ma : ME) (m : MCh) : ME := fun ρ S => (ma ρ S).bind fun v S1 => m v ρ S1
theorem cch_last {op : CmpOp} {f : F2} (ho : OpOk X (compareOp op) f) (hb : CE X b mb) : CCh X [op] [b] (chLast f mb) where
  e := fun E tk => by
    refine ⟨fun pos pins s σ H x v Q I rx h => (pch_last ho (hb E tk)).run pos pins s σ H x v Q I rx ?_⟩
    obtain ⟨W, ρ, u, rfl, hold, rel, rv, out⟩ := h
    refine ⟨W, ρ, rfl, hold, rel, outR.mono (outR.bind (Rl := RepV X.w X.mg) hold out) (fun y H1 h1 => ?_) fun _ _ _ z => z⟩
    obtain ⟨W1, z, rfl, e1, hold1, r1, out1⟩ := h1
    obtain ⟨d, q1, q2⟩ := outR.okD_out out1
    exact ⟨W1, u, z, d, rfl, hold1, e1.repV rv, r1, q1, q2⟩
  t := fun E tk => by
    refine ⟨fun pos pins s σ H x v Q I rx h => (pcht_last ho (hb E tk)).run pos pins s σ H x v Q I rx ?_⟩
    obtain ⟨W, ρ, u, rfl, hold, rel, rv, out⟩ := h
    have out' := outR.bind (Rl := RepV X.w X.mg) hold out
    refine ⟨W, ρ, rfl, hold, rel, outR.mono (outR.bind (Rl := RepV X.w X.mg) hold out') (fun y H1 h1 => ?_) fun _ _ _ z => z⟩
    obtain ⟨W1, z, rfl, e1, hold1, r1, out1⟩ := h1
    obtain ⟨d, q1, q2⟩ := outR.okD_out out1
    refine ⟨W1, u, z, d, rfl, hold1, e1.repV rv, r1, q1, outR.mono q2 (fun y2 H2 h2 => ?_) fun _ _ _ z => z⟩
    obtain ⟨W2, v2, rfl, e2, hold2, r2, out2⟩ := h2
    cases v2 with
    | ref n => exact out2.elim
    | d x2 =>
      cases x2 with
      | bl k => cases r2; exact ⟨k, rfl, outR.here out2 hold2 rfl⟩
      | _ => exact out2.elim
theorem cch_link {op op' : CmpOp} {ops : List CmpOp} {r' : Expr} {rs : List Expr} {f : F2} {m : MCh} (ho : OpOk X (compareOp op) f) (hb : CE X b mb) (hm : CCh X (op' :: ops) (r' :: rs) m) : CCh X (op :: op' :: ops) (b :: r' :: rs) (chLink f mb m) where
  e := fun E tk => by
    refine ⟨fun pos pins s σ H x v Q I rx h => (pch_link ho (hb E tk) (hm.e E tk)).run pos pins s σ H x v Q I rx ?_⟩
    obtain ⟨W, ρ, u, rfl, hold, rel, rv, out⟩ := h
    refine ⟨W, ρ, rfl, hold, rel, outR.mono (outR.bind (Rl := RepV X.w X.mg) hold out) (fun y H1 h1 => ?_) fun _ _ _ z => z⟩
    obtain ⟨W1, z, rfl, e1, hold1, r1, out1⟩ := h1
    split at out1
    · rename_i q
      refine ⟨W1, u, z, _, rfl, hold1, e1.repV rv, r1, q, fun W' x' hs e ho r => ?_⟩
      cases r
      exact ⟨true, rfl, by rw [if_pos rfl]; exact ⟨W', ρ, z, rfl, ho, (rel.mono e1).mono e, e.repV r1, by rw [hs]; exact outR.shift e hold1 ho out1⟩⟩
    · rename_i q
      refine ⟨W1, u, z, _, rfl, hold1, e1.repV rv, r1, q, fun W' x' hs e ho r => ?_⟩
      cases r
      exact ⟨false, rfl, by rw [if_neg Bool.false_ne_true]; exact out1 W' _ hs e ho (.bl false)⟩
    · exact out1.elim
  t := fun E tk => by
    refine ⟨fun pos pins s σ H x v Q I rx h => (pcht_link ho (hb E tk) (hm.t E tk)).run pos pins s σ H x v Q I rx ?_⟩
    obtain ⟨W, ρ, u, rfl, hold, rel, rv, out⟩ := h
    have out : outR X.w X.mg (((mb ρ W.S).bind fun u' S2 => match f S2 u u' with
      | some (.bl true) => m u' ρ S2
      | some (.bl false) => .ok (.d (.bl false)) S2
      | _ => .bad).bind fun v S1 => match v with
        | .d (.bl k) => .ok k S1
        | _ => .bad) W (fun _ b c => b = c) (fun c d H' => E c d σ H') Q := out
    have out' : outR X.w X.mg ((mb ρ W.S).bind fun u' S2 => (match f S2 u u' with
      | some (.bl true) => m u' ρ S2
      | some (.bl false) => .ok (.d (.bl false)) S2
      | _ => .bad).bind fun v S1 => match v with
        | .d (.bl k) => .ok k S1
        | _ => .bad) W (fun _ b c => b = c) (fun c d H' => E c d σ H') Q := by
      cases e : mb ρ W.S with
      | ok a S => rw [e] at out; exact out
      | err x S => rw [e] at out; exact out
      | bad => rw [e] at out; exact out
    refine ⟨W, ρ, rfl, hold, rel, outR.mono (outR.bind (Rl := RepV X.w X.mg) hold out') (fun y H1 h1 => ?_) fun _ _ _ z => z⟩
    obtain ⟨W1, z, rfl, e1, hold1, r1, out1⟩ := h1
    split at out1
    · rename_i q
      refine ⟨W1, u, z, _, rfl, hold1, e1.repV rv, r1, q, fun W' x' hs e ho r => ?_⟩
      cases r
      exact ⟨true, rfl, by rw [if_pos rfl]; exact ⟨W', ρ, z, rfl, ho, (rel.mono e1).mono e, e.repV r1, by rw [hs]; exact outR.shift e hold1 ho out1⟩⟩
    · rename_i q
      refine ⟨W1, u, z, _, rfl, hold1, e1.repV rv, r1, q, fun W' x' hs e ho r => ?_⟩
      cases r
      exact ⟨false, rfl, by rw [if_neg Bool.false_ne_true]; exact out1 W' _ hs e ho rfl⟩
    · exact out1.elim
theorem ce_chain {op op' : CmpOp} {ops : List CmpOp} {r' r'' : Expr} {rs : List Expr} {m : MCh} (ha : CE X a ma) (hm : CCh X (op :: op' :: ops) (r' :: r'' :: rs) m) (hl : lastMarks (op :: op' :: ops) (r' :: r'' :: rs) = false := by with_unfolding_all rfl) :
    CE X (.Compare a (op :: op' :: ops) (r' :: r'' :: rs) pos) (mChn ma m) := fun E tk => by
  refine PE.imp (pe_chainN (ha E tk) (hm.e E tk) hl) fun σ H Q h => ?_
  obtain ⟨W, ρ, rfl, hold, rel, out⟩ := h
  refine ⟨W, ρ, rfl, hold, rel, outR.mono (outR.bind (Rl := RepV X.w X.mg) hold out) (fun x H1 h1 => ?_) fun _ _ _ z => z⟩
  obtain ⟨W1, v, rfl, e1, hold1, r1, out1⟩ := h1
  exact ⟨W1, ρ, v, rfl, hold1, rel.mono e1, r1, out1⟩
theorem bind_assoc' {α β γ : Type} (r : R α) (f : α → Store → R β) (g : β → Store → R γ) : (r.bind f).bind g = r.bind fun a S => (f a S).bind g := by cases r <;> rfl
theorem ct_chain {op op' : CmpOp} {ops : List CmpOp} {r' r'' : Expr} {rs : List Expr} {m : MCh} (ha : CE X a ma) (hm : CCh X (op :: op' :: ops) (r' :: r'' :: rs) m) (hl : lastMarks (op :: op' :: ops) (r' :: r'' :: rs) = false := by with_unfolding_all rfl) :
    CT X (.Compare a (op :: op' :: ops) (r' :: r'' :: rs) pos) (mTest (mChn ma m)) := fun E tk => by
  refine PT.imp (pt_chainN (ha E tk) (hm.t E tk) hl) fun σ H Q h => ?_
  obtain ⟨W, ρ, rfl, hold, rel, out⟩ := h
  unfold mTest mChn at out
  rw [bind_assoc'] at out
  refine ⟨W, ρ, rfl, hold, rel, outR.mono (outR.bind (Rl := RepV X.w X.mg) hold out) (fun x H1 h1 => ?_) fun _ _ _ z => z⟩
  obtain ⟨W1, v, rfl, e1, hold1, r1, out1⟩ := h1
  exact ⟨W1, ρ, v, rfl, hold1, rel.mono e1, r1, out1⟩

/-! ### and, or, not, a if t else b -/
def mAndT (ta tb : MT) : MT := fun ρ S => (ta ρ S).bind fun k S1 => if k = true then tb ρ S1 else .ok false S1
def mOrT (ta tb : MT) : MT := fun ρ S => (ta ρ S).bind fun k S1 => if k = true then .ok true S1 else tb ρ S1
def mNotT (ta : MT) : MT := fun ρ S => (ta ρ S).bind fun k S1 => .ok (!k) S1
def mIf (t : MT) (ma mb : ME) : ME := fun ρ S => (t ρ S).bind fun k S1 => if k = true then ma ρ S1 else mb ρ S1
def ofT (t : MT) : ME := fun ρ S => (t ρ S).bind fun k S1 => .ok (.d (.bl k)) S1
variable {ta tb : MT} {rest : List Expr}
theorem cw_and1 (h : CT X a ta) : CW X (.BoolOp .And [a] pos) ta := fun E tk => pw_and1 (h E tk)
theorem cw_or1 (h : CT X a ta) : CW X (.BoolOp .Or [a] pos) ta := fun E tk => pw_or1 (h E tk)
theorem cw_and (ha : CT X a ta) (hb : CW X (.BoolOp .And (b :: rest) pos) tb) : CW X (.BoolOp .And (a :: b :: rest) pos) (mAndT ta tb) := fun E tk => by
  refine PW.imp (pw_and (ha E tk) (hb E tk)) fun σ H Q h => ?_
  obtain ⟨W, ρ, rfl, hold, rel, out⟩ := h
  refine ⟨W, ρ, rfl, hold, rel, outR.mono (outR.bind (Rl := fun _ b c => b = c) hold out) (fun x H1 h1 => ?_) fun _ _ _ z => z⟩
  obtain ⟨W1, k, rfl, e1, hold1, r1, out1⟩ := h1
  subst r1
  cases k with
  | true => exact ⟨W1, ρ, rfl, hold1, rel.mono e1, out1⟩
  | false => exact outR.here out1 hold1 rfl
theorem cw_or (ha : CT X a ta) (hb : CW X (.BoolOp .Or (b :: rest) pos) tb) : CW X (.BoolOp .Or (a :: b :: rest) pos) (mOrT ta tb) := fun E tk => by
  refine PW.imp (pw_or (ha E tk) (hb E tk)) fun σ H Q h => ?_
  obtain ⟨W, ρ, rfl, hold, rel, out⟩ := h
  refine ⟨W, ρ, rfl, hold, rel, outR.mono (outR.bind (Rl := fun _ b c => b = c) hold out) (fun x H1 h1 => ?_) fun _ _ _ z => z⟩
  obtain ⟨W1, k, rfl, e1, hold1, r1, out1⟩ := h1
  subst r1
  cases k with
  | true => exact outR.here out1 hold1 rfl
  | false => exact ⟨W1, ρ, rfl, hold1, rel.mono e1, out1⟩
theorem ct_w {e : Expr} (h : CW X e ta) : CT X e ta := fun E tk => (h E tk).pt
theorem ct_not (h : CT X a ta) : CT X (.UnaryOp .Not a pos) (mNotT ta) := fun E tk => by
  refine PT.imp (pt_not (h E tk)) fun σ H Q h => ?_
  obtain ⟨W, ρ, rfl, hold, rel, out⟩ := h
  refine ⟨W, ρ, rfl, hold, rel, outR.mono (outR.bind (Rl := fun _ b c => b = c) hold out) (fun x H1 h1 => ?_) fun _ _ _ z => z⟩
  obtain ⟨W1, k, rfl, e1, hold1, r1, out1⟩ := h1
  subst r1
  exact outR.here out1 hold1 rfl
/-- as values, of bools -/
def mAndV (ma mb : ME) : ME := fun ρ S => (mTest ma ρ S).bind fun k S1 => if k = true then mb ρ S1 else .ok (.d (.bl false)) S1
def mOrV (ma mb : ME) : ME := fun ρ S => (mTest ma ρ S).bind fun k S1 => if k = true then .ok (.d (.bl true)) S1 else mb ρ S1
theorem ce_one {op} (h : CE X a ma) : CE X (.BoolOp op [a] pos) ma := fun E tk => pe_one (h E tk)
theorem test_e {m : ME} {E : WX} {σ : L2.St} {W : Wd} {ρ : Loc} {Q : VK} {α : Type} {Rl : Wd → α → V → Prop} {f : Bool → Store → R α} (hold : Hold X.w X.mg W) (rel : RelL X.w X.mg W ρ σ)
    (out : outR X.w X.mg ((mTest m ρ W.S).bind f) W Rl (fun c d H' => E c d σ H') Q) :
    tE X.w X.mg m E σ W.full fun x H1 => ∃ k, x = .bl k ∧ ∃ W1 : Wd, W1.full = H1 ∧ Ext W W1 ∧ Hold X.w X.mg W1 ∧ outR X.w X.mg (f k W1.S) W1 Rl (fun c d H' => E c d σ H') Q := by
  unfold mTest at out
  rw [bind_assoc'] at out
  refine ⟨W, ρ, rfl, hold, rel, outR.mono (outR.bind (Rl := RepV X.w X.mg) hold out) (fun x H1 h1 => ?_) fun _ _ _ z => z⟩
  obtain ⟨W1, v, rfl, e1, hold1, r1, out1⟩ := h1
  cases v with
  | ref n => exact out1.elim
  | d x2 =>
    cases x2 with
    | bl k => cases r1; exact ⟨k, rfl, W1, rfl, e1, hold1, out1⟩
    | _ => exact out1.elim
theorem tE.mono {m : ME} {E : WX} {σ : L2.St} {H : Hp} {Q Q' : VK} (h : tE X.w X.mg m E σ H Q) (hQ : ∀ x H, Q x H → Q' x H) : tE X.w X.mg m E σ H Q' := by
  obtain ⟨W, ρ, e, hold, rel, out⟩ := h
  exact ⟨W, ρ, e, hold, rel, outR.mono out hQ fun _ _ _ z => z⟩
theorem ce_and (ha : CE X a ma) (hb : CE X (.BoolOp .And (b :: rest) pos) mb) : CE X (.BoolOp .And (a :: b :: rest) pos) (mAndV ma mb) := fun E tk => by
  refine PE.imp (pe_and (ha E tk) (hb E tk)) fun σ H Q h => ?_
  obtain ⟨W, ρ, rfl, hold, rel, out⟩ := h
  refine tE.mono (test_e hold rel out) fun x H1 h1 => ?_
  obtain ⟨k, e, W1, rfl, e1, hold1, out1⟩ := h1
  refine ⟨k, e, ?_⟩
  cases k with
  | true => exact ⟨W1, ρ, rfl, hold1, rel.mono e1, out1⟩
  | false => exact outR.here (x := V.bl false) out1 hold1 (.bl false)
theorem ce_or (ha : CE X a ma) (hb : CE X (.BoolOp .Or (b :: rest) pos) mb) : CE X (.BoolOp .Or (a :: b :: rest) pos) (mOrV ma mb) := fun E tk => by
  refine PE.imp (pe_or (ha E tk) (hb E tk)) fun σ H Q h => ?_
  obtain ⟨W, ρ, rfl, hold, rel, out⟩ := h
  refine tE.mono (test_e hold rel out) fun x H1 h1 => ?_
  obtain ⟨k, e, W1, rfl, e1, hold1, out1⟩ := h1
  refine ⟨k, e, ?_⟩
  cases k with
  | true => exact outR.here (x := V.bl true) out1 hold1 (.bl true)
  | false => exact ⟨W1, ρ, rfl, hold1, rel.mono e1, out1⟩
theorem ce_not (h : CE X a ma) : CE X (.UnaryOp .Not a pos) (ofT (mNotT (mTest ma))) := fun E tk => by
  refine PE.imp (pe_not (h E tk)) fun σ H Q h => ?_
  obtain ⟨W, ρ, rfl, hold, rel, out⟩ := h
  unfold ofT mNotT at out
  rw [bind_assoc'] at out
  refine tE.mono (test_e hold rel out) fun x H1 h1 => ?_
  obtain ⟨k, e, W1, rfl, e1, hold1, out1⟩ := h1
  exact ⟨k, e, outR.here (x := V.bl (!k)) out1 hold1 (.bl _)⟩
theorem ce_if {t : Expr} {mt : MT} (ht : CT X t mt) (ha : CE X a ma) (hb : CE X b mb) : CE X (.IfExp t a b pos) (mIf mt ma mb) := fun E tk => by
  refine PE.imp (pe_ifExp (ht E tk) (ha E tk) (hb E tk)) fun σ H Q h => ?_
  obtain ⟨W, ρ, rfl, hold, rel, out⟩ := h
  refine ⟨W, ρ, rfl, hold, rel, outR.mono (outR.bind (Rl := fun _ b c => b = c) hold out) (fun x H1 h1 => ?_) fun _ _ _ z => z⟩
  obtain ⟨W1, k, rfl, e1, hold1, r1, out1⟩ := h1
  subst r1
  cases k with
  | true => exact ⟨W1, ρ, rfl, hold1, rel.mono e1, out1⟩
  | false => exact ⟨W1, ρ, rfl, hold1, rel.mono e1, out1⟩

/-! ### statements -/
def O.andThen (o : O) (f : Loc → Store → O) : O := match o with
  | .nx ρ S => f ρ S
  | o => o
def msNil : MS := fun ρ S => .nx ρ S
def msSeq (m1 m2 : MS) : MS := fun ρ S => (m1 ρ S).andThen m2
variable {st : Stmt} {sts : List Stmt} {ms ms' : MS}
theorem css_nil : CSs X [] msNil := fun E tk => PSs.imp pss_nil fun D σ H h => by
  obtain ⟨W, ρ, rfl, hold, rel, out⟩ := h
  exact out W σ rfl (Ext.refl W) hold rel
theorem css_cons (h1 : CS X st ms) (h2 : CSs X sts ms') : CSs X (st :: sts) (msSeq ms ms') := fun E tk => PSs.imp (pss_cons (h1 E tk) (h2 E tk)) fun D σ H h => by
  obtain ⟨W, ρ, rfl, hold, rel, out⟩ := h
  refine ⟨W, ρ, rfl, hold, rel, ?_⟩
  unfold msSeq at out
  cases e : ms ρ W.S with
  | nx ρ1 S1 =>
    rw [e] at out
    intro W' σ' hs e1 ho r
    subst hs
    exact ⟨W', ρ1, rfl, ho, r, outO.shift e1 hold ho out⟩
  | rt v S1 => rw [e] at out; exact out
  | bk ρ1 S1 => rw [e] at out; exact out
  | ct ρ1 S1 => rw [e] at out; exact out
  | err x ρ1 S1 => rw [e] at out; exact out
  | bad => rw [e] at out; exact out.elim
theorem css_one (h1 : CS X st ms) : CSs X [st] ms := fun E tk => pss_one (h1 E tk)
/-- an evaluation, then a statement's end -/
def R.toO {α : Type} (r : R α) (ρ : Loc) (f : α → Store → O) : O := match r with
  | .ok a S => f a S
  | .err x S => .err x ρ S
  | .bad => .bad
theorem outO.bind {w : World} {mg : Str → Option Value} {W : Wd} {α β : Type} {r : R α} {f : α → Store → O} {ρ : Loc} {σ : L2.St} {Rl : Wd → α → β → Prop} {E : WX} {D : Ends} (hold : Hold w mg W) (rel : RelL w mg W ρ σ) (h : outO w mg (r.toO ρ f) W E D) :
    outR w mg r W Rl (fun c d H' => E c d σ H') (fun x H' => ∃ (W' : Wd) (a : α), W'.full = H' ∧ Ext W W' ∧ Hold w mg W' ∧ RelL w mg W' ρ σ ∧ Rl W' a x ∧ outO w mg (f a W'.S) W' E D) := by
  cases r with
  | ok a S' =>
    intro W2 x hs e2 ho r
    subst hs
    exact ⟨W2, a, rfl, e2, ho, rel.mono e2, r, outO.shift e2 hold ho h⟩
  | err x S' => exact fun W2 c d hs e2 ho r => h W2 σ c d hs e2 ho (rel.mono e2) r
  | bad => exact h
def msPass : MS := fun ρ S => .nx ρ S
def msBreak : MS := fun ρ S => .bk ρ S
def msCont : MS := fun ρ S => .ct ρ S
def msBad : MS := fun _ _ => .bad
def msRet (m : ME) : MS := fun ρ S => (m ρ S).toO ρ fun v S1 => .rt v S1
def msRetN : MS := fun ρ S => .rt (.d .non) S
def msExpr (m : ME) : MS := fun ρ S => (m ρ S).toO ρ fun _ S1 => .nx ρ S1
def msSet (i : Nat) (m : ME) : MS := fun ρ S => (m ρ S).toO ρ fun v S1 => .nx (ρ.set i (some v)) S1
def msIf (t : MT) (m1 m2 : MS) : MS := fun ρ S => (t ρ S).toO ρ fun k S1 => if k = true then m1 ρ S1 else m2 ρ S1
theorem cs_pass : CS X (.Pass pos) msPass := fun E tk => PS.imp ps_pass fun D σ H h => by
  obtain ⟨W, ρ, rfl, hold, rel, out⟩ := h
  exact out W σ rfl (Ext.refl W) hold rel
theorem cs_break : CS X (.Break pos) msBreak := fun E tk => PS.imp ps_break fun D σ H h => by
  obtain ⟨W, ρ, rfl, hold, rel, out⟩ := h
  exact out W σ rfl (Ext.refl W) hold rel
theorem cs_continue : CS X (.Continue pos) msCont := fun E tk => PS.imp ps_continue fun D σ H h => by
  obtain ⟨W, ρ, rfl, hold, rel, out⟩ := h
  exact out W σ rfl (Ext.refl W) hold rel
/-- what the pure run never comes to -/
theorem cs_bad : CS X st msBad := fun E tk => PS.imp ps_never fun D σ H h => by
  obtain ⟨W, ρ, rfl, hold, rel, out⟩ := h
  exact out.elim
theorem css_bad : CSs X sts msBad := fun E tk => PSs.imp pss_never fun D σ H h => by
  obtain ⟨W, ρ, rfl, hold, rel, out⟩ := h
  exact out.elim
variable {e : Expr} {m : ME}
theorem cs_ret (h : CE X e m) : CS X (.Return (some e) pos) (msRet m) := fun E tk => PS.imp (ps_ret (h E tk)) fun D σ H h => by
  obtain ⟨W, ρ, rfl, hold, rel, out⟩ := h
  refine ⟨W, ρ, rfl, hold, rel, outR.mono (outO.bind (Rl := RepV X.w X.mg) hold rel out) (fun x H1 h1 => ?_) fun _ _ _ z => z⟩
  obtain ⟨W1, v, rfl, e1, hold1, rel1, r1, out1⟩ := h1
  exact out1 W1 x rfl (Ext.refl W1) hold1 r1
theorem cs_retN : CS X (.Return none pos) msRetN := fun E tk => PS.imp ps_retN fun D σ H h => by
  obtain ⟨W, ρ, rfl, hold, rel, out⟩ := h
  exact out W .non rfl (Ext.refl W) hold .non
theorem cs_expr (h : CE X e m) (hs : swapsWith e none pos.line X.env = pure false := by rfl) : CS X (.Expr e pos) (msExpr m) := fun E tk => PS.imp (ps_expr (h E tk) hs) fun D σ H h => by
  obtain ⟨W, ρ, rfl, hold, rel, out⟩ := h
  refine ⟨W, ρ, rfl, hold, rel, outR.mono (outO.bind (Rl := RepV X.w X.mg) hold rel out) (fun x H1 h1 => ?_) fun _ _ _ z => z⟩
  obtain ⟨W1, v, rfl, e1, hold1, rel1, r1, out1⟩ := h1
  exact out1 W1 σ rfl (Ext.refl W1) hold1 rel1
theorem cs_set (i : Nat) {x : Str} {pos' : Pos} (hN : X.N.Nodup) (h : CE X e m) (hi : X.N[i]? = some x := by rfl) (hx : L2.Loc X.env.scope x := by first | exact .inl rfl | exact .inr rfl) (hs : swapsWith e (some (.Name x pos')) pos.line X.env = pure false := by rfl)
    (hf : X.fn x = true ∨ X.env.scope.names.lookup x = some .local := by first | exact .inl rfl | exact .inr rfl) : CS X (.Assign [.Name x pos'] e pos) (msSet i m) := fun E tk => PS.imp (ps_set hN hi hx (h E tk) hs hf) fun D σ H h => by
  obtain ⟨W, ρ, rfl, hold, rel, out⟩ := h
  refine ⟨W, ρ, rfl, hold, rel, outR.mono (outO.bind (Rl := RepV X.w X.mg) hold rel out) (fun x H1 h1 => ?_) fun _ _ _ z => z⟩
  obtain ⟨W1, v, rfl, e1, hold1, rel1, r1, out1⟩ := h1
  exact out1 W1 _ rfl (Ext.refl W1) hold1 (rel1.set r1)
theorem cs_if {t : Expr} {mt : MT} {s1 s2 : List Stmt} {m1 m2 : MS} (ht : CT X t mt) (h1 : CSs X s1 m1) (h2 : CSs X s2 m2) : CS X (.If t s1 s2 pos) (msIf mt m1 m2) := fun E tk => PS.imp (ps_if (ht E tk) (h1 E tk) (h2 E tk)) fun D σ H h => by
  obtain ⟨W, ρ, rfl, hold, rel, out⟩ := h
  refine ⟨W, ρ, rfl, hold, rel, outR.mono (outO.bind (Rl := fun _ b c => b = c) hold rel out) (fun x H1 h1 => ?_) fun _ _ _ z => z⟩
  obtain ⟨W1, k, rfl, e1, hold1, rel1, r1, out1⟩ := h1
  subst r1
  cases k with
  | true => exact ⟨W1, ρ, rfl, hold1, rel1, out1⟩
  | false => exact ⟨W1, ρ, rfl, hold1, rel1, out1⟩
end
end Lc

set_option maxHeartbeats 2000000
/-! Lc, part E: things let go; displays; targets; assignments. -/
namespace Lc
open PySem PySem.Spec PyProof.Rows L2
/-! ### a changeable thing let go -/
def fieldsD : List (Str × Val) → Option (List (Str × D))
  | [] => some []
  | (f, .d x) :: r => match fieldsD r with
    | some q => some ((f, x) :: q)
    | none => none
  | (_, .ref _) :: _ => none
def bodyD : Body → Option D
  | .lst xs => some (.lst xs)
  | .dic kvs => some (.dic kvs)
  | .ins c fs => match fieldsD fs with
    | some q => some (.ins c q)
    | none => none
def frzV (S : Store) : Val → Option (D × Store)
  | .d x => some (x, S)
  | .ref n => match S[n]? with
    | some (.live false b) => match bodyD b with
      | some x => some (x, S.set n .dead)
      | none => none
    | _ => none
def frzVs (S : Store) : List Val → Option (List D × Store)
  | [] => some ([], S)
  | v :: vs => match frzV S v with
    | some (x, S1) => match frzVs S1 vs with
      | some (xs, S2) => some (x :: xs, S2)
      | none => none
    | none => none
section
variable {w : World} {mg : Str → Option Value} {W : Wd}
theorem fields_rep {W' : Wd} (l : (W.gr w mg).Le (W'.gr w mg)) : ∀ {fs : List (Str × Val)} {gs : List (Str × V)} {q : List (Str × D)}, RepFV w mg W fs gs → fieldsD fs = some q → RepF (W'.gr w mg) q gs
  | _, _, _, .nil, h => by
    cases h
    exact .nil
  | (f, .d x) :: r, _, q, .cons r1 r2, h => by
    unfold fieldsD at h
    cases e : fieldsD r with
    | none => rw [e] at h; cases h
    | some q' =>
      rw [e] at h
      cases h
      exact .cons (Rep.mono l r1) (fields_rep l r2 e)
  | (f, .ref n) :: r, _, q, .cons r1 r2, h => by cases h
/-- what stands at a cell, as data of a world where the cell is let go -/
theorem body_rep {W' : Wd} {a : Addr} {b : Body} {x : D} (l : (W.gr w mg).Le (W'.gr w mg)) (hH : W'.H = W.H) (hz : W'.Fz a) (r : RepB w mg W a b) (e : bodyD b = some x) : Rep (W'.gr w mg) x (.ref a) := by
  cases b with
  | lst xs =>
    obtain ⟨vs, h, r⟩ := r
    cases e
    exact .lst (.inl (by show W'.H a = _; rw [hH]; exact h)) hz (r.mono l)
  | dic kvs =>
    obtain ⟨es, h, r⟩ := r
    cases e
    exact .dic (by show W'.H a = _; rw [hH]; exact h) hz (r.mono l)
  | ins c fs =>
    obtain ⟨C, dx, gs, h, m, r⟩ := r
    simp only [bodyD] at e
    cases e2 : fieldsD fs with
    | none => rw [e2] at e; cases e
    | some q =>
      rw [e2] at e
      cases e
      exact .ins (by show W'.H a = _; rw [hH]; exact h) hz m (fields_rep l r e2)
theorem frz_ok {v : Val} {x : D} {S' : Store} {y : V} (hold : Hold w mg W) (r : RepV w mg W v y) (h : frzV W.S v = some (x, S')) :
    Ext W ⟨W.M, S', W.H, W.F⟩ ∧ Hold w mg ⟨W.M, S', W.H, W.F⟩ ∧ Rep ((⟨W.M, S', W.H, W.F⟩ : Wd).gr w mg) x y := by
  cases v with
  | d z =>
    cases h
    exact ⟨Ext.refl W, hold, r⟩
  | ref n =>
    simp only [frzV] at h
    split at h
    · rename_i b hb
      split at h
      · rename_i z hz
        cases h
        obtain ⟨a, ha, rfl⟩ := r
        have E : Ext W ⟨W.M, W.S.set n .dead, W.H, W.F⟩ := ext_mark hb rfl
        refine ⟨E, hold_mark hold hb (.inl rfl), ?_⟩
        obtain ⟨a', ha', rb⟩ := hold.cell n false b hb
        rw [ha] at ha'
        cases ha'
        refine body_rep E.le rfl (fun m hm => ?_) rb hz
        have em : m = n := nodup_at hold.nd hm ha
        subst em
        exact List.getElem?_set_self (List.getElem?_eq_some_iff.mp hb).1
      · cases h
    · cases h
theorem frzs_ok : ∀ {vs : List Val} {W : Wd} {xs : List D} {S' : Store} {ys : List V}, Hold w mg W → RepVs w mg W vs ys → frzVs W.S vs = some (xs, S') →
    Ext W ⟨W.M, S', W.H, W.F⟩ ∧ Hold w mg ⟨W.M, S', W.H, W.F⟩ ∧ Reps ((⟨W.M, S', W.H, W.F⟩ : Wd).gr w mg) xs ys
  | [], W, _, _, _, hold, .nil, h => by
    cases h
    exact ⟨Ext.refl W, hold, .nil⟩
  | v :: vs, W, _, _, _, hold, .cons r1 r2, h => by
    unfold frzVs at h
    split at h
    · rename_i x S1 e1
      split at h
      · rename_i xs S2 e2
        cases h
        obtain ⟨E1, ho1, q1⟩ := frz_ok hold r1 e1
        obtain ⟨E2, ho2, q2⟩ := frzs_ok (W := ⟨W.M, S1, W.H, W.F⟩) ho1 (E1.repVs r2) e2
        exact ⟨E1.trans E2 hold ho1, ho2, .cons (E2.rep q1) q2⟩
      · cases h
    · cases h
end

/-! ### displays -/
section
variable {X : Cx} {pos : Pos} {es : List Expr} {ma : MA}
def mTup (ma : MA) : ME := fun ρ S => (ma ρ S).bind fun vs S1 => match frzVs S1 vs with
  | some (ds, S2) => if ds.length ≤ 1000 then .ok (.d (.tup ds)) S2 else .bad
  | none => .bad
def mLst (ma : MA) : ME := fun ρ S => (ma ρ S).bind fun vs S1 => match frzVs S1 vs with
  | some (ds, S2) => if ds.length ≤ 1000 then .ok (.d (.lst ds)) S2 else .bad
  | none => .bad
/-- a list that will be changed -/
def mLstM (ma : MA) : ME := fun ρ S => (ma ρ S).bind fun vs S1 => match frzVs S1 vs with
  | some (ds, S2) => if ds.length ≤ 1000 then .ok (.ref S2.length) (S2 ++ [.live false (.lst ds)]) else .bad
  | none => .bad
theorem line1000 {n : Nat} (h : n ≤ 1000) : n ≤ sizeLine := Nat.le_trans h (by decide)
theorem upd_at_new {W : Wd} {p : Addr} {o : HO} : (⟨W.M, W.S, upd W.H p o, W.F⟩ : Wd).full = upd W.full p o := join_upd _ _ _ _
/-- fresh thing on a world with store S2 -/
theorem new_out {w : World} {mg : Str → Option Value} {W : Wd} {S2 : Store} {x : D} {E : XH} {Q : VK} {p : Addr} {o : HO} (h : outR w mg (.ok (.d x) S2) W (RepV w mg) E Q) (hold : Hold w mg W) (e : Ext W ⟨W.M, S2, W.H, W.F⟩) (ho : Hold w mg ⟨W.M, S2, W.H, W.F⟩) (hp : W.full p = none)
    (r : Rep ((⟨W.M, S2, upd W.H p o, W.F⟩ : Wd).gr w mg) x (.ref p)) : Q (.ref p) (upd W.full p o) := by
  obtain ⟨h1, h2⟩ := Wd.full_none hp
  have q := h ⟨W.M, S2, upd W.H p o, W.F⟩ (.ref p) rfl (e.trans (ext_new h1) hold ho) (hold_new ho h1 h2) r
  rwa [show (⟨W.M, S2, upd W.H p o, W.F⟩ : Wd).full = upd W.full p o from join_upd _ _ _ _] at q
theorem ce_tup {x1} (h : CA X es ma) : CE X (.Tuple es x1 pos) (mTup ma) := fun E tk => PE.imp (pe_tup (h E tk)) fun σ H Q h => by
  obtain ⟨W, ρ, rfl, hold, rel, out⟩ := h
  refine ⟨W, ρ, rfl, hold, rel, outR.mono (outR.bind (Rl := RepVs X.w X.mg) hold out) (fun xs H1 h1 => ?_) fun _ _ _ z => z⟩
  obtain ⟨W1, vs, rfl, e1, hold1, r1, out1⟩ := h1
  split at out1
  · rename_i ds S2 hf
    obtain ⟨E2, ho2, q2⟩ := frzs_ok hold1 r1 hf
    split at out1
    · rename_i hl
      refine ⟨line1000 (by rw [← q2.length]; exact hl), fun p hp => ?_⟩
      obtain ⟨h1, h2⟩ := Wd.full_none hp
      exact new_out out1 hold1 E2 ho2 hp (.tup (.inl upd_same) (fz_new ho2 h1 _) (q2.mono (ext_new h1).le))
    · exact out1.elim
  · exact out1.elim
theorem ce_lst (h : CA X es ma) : CE X (.List es pos) (mLst ma) := fun E tk => PE.imp (pe_lst (h E tk)) fun σ H Q h => by
  obtain ⟨W, ρ, rfl, hold, rel, out⟩ := h
  refine ⟨W, ρ, rfl, hold, rel, outR.mono (outR.bind (Rl := RepVs X.w X.mg) hold out) (fun xs H1 h1 => ?_) fun _ _ _ z => z⟩
  obtain ⟨W1, vs, rfl, e1, hold1, r1, out1⟩ := h1
  split at out1
  · rename_i ds S2 hf
    obtain ⟨E2, ho2, q2⟩ := frzs_ok hold1 r1 hf
    split at out1
    · rename_i hl
      refine ⟨line1000 (by rw [← q2.length]; exact hl), fun p hp => ?_⟩
      obtain ⟨h1, h2⟩ := Wd.full_none hp
      exact new_out out1 hold1 E2 ho2 hp (.lst (.inl upd_same) (fz_new ho2 h1 _) (q2.mono (ext_new h1).le))
    · exact out1.elim
  · exact out1.elim
/-- a new cell, as an outcome -/
theorem cell_out {w : World} {mg : Str → Option Value} {W : Wd} {S2 : Store} {b : Body} {E : XH} {Q : VK} {p : Addr} {o : HO} (h : outR w mg (.ok (.ref S2.length) (S2 ++ [.live false b])) W (RepV w mg) E Q) (hold : Hold w mg W) (e : Ext W ⟨W.M, S2, W.H, W.F⟩) (ho : Hold w mg ⟨W.M, S2, W.H, W.F⟩) (hp : W.full p = none)
    (r : RepB w mg ⟨W.M ++ [p], S2 ++ [.live false b], upd W.H p o, W.F⟩ p b) : Q (.ref p) (upd W.full p o) := by
  obtain ⟨h1, h2⟩ := Wd.full_none hp
  have q := h ⟨W.M ++ [p], S2 ++ [.live false b], upd W.H p o, W.F⟩ (.ref p) rfl (e.trans (ext_cell ho h1) hold ho) (hold_cell ho h1 h2 r) ⟨p, by
    have hl : W.M.length = S2.length := ho.len
    show (W.M ++ [p])[S2.length]? = some p
    rw [← hl, List.getElem?_append_right (Nat.le_refl _)]
    simp, rfl⟩
  rwa [show (⟨W.M ++ [p], S2 ++ [.live false b], upd W.H p o, W.F⟩ : Wd).full = upd W.full p o from join_upd _ _ _ _] at q
theorem ce_lstM (h : CA X es ma) : CE X (.List es pos) (mLstM ma) := fun E tk => PE.imp (pe_lst (h E tk)) fun σ H Q h => by
  obtain ⟨W, ρ, rfl, hold, rel, out⟩ := h
  refine ⟨W, ρ, rfl, hold, rel, outR.mono (outR.bind (Rl := RepVs X.w X.mg) hold out) (fun xs H1 h1 => ?_) fun _ _ _ z => z⟩
  obtain ⟨W1, vs, rfl, e1, hold1, r1, out1⟩ := h1
  split at out1
  · rename_i ds S2 hf
    obtain ⟨E2, ho2, q2⟩ := frzs_ok hold1 r1 hf
    split at out1
    · rename_i hl
      refine ⟨line1000 (by rw [← q2.length]; exact hl), fun p hp => ?_⟩
      obtain ⟨h1, h2⟩ := Wd.full_none hp
      exact cell_out out1 hold1 E2 ho2 hp ⟨xs, upd_same, q2.mono (ext_cell ho2 h1).le⟩
    · exact out1.elim
  · exact out1.elim

/-! ### targets -/
abbrev MG := Val → Loc → Option Loc
abbrev MGs := List Val → Loc → Option Loc
/-- the slots but those named are as they were -/
def OutS (is : List Nat) (σ σ' : L2.St) : Prop := σ'.length = σ.length ∧ ∀ j, j ∉ is → σ'[j]? = σ[j]?
theorem OutS.refl (is : List Nat) (σ : L2.St) : OutS is σ σ := ⟨rfl, fun _ _ => rfl⟩
theorem OutS.trans {is js : List Nat} {σ σ' σ'' : L2.St} (a : OutS is σ σ') (b : OutS js σ' σ'') : OutS (is ++ js) σ σ'' :=
  ⟨b.1.trans a.1, fun j h => by
    rw [List.mem_append, not_or] at h
    exact (b.2 j h.2).trans (a.2 j h.1)⟩
def tG (w : World) (mg : Str → Option Value) (is : List Nat) (g : MG) : TG := fun x σ H Q => ∃ (W : Wd) (ρ : Loc) (v : Val), W.full = H ∧ Hold w mg W ∧ RelL w mg W ρ σ ∧ RepV w mg W v x ∧ ∃ ρ', g v ρ = some ρ' ∧ ∀ σ', RelL w mg W ρ' σ' → OutS is σ σ' → Q σ' H
def tGs (w : World) (mg : Str → Option Value) (is : List Nat) (g : MGs) : TGs := fun xs σ H Q => ∃ (W : Wd) (ρ : Loc) (vs : List Val), W.full = H ∧ Hold w mg W ∧ RelL w mg W ρ σ ∧ RepVs w mg W vs xs ∧ ∃ ρ', g vs ρ = some ρ' ∧ ∀ σ', RelL w mg W ρ' σ' → OutS is σ σ' → Q σ' H
def CG (X : Cx) (t : Expr) (is : List Nat) (g : MG) : Prop := PG X t (tG X.w X.mg is g)
def CGs (X : Cx) (ts : List Expr) (is : List Nat) (g : MGs) : Prop := PGs X ts (tGs X.w X.mg is g)
theorem PG.imp {X : Cx} {e : Expr} {t t' : TG} (h : PG X e t) (hh : ∀ x σ H Q, t' x σ H Q → t x σ H Q) : PG X e t' := ⟨fun pins s σ H v u Q I r q => h.run pins s σ H v u Q I r (hh v σ H Q q)⟩
theorem PGs.imp {X : Cx} {e : List Expr} {t t' : TGs} (h : PGs X e t) (hh : ∀ x σ H Q, t' x σ H Q → t x σ H Q) : PGs X e t' := ⟨fun pins s σ H v u Q I r q => h.run pins s σ H v u Q I r (hh v σ H Q q)⟩
def mgName (i : Nat) : MG := fun v ρ => some (ρ.set i (some v))
def mgNil : MGs := fun vs ρ => match vs with
  | [] => some ρ
  | _ => none
def mgCons (g : MG) (gs : MGs) : MGs := fun vs ρ => match vs with
  | v :: r => match g v ρ with
    | some ρ1 => gs r ρ1
    | none => none
  | [] => none
/-- a tuple's, a list's items -/
def mgTup (gs : MGs) : MG := fun v ρ => match v with
  | .d (.tup xs) => gs (xs.map .d) ρ
  | .d (.lst xs) => gs (xs.map .d) ρ
  | _ => none
theorem cg_name (i : Nat) {x : Str} (hN : X.N.Nodup) (hi : X.N[i]? = some x := by rfl) (hx : L2.Loc X.env.scope x := by first | exact .inl rfl | exact .inr rfl) (hf : X.fn x = true ∨ X.env.scope.names.lookup x = some .local := by first | exact .inl rfl | exact .inr rfl) : CG X (.Name x pos) [i] (mgName i) :=
  PG.imp (pg_name hN hi hx hf) fun x σ H Q h => by
    obtain ⟨W, ρ, v, rfl, hold, rel, r, ρ', e, q⟩ := h
    cases e
    exact q _ (rel.set r) ⟨List.length_set, fun j hj => List.getElem?_set_ne (fun e => hj (by simp [e]))⟩
theorem cgs_nil : CGs X [] [] mgNil := PGs.imp pgs_nil fun x σ H Q h => by
  obtain ⟨W, ρ, v, rfl, hold, rel, r, ρ', e, q⟩ := h
  cases r with
  | nil => cases e; exact ⟨rfl, q _ rel (OutS.refl _ _)⟩
  | cons _ _ => cases e
theorem cgs_cons {t : Expr} {ts : List Expr} {is js : List Nat} {g : MG} {gs : MGs} (h1 : CG X t is g) (h2 : CGs X ts js gs)
    (hs : (assignEach (t :: ts) X.env).map (·.2) = assign t X.env :: (assignEach ts X.env).map (·.2) := by rfl) : CGs X (t :: ts) (is ++ js) (mgCons g gs) := PGs.imp (pgs_cons h1 h2 hs) fun x σ H Q h => by
  obtain ⟨W, ρ, vs, rfl, hold, rel, r, ρ', e, q⟩ := h
  cases r with
  | nil => cases e
  | cons r1 r2 =>
    unfold mgCons at e
    split at e
    · rename_i h0
      cases h0
      split at e
      · rename_i ρ1 e1
        exact ⟨_, _, rfl, W, ρ, _, rfl, hold, rel, r1, ρ1, e1, fun σ1 rel1 o1 => ⟨W, ρ1, _, rfl, hold, rel1, r2, ρ', e, fun σ2 rel2 o2 => q σ2 rel2 (o1.trans o2)⟩⟩
      · cases e
    · cases e
theorem repVs_of_reps {w : World} {mg : Str → Option Value} {W : Wd} : ∀ {xs : List D} {vs : List V}, Reps (W.gr w mg) xs vs → RepVs w mg W (xs.map .d) vs
  | _, _, .nil => .nil
  | _, _, .cons r t => .cons r (repVs_of_reps t)
theorem cg_tup {ts : List Expr} {k : Nat} {is : List Nat} {gs : MGs} (hc : X.calm = true) (n : Nat) (hl : ∀ vs ρ ρ', gs vs ρ = some ρ' → vs.length = n) (h : CGs X ts is gs)
    (hn : (assignEach ts X.env).length = n := by rfl) (hst : (assignEach ts X.env).findIdx? (·.1) = none := by rfl) : CG X (.Tuple ts k pos) is (mgTup gs) := by
  refine ⟨fun pins s σ H x u Q I ru h0 => ?_⟩
  obtain ⟨W, ρ, v, rfl, hold, rel, r, ρ', e, q⟩ := h0
  cases v with
  | ref n => cases e
  | d x =>
    cases r with
    | tup h1 z rs =>
      have e' : gs _ ρ = some ρ' := e
      refine (pg_tup hc h hn hst).run pins s σ _ _ u Q I ru ⟨_, _, rfl, .inl (Wd.full_rd h1), ?_, W, ρ, _, rfl, hold, rel, repVs_of_reps rs, ρ', e', q⟩
      rw [← rs.length, ← hl _ _ _ e', List.length_map]
    | lst h1 z rs =>
      have e' : gs _ ρ = some ρ' := e
      refine (pg_lst hc h hn hst).run pins s σ _ _ u Q I ru ⟨_, _, rfl, .inl (Wd.full_rd h1), ?_, W, ρ, _, rfl, hold, rel, repVs_of_reps rs, ρ', e', q⟩
      rw [← rs.length, ← hl _ _ _ e', List.length_map]
    | _ => cases e
theorem len_nil : ∀ vs ρ ρ', mgNil vs ρ = some ρ' → vs.length = 0 := fun vs ρ ρ' h => by
  cases vs with
  | nil => rfl
  | cons _ _ => cases h
theorem len_cons {g : MG} {gs : MGs} {n : Nat} (h : ∀ vs ρ ρ', gs vs ρ = some ρ' → vs.length = n) : ∀ vs ρ ρ', mgCons g gs vs ρ = some ρ' → vs.length = n + 1 := fun vs ρ ρ' e => by
  cases vs with
  | nil => cases e
  | cons v r =>
    unfold mgCons at e
    split at e
    · rename_i h0
      cases h0
      split at e
      · exact congrArg Nat.succ (h _ _ _ e)
      · cases e
    · cases e

/-! ### assignments -/
def msAsg (m : ME) (g : MG) : MS := fun ρ S => (m ρ S).toO ρ fun v S1 => match g v ρ with
  | some ρ' => .nx ρ' S1
  | none => .bad
def msPar (ma : MA) (gs : MGs) : MS := fun ρ S => (ma ρ S).toO ρ fun vs S1 => match gs vs ρ with
  | some ρ' => .nx ρ' S1
  | none => .bad
theorem cs_asg {tg e : Expr} {m : ME} {is : List Nat} {g : MG} (h : CE X e m) (hg : CG X tg is g) (hs : swapsWithSole [tg] e pos.line X.env = pure false := by rfl) (hw : swappedStores [tg] e X.env = pure none := by rfl)
    (h1 : (assignEach [tg] X.env).map (·.2) = [assign tg X.env] := by rfl) : CS X (.Assign [tg] e pos) (msAsg m g) := fun E tk => PS.imp (ps_asg (h E tk) hg hs hw h1) fun D σ H h => by
  obtain ⟨W, ρ, rfl, hold, rel, out⟩ := h
  refine ⟨W, ρ, rfl, hold, rel, outR.mono (outO.bind (Rl := RepV X.w X.mg) hold rel out) (fun x H1 h1 => ?_) fun _ _ _ z => z⟩
  obtain ⟨W1, v, rfl, e1, hold1, rel1, r1, out1⟩ := h1
  split at out1
  · rename_i ρ' e
    exact ⟨W1, ρ, v, rfl, hold1, rel1, r1, ρ', e, fun σ' rel' _ => out1 W1 σ' rfl (Ext.refl W1) hold1 rel'⟩
  · exact out1.elim
/-- a, b, .. = x, y, ..: by a tuple that nobody holds -/
theorem cs_par {ts es : List Expr} {k k2 : Nat} {p1 p2 : Pos} {ma : MA} {is : List Nat} {gs : MGs} (hc : X.calm = true) (n : Nat) (hl : ∀ vs ρ ρ', gs vs ρ = some ρ' → vs.length = n) (hn1 : n ≤ 1000) (h : CA X es ma) (hg : CGs X ts is gs)
    (hw : swappedStores [.Tuple ts k p1] (.Tuple es k2 p2) X.env = pure none := by rfl)
    (hn : (assignEach ts X.env).length = n := by rfl) (hst : (assignEach ts X.env).findIdx? (·.1) = none := by rfl)
    (hs : swapsWithSole [.Tuple ts k p1] (.Tuple es k2 p2) pos.line X.env = pure false := by rfl) (h1 : (assignEach [.Tuple ts k p1] X.env).map (·.2) = [assign (.Tuple ts k p1) X.env] := by rfl) :
    CS X (.Assign [.Tuple ts k p1] (.Tuple es k2 p2) pos) (msPar ma gs) := fun E tk => PS.imp (ps_asg (pe_tup (h E tk)) (pg_tup hc hg hn hst) hs hw h1) fun D σ H h => by
  obtain ⟨W, ρ, rfl, hold, rel, out⟩ := h
  refine ⟨W, ρ, rfl, hold, rel, outR.mono (outO.bind (Rl := RepVs X.w X.mg) hold rel out) (fun xs H1 h1 => ?_) fun _ _ _ z => z⟩
  obtain ⟨W1, vs, rfl, e1, hold1, rel1, r1, out1⟩ := h1
  split at out1
  · rename_i ρ' e
    have hl' : xs.length = n := by rw [← r1.length]; exact hl _ _ _ e
    refine ⟨line1000 (by rw [hl']; exact hn1), fun p hp => ⟨p, xs, rfl, SqT.of upd_same, hl', ?_⟩⟩
    obtain ⟨h1, h2⟩ := Wd.full_none hp
    have E2 : Ext W1 ⟨W1.M, W1.S, upd W1.H p (.tup xs), W1.F⟩ := ext_new h1
    have ho2 := hold_new (o := .tup xs) hold1 h1 h2
    refine ⟨⟨W1.M, W1.S, upd W1.H p (.tup xs), W1.F⟩, ρ, vs, join_upd _ _ _ _, ho2, rel1.mono E2, E2.repVs r1, ρ', e, fun σ' rel' _ => ?_⟩
    have q := out1 ⟨W1.M, W1.S, upd W1.H p (.tup xs), W1.F⟩ σ' rfl E2 ho2 rel'
    rwa [upd_at_new] at q
  · exact out1.elim
/-- .. two plain names -/
theorem cs_par2 (i j : Nat) {x y : Str} {a b : Expr} {ma : MA} {px py pt : Pos} {kt k2 pt2} (hc : X.calm = true) (hN : X.N.Nodup) (h : CA X [a, b] ma) (hi : X.N[i]? = some x := by rfl) (hj : X.N[j]? = some y := by rfl) (hij : i ≠ j := by decide)
    (hx : X.env.scope.names.lookup x = some .local := by rfl) (hy : X.env.scope.names.lookup y = some .local := by rfl)
    (hw : swappedStores [.Tuple [.Name x px, .Name y py] kt pt] (.Tuple [a, b] k2 pt2) X.env = pure (some [x, y]) := by rfl)
    (hs : swapsWithSole [.Tuple [.Name x px, .Name y py] kt pt] (.Tuple [a, b] k2 pt2) pos.line X.env = pure false := by rfl) :
    CS X (.Assign [.Tuple [.Name x px, .Name y py] kt pt] (.Tuple [a, b] k2 pt2) pos) (msPar ma (mgCons (mgName i) (mgCons (mgName j) mgNil))) := fun E tk => PS.imp (ps_par hc hN hi hj hij hx hy (h E tk) hw hs) fun D σ H h => by
  obtain ⟨W, ρ, rfl, hold, rel, out⟩ := h
  refine ⟨W, ρ, rfl, hold, rel, outR.mono (outO.bind (Rl := RepVs X.w X.mg) hold rel out) (fun xs H1 h1 => ?_) fun _ _ _ z => z⟩
  obtain ⟨W1, vs, rfl, e1, hold1, rel1, r1, out1⟩ := h1
  cases r1 with
  | nil => exact out1.elim
  | cons q1 r1 =>
    cases r1 with
    | nil => exact out1.elim
    | cons q2 r1 =>
      cases r1 with
      | nil => exact ⟨_, _, rfl, out1 W1 _ rfl (Ext.refl W1) hold1 ((rel1.set q1).set q2)⟩
      | cons _ _ => exact out1.elim
theorem cs_par3 (i j l : Nat) {x y z : Str} {a b c : Expr} {ma : MA} {px py pz pt : Pos} {kt k2 pt2} (hc : X.calm = true) (hN : X.N.Nodup) (h : CA X [a, b, c] ma) (hi : X.N[i]? = some x := by rfl) (hj : X.N[j]? = some y := by rfl) (hl : X.N[l]? = some z := by rfl)
    (hij : i ≠ j := by decide) (hil : i ≠ l := by decide) (hjl : j ≠ l := by decide)
    (hx : X.env.scope.names.lookup x = some .local := by rfl) (hy : X.env.scope.names.lookup y = some .local := by rfl) (hz : X.env.scope.names.lookup z = some .local := by rfl)
    (hw : swappedStores [.Tuple [.Name x px, .Name y py, .Name z pz] kt pt] (.Tuple [a, b, c] k2 pt2) X.env = pure (some [x, y, z]) := by rfl)
    (hs : swapsWithSole [.Tuple [.Name x px, .Name y py, .Name z pz] kt pt] (.Tuple [a, b, c] k2 pt2) pos.line X.env = pure false := by rfl) :
    CS X (.Assign [.Tuple [.Name x px, .Name y py, .Name z pz] kt pt] (.Tuple [a, b, c] k2 pt2) pos) (msPar ma (mgCons (mgName i) (mgCons (mgName j) (mgCons (mgName l) mgNil)))) := fun E tk => PS.imp (ps_par3 hc hN hi hj hl hij hil hjl hx hy hz (h E tk) hw hs) fun D σ H h => by
  obtain ⟨W, ρ, rfl, hold, rel, out⟩ := h
  refine ⟨W, ρ, rfl, hold, rel, outR.mono (outO.bind (Rl := RepVs X.w X.mg) hold rel out) (fun xs H1 h1 => ?_) fun _ _ _ z => z⟩
  obtain ⟨W1, vs, rfl, e1, hold1, rel1, r1, out1⟩ := h1
  cases r1 with
  | nil => exact out1.elim
  | cons q1 r1 =>
    cases r1 with
    | nil => exact out1.elim
    | cons q2 r1 =>
      cases r1 with
      | nil => exact out1.elim
      | cons q3 r1 =>
        cases r1 with
        | nil => exact ⟨_, _, _, rfl, out1 W1 _ rfl (Ext.refl W1) hold1 (((rel1.set q1).set q2).set q3)⟩
        | cons _ _ => exact out1.elim
/-- name op= e -/
def msAug (i : Nat) (f : F2) (m : ME) : MS := fun ρ S => match ρ[i]? with
  | some (some v) => (m ρ S).toO ρ fun u S1 => match f S1 v u with
    | some d => .nx (ρ.set i (some (.d d))) S1
    | none => .bad
  | _ => .bad
def IpOk (X : Cx) (op : Operator) (f : F2) : Prop := PIp X op (rOp X.w X.mg f)
theorem ip_of {op : Operator} {f : F2} (h : OpOk X (inplaceOp op) f) : IpOk X op f := h
theorem cs_aug (i : Nat) {x : Str} {e : Expr} {m : ME} {op : Operator} {f : F2} {pos' : Pos} (hN : X.N.Nodup) (ho : IpOk X op f) (h : CE X e m) (hi : X.N[i]? = some x := by rfl) (hx : L2.Loc X.env.scope x := by first | exact .inl rfl | exact .inr rfl)
    (hf : X.fn x = true ∨ X.env.scope.names.lookup x = some .local := by first | exact .inl rfl | exact .inr rfl) : CS X (.AugAssign (.Name x pos') op e pos) (msAug i f m) := fun E tk => PS.imp (ps_aug hN hi hx (h E tk) ho hf) fun D σ H h => by
  obtain ⟨W, ρ, rfl, hold, rel, out⟩ := h
  unfold msAug at out
  split at out
  · rename_i v hv
    obtain ⟨x, h1, h2⟩ := rel.at_ i v hv
    refine ⟨x, h1, W, ρ, rfl, hold, rel, outR.mono (outO.bind (Rl := RepV X.w X.mg) hold rel out) (fun y H1 h1 => ?_) fun _ _ _ z => z⟩
    obtain ⟨W1, u, rfl, e1, hold1, rel1, r1, out1⟩ := h1
    split at out1
    · rename_i d hd
      exact ⟨W1, v, u, d, rfl, hold1, e1.repV h2, r1, hd, fun W2 z hs e2 ho2 r2 => out1 W2 _ hs e2 ho2 ((rel1.mono e2).set r2)⟩
    · exact out1.elim
  · exact out.elim
end
end Lc

set_option maxHeartbeats 2000000
/-! Lc, part F: defs, calls, pure calls. -/
namespace Lc
open PySem PySem.Spec PyProof.Rows L2
/-- a def of np parameters and n slots -/
def mkFn (np n : Nat) (m : MS) : Fn := fun args S => if args.length = np then (match m (args.map some ++ List.replicate (n - args.length) none) S with
  | .nx _ S' => .ok (.d .non) S'
  | .rt v S' => .ok v S'
  | .err x _ S' => .err x S'
  | _ => .bad) else .bad
section
variable {w : World} {mg : Str → Option Value} {W : Wd}
theorem RepVs.get : ∀ {xs : List Val} {vs : List V} {i : Nat} {x : Val}, RepVs w mg W xs vs → xs[i]? = some x → ∃ v, vs[i]? = some v ∧ RepV w mg W x v
  | _, _, _, _, .nil, e => by simp at e
  | _, _, 0, _, .cons r _, e => by simp at e; subst e; exact ⟨_, rfl, r⟩
  | _, _, i + 1, x, .cons _ t, e => by
    obtain ⟨v, h1, h2⟩ := RepVs.get (i := i) (x := x) t (by simpa using e)
    exact ⟨v, by simpa using h1, h2⟩
theorem rel_start {args : List Val} {vs : List V} (N : List Str) (r : RepVs w mg W args vs) : RelL w mg W (args.map some ++ List.replicate (N.length - args.length) none) (L2.start N vs) := by
  have hl := r.length
  refine ⟨by unfold L2.start; simp [hl], fun i v h => ?_⟩
  by_cases hi : i < args.length
  · rw [List.getElem?_append_left (by simpa using hi), List.getElem?_map] at h
    cases e : args[i]? with
    | none => rw [e] at h; cases h
    | some u =>
      rw [e] at h
      have e2 : u = v := Option.some.inj (Option.some.inj h)
      subst e2
      obtain ⟨x, h1, h2⟩ := r.get e
      refine ⟨x, ?_, h2⟩
      unfold L2.start
      rw [List.getElem?_append_left (by rw [List.length_map]; omega), List.getElem?_map, h1]
      rfl
  · rw [List.getElem?_append_right (by simpa using hi)] at h
    have := List.mem_of_getElem? h
    rw [List.mem_replicate] at this
    cases this.2
end
section
variable {P : Program} {w : World} {K : PySem.W.Frag} {mg : Str → Option Value} {base : Heap} {x qual : Str} {params : Arguments} {body : List Stmt} {scope : Scope} {f : Addr} {fd : FuncData}
/-- THE RULE for a def -/
theorem fn_ok {N ps : List Str} {k : Nat} (m : MS) (F : FunD K x qual params body scope [] [] f fd) (S : FnScope N ps scope)
    (hb : ∀ (cdv : Value) (A : Around) (outer : List Env) (s : Shared) (H : Hp) (E : XK), Room k (A.deeper (envOfC qual scope s.heap.objs.size f cdv)) → CSs (cxOf (L2.CX P w) P w K mg base N qual scope f cdv A outer s H E) body m) :
    FnOk P w K mg base (L2.CX P w) (k + 1) f fd ps (spOf w mg ps.length (mkFn ps.length N.length m)) := by
  refine FunD.ok F S (fun vs H Q E h => h.1) (fun cdv A outer s H vs Q E hr h => ?_)
  refine ⟨_, hb cdv A outer s H E hr (fun cls d _ H' => E cls d H') (takes_of rfl rfl rfl rfl), ?_⟩
  obtain ⟨hl, W, args, rfl, hold, r, out⟩ := h
  refine ⟨W, _, rfl, hold, rel_start N r, ?_⟩
  have hl2 : args.length = ps.length := r.length.trans hl
  unfold mkFn at out
  rw [if_pos hl2] at out
  show outO w mg (m (args.map some ++ List.replicate (N.length - args.length) none) W.S) W _ _
  cases e : m (args.map some ++ List.replicate (N.length - args.length) none) W.S with
  | nx ρ S' => rw [e] at out; exact fun W' σ' hs e1 ho _ => out W' .non hs e1 ho .non
  | rt v S' => rw [e] at out; exact out
  | bk ρ S' => rw [e] at out; exact out.elim
  | ct ρ S' => rw [e] at out; exact out.elim
  | err x ρ S' => rw [e] at out; exact fun W' σ' c d hs e1 ho _ rx => out W' c d hs e1 ho rx
  | bad => rw [e] at out; exact out.elim
end
/-- u may be called: it does what φ says -/
def CallOk (X : Cx) (u : Value) (φ : Fn) : Prop := ∀ (E : WX), Takes X E → ∀ (pins : List (Addr × Obj)) (s : Shared) (σ : L2.St) (H : Hp) (us : List Value) (xs : List V) (Q : VK), Inv X pins σ H s → Vals xs us →
  (∃ (W : Wd) (args : List Val), W.full = H ∧ Hold X.w X.mg W ∧ RepVs X.w X.mg W args xs ∧ outR X.w X.mg (φ args W.S) W (RepV X.w X.mg) (fun c d H' => E c d σ H') Q) →
  wpAny (model X.prog X.w) X.A (call u us) (EP X pins σ Q) X.xe s
section
variable {X : Cx} {k : Nat} {f : Addr} {fd : FuncData} {ps : List Str} {φ : Fn} {np n : Nat} {m : MS}
theorem callOk_fn (F : FnOk X.prog X.w X.K X.mg X.base (L2.CX X.prog X.w) k f fd ps (spOf X.w X.mg ps.length (mkFn ps.length n m))) (hr : Room k X.A) (hb : Binds X.K fd ps []) : CallOk X (.ref f) (mkFn ps.length n m) := fun E tk pins s σ H us xs Q I r h => by
  obtain ⟨W, args, rfl, hold, ra, out⟩ := h
  by_cases hl : args.length = ps.length
  · exact run_fnS (E := WE E) F hr hb (passAt tk σ) I r ⟨by rw [← ra.length]; exact hl, W, args, rfl, hold, ra, out⟩
  · unfold mkFn at out
    rw [if_neg hl] at out
    exact out.elim
def lockC : Cell → Cell
  | .live _ b => .live true b
  | c => c
def lockAll (S : Store) : Store := S.map lockC
theorem lockC_still (c : Cell) : (lockC c).still = true := by cases c <;> rfl
/-- what a pure call hands out: a thing of its own becomes data -/
def outV (base : Nat) (S' : Store) : Val → Option Val
  | .d x => some (.d x)
  | .ref n => if n < base then some (.ref n) else match S'[n]? with
    | some (.live _ b) => (bodyD b).map .d
    | _ => none
/-- the call sees the things that are there locked; behind it they are as they were -/
def purify (φ : Fn) : Fn := fun args S => match φ args (lockAll S) with
  | .ok v S' => match outV S.length S' v with
    | some v' => .ok v' S
    | none => .bad
  | .err x _ => .err x S
  | .bad => .bad
section
variable {w : World} {mg : Str → Option Value} {W W' : Wd}
theorem lockAll_get {S : Store} {n : Nat} {c : Cell} (h : (lockAll S)[n]? = some c) : ∃ c0, S[n]? = some c0 ∧ c = lockC c0 := by
  unfold lockAll at h
  rw [List.getElem?_map] at h
  cases e : S[n]? with
  | none => rw [e] at h; cases h
  | some c0 =>
    rw [e] at h
    exact ⟨c0, rfl, (Option.some.inj h).symm⟩
abbrev Wd.lk (W : Wd) : Wd := ⟨W.M, lockAll W.S, W.H, W.F⟩
theorem lk_le : (W.gr w mg).Le (W.lk.gr w mg) := ⟨rfl, rfl, fun a o h z => ⟨h, fun n hn => by
  have q : W.S[n]? = some Cell.dead := z n hn
  show (lockAll W.S)[n]? = some Cell.dead
  unfold lockAll
  rw [List.getElem?_map, q]
  rfl⟩⟩
theorem lk_repV {x : Val} {v : V} (r : RepV w mg W x v) : RepV w mg W.lk x v := by
  cases x with
  | d x => exact Rep.mono lk_le r
  | ref n => exact r
theorem lk_repVs : ∀ {xs : List Val} {vs : List V}, RepVs w mg W xs vs → RepVs w mg W.lk xs vs
  | _, _, .nil => .nil
  | _, _, .cons r t => .cons (lk_repV r) (lk_repVs t)
theorem lk_repFV : ∀ {xs : List (Str × Val)} {vs : List (Str × V)}, RepFV w mg W xs vs → RepFV w mg W.lk xs vs
  | _, _, .nil => .nil
  | _, _, .cons r t => .cons (lk_repV r) (lk_repFV t)
theorem lk_hold (hold : Hold w mg W) : Hold w mg W.lk := by
  refine ⟨by show W.M.length = (lockAll W.S).length; unfold lockAll; rw [List.length_map]; exact hold.len, hold.nd, hold.trk, hold.dj, fun n lk b h => ?_⟩
  obtain ⟨c0, h0, e⟩ := lockAll_get h
  cases c0 with
  | dead => cases e
  | live lk0 b0 =>
    cases e
    obtain ⟨a, ha, r⟩ := hold.cell n lk0 b h0
    refine ⟨a, ha, ?_⟩
    cases b with
    | lst xs => obtain ⟨vs, h, r⟩ := r; exact ⟨vs, h, r.mono lk_le⟩
    | dic kvs => obtain ⟨es, h, r⟩ := r; exact ⟨es, h, r.mono lk_le⟩
    | ins c fs => obtain ⟨C, dx, gs, h, m, r⟩ := r; exact ⟨C, dx, gs, h, m, lk_repFV r⟩
theorem lk_stuck (a : Addr) : W.lk.Stuck a := fun n _ b q => by
  obtain ⟨c0, _, e⟩ := lockAll_get q
  cases c0 <;> cases e
/-- back from a pure call -/
theorem lk_back (hold : Hold w mg W) (e : Ext W.lk W') (ho : Hold w mg W') : Ext W ⟨W.M, W.S, W'.H, W.F⟩ ∧ Hold w mg ⟨W.M, W.S, W'.H, W.F⟩ ∧ (W'.gr w mg).Le ((⟨W.M, W.S, W'.H, W.F⟩ : Wd).gr w mg) := by
  have E : Ext W ⟨W.M, W.S, W'.H, W.F⟩ := ⟨rfl, ⟨[], by simp⟩, fun a o h _ => e.keep a o h (lk_stuck a), fun a h => e.trk a h, fun a _ f => f, fun _ _ h _ => h⟩
  refine ⟨E, ⟨hold.len, hold.nd, fun a ha => e.trk a (hold.trk a ha), fun a ha => by rw [← show W'.F = W.F from e.fr]; exact ho.dj a ha, fun n lk b h => ?_⟩, rfl, rfl, fun a o h z => ⟨h, fun n hn => ?_⟩⟩
  · obtain ⟨a, ha, r⟩ := hold.cell n lk b h
    refine ⟨a, ha, r.mono ?_ E⟩
    cases q : W.H a with
    | none => exact absurd q (hold.trk a (List.mem_of_getElem? ha))
    | some o => exact e.keep a o q (lk_stuck a)
  · have hn' : W.lk.M[n]? = some a := hn
    have hd : W'.S[n]? = some Cell.dead := z n (e.M_at hn')
    obtain ⟨c, hc⟩ := (lk_hold hold).mem_of hn'
    obtain ⟨c0, h0, e0⟩ := lockAll_get hc
    have := e.lock n c hc (by rw [e0]; exact lockC_still c0)
    rw [hd] at this
    cases this
    cases c0 with
    | dead => exact h0
    | live _ _ => cases e0
theorem purify_out {args : List Val} {E : XH} {Q : VK} (hold : Hold w mg W) (h : outR w mg (purify φ args W.S) W (RepV w mg) E Q) : outR w mg (φ args W.lk.S) W.lk (RepV w mg) E Q := by
  unfold purify at h
  show outR w mg (φ args (lockAll W.S)) _ _ _ _
  cases q : φ args (lockAll W.S) with
  | bad => rw [q] at h; exact h
  | err x S' =>
    rw [q] at h
    intro W' c d hs e ho rx
    obtain ⟨E1, ho1, le⟩ := lk_back hold e ho
    have q := h ⟨W.M, W.S, W'.H, W.F⟩ c d rfl E1 ho1 (by
      cases rx with
      | zero m z => exact .zero m z
      | one m h1 z r => exact .one m h1 (le.at_ _ _ h1 z).2 (r.mono le))
    have ef : (⟨W.M, W.S, W'.H, W.F⟩ : Wd).full = W'.full := by
      unfold Wd.full
      rw [show W'.F = W.F from e.fr]
    rwa [ef] at q
  | ok v S' =>
    rw [q] at h
    intro W' x hs e ho r
    obtain ⟨E1, ho1, le⟩ := lk_back hold e ho
    have ef : (⟨W.M, W.S, W'.H, W.F⟩ : Wd).full = W'.full := by
      unfold Wd.full
      rw [show W'.F = W.F from e.fr]
    have h : outR w mg (match outV W.S.length S' v with
      | some v' => .ok v' W.S
      | none => .bad) W (RepV w mg) E Q := h
    cases ov : outV W.S.length S' v with
    | none => rw [ov] at h; exact h.elim
    | some v' =>
      rw [ov] at h
      have q := h ⟨W.M, W.S, W'.H, W.F⟩ x rfl E1 ho1 (by
        cases v with
        | d y =>
          cases ov
          exact Rep.mono le r
        | ref n =>
          obtain ⟨a, ha, rfl⟩ := r
          simp only [outV] at ov
          split at ov
          · rename_i hn
            cases ov
            have hn' : n < W.M.length := by rw [hold.len]; exact hn
            have h0 : W.M[n]? = some W.M[n] := List.getElem?_eq_getElem hn'
            have h1 := e.M_at h0
            rw [ha] at h1
            cases h1
            exact ⟨W.M[n], h0, rfl⟩
          · rename_i hn
            split at ov
            · rename_i lk b hb
              cases eb : bodyD b with
              | none => rw [eb] at ov; cases ov
              | some y =>
                rw [eb] at ov
                cases ov
                obtain ⟨a', ha', rb⟩ := ho.cell n lk b (by rw [hs]; exact hb)
                rw [ha] at ha'
                cases ha'
                refine body_rep le rfl (fun j hj => ?_) rb eb
                have hj' : W.lk.M[j]? = some a := hj
                have ej : j = n := nodup_at ho.nd (e.M_at hj') ha
                have : j < W.M.length := (List.getElem?_eq_some_iff.mp hj').1
                rw [hold.len] at this
                omega
            · cases ov)
      rwa [ef] at q
end
theorem callOk_pure {u : Value} (C : CallOk X u φ) : CallOk X u (purify φ) := fun E tk pins s σ H us xs Q I r h => by
  obtain ⟨W, args, rfl, hold, ra, out⟩ := h
  exact C E tk pins s σ _ us xs Q I r ⟨W.lk, args, rfl, lk_hold hold, lk_repVs ra, purify_out hold out⟩

/-! ### calls -/
def mCall (φ : Fn) (ma : MA) : ME := fun ρ S => (ma ρ S).bind fun vs S1 => φ vs S1
variable {x : Str} {p pos : Pos} {e : Expr} {es : List Expr} {ma : MA}
theorem ce_call (C : CallOk X (.ref f) φ) (hm : X.mg x = some (.ref f)) (hk : PySem.W.keepIn X.K (.ref f) = true) (ha : CA X (e :: es) ma) (hg : Gl X x := by rfl) (hdb : (x == ("__debug__" : Str)) = false := by decide)
    (he : starEach (e :: es) X.env = (false, eval e X.env) :: starEach es X.env := by rfl) (hpl : (backTo pos (starEach es X.env)).any (·.1) = false := by rfl) : CE X (.Call (.Name x p) (e :: es) [] pos) (mCall φ ma) := fun E tk => by
  refine ⟨fun pins s σ H Q I h => ?_⟩
  refine wpAny_Call_Name_kw (ld_glob I hg hm ?_ hdb)
  obtain ⟨W, ρ, rfl, hold, rel, out⟩ := h
  refine PySem.W.callWith_K (h₀ := X.base) I.ok.mod.kin hk (thn ((ha E tk).run pos pins s σ _ (fun xs H1 => ∃ (W' : Wd) (args : List Val), W'.full = H1 ∧ Hold X.w X.mg W' ∧ RepVs X.w X.mg W' args xs ∧ outR X.w X.mg (φ args W'.S) W' (RepV X.w X.mg) (fun c d H' => E c d σ H') Q) I
    ⟨W, ρ, rfl, hold, rel, outR.mono (outR.bind (Rl := RepVs X.w X.mg) hold out) (fun xs H1 ⟨W1, vs, e0, _, hold1, r1, out1⟩ => ⟨W1, vs, e0, hold1, r1, out1⟩) fun _ _ _ z => z⟩) fun us s1 ⟨vs, H1, I1, r, q⟩ => ⟨I1.kIn, ?_⟩) he hpl
  exact C E tk pins s1 σ H1 us vs Q I1 r q
theorem ce_call0 (C : CallOk X (.ref f) φ) (hm : X.mg x = some (.ref f)) (hk : PySem.W.keepIn X.K (.ref f) = true) (hg : Gl X x := by rfl) (hdb : (x == ("__debug__" : Str)) = false := by decide) : CE X (.Call (.Name x p) [] [] pos) (mCall φ maNil) := fun E tk => by
  refine ⟨fun pins s σ H Q I h => ?_⟩
  refine wpAny_Call_Name_kw (ld_glob I hg hm ?_ hdb)
  obtain ⟨W, ρ, rfl, hold, rel, out⟩ := h
  exact PySem.W.callWith_K0 I.kIn hk (C E tk pins s σ _ [] [] Q I .nil ⟨W, [], rfl, hold, .nil, out⟩)
end
end Lc

set_option maxHeartbeats 2000000
/-! Lc, part G: what is walked; for, while, list comprehensions. -/
namespace Lc
open PySem PySem.Spec PyProof.Rows L2
abbrev MI := Loc → Store → R (List Val)
/-- a step on, whatever is hidden -/
def ExtF (W W' : Wd) : Prop := Ext ⟨W.M, W.S, W.H, W'.F⟩ W'
theorem Ext.f {W W' : Wd} (e : Ext W W') : ExtF W W' := ⟨rfl, e.pre, e.keep, e.trk, e.frz, e.lock⟩
/-- J walks the values xs, from the world W on -/
def ItOk (w : World) (mg : Str → Option Value) (W : Wd) (xs : List Val) (J : It) : Prop :=
  ∃ G : Hp → Prop, (∀ W' : Wd, ExtF W W' → G W'.full) ∧ Walk J xs.length G (fun i H v H' => ∀ W' : Wd, W'.full = H → ExtF W W' → Hold w mg W' → ∃ W'' : Wd, W''.full = H' ∧ W''.S = W'.S ∧ Ext W' W'' ∧ Hold w mg W'' ∧ ∃ x, xs[i]? = some x ∧ RepV w mg W'' x v)
def tI (w : World) (mg : Str → Option Value) (m : MI) (E : WX) : TI := fun σ H R => ∃ (W : Wd) (ρ : Loc), W.full = H ∧ Hold w mg W ∧ RelL w mg W ρ σ ∧ outR w mg (m ρ W.S) W (ItOk w mg) (fun c d H' => E c d σ H') R
def CI (X : Cx) (tg iter : Expr) (m : MI) : Prop := ∀ E : WX, Takes X E → PI X tg iter (tI X.w X.mg m E)
theorem PI.imp {X : Cx} {tg e : Expr} {t t' : TI} (h : PI X tg e t) (hh : ∀ σ H Q, t' σ H Q → t σ H Q) : PI X tg e t' := ⟨fun pins s σ H Q I q => h.run pins s σ H Q I (hh σ H Q q)⟩
def forL (g : MG) (body : MS) : List Val → Loc → Store → O
  | [], ρ, S => .nx ρ S
  | x :: xs, ρ, S => match g x ρ with
    | none => .bad
    | some ρ1 => match body ρ1 S with
      | .nx ρ2 S2 => forL g body xs ρ2 S2
      | .ct ρ2 S2 => forL g body xs ρ2 S2
      | .bk ρ2 S2 => .nx ρ2 S2
      | o => o
def msFor (mi : MI) (g : MG) (body : MS) : MS := fun ρ S => (mi ρ S).toO ρ fun xs S1 => forL g body xs ρ S1
section
variable {X : Cx} {pos : Pos}
theorem cs_for {tg iter : Expr} {body : List Stmt} {mi : MI} {is : List Nat} {g : MG} {mb : MS} (hp : PassesOwn (model X.prog X.w) X.A X.env X.xe) (hc : X.calm = true) (hi : CI X tg iter mi) (hg : CG X tg is g) (hb : CSs X body mb)
    (hs : ∀ x, foldedSetIterable iter X.env x = pure x := by intro _; rfl) : CS X (.For tg iter body [] pos) (msFor mi g mb) := fun E tk => PS.imp (ps_for hp hc (hi E tk) hg (hb E tk) hs) fun D σ H h => by
  obtain ⟨W, ρ, rfl, hold, rel, out⟩ := h
  refine ⟨W, ρ, rfl, hold, rel, outR.mono (outO.bind (Rl := ItOk X.w X.mg) hold rel out) (fun J H1 h1 => ?_) fun _ _ _ z => z⟩
  obtain ⟨W1, xs, rfl, e1, hold1, rel1, ⟨G, hG, wk⟩, out1⟩ := h1
  refine ⟨fun i m σ H => m = xs.length - i ∧ i ≤ xs.length ∧ ∃ (W2 : Wd) (ρ2 : Loc), W2.full = H ∧ Ext W1 W2 ∧ Hold X.w X.mg W2 ∧ RelL X.w X.mg W2 ρ2 σ ∧ outO X.w X.mg (forL g mb (xs.drop i) ρ2 W2.S) W2 E D,
    ⟨xs.length, by simp, Nat.zero_le _, W1, ρ, rfl, Ext.refl W1, hold1, rel1, out1⟩, ?_⟩
  rintro i m σ H ⟨rfl, hi, W2, ρ2, rfl, e2, hold2, rel2, out2⟩
  by_cases hlt : i < xs.length
  · right
    have hd : xs.drop i = xs[i] :: xs.drop (i + 1) := List.drop_eq_getElem_cons hlt
    rw [hd] at out2
    refine ⟨wk.goes i _ hlt (hG W2 e2.f), fun σ' H' => ∃ (W3 : Wd) (ρ3 : Loc), W3.full = H' ∧ Ext W1 W3 ∧ Hold X.w X.mg W3 ∧ RelL X.w X.mg W3 ρ3 σ' ∧ outO X.w X.mg (forL g mb (xs.drop (i + 1)) ρ3 W3.S) W3 E D,
      fun σ' H' n => ⟨xs.length - (i + 1), by omega, rfl, hlt, n⟩, fun v H' y => ?_⟩
    obtain ⟨W3, rfl, hs3, e3, hold3, x, hx, rx⟩ := wk.yields i _ v H' hlt (hG W2 e2.f) y W2 rfl e2.f hold2
    have ex : xs[i] = x := by
      rw [List.getElem?_eq_getElem hlt] at hx
      exact Option.some.inj hx
    rw [ex] at out2
    simp only [forL] at out2
    split at out2
    · exact out2.elim
    · rename_i ρ' eg
      have out3 := outO.shift e3 hold2 hold3 out2
      rw [← hs3] at out3
      refine ⟨W3, ρ2, x, rfl, hold3, rel2.mono e3, rx, ρ', eg, fun σ' rel' _ => ⟨W3, ρ', rfl, hold3, rel', ?_⟩⟩
      have e13 : Ext W1 W3 := e2.trans e3 hold1 hold2
      cases eb : mb ρ' W3.S with
      | nx ρ3 S3 =>
        rw [eb] at out3
        intro W4 σ4 hs4 e4 ho4 rel4
        subst hs4
        exact ⟨W4, ρ3, rfl, e13.trans e4 hold1 hold3, ho4, rel4, outO.shift e4 hold3 ho4 out3⟩
      | ct ρ3 S3 =>
        rw [eb] at out3
        intro W4 σ4 hs4 e4 ho4 rel4
        subst hs4
        exact ⟨W4, ρ3, rfl, e13.trans e4 hold1 hold3, ho4, rel4, outO.shift e4 hold3 ho4 out3⟩
      | bk ρ3 S3 => rw [eb] at out3; exact out3
      | rt v S3 => rw [eb] at out3; exact out3
      | err x ρ3 S3 => rw [eb] at out3; exact out3
      | bad => rw [eb] at out3; exact out3
  · left
    have ei : i = xs.length := by omega
    subst ei
    rw [List.drop_length] at out2
    exact ⟨wk.stops _ (hG W2 e2.f), out2 W2 σ rfl (Ext.refl W2) hold2 rel2⟩

/-! ### while -/
def whileF (t : MT) (body : MS) : Nat → Loc → Store → O
  | 0, _, _ => .bad
  | n + 1, ρ, S => (t ρ S).toO ρ fun k S1 => if k = true then (match body ρ S1 with
      | .nx ρ2 S2 => whileF t body n ρ2 S2
      | .ct ρ2 S2 => whileF t body n ρ2 S2
      | .bk ρ2 S2 => .nx ρ2 S2
      | o => o) else .nx ρ S1
def msWhile (n : Nat) (t : MT) (body : MS) : MS := fun ρ S => whileF t body n ρ S
theorem cs_while (n : Nat) {c : Expr} {body : List Stmt} {mt : MT} {mb : MS} (hp : PassesOwn (model X.prog X.w) X.A X.env X.xe) (hc : CT X c mt) (hb : CSs X body mb) : CS X (.While c body [] pos) (msWhile n mt mb) := fun E tk => PS.imp (ps_while hp (hc E tk) (hb E tk)) fun D σ H h => by
  obtain ⟨W, ρ, rfl, hold, rel, out⟩ := h
  refine ⟨fun m σ H => ∃ (W2 : Wd) (ρ2 : Loc), W2.full = H ∧ Hold X.w X.mg W2 ∧ RelL X.w X.mg W2 ρ2 σ ∧ outO X.w X.mg (whileF mt mb m ρ2 W2.S) W2 E D, ⟨n, W, ρ, rfl, hold, rel, out⟩, ?_⟩
  rintro m σ H ⟨W2, ρ2, rfl, hold2, rel2, out2⟩
  cases m with
  | zero => exact out2.elim
  | succ m =>
    have out2 : outO X.w X.mg ((mt ρ2 W2.S).toO ρ2 fun k S1 => if k = true then (match mb ρ2 S1 with
      | .nx ρ2 S2 => whileF mt mb m ρ2 S2
      | .ct ρ2 S2 => whileF mt mb m ρ2 S2
      | .bk ρ2 S2 => .nx ρ2 S2
      | o => o) else .nx ρ2 S1) W2 E D := out2
    refine ⟨W2, ρ2, rfl, hold2, rel2, outR.mono (outO.bind (Rl := fun _ b c => b = c) hold2 rel2 out2) (fun k H1 h1 => ?_) fun _ _ _ z => z⟩
    obtain ⟨W1, k', rfl, e1, hold1, rel1, r1, out1⟩ := h1
    subst r1
    cases k' with
    | true =>
      rw [if_pos rfl] at out1 ⊢
      refine ⟨fun σ' H' => ∃ (W3 : Wd) (ρ3 : Loc), W3.full = H' ∧ Hold X.w X.mg W3 ∧ RelL X.w X.mg W3 ρ3 σ' ∧ outO X.w X.mg (whileF mt mb m ρ3 W3.S) W3 E D, fun σ' H' n => ⟨m, Nat.lt_succ_self m, n⟩, W1, ρ2, rfl, hold1, rel1, ?_⟩
      cases eb : mb ρ2 W1.S with
      | nx ρ3 S3 =>
        rw [eb] at out1
        intro W4 σ4 hs4 e4 ho4 rel4
        subst hs4
        exact ⟨W4, ρ3, rfl, ho4, rel4, outO.shift e4 hold1 ho4 out1⟩
      | ct ρ3 S3 =>
        rw [eb] at out1
        intro W4 σ4 hs4 e4 ho4 rel4
        subst hs4
        exact ⟨W4, ρ3, rfl, ho4, rel4, outO.shift e4 hold1 ho4 out1⟩
      | bk ρ3 S3 => rw [eb] at out1; exact out1
      | rt v S3 => rw [eb] at out1; exact out1
      | err x ρ3 S3 => rw [eb] at out1; exact out1
      | bad => rw [eb] at out1; exact out1
    | false =>
      rw [if_neg Bool.false_ne_true] at out1 ⊢
      exact out1 W1 σ rfl (Ext.refl W1) hold1 rel1

/-! ### list comprehensions -/
def wipeL (ρ : Loc) : List Nat → Loc
  | [] => ρ
  | v :: vs => (wipeL ρ vs).set v none
theorem rel_wipe {w : World} {mg : Str → Option Value} {W : Wd} {ρ : Loc} {σ : L2.St} (r : RelL w mg W ρ σ) : ∀ vs : List Nat, RelL w mg W (wipeL ρ vs) (wipe σ vs)
  | [] => r
  | v :: vs => by
    have q := rel_wipe r vs
    refine ⟨by unfold wipeL wipe; rw [List.length_set, List.length_set]; exact q.len, fun i x h => ?_⟩
    unfold wipeL at h
    by_cases e : v = i
    · subst e
      by_cases hl : v < (wipeL ρ vs).length
      · rw [List.getElem?_set_self hl] at h; cases h
      · rw [List.getElem?_eq_none (by simpa using hl)] at h; cases h
    · rw [List.getElem?_set_ne e] at h
      obtain ⟨y, h1, h2⟩ := q.at_ i x h
      exact ⟨y, by unfold wipe; rw [List.getElem?_set_ne e]; exact h1, h2⟩
theorem wipe_in {σ : L2.St} {i : Nat} : ∀ {vs : List Nat}, i ∈ vs → (wipe σ vs)[i]? = none ∨ (wipe σ vs)[i]? = some none
  | v :: vs, h => by
    unfold wipe
    by_cases e : v = i
    · subst e
      by_cases hl : v < (wipe σ vs).length
      · exact .inr (List.getElem?_set_self hl)
      · exact .inl (List.getElem?_eq_none (by simpa using hl))
    · rw [List.getElem?_set_ne e]
      rcases List.mem_cons.mp h with q | q
      · exact absurd q.symm e
      · exact wipe_in q
theorem wipe_out' {σ : L2.St} {i : Nat} : ∀ {vs : List Nat}, i ∉ vs → (wipe σ vs)[i]? = σ[i]?
  | [], _ => rfl
  | v :: vs, h => by
    unfold wipe
    rw [List.mem_cons, not_or] at h
    rw [List.getElem?_set_ne (fun e => h.1 e.symm)]
    exact wipe_out' h.2
/-- stores to the block's own names alone -/
theorem wipe_same {σ σ2 : L2.St} {is vs : List Nat} (o : OutS is (wipe σ vs) σ2) (hi : ∀ i, i ∈ is → i ∈ vs) : wipe σ2 vs = wipe σ vs := by
  apply List.ext_getElem?
  intro j
  have hl : (wipe σ2 vs).length = (wipe σ vs).length := by rw [wipe_length, o.1]
  by_cases hj : j ∈ vs
  · by_cases hlt : j < (wipe σ vs).length
    · rcases wipe_in (σ := σ) hj with h | h
      · rw [List.getElem?_eq_none_iff] at h; omega
      · rcases wipe_in (σ := σ2) hj with h' | h'
        · rw [List.getElem?_eq_none_iff] at h'; omega
        · rw [h, h']
    · rw [List.getElem?_eq_none (by omega), List.getElem?_eq_none (by omega)]
  · rw [wipe_out' hj, o.2 j (fun h => hj (hi j h))]
def noErr {α : Type} : R α → R α
  | .err _ _ => .bad
  | r => r
def lcL (g : MG) (mt : MT) (me : ME) (ρ : Loc) : List Val → Store → R (List D)
  | [], S => .ok [] S
  | x :: xs, S => match g x ρ with
    | none => .bad
    | some ρ1 => (noErr (mt ρ1 S)).bind fun k S1 => if k = true then (noErr (me ρ1 S1)).bind fun v S2 => (match frzV S2 v with
        | some (y, S3) => (lcL g mt me ρ xs S3).bind fun ys S4 => .ok (y :: ys) S4
        | none => .bad) else lcL g mt me ρ xs S1
def mLc (vs : List Nat) (mi : MI) (g : MG) (mt : MT) (me : ME) : ME := fun ρ S => (mi ρ S).bind fun xs S1 => if xs.length ≤ 16777216 then (lcL g mt me (wipeL ρ vs) xs S1).bind fun ys S2 => .ok (.d (.lst ys)) S2 else .bad
/-- a test that is always true -/
def mtYes : MT := fun _ S => .ok true S
def CTs (X : Cx) (ifs : List Expr) (m : MT) : Prop := ∀ E : WX, Takes X E → PTs X ifs (tT X.w X.mg m E)
theorem cts_nil : CTs X [] mtYes := fun E tk => ⟨fun pins s σ H Q I h => pts_nil.run pins s σ H Q I (by
  obtain ⟨W, ρ, rfl, hold, rel, out⟩ := h
  exact outR.here out hold rfl)⟩
theorem cts_one {c : Expr} {mt : MT} (h : CT X c mt) : CTs X [c] mt := fun E tk => pts_one (h E tk)
abbrev noE : WX := fun _ _ _ _ => False
theorem join_hide {A F : Hp} {p : Addr} {o : HO} (h : A p = none) : join A (upd F p o) = upd (join A F) p o := by
  funext b
  unfold join upd
  by_cases e : b = p
  · subst e; simp [h]
  · simp [e]
/-- the same facts, another hidden part -/
theorem repV_F {w : World} {mg : Str → Option Value} {W : Wd} {F : Hp} {x : Val} {v : V} (r : RepV w mg W x v) : RepV w mg ⟨W.M, W.S, W.H, F⟩ x v := by
  cases x with
  | d x => exact Rep.mono (G := W.gr w mg) (G' := (⟨W.M, W.S, W.H, F⟩ : Wd).gr w mg) ⟨rfl, rfl, fun a o h z => ⟨h, z⟩⟩ r
  | ref n => exact r
theorem repFV_F {w : World} {mg : Str → Option Value} {W : Wd} {F : Hp} : ∀ {fs : List (Str × Val)} {gs : List (Str × V)}, RepFV w mg W fs gs → RepFV w mg ⟨W.M, W.S, W.H, F⟩ fs gs
  | _, _, .nil => .nil
  | _, _, .cons r t => .cons (repV_F r) (repFV_F t)
theorem relL_F {w : World} {mg : Str → Option Value} {W : Wd} {F : Hp} {ρ : Loc} {σ : L2.St} (r : RelL w mg W ρ σ) : RelL w mg ⟨W.M, W.S, W.H, F⟩ ρ σ := ⟨r.len, fun i v h => by
  obtain ⟨x, h1, h2⟩ := r.at_ i v h
  exact ⟨x, h1, repV_F h2⟩⟩
theorem hold_F {w : World} {mg : Str → Option Value} {W : Wd} {F : Hp} (hold : Hold w mg W) (hj : ∀ a, W.H a ≠ none → F a = none) : Hold w mg ⟨W.M, W.S, W.H, F⟩ := ⟨hold.len, hold.nd, hold.trk, hj, fun n lk b h => by
  obtain ⟨a, ha, r⟩ := hold.cell n lk b h
  refine ⟨a, ha, ?_⟩
  have le : (W.gr w mg).Le ((⟨W.M, W.S, W.H, F⟩ : Wd).gr w mg) := ⟨rfl, rfl, fun a o h z => ⟨h, z⟩⟩
  cases b with
  | lst xs => obtain ⟨vs, h, r⟩ := r; exact ⟨vs, h, r.mono le⟩
  | dic kvs => obtain ⟨es, h, r⟩ := r; exact ⟨es, h, r.mono le⟩
  | ins c fs =>
    obtain ⟨C, dx, gs, h, m, r⟩ := r
    exact ⟨C, dx, gs, h, m, repFV_F r⟩⟩
theorem ext_F {W W' : Wd} {F : Hp} (e : Ext W W') : Ext ⟨W.M, W.S, W.H, F⟩ ⟨W'.M, W'.S, W'.H, F⟩ := ⟨rfl, e.pre, e.keep, e.trk, e.frz, e.lock⟩

theorem lc_in {vs : List Nat} {mi : MI} {is : List Nat} {g : MG} {mt : MT} {me : ME} {E : WX} {σ : L2.St} {H : Hp} {Q : VK} (h : tE X.w X.mg (mLc vs mi g mt me) E σ H Q) :
    (hsub : ∀ i, i ∈ is → i ∈ vs) → tLc (tI X.w X.mg mi E) (tG X.w X.mg is g) (tT X.w X.mg mt noE) (tE X.w X.mg me noE) vs σ H Q := by
  intro hsub
  obtain ⟨W, ρ, rfl, hold, rel, out⟩ := h
  refine ⟨W, ρ, rfl, hold, rel, outR.mono (outR.bind (Rl := ItOk X.w X.mg) hold out) (fun J H1 h1 => ?_) fun _ _ _ z => z⟩
  obtain ⟨W1, xs, rfl, e1, hold1, ⟨G, hG, wk⟩, out1⟩ := h1
  intro D hD
  have hD0 := Wd.full_none hD
  split at out1
  · rename_i hlen
    generalize hρ : wipeL ρ vs = ρw at out1
    have relw : RelL X.w X.mg W1 ρw (wipe σ vs) := by rw [← hρ]; exact rel_wipe (rel.mono e1) _
    refine ⟨fun i m H => m = xs.length - i ∧ i ≤ xs.length ∧ ∃ (W2 : Wd) (ws : List V) (ds : List Lc.D), H = upd W2.full D (.lst ws) ∧ W2.H D = none ∧ Ext W1 W2 ∧ Hold X.w X.mg W2 ∧ Reps (W2.gr X.w X.mg) ds ws ∧ ds.length ≤ i ∧
      outR X.w X.mg ((lcL g mt me ρw (xs.drop i) W2.S).bind fun ys S2 => .ok (.d (.lst (ds ++ ys))) S2) W2 (RepV X.w X.mg) (fun c d H' => E c d σ H') Q,
      ⟨xs.length, by simp, Nat.zero_le _, W1, [], [], rfl, hD0.1, Ext.refl W1, hold1, .nil, Nat.le_refl 0, by simpa using out1⟩, ?_⟩
    rintro i m H ⟨rfl, hi, W2, ws, ds, rfl, hDn, e2, hold2, rds, hds, out2⟩
    -- the world with the list hidden
    have hF2 : W2.F D = none := by rw [e2.fr]; exact hD0.2
    have jo : ∀ (W3 : Wd) (ws : List V), W3.H D = none → join W3.H (upd W1.F D (.lst ws)) = upd (join W3.H W1.F) D (.lst ws) := fun W3 ws h => join_hide h
    have full2 : (⟨W2.M, W2.S, W2.H, upd W1.F D (.lst ws)⟩ : Wd).full = upd W2.full D (.lst ws) := by
      show join W2.H (upd W1.F D (.lst ws)) = _
      rw [jo W2 ws hDn, ← e2.fr]
      rfl
    have h2h : Hold X.w X.mg ⟨W2.M, W2.S, W2.H, upd W1.F D (.lst ws)⟩ := hold_F hold2 fun a ha => by
      rw [upd_ne (fun e => ha (by rw [e]; exact hDn)), ← e2.fr]
      exact hold2.dj a ha
    have x2h : ExtF W1 ⟨W2.M, W2.S, W2.H, upd W1.F D (.lst ws)⟩ := ext_F e2
    by_cases hlt : i < xs.length
    · right
      have hd : xs.drop i = xs[i] :: xs.drop (i + 1) := List.drop_eq_getElem_cons hlt
      rw [hd] at out2
      refine ⟨by rw [← full2]; exact wk.goes i _ hlt (hG _ x2h), fun H' => ∃ (W3 : Wd) (ws : List V) (ds : List Lc.D), H' = upd W3.full D (.lst ws) ∧ W3.H D = none ∧ Ext W1 W3 ∧ Hold X.w X.mg W3 ∧ Reps (W3.gr X.w X.mg) ds ws ∧ ds.length ≤ i + 1 ∧
        outR X.w X.mg ((lcL g mt me ρw (xs.drop (i + 1)) W3.S).bind fun ys S2 => .ok (.d (.lst (ds ++ ys))) S2) W3 (RepV X.w X.mg) (fun c d H' => E c d σ H') Q,
        fun H' n => ⟨xs.length - (i + 1), by omega, rfl, hlt, n⟩, fun v H' y => ?_⟩
      rw [← full2] at y
      obtain ⟨W3, rfl, hs3, e3, hold3, x, hx, rx⟩ := wk.yields i _ v H' hlt (hG _ x2h) y _ rfl x2h h2h
      have ex : xs[i] = x := by
        rw [List.getElem?_eq_getElem hlt] at hx
        exact Option.some.inj hx
      rw [ex] at out2
      simp only [lcL] at out2
      -- from a world with the list hidden to one without
      have un : ∀ {W4 : Wd}, Ext W3 W4 → Hold X.w X.mg W4 → W4.H D = none ∧ Ext W2 ⟨W4.M, W4.S, W4.H, W1.F⟩ ∧ Hold X.w X.mg ⟨W4.M, W4.S, W4.H, W1.F⟩ ∧ W4.F = upd W1.F D (.lst ws) := fun {W4} e4 ho4 => by
        have ef : W4.F = upd W1.F D (.lst ws) := e4.fr.trans e3.fr
        have e24 := e3.trans e4 h2h hold3
        have hn : W4.H D = none := by
          cases q : W4.H D with
          | none => rfl
          | some o =>
            have := ho4.dj D (by rw [q]; simp)
            rw [ef, upd_same] at this
            cases this
        refine ⟨hn, ⟨by rw [← e2.fr], e24.pre, e24.keep, e24.trk, e24.frz, e24.lock⟩, hold_F ho4 fun a ha => ?_, ef⟩
        have := ho4.dj a ha
        rw [ef, upd_ne (fun e => ha (by rw [e]; exact hn))] at this
        exact this
      have fullU : ∀ {W4 : Wd}, W4.F = upd W1.F D (.lst ws) → W4.H D = none → W4.full = upd (⟨W4.M, W4.S, W4.H, W1.F⟩ : Wd).full D (.lst ws) := fun {W4} ef hn => by
        show join W4.H W4.F = _
        rw [ef, jo W4 ws hn]
        rfl
      split at out2
      · exact out2.elim
      · rename_i ρ' eg
        have hs3' : W3.S = W2.S := hs3
        rw [← hs3'] at out2
        have relw3 : RelL X.w X.mg W3 ρw (wipe σ vs) := RelL.mono e3 (relL_F (relw.mono e2))
        refine ⟨W3, ρw, x, rfl, hold3, relw3, rx, ρ', eg, fun σ2 rel2 o2 => ⟨wipe_same o2 hsub, W3, ρ', rfl, hold3, rel2, ?_⟩⟩
        cases et : mt ρ' W3.S with
        | bad => rw [et] at out2; exact out2.elim
        | err x S' => rw [et] at out2; exact out2.elim
        | ok k S1 =>
          rw [et] at out2
          intro W4 k' hs4 e4 ho4 ek
          subst hs4
          subst ek
          obtain ⟨hn4, x4, ho4', ef4⟩ := un e4 ho4
          cases k with
          | false =>
            rw [if_neg Bool.false_ne_true]
            refine ⟨⟨W4.M, W4.S, W4.H, W1.F⟩, ws, ds, fullU ef4 hn4, hn4, e2.trans x4 hold1 hold2, ho4', rds.mono x4.le, Nat.le_succ_of_le hds, outR.shift x4 hold2 ho4' out2⟩
          | true =>
            rw [if_pos rfl]
            have out3 : outR X.w X.mg (((noErr (me ρ' W4.S)).bind fun v S2 => (match frzV S2 v with
              | some (y, S3) => (lcL g mt me ρw (xs.drop (i + 1)) S3).bind fun ys S4 => .ok (y :: ys) S4
              | none => .bad)).bind fun ys S2 => .ok (.d (.lst (ds ++ ys))) S2) W2 (RepV X.w X.mg) (fun c d H' => E c d σ H') Q := out2
            refine ⟨W4, ρ', rfl, ho4, rel2.mono e4, ?_⟩
            cases ee : me ρ' W4.S with
            | bad => rw [ee] at out3; exact out3.elim
            | err x S' => rw [ee] at out3; exact out3.elim
            | ok v5 S5 =>
              rw [ee] at out3
              intro W5 yv hs5 e5 ho5 r5
              subst hs5
              have out4 : outR X.w X.mg ((match frzV W5.S v5 with
                | some (y, S3) => (lcL g mt me ρw (xs.drop (i + 1)) S3).bind fun ys S4 => .ok (y :: ys) S4
                | none => .bad).bind fun ys S2 => .ok (.d (.lst (ds ++ ys))) S2) W2 (RepV X.w X.mg) (fun c d H' => E c d σ H') Q := out3
              cases ez : frzV W5.S v5 with
              | none => rw [ez] at out4; exact out4.elim
              | some q =>
                obtain ⟨y5, S6⟩ := q
                rw [ez] at out4
                obtain ⟨e6, ho6, r6⟩ := frz_ok ho5 r5 ez
                have e36 : Ext W3 ⟨W5.M, S6, W5.H, W5.F⟩ := (e4.trans e5 hold3 ho4).trans e6 hold3 ho5
                obtain ⟨hn6, x6, ho6', ef6⟩ := un e36 ho6
                have hlw : ws.length = ds.length := rds.length.symm
                refine ⟨ws, ?_, by rw [hlw, sizeLine_eq]; omega, ⟨W5.M, S6, W5.H, W1.F⟩, ws ++ [yv], ds ++ [y5], ?_, hn6, e2.trans x6 hold1 hold2, ho6', Reps.append (rds.mono x6.le) (.cons ?_ .nil), by rw [List.length_append]; simp; omega, ?_⟩
                · have f5 : W5.full = upd (⟨W5.M, W5.S, W5.H, W1.F⟩ : Wd).full D (.lst ws) := fullU ef6 hn6
                  rw [f5, upd_same]
                · have f5 : W5.full = upd (⟨W5.M, W5.S, W5.H, W1.F⟩ : Wd).full D (.lst ws) := fullU ef6 hn6
                  rw [f5, upd_upd]
                  rfl
                · exact Rep.mono (G := (⟨W5.M, S6, W5.H, W5.F⟩ : Wd).gr X.w X.mg) ⟨rfl, rfl, fun a o h z => ⟨h, z⟩⟩ r6
                · have out5 : outR X.w X.mg (((lcL g mt me ρw (xs.drop (i + 1)) S6).bind fun ys S4 => .ok (y5 :: ys) S4).bind fun ys S2 => .ok (.d (.lst (ds ++ ys))) S2) W2 (RepV X.w X.mg) (fun c d H' => E c d σ H') Q := out4
                  rw [bind_assoc'] at out5
                  have out6 := outR.shift x6 hold2 ho6' out5
                  have eq : ((lcL g mt me ρw (xs.drop (i + 1)) S6).bind fun ys S4 => (R.ok (y5 :: ys) S4).bind fun ys S2 => R.ok (Val.d (.lst (ds ++ ys))) S2) = ((lcL g mt me ρw (xs.drop (i + 1)) S6).bind fun ys S2 => .ok (.d (.lst (ds ++ [y5] ++ ys))) S2) := by
                    congr 1
                    funext ys S4
                    show R.ok (Val.d (.lst (ds ++ (y5 :: ys)))) S4 = _
                    rw [List.append_assoc]
                    rfl
                  rw [eq] at out6
                  exact out6
    · left
      have ei : i = xs.length := by omega
      subst ei
      refine ⟨by rw [← full2]; exact wk.stops _ (hG _ x2h), ?_⟩
      rw [List.drop_length] at out2
      have out3 : outR X.w X.mg (.ok (.d (.lst (ds ++ []))) W2.S) W2 (RepV X.w X.mg) (fun c d H' => E c d σ H') Q := out2
      rw [List.append_nil] at out3
      have hp : W2.full D = none := by
        show join W2.H W2.F D = none
        unfold join
        rw [hDn]
        exact hF2
      exact outR.new out3 hold2 hp (.lst (.inl upd_same) (fz_new (H := W2.H) (F := W2.F) hold2 hDn _) (rds.mono (ext_new (M := W2.M) (S := W2.S) (F := W2.F) hDn).le))
  · exact out1.elim
theorem ce_lc {elt tg iter : Expr} {ifs : List Expr} {scope : Scope} {own : List (Str × Nat)} {mi : MI} {is : List Nat} {g : MG} {mt : MT} {me : ME} (hc : X.calm = true) (hN : X.N.Nodup) (hi : CI X tg iter mi) (ok : BlkOk X.N X.env.scope scope own)
    (hg : ∀ (s : Shared) (H : Hp) (C : Addr) (cl : List (Str × Addr)) (fp : List Addr), CG (X.blk s H scope (compEnvC scope cl C X.env) fp) tg is g)
    (ht : ∀ (s : Shared) (H : Hp) (C : Addr) (cl : List (Str × Addr)) (fp : List Addr), CTs (X.blk s H scope (compEnvC scope cl C X.env) fp) ifs mt)
    (he : ∀ (s : Shared) (H : Hp) (C : Addr) (cl : List (Str × Addr)) (fp : List Addr), CE (X.blk s H scope (compEnvC scope cl C X.env) fp) elt me) (hsub : ∀ i, i ∈ is → i ∈ own.map (·.2))
    (hs : ∀ x, foldedSetIterable iter X.env x = pure x := by intro _; rfl) : CE X (.ListComp elt [⟨tg, iter, ifs, 0⟩] scope pos) (mLc (own.map (·.2)) mi g mt me) := fun E tk => by
  refine PE.imp (pe_lc (g := tG X.w X.mg is g) (tt := tT X.w X.mg mt noE) (te := tE X.w X.mg me noE) hc hN (hi E tk) ok hg (fun s H C cl fp => ht s H C cl fp noE takes0) (fun s H C cl fp => he s H C cl fp noE takes0) hs) fun σ H Q h => lc_in h hsub
/-- name = [..] on one line, the name a plain local -/
theorem cs_setLc (i : Nat) {y : Str} {py : Pos} {spos : Pos} {elt tg iter : Expr} {ifs : List Expr} {scope : Scope} {own : List (Str × Nat)} {mi : MI} {is : List Nat} {g : MG} {mt : MT} {me : ME} (hc : X.calm = true) (hN : X.N.Nodup) (hi : CI X tg iter mi) (ok : BlkOk X.N X.env.scope scope own)
    (hg : ∀ (s : Shared) (H : Hp) (C : Addr) (cl : List (Str × Addr)) (fp : List Addr), CG (X.blk s H scope (compEnvC scope cl C X.env) fp) tg is g)
    (ht : ∀ (s : Shared) (H : Hp) (C : Addr) (cl : List (Str × Addr)) (fp : List Addr), CTs (X.blk s H scope (compEnvC scope cl C X.env) fp) ifs mt)
    (he : ∀ (s : Shared) (H : Hp) (C : Addr) (cl : List (Str × Addr)) (fp : List Addr), CE (X.blk s H scope (compEnvC scope cl C X.env) fp) elt me) (hsub : ∀ i, i ∈ is → i ∈ own.map (·.2))
    (hy : X.N[i]? = some y := by rfl) (hyl : X.env.scope.names.lookup y = some .local := by rfl) (hsw : swapsWith (.ListComp elt [⟨tg, iter, ifs, 0⟩] scope pos) (some (.Name y py)) spos.line X.env = pure true := by rfl)
    (hs : ∀ x, foldedSetIterable iter X.env x = pure x := by intro _; rfl) : CS X (.Assign [.Name y py] (.ListComp elt [⟨tg, iter, ifs, 0⟩] scope pos) spos) (msSet i (mLc (own.map (·.2)) mi g mt me)) := fun E tk => by
  refine PS.imp (ps_setLc (g := tG X.w X.mg is g) (tt := tT X.w X.mg mt noE) (te := tE X.w X.mg me noE) hc hN hy hyl hsw (hi E tk) ok hg (fun s H C cl fp => ht s H C cl fp noE takes0) (fun s H C cl fp => he s H C cl fp noE takes0) hs) fun D σ H h => ?_
  obtain ⟨W, ρ, rfl, hold, rel, out⟩ := h
  refine lc_in (Q := fun x H1 => gName i x σ H1 D.nx) ⟨W, ρ, rfl, hold, rel, outR.mono (outO.bind (Rl := RepV X.w X.mg) hold rel out) (fun x H1 h1 => ?_) fun _ _ _ z => z⟩ hsub
  obtain ⟨W1, v, rfl, e1, hold1, rel1, r1, out1⟩ := h1
  exact out1 W1 _ rfl (Ext.refl W1) hold1 (rel1.set r1)
end
end Lc

set_option maxHeartbeats 2000000
/-! Lc, part H: operators and comparisons by values. -/
namespace Lc
open PySem PySem.Spec PyProof.Rows L2
/-- not huge: a product, a shift of such ints stays within the model's size -/
def szOk (i : Int) : Bool := decide (i.natAbs.log2 < 500000)
theorem szOk_of {i : Int} {n : Nat} (h : i.natAbs < 2 ^ n) (hn : n ≤ 500000) (h0 : 0 < n) : szOk i = true := by
  unfold szOk
  rw [decide_eq_true_eq]
  exact Nat.lt_of_lt_of_le (PySem.Flt.log2_lt_of h0 h) hn
theorem szOk_bits {i : Int} (h : szOk i = true) : Builtin.Int.intBits i ≤ 500000 := by
  unfold szOk at h
  rw [decide_eq_true_eq] at h
  unfold Builtin.Int.intBits
  split <;> omega
def seqL (S : Store) : Val → Option (List D)
  | .d (.lst xs) => some xs
  | .ref n => match S[n]? with
    | some (.live _ (.lst xs)) => some xs
    | _ => none
  | _ => none
def seqT : Val → Option (List D)
  | .d (.tup xs) => some xs
  | _ => none
/-- what may be walked or counted: a list, a tuple -/
def seqA (S : Store) (v : Val) : Option (List D) := match seqT v with
  | some xs => some xs
  | none => seqL S v
section
variable {w : World} {mg : Str → Option Value} {W : Wd} {v : Val} {x : V} {xs : List D}
theorem seqL_ok (hold : Hold w mg W) (r : RepV w mg W v x) (e : seqL W.S v = some xs) : ∃ a vs, x = .ref a ∧ Rd W.H a (.lst vs) ∧ Reps (W.gr w mg) xs vs := by
  cases v with
  | d y =>
    cases y with
    | lst ys =>
      cases e
      cases r with
      | lst h z rs => exact ⟨_, _, rfl, h, rs⟩
    | _ => cases e
  | ref n =>
    simp only [seqL] at e
    split at e
    · rename_i lk ys hs
      cases e
      obtain ⟨a, ha, rfl⟩ := r
      obtain ⟨a', ha', vs, h, rs⟩ := hold.cell n lk _ hs
      rw [ha] at ha'
      cases ha'
      exact ⟨a, vs, rfl, .inl h, rs⟩
    · cases e
theorem seqT_ok (r : RepV w mg W v x) (e : seqT v = some xs) : ∃ a vs, x = .ref a ∧ Rd W.H a (.tup vs) ∧ Reps (W.gr w mg) xs vs := by
  cases v with
  | d y =>
    cases y with
    | tup ys =>
      cases e
      cases r with
      | tup h z rs => exact ⟨_, _, rfl, h, rs⟩
    | _ => cases e
  | ref n => cases e
theorem seqA_ok (hold : Hold w mg W) (r : RepV w mg W v x) (e : seqA W.S v = some xs) : ∃ a vs, x = .ref a ∧ (Rd W.full a (.lst vs) ∨ Rd W.full a (.tup vs)) ∧ Reps (W.gr w mg) xs vs := by
  unfold seqA at e
  split at e
  · rename_i ys h
    cases e
    obtain ⟨a, vs, h1, h2, h3⟩ := seqT_ok r h
    exact ⟨a, vs, h1, .inr (Wd.full_rd h2), h3⟩
  · obtain ⟨a, vs, h1, h2, h3⟩ := seqL_ok hold r e
    exact ⟨a, vs, h1, .inl (Wd.full_rd h2), h3⟩
end
/-! ### arithmetic -/
section
variable {X : Cx}
def opAdd : F2 := fun S v u => match v, u with
  | .d (.int i), .d (.int j) => some (.int (i + j))
  | .d (.str a), .d (.str b) => if a.length + b.length ≤ sizeLine then some (.str (a ++ b)) else none
  | v, u => match seqL S v, seqL S u with
    | some xs, some ys => if xs.length + ys.length ≤ sizeLine then some (.lst (xs ++ ys)) else none
    | _, _ => none
theorem cat_list {pins : List (Addr × Obj)} {s : Shared} {σ : L2.St} {H : Hp} {a b : Addr} {vs ws : List V} {Q : VK} (I : Inv X pins σ H s) (h1 : Rd H a (.lst vs)) (h2 : Rd H b (.lst ws)) (hz : vs.length + ws.length ≤ sizeLine) (q : ∀ p, H p = none → Q (.ref p) (upd H p (.lst (vs ++ ws)))) :
    wpAny (model X.prog X.w) X.A (binaryOp .Add (.ref a) (.ref b)) (EP X pins σ Q) X.xe s := by
  obtain ⟨_, its, n, r, e⟩ := h1.ok I.hok
  obtain ⟨_, its2, n2, r2, e2⟩ := h2.ok I.hok
  have hl := r.length
  have hl2 := r2.length
  refine PySem.P.add_list e e2 ?_ (by rw [List.size_toArray, List.size_toArray]; omega)
  have ea : its.toArray ++ its2.toArray = (its ++ its2).toArray := by simp
  rw [ea]
  exact ⟨.ref _, _, I.lnew (t' := s.toks) (r.append r2) (by rw [List.length_append]; omega), rfl, q _ I.fresh⟩
theorem opAdd_ok : OpOk X (binaryOp .Add) opAdd := by
  intro pins s σ H x y v u Q I rx ry h
  obtain ⟨W, a, b, d, rfl, hold, ra, rb, e, out⟩ := h
  unfold opAdd at e
  split at e
  · cases e; cases ra; cases rb
    exact op_add pins s σ _ _ _ v u Q I rx ry ⟨_, _, rfl, rfl, outR.here out hold (.int _)⟩
  · split at e
    · rename_i hl
      cases e; cases ra; cases rb
      exact op_add_str pins s σ _ _ _ v u Q I rx ry ⟨_, _, rfl, rfl, hl, outR.here out hold (.str _)⟩
    · cases e
  · split at e
    · rename_i xs ys h1 h2
      split at e
      · rename_i hl
        cases e
        obtain ⟨p, vs, rfl, hp, rs⟩ := seqL_ok hold ra h1
        obtain ⟨p2, vs2, rfl, hp2, rs2⟩ := seqL_ok hold rb h2
        cases rx; cases ry
        refine cat_list I (Wd.full_rd hp) (Wd.full_rd hp2) (by rw [← rs.length, ← rs2.length]; exact hl) fun p hn => ?_
        obtain ⟨n1, n2⟩ := Wd.full_none hn
        exact outR.new out hold hn (.lst (.inl upd_same) (fz_new (H := W.H) (F := W.F) hold n1 _) ((rs.append rs2).mono (ext_new (M := W.M) (S := W.S) (F := W.F) n1).le))
      · cases e
    · cases e
/-- of two ints -/
def op2I (f : Int → Int → Option D) : F2 := fun _ v u => match v, u with
  | .d (.int i), .d (.int j) => f i j
  | _, _ => none
theorem op2I_ok {F : Value → Value → Sem Value} {f : Int → Int → Option D} (h : ∀ i j d, f i j = some d → ∃ v, (∀ G, Rep G d v) ∧ OpR X F (fun x y H Q => x = .int i ∧ y = .int j ∧ Q v H)) : OpOk X F (op2I f) := by
  intro pins s σ H x y v u Q I rx ry h0
  obtain ⟨W, a, b, d, rfl, hold, ra, rb, e, out⟩ := h0
  unfold op2I at e
  split at e
  · cases ra; cases rb
    obtain ⟨z, hz, ho⟩ := h _ _ _ e
    exact ho pins s σ _ _ _ v u Q I rx ry ⟨rfl, rfl, outR.here (x := z) out hold (hz _)⟩
  · cases e
theorem OpR.imp {F : Value → Value → Sem Value} {r r' : R2} (h : OpR X F r) (hh : ∀ x y H Q, r' x y H Q → r x y H Q) : OpR X F r' := fun pins s σ H x y v u Q I rx ry q => h pins s σ H x y v u Q I rx ry (hh x y H Q q)
def opSub : F2 := op2I fun i j => some (.int (i - j))
def opMulI (i j : Int) : Option D := if szOk i && szOk j then some (.int (i * j)) else none
def opDiv : F2 := op2I fun i j => if 0 < j ∧ j.natAbs.log2 < 9000 then some (.int (i / j)) else none
def opMod : F2 := op2I fun i j => if 0 < j then some (.int (i % j)) else none
def opPow : F2 := op2I fun i j => if 0 ≤ j ∧ j ≤ 1000000 ∧ i.natAbs < 2 ^ 64 then some (.int (i ^ j.toNat)) else none
def opShl : F2 := op2I fun i j => if szOk i ∧ 0 ≤ j ∧ j ≤ 1000000 then some (.int (i * 2 ^ j.toNat)) else none
def opShr : F2 := op2I fun i j => if 0 ≤ j then some (.int (i / 2 ^ j.toNat)) else none
def opBAnd : F2 := op2I fun i j => some (.int (Builtin.bitAnd i j))
def opBOr : F2 := op2I fun i j => some (.int (Builtin.bitOr i j))
def opBXor : F2 := op2I fun i j => some (.int (Builtin.bitXor i j))
theorem opSub_ok : OpOk X (binaryOp .Sub) opSub := op2I_ok fun i j d e => by
  cases e
  exact ⟨.int (i - j), fun _ => .int _, OpR.imp op_sub fun x y H Q ⟨e1, e2, q⟩ => ⟨i, j, e1, e2, q⟩⟩
theorem opSub_iok : OpOk X (inplaceOp .Sub) opSub := op2I_ok fun i j d e => by
  cases e
  exact ⟨.int (i - j), fun _ => .int _, OpR.imp iop_sub fun x y H Q ⟨e1, e2, q⟩ => ⟨i, j, e1, e2, q⟩⟩
theorem opDiv_ok : OpOk X (binaryOp .FloorDiv) opDiv := op2I_ok fun i j d e => by
  split at e
  · rename_i hc
    cases e
    exact ⟨.int (i / j), fun _ => .int _, OpR.imp op_fdivW fun x y H Q ⟨e1, e2, q⟩ => ⟨i, j, e1, e2, hc, q⟩⟩
  · cases e
theorem opMod_ok : OpOk X (binaryOp .Mod) opMod := op2I_ok fun i j d e => by
  split at e
  · rename_i hc
    cases e
    exact ⟨.int (i % j), fun _ => .int _, OpR.imp op_mod fun x y H Q ⟨e1, e2, q⟩ => ⟨i, j, e1, e2, hc, q⟩⟩
  · cases e
theorem opPow_ok : OpOk X (binaryOp .Pow) opPow := op2I_ok fun i j d e => by
  split at e
  · rename_i hc
    cases e
    exact ⟨.int (i ^ j.toNat), fun _ => .int _, OpR.imp op_pow fun x y H Q ⟨e1, e2, q⟩ => ⟨i, j, e1, e2, hc, q⟩⟩
  · cases e
theorem shl_fit {i j : Int} (h : szOk i = true ∧ 0 ≤ j ∧ j ≤ 1000000) : CShl i j := by
  have := szOk_bits h.1
  refine ⟨h.2.1, ?_⟩
  have e : (2 : Int) ^ 27 = 134217728 := by decide
  rw [e]
  have := h.2.2
  omega
theorem opShl_ok : OpOk X (binaryOp .LShift) opShl := op2I_ok fun i j d e => by
  split at e
  · rename_i hc
    cases e
    exact ⟨.int (i * 2 ^ j.toNat), fun _ => .int _, OpR.imp op_shlW fun x y H Q ⟨e1, e2, q⟩ => ⟨i, j, e1, e2, shl_fit hc, q⟩⟩
  · cases e
theorem opShr_ok : OpOk X (binaryOp .RShift) opShr := op2I_ok fun i j d e => by
  split at e
  · rename_i hc
    cases e
    exact ⟨.int (i / 2 ^ j.toNat), fun _ => .int _, OpR.imp op_shr fun x y H Q ⟨e1, e2, q⟩ => ⟨i, j, e1, e2, hc, q⟩⟩
  · cases e
theorem opBAnd_ok : OpOk X (binaryOp .BitAnd) opBAnd := op2I_ok fun i j d e => by
  cases e
  exact ⟨.int (Builtin.bitAnd i j), fun _ => .int _, OpR.imp op_and fun x y H Q ⟨e1, e2, q⟩ => ⟨i, j, e1, e2, q⟩⟩
theorem opBOr_ok : OpOk X (binaryOp .BitOr) opBOr := op2I_ok fun i j d e => by
  cases e
  exact ⟨.int (Builtin.bitOr i j), fun _ => .int _, OpR.imp op_or fun x y H Q ⟨e1, e2, q⟩ => ⟨i, j, e1, e2, q⟩⟩
theorem opBOr_iok : OpOk X (inplaceOp .BitOr) opBOr := op2I_ok fun i j d e => by
  cases e
  exact ⟨.int (Builtin.bitOr i j), fun _ => .int _, OpR.imp iop_or fun x y H Q ⟨e1, e2, q⟩ => ⟨i, j, e1, e2, q⟩⟩
theorem opBXor_ok : OpOk X (binaryOp .BitXor) opBXor := op2I_ok fun i j d e => by
  cases e
  exact ⟨.int (Builtin.bitXor i j), fun _ => .int _, OpR.imp op_xor fun x y H Q ⟨e1, e2, q⟩ => ⟨i, j, e1, e2, q⟩⟩
/-- + as op= (ints, texts) -/
def opIAdd : F2 := fun _ v u => match v, u with
  | .d (.int i), .d (.int j) => some (.int (i + j))
  | .d (.str a), .d (.str b) => if a.length + b.length ≤ sizeLine then some (.str (a ++ b)) else none
  | _, _ => none
theorem opIAdd_ok : OpOk X (inplaceOp .Add) opIAdd := by
  intro pins s σ H x y v u Q I rx ry h
  obtain ⟨W, a, b, d, rfl, hold, ra, rb, e, out⟩ := h
  unfold opIAdd at e
  split at e
  · cases e; cases ra; cases rb
    exact iop_add pins s σ _ _ _ v u Q I rx ry ⟨_, _, rfl, rfl, outR.here out hold (.int _)⟩
  · split at e
    · rename_i hl
      cases e; cases ra; cases rb
      exact iop_add_str pins s σ _ _ _ v u Q I rx ry ⟨_, _, rfl, rfl, hl, outR.here out hold (.str _)⟩
    · cases e
  · cases e
/-- text * int -/
def repS (x : Str) (k : Nat) : Str := ⟨(List.replicate k x.cps.toList).flatten.toArray⟩
def opMul : F2 := fun S v u => match v, u with
  | .d (.int i), .d (.int j) => opMulI i j
  | .d (.str x), .d (.int j) => if j < 2 ^ 24 ∧ -(2 ^ 24) < j ∧ x.length * j.toNat ≤ sizeLine then some (.str (repS x j.toNat)) else none
  | v, .d (.int j) => match seqL S v with
    | some xs => if j < 2 ^ 24 ∧ -(2 ^ 24) < j ∧ xs.length * j.toNat ≤ sizeLine then some (.lst (List.replicate j.toNat xs).flatten) else none
    | none => none
  | _, _ => none
theorem foldl_cps (its : List Nat) : ∀ (k : Nat) (acc : List Nat), List.foldl (fun x1 x2 => x1 ++ x2) acc.toArray (List.replicate k its.toArray) = (acc ++ (List.replicate k its).flatten).toArray
  | 0, acc => by simp
  | k + 1, acc => by
    rw [List.replicate_succ, List.foldl_cons, List.replicate_succ, List.flatten_cons]
    have := foldl_cps its k (acc ++ its)
    rw [← List.append_assoc, ← this]
    simp
theorem repS_eq (x : Str) (k : Nat) : (⟨(List.replicate k x.cps).foldl (· ++ ·) #[]⟩ : Str) = repS x k := by
  unfold repS
  have := foldl_cps x.cps.toList k []
  simp only [List.nil_append] at this
  rw [← this]
theorem repS_length (x : Str) (k : Nat) : (repS x k).length = x.length * k := by
  show (List.replicate k x.cps.toList).flatten.toArray.size = x.cps.size * k
  rw [List.size_toArray, List.length_flatten, List.map_replicate, List.sum_replicate_nat, Array.length_toList, Nat.mul_comm]
theorem mul_str_ok {pins : List (Addr × Obj)} {s : Shared} {σ : L2.St} {H : Hp} {x : Str} {j : Int} {t u : Tok} {Q : VK} (I : Inv X pins σ H s) (h1 : j < 2 ^ 24) (h2 : -(2 ^ 24) < j) (hl : x.length * j.toNat ≤ sizeLine) (q : Q (.str (repS x j.toNat)) H) :
    wpAny (model X.prog X.w) X.A (binaryOp .Mult (.str x t) (.int j u)) (EP X pins σ Q) X.xe s := by
  have hs : (sizeLine : Nat) = 16777216 := sizeLine_eq
  refine PySem.P.mul_str ?_ (fun h _ => ?_) (fun _ _ => ?_) ?_
  · rw [decide_eq_false (by omega), decide_eq_false (by omega)]; rfl
  · have e : ((x.length * j.toNat : Nat) : Int) = (x.length : Int) * j := by
      rw [Int.natCast_mul, Int.toNat_of_nonneg (by omega)]
    have : (x.length : Int) ≤ (2 ^ 63 - 1) / j := Int.le_ediv_of_mul_le (by omega) (by rw [← e]; omega)
    omega
  · show decide (x.length * j.toNat > sizeLine) = false
    exact decide_eq_false (by omega)
  · by_cases h : j < 1
    · rw [if_pos h]
      have e : repS x j.toNat = Str.empty := by
        have : j.toNat = 0 := by omega
        rw [this]
        rfl
      refine ⟨by decide, ?_⟩
      rw [e] at q
      exact ⟨.str Str.empty, H, I.tok _, ⟨_, rfl⟩, q⟩
    · rw [if_neg h]
      split
      · rename_i hc
        have e : repS x j.toNat = x := by
          rw [Bool.or_eq_true] at hc
          rcases hc with hc | hc
          · have : j = 1 := by simpa using hc
            rw [this]
            show (⟨(List.replicate 1 x.cps.toList).flatten.toArray⟩ : Str) = x
            simp
          · have hx : x.cps.size = 0 := by
              have : x.length = 0 := by simpa using hc
              exact this
            have hx' : x.cps = #[] := Array.eq_empty_of_size_eq_zero hx
            obtain ⟨c⟩ := x
            have hx'' : c = #[] := hx'
            subst hx''
            show (⟨(List.replicate j.toNat ([] : List Nat)).flatten.toArray⟩ : Str) = ⟨#[]⟩
            simp
        rw [e] at q
        exact ⟨.str x, H, I, ⟨_, rfl⟩, q⟩
      · rw [repS_eq]
        refine ⟨by rw [repS_length]; exact hl, ?_⟩
        exact ⟨.str _, H, I.tok _, ⟨_, rfl⟩, q⟩
theorem reps_rep {G : Gr} {xs : List D} {vs : List V} (rs : Reps G xs vs) : ∀ k : Nat, Reps G (List.replicate k xs).flatten (List.replicate k vs).flatten
  | 0 => .nil
  | k + 1 => by rw [List.replicate_succ, List.flatten_cons, List.replicate_succ, List.flatten_cons]; exact rs.append (reps_rep rs k)
theorem rep_list {pins : List (Addr × Obj)} {s : Shared} {σ : L2.St} {H : Hp} {a : Addr} {xs : List V} {k : Int} {t : Tok} {Q : VK} (I : Inv X pins σ H s) (hH : Rd H a (.lst xs)) (h2 : k < 2 ^ 24) (h1 : -(2 ^ 24) < k) (hz : xs.length * k.toNat ≤ sizeLine)
    (q : ∀ p, H p = none → Q (.ref p) (upd H p (.lst (List.replicate k.toNat xs).flatten))) : wpAny (model X.prog X.w) X.A (binaryOp .Mult (.ref a) (.int k t)) (EP X pins σ Q) X.xe s := by
  obtain ⟨z, its, n, r, e⟩ := hH.ok I.hok
  have hl := r.length
  have hlen : its.toArray.size * k.toNat ≤ sizeLine := by rw [List.size_toArray, ← hl]; exact hz
  have hcap : ¬ its.toArray.size * k.toNat > (2 ^ 63 - 1) / 8 := by
    have : (sizeLine : Nat) ≤ (2 ^ 63 - 1) / 8 := by decide
    omega
  have hfit : ¬ (!Builtin.List.listFitsIndex k) = true := by
    rw [fitsIndex_both (by omega) (by omega)]
    exact Bool.false_ne_true
  have hlong : ¬ Builtin.List.listTooLong (its.toArray.size * k.toNat) = true := by
    rw [notLongL hlen]
    exact Bool.false_ne_true
  have hnew : List.foldl (fun x1 x2 => x1 ++ x2) #[] (List.replicate (if its.toArray.isEmpty = true then 0 else k.toNat) its.toArray) = (List.replicate k.toNat its).flatten.toArray := by
    have f0 : ∀ m : Nat, List.foldl (fun x1 x2 => x1 ++ x2) #[] (List.replicate m its.toArray) = (List.replicate m its).flatten.toArray := fun m => by
      have := foldl_rep its m []
      rw [List.nil_append] at this
      exact this
    rw [f0]
    cases its with
    | nil => simp
    | cons a r' => rw [if_neg (by simp)]
  refine wpAny_binaryOp_repeat_ref (T := "list") (U := "int") (by decide) ⟨_, e, rfl⟩ (fun s' => typeIs_int s' k t) noFill_list_mul F.fills_int_mul F.slot_int_rmul repeat_list F.slot_int_index.lookup
    (call_meets F.slot_int_rmul (typeIs_int s k t) F.entry_int_rmul (F.args_int_rmul_2 _ _) (int___rmul___int_list k t a its.toArray n)
      ⟨e, rfl, ⟨_, e, rfl⟩, call_meets F.slot_list_mul ⟨_, e, rfl⟩ F.entry_list_mul (F.args_list_mul_2 _ _) (AutoListH.list___mul___list_int_3 a its.toArray n k t hfit hcap hlong) ⟨e, ?_⟩⟩)
  rw [hnew]
  exact ⟨.ref _, _, I.lnew (t' := s.toks) (r.rep k.toNat) (by rw [PyProof.Rows.lm_len_rep_flat, Nat.mul_comm]; exact hz), rfl, q _ I.fresh⟩
theorem opMul_ok : OpOk X (binaryOp .Mult) opMul := by
  intro pins s σ H x y v u Q I rx ry h
  obtain ⟨W, a, b, d, rfl, hold, ra, rb, e, out⟩ := h
  unfold opMul at e
  split at e
  · unfold opMulI at e
    split at e
    · rename_i hc
      rw [Bool.and_eq_true] at hc
      have h1 := szOk_bits hc.1
      have h2 := szOk_bits hc.2
      cases e; cases ra; cases rb
      exact op_mulX pins s σ _ _ _ v u Q I rx ry ⟨_, _, rfl, rfl, by unfold CMulX; omega, outR.here out hold (.int _)⟩
    · cases e
  · split at e
    · rename_i hc
      cases e; cases ra; cases rb
      obtain ⟨t, rfl⟩ := rx
      obtain ⟨t', rfl⟩ := ry
      exact mul_str_ok I hc.1 hc.2.1 hc.2.2 (outR.here (x := V.str _) out hold (Rep.str _))
    · cases e
  · split at e
    · rename_i xs h1
      split at e
      · rename_i hc
        cases e
        cases rb
        obtain ⟨p, vs, rfl, hp, rs⟩ := seqL_ok hold ra h1
        cases rx
        obtain ⟨t, rfl⟩ := ry
        refine rep_list I (Wd.full_rd hp) hc.1 hc.2.1 (by rw [← rs.length]; exact hc.2.2) fun p hn => ?_
        obtain ⟨n1, n2⟩ := Wd.full_none hn
        refine outR.new out hold hn (.lst (.inl upd_same) (fz_new (H := W.H) (F := W.F) hold n1 _) (Reps.mono (ext_new (M := W.M) (S := W.S) (F := W.F) n1).le ?_))
        exact reps_rep rs _
      · cases e
    · cases e
  · cases e
end
end Lc

set_option maxHeartbeats 2000000
/-! Lc, part I: comparisons. -/
namespace Lc
open PySem PySem.Spec PyProof.Rows L2
mutual
/-- data that == walks -/
def toPy : D → Option PyData
  | .non => some .none
  | .bl b => some (.bool b)
  | .int i => some (.int i)
  | .str x => some (.str x)
  | .tup xs => (toPys xs).map .tuple
  | .lst xs => (toPys xs).map .list
  | _ => none
def toPys : List D → Option (List PyData)
  | [] => some []
  | x :: xs => match toPy x, toPys xs with
    | some p, some ps => some (p :: ps)
    | _, _ => none
end
mutual
theorem rep_dp {G : Gr} {K : PySem.W.Frag} {H : Hp} (hH : ∀ a u, Rd G.H a u → Rd H a u) : ∀ (x : D) {v : V} {p : PyData}, Rep G x v → toPy x = some p → Dp K H v p
  | .non, _, _, .non, h => by cases h; exact .non
  | .bl b, _, _, .bl _, h => by cases h; exact .bl b
  | .int i, _, _, .int _, h => by cases h; exact .int i
  | .str x, _, _, .str _, h => by cases h; exact .str x
  | .ty n, _, _, _, h => by cases h
  | .tup xs, _, _, .tup h1 z r, h => by
    simp only [toPy] at h
    cases e : toPys xs with
    | none => rw [e] at h; cases h
    | some ps =>
      rw [e] at h
      cases h
      exact .tup (.inl (hH _ _ h1)) (reps_dp hH xs r e)
  | .lst xs, _, _, .lst h1 z r, h => by
    simp only [toPy] at h
    cases e : toPys xs with
    | none => rw [e] at h; cases h
    | some ps =>
      rw [e] at h
      cases h
      exact .lst (.inl (hH _ _ h1)) (reps_dp hH xs r e)
  | .dic _, _, _, _, h => by cases h
  | .ins _ _, _, _, _, h => by cases h
  | .exc _ _, _, _, _, h => by cases h
theorem reps_dp {G : Gr} {K : PySem.W.Frag} {H : Hp} (hH : ∀ a u, Rd G.H a u → Rd H a u) : ∀ (xs : List D) {vs : List V} {ps : List PyData}, Reps G xs vs → toPys xs = some ps → DpAll K H vs ps
  | [], _, _, .nil, h => by cases h; exact .nil
  | x :: xs, _, _, .cons r t, h => by
    simp only [toPys] at h
    cases e1 : toPy x with
    | none => rw [e1] at h; cases h
    | some p =>
      cases e2 : toPys xs with
      | none => rw [e1, e2] at h; cases h
      | some ps =>
        rw [e1, e2] at h
        cases h
        exact .cons (rep_dp hH x r e1) (reps_dp hH xs t e2)
end
def viewP (S : Store) : Val → Option PyData
  | .d x => toPy x
  | .ref n => match S[n]? with
    | some (.live _ (.lst xs)) => (toPys xs).map .list
    | _ => none
def eqB (S : Store) (v u : Val) : Option Bool := match v, u with
  | .d (.int i), .d (.int j) => some (i == j)
  | .d (.str a), .d (.str b) => some (a == b)
  | .d (.bl a), .d (.bl b) => some (a == b)
  | v, u => match viewP S v, viewP S u with
    | some p, some q => if SeqAt.shaped p && SeqAt.shaped q then some (PyData.eqv p q) else none
    | _, _ => none
def opEq : F2 := fun S v u => (eqB S v u).map .bl
def opNe : F2 := fun S v u => (eqB S v u).map fun k => .bl (!k)
section
variable {X : Cx} {w : World} {mg : Str → Option Value} {W : Wd}
theorem view_dp {K : PySem.W.Frag} {v : Val} {x : V} {p : PyData} (hold : Hold w mg W) (r : RepV w mg W v x) (e : viewP W.S v = some p) : Dp K W.full x p := by
  cases v with
  | d y => exact rep_dp (G := W.gr w mg) (fun a u h => Wd.full_rd h) y r e
  | ref n =>
    simp only [viewP] at e
    split at e
    · rename_i lk xs hs
      obtain ⟨a, vs, rfl, h, rs⟩ := seqL_ok (xs := xs) hold r (by simp [seqL, hs])
      cases e2 : toPys xs with
      | none => rw [e2] at e; cases e
      | some ps =>
        rw [e2] at e
        cases e
        exact .lst (.inl (Wd.full_rd h)) (reps_dp (G := W.gr w mg) (fun a u h => Wd.full_rd h) xs rs e2)
    · cases e
theorem eqB_cases {v u : Val} {k : Bool} {x y : V} (hold : Hold w mg W) (ra : RepV w mg W v x) (rb : RepV w mg W u y) (e : eqB W.S v u = some k) :
    (scal x y = true ∧ decide (x = y) = k) ∨ ∃ p q, viewP W.S v = some p ∧ viewP W.S u = some q ∧ SeqAt.shaped p = true ∧ SeqAt.shaped q = true ∧ PyData.eqv p q = k := by
  unfold eqB at e
  split at e
  · cases e; cases ra; cases rb
    exact .inl ⟨rfl, by rw [dec_int]⟩
  · cases e; cases ra; cases rb
    exact .inl ⟨rfl, by rw [dec_str]⟩
  · cases e; cases ra; cases rb
    exact .inl ⟨rfl, by rw [dec_bl]⟩
  · split at e
    · rename_i p q h1 h2
      split at e
      · rename_i hc
        rw [Bool.and_eq_true] at hc
        cases e
        exact .inr ⟨p, q, h1, h2, hc.1, hc.2, rfl⟩
      · cases e
    · cases e
theorem opEq_ok (hu : X.A.units + 64 < cLine) : OpOk X (compareOp .Eq) opEq := by
  intro pins s σ H x y v u Q I rx ry h
  obtain ⟨W, a, b, d, rfl, hold, ra, rb, e, out⟩ := h
  unfold opEq at e
  cases ek : eqB W.S a b with
  | none => rw [ek] at e; cases e
  | some k =>
    rw [ek] at e
    cases e
    have q := outR.here (x := V.bl k) out hold (.bl k)
    rcases eqB_cases hold ra rb ek with ⟨h1, h2⟩ | ⟨p, p2, h1, h2, h3, h4, h5⟩
    · exact op_eq pins s σ _ _ _ v u Q I rx ry ⟨h1, by rw [h2]; exact q⟩
    · exact op_eqD hu pins s σ _ _ _ v u Q I rx ry ⟨p, p2, view_dp hold ra h1, view_dp hold rb h2, h3, h4, by rw [h5]; exact q⟩
theorem opNe_ok (hu : X.A.units + 64 < cLine) : OpOk X (compareOp .NotEq) opNe := by
  intro pins s σ H x y v u Q I rx ry h
  obtain ⟨W, a, b, d, rfl, hold, ra, rb, e, out⟩ := h
  unfold opNe at e
  cases ek : eqB W.S a b with
  | none => rw [ek] at e; cases e
  | some k =>
    rw [ek] at e
    cases e
    have q := outR.here (x := V.bl (!k)) out hold (.bl _)
    rcases eqB_cases hold ra rb ek with ⟨h1, h2⟩ | ⟨p, p2, h1, h2, h3, h4, h5⟩
    · exact op_ne pins s σ _ _ _ v u Q I rx ry ⟨h1, by rw [h2]; exact q⟩
    · exact op_neD hu pins s σ _ _ _ v u Q I rx ry ⟨p, p2, view_dp hold ra h1, view_dp hold rb h2, h3, h4, by rw [h5]; exact q⟩
def opLt : F2 := op2I fun i j => some (.bl (decide (i < j)))
def opLe : F2 := op2I fun i j => some (.bl (decide (i ≤ j)))
def opGt : F2 := op2I fun i j => some (.bl (decide (j < i)))
def opGe : F2 := op2I fun i j => some (.bl (decide (j ≤ i)))
theorem opLt_ok : OpOk X (compareOp .Lt) opLt := op2I_ok fun i j d e => by
  cases e
  exact ⟨.bl (decide (i < j)), fun _ => .bl _, OpR.imp op_lt fun x y H Q ⟨e1, e2, q⟩ => ⟨i, j, e1, e2, q⟩⟩
theorem opLe_ok : OpOk X (compareOp .LtE) opLe := op2I_ok fun i j d e => by
  cases e
  exact ⟨.bl (decide (i ≤ j)), fun _ => .bl _, OpR.imp op_le fun x y H Q ⟨e1, e2, q⟩ => ⟨i, j, e1, e2, q⟩⟩
theorem opGt_ok : OpOk X (compareOp .Gt) opGt := op2I_ok fun i j d e => by
  cases e
  exact ⟨.bl (decide (j < i)), fun _ => .bl _, OpR.imp op_gt fun x y H Q ⟨e1, e2, q⟩ => ⟨i, j, e1, e2, q⟩⟩
theorem opGe_ok : OpOk X (compareOp .GtE) opGe := op2I_ok fun i j d e => by
  cases e
  exact ⟨.bl (decide (j ≤ i)), fun _ => .bl _, OpR.imp op_ge fun x y H Q ⟨e1, e2, q⟩ => ⟨i, j, e1, e2, q⟩⟩
/-- is None -/
def isN : Val → Bool
  | .d .non => true
  | _ => false
theorem isN_ok {v : Val} {x : V} (r : RepV w mg W v x) : decide (x = .non) = isN v := by
  cases v with
  | ref n => obtain ⟨a, _, rfl⟩ := r; rfl
  | d y => cases r <;> rfl
def opIsN : F2 := fun _ v u => match u with
  | .d .non => some (.bl (isN v))
  | _ => none
def opNotN : F2 := fun _ v u => match u with
  | .d .non => some (.bl (!isN v))
  | _ => none
theorem opIsN_ok : OpOk X (compareOp .Is) opIsN := by
  intro pins s σ H x y v u Q I rx ry h
  obtain ⟨W, a, b, d, rfl, hold, ra, rb, e, out⟩ := h
  unfold opIsN at e
  split at e
  · cases e; cases rb
    exact op_isN pins s σ _ _ _ v u Q I rx ry ⟨rfl, by rw [isN_ok ra]; exact outR.here (x := V.bl _) out hold (.bl _)⟩
  · cases e
theorem opNotN_ok : OpOk X (compareOp .IsNot) opNotN := by
  intro pins s σ H x y v u Q I rx ry h
  obtain ⟨W, a, b, d, rfl, hold, ra, rb, e, out⟩ := h
  unfold opNotN at e
  split at e
  · cases e; cases rb
    exact op_notN pins s σ _ _ _ v u Q I rx ry ⟨rfl, by rw [isN_ok ra]; exact outR.here (x := V.bl _) out hold (.bl _)⟩
  · cases e
/-! ### in -/
def flatD : D → Bool
  | .non => true
  | .bl _ => true
  | .int _ => true
  | .str _ => true
  | _ => false
def eqFlat : D → D → Bool
  | .non, .non => true
  | .bl a, .bl b => a == b
  | .bl a, .int b => (if a then 1 else 0) == b
  | .int a, .bl b => a == (if b then 1 else 0)
  | .int a, .int b => a == b
  | .str a, .str b => a == b
  | _, _ => false
def sign1 (x : Str) : Option Nat := match x.cps.toList with
  | [c] => some c
  | _ => none
theorem sign1_eq {x : Str} {c : Nat} (h : sign1 x = some c) : x = ⟨#[c]⟩ := by
  unfold sign1 at h
  split at h
  · rename_i c' e
    cases h
    obtain ⟨l⟩ := x
    have e' : l.toList = [c] := e
    congr 1
    rw [← Array.toArray_toList (xs := l), e']
  · cases h
def inB (S : Store) (v u : Val) : Option Bool := match v, u with
  | .d (.str x), .d (.str z) => (sign1 x).map fun c => decide (c ∈ z.cps.toList)
  | .d x, u => match seqA S u with
    | some xs => if flatD x && xs.all flatD then some (xs.any fun y => eqFlat y x) else none
    | none => none
  | _, _ => none
theorem flat_ok {G : Gr} {x : D} {v : V} (r : Rep G x v) (h : flatD x = true) : flatV v = true := by cases r <;> first | rfl | cases h
theorem eqFlat_ok {G : Gr} {x y : D} {v u : V} (r : Rep G x v) (q : Rep G y u) (h : flatD x = true) (h' : flatD y = true) : eqV v u = eqFlat x y := by
  cases r <;> cases q <;> first | rfl | cases h | cases h'
theorem all_flat {G : Gr} : ∀ {xs : List D} {vs : List V}, Reps G xs vs → xs.all flatD = true → vs.all flatV = true
  | _, _, .nil, _ => rfl
  | _, _, .cons r t, h => by
    rw [List.all_cons, Bool.and_eq_true] at h ⊢
    exact ⟨flat_ok r h.1, all_flat t h.2⟩
theorem any_flat {G : Gr} {x : D} {v : V} (q : Rep G x v) (hx : flatD x = true) : ∀ {xs : List D} {vs : List V}, Reps G xs vs → xs.all flatD = true → inV v vs = xs.any fun y => eqFlat y x
  | _, _, .nil, _ => rfl
  | _, _, .cons r t, h => by
    rw [List.all_cons, Bool.and_eq_true] at h
    show ((eqV _ v) || inV v _) = _
    rw [eqFlat_ok r q h.1 hx, any_flat q hx t h.2]
    rfl
def opIn : F2 := fun S v u => (inB S v u).map .bl
def opNotIn : F2 := fun S v u => (inB S v u).map fun k => .bl (!k)
theorem opIn_ok : OpOk X (compareOp .In) opIn := by
  intro pins s σ H x y v u Q I rx ry h
  obtain ⟨W, a, b, d, rfl, hold, ra, rb, e, out⟩ := h
  unfold opIn at e
  cases ek : inB W.S a b with
  | none => rw [ek] at e; cases e
  | some k =>
    rw [ek] at e
    cases e
    have q := outR.here (x := V.bl k) out hold (.bl k)
    unfold inB at ek
    split at ek
    · rename_i x z
      cases es : sign1 x with
      | none => rw [es] at ek; cases ek
      | some c =>
        rw [es] at ek
        cases ek
        have := sign1_eq es
        subst this
        cases ra; cases rb
        exact op_in_sign pins s σ _ _ _ v u Q I rx ry ⟨_, _, rfl, rfl, q⟩
    · split at ek
      · rename_i xs hs
        split at ek
        · rename_i hc
          rw [Bool.and_eq_true] at hc
          cases ek
          obtain ⟨p, vs, rfl, hp, rs⟩ := seqA_ok hold rb hs
          refine op_in_seq pins s σ _ _ _ v u Q I rx ry ⟨p, vs, rfl, hp.imp .inl .inl, flat_ok ra hc.1, all_flat rs hc.2, ?_⟩
          rw [if_neg Bool.false_ne_true, any_flat ra hc.1 rs hc.2]
          exact q
        · cases ek
      · cases ek
    · cases ek
theorem opNotIn_ok : OpOk X (compareOp .NotIn) opNotIn := by
  intro pins s σ H x y v u Q I rx ry h
  obtain ⟨W, a, b, d, rfl, hold, ra, rb, e, out⟩ := h
  unfold opNotIn at e
  cases ek : inB W.S a b with
  | none => rw [ek] at e; cases e
  | some k =>
    rw [ek] at e
    cases e
    have q := outR.here (x := V.bl (!k)) out hold (.bl _)
    unfold inB at ek
    split at ek
    · rename_i x z
      cases es : sign1 x with
      | none => rw [es] at ek; cases ek
      | some c =>
        rw [es] at ek
        cases ek
        have := sign1_eq es
        subst this
        cases ra; cases rb
        exact op_notIn_sign pins s σ _ _ _ v u Q I rx ry ⟨_, _, rfl, rfl, q⟩
    · split at ek
      · rename_i xs hs
        split at ek
        · rename_i hc
          rw [Bool.and_eq_true] at hc
          cases ek
          obtain ⟨p, vs, rfl, hp, rs⟩ := seqA_ok hold rb hs
          refine op_notIn_seq pins s σ _ _ _ v u Q I rx ry ⟨p, vs, rfl, hp.imp .inl .inl, flat_ok ra hc.1, all_flat rs hc.2, ?_⟩
          rw [if_pos rfl, any_flat ra hc.1 rs hc.2]
          exact q
        · cases ek
      · cases ek
    · cases ek
/-! ### -x -/
abbrev F1' := Store → Val → Option D
def UnOk (X : Cx) (F : Value → Sem Value) (f : F1') : Prop := UnR X F (fun x H Q => ∃ (W : Wd) (v : Val) (d : D), W.full = H ∧ Hold X.w X.mg W ∧ RepV X.w X.mg W v x ∧ f W.S v = some d ∧ outR X.w X.mg (.ok (.d d) W.S) W (RepV X.w X.mg) (fun _ _ _ => False) Q)
def mUn (f : F1') (m : ME) : ME := fun ρ S => (m ρ S).bind fun v S1 => okD (f S1 v) S1
theorem ce_un {a : Expr} {pos : Pos} {op : UnaryOp} {f : F1'} {ma : ME} (ho : UnOk X (unaryOp op) f) (ha : CE X a ma) : CE X (.UnaryOp op a pos) (mUn f ma) := fun E tk => PE.imp (pe_un ho (ha E tk)) fun σ H Q h => by
  obtain ⟨W, ρ, rfl, hold, rel, out⟩ := h
  refine ⟨W, ρ, rfl, hold, rel, outR.mono (outR.bind (Rl := RepV X.w X.mg) hold out) (fun x H1 h1 => ?_) fun _ _ _ z => z⟩
  obtain ⟨W1, a, rfl, e1, hold1, r1, out1⟩ := h1
  obtain ⟨d, q1, q2⟩ := outR.okD_out out1
  exact ⟨W1, a, d, rfl, hold1, r1, q1, q2⟩
def opNeg : F1' := fun _ v => match v with
  | .d (.int i) => some (.int (-i))
  | _ => none
theorem opNeg_ok : UnOk X (unaryOp .USub) opNeg := by
  intro pins s σ H x v Q I rx h
  obtain ⟨W, a, d, rfl, hold, ra, e, out⟩ := h
  unfold opNeg at e
  split at e
  · cases e; cases ra
    exact un_neg pins s σ _ _ v Q I rx ⟨_, rfl, outR.here (x := V.int _) out hold (.int _)⟩
  · cases e
end
end Lc

set_option maxHeartbeats 2000000
/-! Lc, part J: items, slices, built-ins. -/
namespace Lc
open PySem PySem.Spec PyProof.Rows L2
section
variable {X : Cx} {pos : Pos} {w : World} {mg : Str → Option Value} {W : Wd}
theorem atI_reps {G : Gr} {xs : List D} {vs : List V} {i : Int} {x : D} (r : Reps G xs vs) (h : atI xs i = some x) : ∃ v, atI vs i = some v ∧ Rep G x v := by
  unfold atI at h ⊢
  rw [← r.length]
  cases e : ixN xs.length i with
  | none => rw [e] at h; cases h
  | some j =>
    rw [e] at h
    exact r.get h
/-! ### x[i] -/
def opIx : F2 := fun S v u => match v, u with
  | .d (.str z), .d (.int i) => if z.length ≤ sizeLine then (atI z.cps.toList i).map fun c => .str ⟨#[c]⟩ else none
  | v, .d (.int i) => match seqA S v with
    | some xs => atI xs i
    | none => none
  | _, _ => none
def IxOk (X : Cx) (f : F2) : Prop := IxR X (rOp X.w X.mg f)
theorem opIx_ok : IxOk X opIx := by
  intro value slice pins s σ H x y v u Q I rx ry h hs
  obtain ⟨W, a, b, d, rfl, hold, ra, rb, e, out⟩ := h
  unfold opIx at e
  split at e
  · split at e
    · rename_i z i hz
      cases ec : atI z.cps.toList i with
      | none => rw [ec] at e; cases e
      | some c =>
        rw [ec] at e
        cases e; cases ra; cases rb
        exact ix_str value slice pins s σ _ _ _ v u Q I rx ry ⟨_, _, c, rfl, rfl, hz, ec, outR.here (x := V.str _) out hold (.str _)⟩ hs
    · cases e
  · split at e
    · rename_i xs hx
      cases rb
      obtain ⟨p, vs, rfl, hp, rs⟩ := seqA_ok hold ra hx
      obtain ⟨z, h1, h2⟩ := atI_reps rs e
      have q := outR.here (x := z) out hold h2
      rcases hp with hp | hp
      · exact ix_list value slice pins s σ _ _ _ v u Q I rx ry ⟨p, vs, _, z, rfl, rfl, .inl hp, h1, q⟩ hs
      · exact ix_tup value slice pins s σ _ _ _ v u Q I rx ry ⟨p, vs, _, z, rfl, rfl, .inl hp, h1, q⟩ hs
    · cases e
  · cases e
variable {a b : Expr} {ma mb : ME}
theorem ce_ix {f : F2} (ho : IxOk X f) (ha : CE X a ma) (hb : CE X b mb) (hs : PlainIx b := by exact fun _ _ => rfl) : CE X (.Subscript a b pos) (mBin f ma mb) := fun E tk => PE.imp (pe_ix ho (ha E tk) (hb E tk) hs) fun σ H Q h => op2_in h
/-! ### slices -/
def cutD (xs : List D) (lo hi : Option Int) : List D := (xs.drop (HT.sIx xs.length 0 lo)).take (HT.sIx xs.length xs.length hi - HT.sIx xs.length 0 lo)
abbrev MO := Loc → Store → R (Option Int)
def tO (w : World) (mg : Str → Option Value) (m : MO) (E : WX) : TO := fun σ H Q => ∃ (W : Wd) (ρ : Loc), W.full = H ∧ Hold w mg W ∧ RelL w mg W ρ σ ∧ outR w mg (m ρ W.S) W (fun _ b c => b = c) (fun c d H' => E c d σ H') Q
def CO (X : Cx) (e : Option Expr) (m : MO) : Prop := ∀ E : WX, Takes X E → PO X e (tO X.w X.mg m E)
def moN : MO := fun _ S => .ok none S
def moS (m : ME) : MO := fun ρ S => (m ρ S).bind fun v S1 => match v with
  | .d (.int i) => .ok (some i) S1
  | _ => .bad
theorem co_none : CO X none moN := fun E tk => ⟨fun pins s σ H Q I h => po_none.run pins s σ H Q I (by
  obtain ⟨W, ρ, rfl, hold, rel, out⟩ := h
  exact outR.here out hold rfl)⟩
theorem co_some {e : Expr} {m : ME} (h : CE X e m) : CO X (some e) (moS m) := fun E tk => ⟨fun pins s σ H Q I h0 => (po_some (h E tk)).run pins s σ H Q I (by
  obtain ⟨W, ρ, rfl, hold, rel, out⟩ := h0
  refine ⟨W, ρ, rfl, hold, rel, outR.mono (outR.bind (Rl := RepV X.w X.mg) hold out) (fun x H1 h1 => ?_) fun _ _ _ z => z⟩
  obtain ⟨W1, v, rfl, e1, hold1, r1, out1⟩ := h1
  split at out1
  · cases r1
    exact ⟨_, rfl, outR.here out1 hold1 rfl⟩
  · exact out1.elim)⟩
/-- a slice by values -/
def slF (S : Store) (v : Val) (lo hi : Option Int) : Option D := match v with
  | .d (.str z) => if z.length ≤ sizeLine then some (.str (cutS z lo hi)) else none
  | .d (.tup xs) => some (.tup (cutD xs lo hi))
  | v => (seqL S v).map fun xs => .lst (cutD xs lo hi)
def mSl (m : ME) (lo hi : MO) : ME := fun ρ S => (m ρ S).bind fun v S1 => (lo ρ S1).bind fun l S2 => (hi ρ S2).bind fun h S3 => okD (slF S3 v l h) S3
theorem cutD_reps {G : Gr} {xs : List D} {vs : List V} (r : Reps G xs vs) (lo hi : Option Int) : Reps G (cutD xs lo hi) (cutV vs lo hi) := by
  unfold cutD cutV
  rw [r.length]
  exact (r.drop _).take _
theorem cutV_whole {vs : List V} {lo hi : Option Int} (h : HT.sIx vs.length 0 lo = 0 ∧ HT.sIx vs.length vs.length hi = vs.length) : cutV vs lo hi = vs := by
  unfold cutV
  rw [h.1, h.2]
  simp
theorem sl_any : SlR X (fun x lo hi H Q => ∃ (W : Wd) (v : Val) (d : D), W.full = H ∧ Hold X.w X.mg W ∧ RepV X.w X.mg W v x ∧ slF W.S v lo hi = some d ∧ outR X.w X.mg (.ok (.d d) W.S) W (RepV X.w X.mg) (fun _ _ _ => False) Q) := by
  intro pins s σ H x v vl vu lo hi sl Q I rx hs pl pu h
  obtain ⟨W, a, d, rfl, hold, ra, e, out⟩ := h
  unfold slF at e
  split at e
  · split at e
    · rename_i z hz
      cases e; cases ra
      exact sl_str pins s σ _ _ v vl vu lo hi sl Q I rx hs pl pu ⟨_, rfl, hz, outR.here (x := V.str _) out hold (.str _)⟩
    · cases e
  · rename_i xs
    cases e
    cases ra with
    | tup hp z rs =>
      rename_i vs p
      refine sl_tupA pins s σ _ _ v vl vu lo hi sl Q I rx hs pl pu ⟨p, vs, rfl, .inl (Wd.full_rd hp), fun hw => ?_, fun hw q hq => ?_⟩
      · refine outR.here out hold (.tup hp z ?_)
        have e2 := cutD_reps rs lo hi
        rw [cutV_whole hw] at e2
        exact e2
      · obtain ⟨n1, n2⟩ := Wd.full_none hq
        exact outR.new out hold hq (.tup (.inl upd_same) (fz_new (H := W.H) (F := W.F) hold n1 _) ((cutD_reps rs lo hi).mono (ext_new (M := W.M) (S := W.S) (F := W.F) n1).le))
  · cases ex : seqL W.S a with
    | none => rw [ex] at e; cases e
    | some xs =>
      rw [ex] at e
      cases e
      obtain ⟨p, vs, rfl, hp, rs⟩ := seqL_ok hold ra ex
      refine sl_list pins s σ _ _ v vl vu lo hi sl Q I rx hs pl pu ⟨p, vs, rfl, .inl (Wd.full_rd hp), fun q hq => ?_⟩
      obtain ⟨n1, n2⟩ := Wd.full_none hq
      exact outR.new out hold hq (.lst (.inl upd_same) (fz_new (H := W.H) (F := W.F) hold n1 _) ((cutD_reps rs lo hi).mono (ext_new (M := W.M) (S := W.S) (F := W.F) n1).le))
theorem ce_sl {e : Expr} {lo hi : Option Expr} {p2 : Pos} {m : ME} {ml mh : MO} (he : CE X e m) (hl : CO X lo ml) (hh : CO X hi mh) : CE X (.Subscript e (.Slice lo hi none p2) pos) (mSl m ml mh) := fun E tk => PE.imp (pe_slice sl_any (he E tk) (hl E tk) (hh E tk)) fun σ H Q h => by
  obtain ⟨W, ρ, rfl, hold, rel, out⟩ := h
  refine ⟨W, ρ, rfl, hold, rel, outR.mono (outR.bind (Rl := RepV X.w X.mg) hold out) (fun x H1 h1 => ?_) fun _ _ _ z => z⟩
  obtain ⟨W1, v, rfl, e1, hold1, r1, out1⟩ := h1
  refine ⟨W1, ρ, rfl, hold1, rel.mono e1, outR.mono (outR.bind (Rl := fun _ b c => b = c) hold1 out1) (fun l H2 h2 => ?_) fun _ _ _ z => z⟩
  obtain ⟨W2, l', rfl, e2, hold2, r2, out2⟩ := h2
  subst r2
  refine ⟨W2, ρ, rfl, hold2, (rel.mono e1).mono e2, outR.mono (outR.bind (Rl := fun _ b c => b = c) hold2 out2) (fun l H2 h2 => ?_) fun _ _ _ z => z⟩
  obtain ⟨W3, h', rfl, e3, hold3, r3, out3⟩ := h2
  subst r3
  obtain ⟨d, q1, q2⟩ := outR.okD_out out3
  exact ⟨W3, v, d, rfl, hold3, (e2.trans e3 hold1 hold2).repV r1, q1, q2⟩
/-! ### x[::-1] -/
def tRevS (te : TE) : TE := fun σ H Q => te σ H fun x H1 => ∃ z : Str, x = .str z ∧ z.length ≤ sizeLine ∧ Q (.str ⟨z.cps.toList.reverse.toArray⟩) H1
theorem strSlice_rev (z : Str) : ((Builtin.Str.strSliceIndices none none (-1) z.length).filterMap (z.cps[·]?)).toArray = z.cps.toList.reverse.toArray := by
  have e : Builtin.Str.strSliceIndices none none (-1) z.length = (List.range z.cps.size).map fun k => z.cps.size - 1 - k := PySem.W.krv_sliceRange z.cps.size
  rw [e, PySem.W.krv_range, List.filterMap_reverse, PySem.W.krv_all]
theorem pe_revS {e : Expr} {te : TE} {k : Nat} {p1 p2 p3 pos : Pos} (he : PE X e te) : PE X (.Subscript e (.Slice none none (some (.UnaryOp .USub (.Constant (.int 1) k p1) p2)) p3) pos) (tRevS te) := by
  refine ⟨fun pins s σ H Q I h => ?_⟩
  refine Subscript_ (thn (he.run pins s σ H _ I h) fun v s1 ⟨x, H1, I1, r1, q1⟩ => ?_)
  obtain ⟨z, ex, hz, q⟩ := q1
  subst ex
  obtain ⟨t, rfl⟩ := r1
  have hst : PO X (some (.UnaryOp .USub (.Constant (.int 1) k p1) p2)) (tPart (tUn (rU fun i => .int (-i)) (tC (.int 1)))) := po_some (pe_un un_neg pe_int)
  refine wpAny_Slice (thn (po_none.run pins s1 σ H1 (fun o H2 => o = none ∧ H2 = H1) I1 ⟨rfl, rfl⟩) fun vl s2 ⟨l, H2, I2, pl, el, e2⟩ => ?_)
  subst el e2
  refine thn (po_none.run pins s2 σ H2 (fun o H3 => o = none ∧ H3 = H2) I2 ⟨rfl, rfl⟩) fun vu s3 ⟨u, H3, I3, pu, eu, e3⟩ => ?_
  subst eu e3
  refine thn (hst.run pins s3 σ H3 (fun o H4 => o = some (-1) ∧ H4 = H3) I3 ⟨1, rfl, -1, rfl, rfl, rfl⟩) fun vs s4 ⟨o, H4, I4, ps, eo, e4⟩ => ?_
  subst eo e4
  have I5 : Inv X pins σ H4 { s4 with heap := s4.heap.push { cls := .type "slice", data := .fields #[vl, vu, vs] } } := I4.kept (t' := s4.toks) fun b ob q => Heap.get?_push_of_some _ q
  show wpAny (model X.prog X.w) X.A (subscriptTail e (.Slice none none (some (.UnaryOp .USub (.Constant (.int 1) k p1) p2)) p3) (.str z t) (.ref s4.heap.objs.size)) (EP X pins σ Q) X.xe { s4 with heap := s4.heap.push { cls := .type "slice", data := .fields #[vl, vu, vs] } }
  refine tail_any (ops := [.str z t, .ref s4.heap.objs.size]) (typeIs_str _ _ _) (F.slot_str_getitem.lookup) ?_ (by with_unfolding_all rfl)
  obtain ⟨l, hl1, hl2⟩ := IsPart.raw pl
  obtain ⟨u, hu1, hu2⟩ := IsPart.raw pu
  obtain ⟨st, hs1, hs2⟩ := IsPart.raw ps
  have hl3 : l = none := by cases l with | none => rfl | some _ => cases hl2
  have hu3 : u = none := by cases u with | none => rfl | some _ => cases hu2
  obtain ⟨tk, hs3⟩ : ∃ tk, st = some (-1, tk) := by
    cases st with
    | none => cases hs2
    | some p =>
      obtain ⟨a, b⟩ := p
      have e : a = (-1 : Int) := Option.some.inj hs2
      exact ⟨b, by rw [e]⟩
  subst hl3 hu3 hs3 hl1 hu1 hs1
  refine wpAny_getItem_str_slice (l := none) (u := none) (st := some (-1, tk)) (Heap.IsSliceOf.new _ _ _ _) rfl ?_
  show Made.post (if ((-1 : Int) == 1 && (Builtin.Str.strSliceIndices none none (-1) z.length).length == z.length) = true then Made.val (.str z t)
    else Made.str ⟨((Builtin.Str.strSliceIndices none none (-1) z.length).filterMap (z.cps[·]?)).toArray⟩) (EP X pins σ Q) _
  rw [if_neg (by simp), strSlice_rev]
  exact ⟨by show z.cps.toList.reverse.toArray.size ≤ _; simp; exact hz, .str _, H4, I5.tok _, ⟨_, rfl⟩, q⟩
def revF (S : Store) (v : Val) : Option D := match v with
  | .d (.str z) => if z.length ≤ sizeLine then some (.str ⟨z.cps.toList.reverse.toArray⟩) else none
  | v => (seqL S v).map fun xs => .lst xs.reverse
def mRev (m : ME) : ME := fun ρ S => (m ρ S).bind fun v S1 => okD (revF S1 v) S1
theorem ce_rev {e : Expr} {k : Nat} {p1 p2 p3 pos : Pos} {m : ME} (he : CE X e m) : CE X (.Subscript e (.Slice none none (some (.UnaryOp .USub (.Constant (.int 1) k p1) p2)) p3) pos) (mRev m) := fun E tk => by
  refine ⟨fun pins s σ H Q I h => ?_⟩
  obtain ⟨W, ρ, rfl, hold, rel, out⟩ := h
  -- by the value that e has
  cases ev : m ρ W.S with
  | bad => unfold mRev at out; rw [ev] at out; exact out.elim
  | err x S' =>
    refine (pe_revS (he E tk)).run pins s σ _ Q I ⟨W, ρ, rfl, hold, rel, ?_⟩
    unfold mRev at out
    rw [ev] at out ⊢
    exact out
  | ok v S1 =>
    unfold mRev at out
    rw [ev] at out
    have out : outR X.w X.mg (okD (revF S1 v) S1) W (RepV X.w X.mg) (fun c d H' => E c d σ H') Q := out
    have done : ∀ (W1 : Wd) (x : V), W1.S = S1 → Ext W W1 → Hold X.w X.mg W1 → RepV X.w X.mg W1 v x → ∃ d, revF W1.S v = some d ∧ outR X.w X.mg (.ok (.d d) W1.S) W1 (RepV X.w X.mg) (fun _ _ _ => False) Q := fun W1 x hs e ho r => by
      subst hs
      exact outR.okD_out (outR.shift e hold ho out)
    cases v with
    | ref n =>
      refine (pe_revL (he E tk)).run pins s σ _ Q I ⟨W, ρ, rfl, hold, rel, ?_⟩
      rw [ev]
      intro W1 x hs e ho r
      obtain ⟨d, q1, q2⟩ := done W1 x hs e ho r
      have q1 : (seqL W1.S (.ref n)).map (fun xs => D.lst xs.reverse) = some d := q1
      cases ex : seqL W1.S (.ref n) with
      | none => rw [ex] at q1; cases q1
      | some xs =>
        rw [ex] at q1
        cases q1
        obtain ⟨p, vs, rfl, hp, rs⟩ := seqL_ok ho r ex
        refine ⟨p, vs, rfl, .inl (Wd.full_rd hp), fun q hq => ?_⟩
        obtain ⟨n1, n2⟩ := Wd.full_none hq
        exact outR.new q2 ho hq (.lst (.inl upd_same) (fz_new (H := W1.H) (F := W1.F) ho n1 _) (rs.reverse.mono (ext_new (M := W1.M) (S := W1.S) (F := W1.F) n1).le))
    | d y =>
      cases y with
      | str z =>
        refine (pe_revS (he E tk)).run pins s σ _ Q I ⟨W, ρ, rfl, hold, rel, ?_⟩
        rw [ev]
        intro W1 x hs e ho r
        obtain ⟨d, q1, q2⟩ := done W1 x hs e ho r
        have q1 : (if z.length ≤ sizeLine then some (D.str ⟨z.cps.toList.reverse.toArray⟩) else none) = some d := q1
        split at q1
        · rename_i hz
          cases q1; cases r
          exact ⟨z, rfl, hz, outR.here (x := V.str _) q2 ho (.str _)⟩
        · cases q1
      | lst ys =>
        refine (pe_revL (he E tk)).run pins s σ _ Q I ⟨W, ρ, rfl, hold, rel, ?_⟩
        rw [ev]
        intro W1 x hs e ho r
        obtain ⟨d, q1, q2⟩ := done W1 x hs e ho r
        cases q1
        obtain ⟨p, vs, rfl, hp, rs⟩ := seqL_ok (xs := ys) ho r rfl
        refine ⟨p, vs, rfl, .inl (Wd.full_rd hp), fun q hq => ?_⟩
        obtain ⟨n1, n2⟩ := Wd.full_none hq
        exact outR.new q2 ho hq (.lst (.inl upd_same) (fz_new (H := W1.H) (F := W1.F) ho n1 _) (rs.reverse.mono (ext_new (M := W1.M) (S := W1.S) (F := W1.F) n1).le))
      | _ => exact out.elim
end
end Lc

set_option maxHeartbeats 2000000
/-! Lc, part K: built-in functions and methods. -/
namespace Lc
open PySem PySem.Spec PyProof.Rows L2
abbrev BF := Store → List Val → Option D
def rB (w : World) (mg : Str → Option Value) (f : BF) : List V → Hp → VK → Prop := fun xs H Q => ∃ (W : Wd) (args : List Val) (d : D), W.full = H ∧ Hold w mg W ∧ RepVs w mg W args xs ∧ f W.S args = some d ∧ outR w mg (.ok (.d d) W.S) W (RepV w mg) (fun _ _ _ => False) Q
def BfOk (X : Cx) (u : Value) (f : BF) : Prop := CallR X u (rB X.w X.mg f)
def mB (f : BF) (ma : MA) : ME := fun ρ S => (ma ρ S).bind fun vs S1 => okD (f S1 vs) S1
section
variable {X : Cx} {pos : Pos} {w : World} {mg : Str → Option Value} {W : Wd} {x : Str} {p : Pos} {e : Expr} {es : List Expr} {ma : MA} {f : BF}
theorem b_in {E : WX} {σ : L2.St} {H : Hp} {Q : VK} (h : tE X.w X.mg (mB f ma) E σ H Q) : tCB (rB X.w X.mg f) (tA X.w X.mg ma E) σ H Q := by
  obtain ⟨W, ρ, rfl, hold, rel, out⟩ := h
  refine ⟨W, ρ, rfl, hold, rel, outR.mono (outR.bind (Rl := RepVs X.w X.mg) hold out) (fun xs H1 h1 => ?_) fun _ _ _ z => z⟩
  obtain ⟨W1, vs, rfl, e1, hold1, r1, out1⟩ := h1
  obtain ⟨d, q1, q2⟩ := outR.okD_out out1
  exact ⟨W1, vs, d, rfl, hold1, r1, q1, q2⟩
theorem ce_b {id : String} (hc : BfOk X (.builtin id) f) (hm : X.mg x = none) (hv : bootBuiltins x = some (.builtin id)) (ha : CA X (e :: es) ma) (hg : Gl X x := by rfl) (hn : x ≠ "__name__" := by decide) (hdb : (x == ("__debug__" : Str)) = false := by decide)
    (he : starEach (e :: es) X.env = (false, eval e X.env) :: starEach es X.env := by rfl) (hpl : (backTo pos (starEach es X.env)).any (·.1) = false := by rfl) : CE X (.Call (.Name x p) (e :: es) [] pos) (mB f ma) := fun E tk =>
  PE.imp (pe_callB hc hg hm hv (ha E tk) hn hdb he hpl) fun σ H Q h => b_in h
theorem ce_bT {T : String} (hc : BfOk X (.type T) f) (hm : X.mg x = none) (hv : bootBuiltins x = some (.type T)) (ha : CA X (e :: es) ma) (hg : Gl X x := by rfl) (hn : x ≠ "__name__" := by decide) (hdb : (x == ("__debug__" : Str)) = false := by decide)
    (he : starEach (e :: es) X.env = (false, eval e X.env) :: starEach es X.env := by rfl) (hpl : (backTo pos (starEach es X.env)).any (·.1) = false := by rfl) : CE X (.Call (.Name x p) (e :: es) [] pos) (mB f ma) := fun E tk =>
  PE.imp (pe_callTy hc hg hm hv (ha E tk) hn hdb he hpl) fun σ H Q h => b_in h
theorem one_arg {args : List Val} {xs : List V} {v : Val} (r : RepVs w mg W args xs) (e : args = [v]) : ∃ y, xs = [y] ∧ RepV w mg W v y := by
  subst e
  cases r with
  | cons r1 r2 => cases r2; exact ⟨_, rfl, r1⟩
theorem two_args {args : List Val} {xs : List V} {v u : Val} (r : RepVs w mg W args xs) (e : args = [v, u]) : ∃ y z, xs = [y, z] ∧ RepV w mg W v y ∧ RepV w mg W u z := by
  subst e
  cases r with
  | cons r1 r2 =>
    cases r2 with
    | cons r3 r4 => cases r4; exact ⟨_, _, rfl, r1, r3⟩
/-! ### len, sum, max, min, all, int, abs -/
def bLen : BF := fun S args => match args with
  | [.d (.str z)] => if z.length ≤ sizeLine then some (.int z.length) else none
  | [v] => (seqA S v).map fun xs => .int xs.length
  | _ => none
theorem bLen_ok : BfOk X (.builtin "len") bLen := by
  intro pins s σ H xs us Q I r h
  obtain ⟨W, args, d, rfl, hold, ra, ed, out⟩ := h
  unfold bLen at ed
  split at ed
  · split at ed
    · rename_i hz
      cases ed
      obtain ⟨y, rfl, r1⟩ := one_arg ra rfl
      cases r1
      exact call_len_str pins s σ _ _ us Q I r ⟨_, rfl, hz, outR.here (x := V.int _) out hold (.int _)⟩
    · cases ed
  · rename_i v _
    cases ex : seqA W.S v with
    | none => rw [ex] at ed; cases ed
    | some ys =>
      rw [ex] at ed
      cases ed
      obtain ⟨y, rfl, r1⟩ := one_arg ra rfl
      obtain ⟨a, vs, rfl, hp, rs⟩ := seqA_ok hold r1 ex
      refine call_len_seq pins s σ _ _ us Q I r ⟨a, vs, rfl, hp.imp .inl .inl, ?_⟩
      rw [← rs.length]
      exact outR.here (x := V.int _) out hold (.int _)
  · cases ed
/-- the ints of a list -/
def intsD : List D → Option (List Int)
  | [] => some []
  | .int i :: r => (intsD r).map (i :: ·)
  | _ => none
theorem ints_ok {G : Gr} : ∀ {xs : List D} {vs : List V} {ns : List Int}, Reps G xs vs → intsD xs = some ns → vs = ns.map V.int
  | [], _, _, .nil, h => by cases h; rfl
  | x :: xs, _, ns, .cons r t, h => by
    cases r with
    | int i =>
      simp only [intsD] at h
      cases e : intsD xs with
      | none => rw [e] at h; cases h
      | some ms =>
        rw [e] at h
        cases h
        rw [ints_ok t e]
        rfl
    | _ => cases h
def boolsD : List D → Option (List Bool)
  | [] => some []
  | .bl b :: r => (boolsD r).map (b :: ·)
  | _ => none
theorem bools_ok {G : Gr} : ∀ {xs : List D} {vs : List V} {ns : List Bool}, Reps G xs vs → boolsD xs = some ns → vs = ns.map V.bl
  | [], _, _, .nil, h => by cases h; rfl
  | x :: xs, _, ns, .cons r t, h => by
    cases r with
    | bl i =>
      simp only [boolsD] at h
      cases e : boolsD xs with
      | none => rw [e] at h; cases h
      | some ms =>
        rw [e] at h
        cases h
        rw [bools_ok t e]
        rfl
    | _ => cases h
def intsV (S : Store) (v : Val) : Option (List Int) := (seqL S v).bind intsD
theorem intsV_ok {v : Val} {y : V} {ns : List Int} (hold : Hold w mg W) (r : RepV w mg W v y) (e : intsV W.S v = some ns) : ∃ a, y = .ref a ∧ Rd W.full a (.lst (ns.map V.int)) := by
  unfold intsV at e
  cases ex : seqL W.S v with
  | none => rw [ex] at e; cases e
  | some xs =>
    rw [ex] at e
    obtain ⟨a, vs, h1, h2, h3⟩ := seqL_ok hold r ex
    have := ints_ok h3 e
    subst this
    exact ⟨a, h1, Wd.full_rd h2⟩
def bSum : BF := fun S args => match args with
  | [v] => (intsV S v).map fun ns => .int ns.sum
  | _ => none
theorem bSum_ok (hc : X.calm = true) : BfOk X (.builtin "sum") bSum := by
  intro pins s σ H xs us Q I r h
  obtain ⟨W, args, d, rfl, hold, ra, ed, out⟩ := h
  unfold bSum at ed
  split at ed
  · rename_i v
    cases ex : intsV W.S v with
    | none => rw [ex] at ed; cases ed
    | some ns =>
      rw [ex] at ed
      cases ed
      obtain ⟨y, rfl, r1⟩ := one_arg ra rfl
      obtain ⟨a, rfl, hp⟩ := intsV_ok hold r1 ex
      exact cr_sum hc pins s σ _ _ us Q I r ⟨a, ns, rfl, .inl hp, outR.here (x := V.int _) out hold (.int _)⟩
  · cases ed
def maxL (n : Int) (ns : List Int) : Int := ns.foldl (fun a b => if b > a then b else a) n
def minL (n : Int) (ns : List Int) : Int := ns.foldl (fun a b => if b < a then b else a) n
theorem maxL_ok : ∀ (ns : List Int) (n : Int), maxL n ns ∈ n :: ns ∧ ∀ y, y ∈ n :: ns → y ≤ maxL n ns
  | [], n => ⟨by simp [maxL], by simp [maxL]⟩
  | m :: ms, n => by
    obtain ⟨h1, h2⟩ := maxL_ok ms (if m > n then m else n)
    have e : maxL n (m :: ms) = maxL (if m > n then m else n) ms := rfl
    rw [e]
    generalize maxL (if m > n then m else n) ms = M at *
    have hc := h2 _ (List.mem_cons_self ..)
    refine ⟨?_, fun y hy => ?_⟩
    · rcases List.mem_cons.mp h1 with q | q
      · rw [q]
        split
        · simp
        · simp
      · simp [q]
    · rcases List.mem_cons.mp hy with q | q
      · subst q; split at hc <;> omega
      · rcases List.mem_cons.mp q with q | q
        · subst q; split at hc <;> omega
        · exact h2 y (List.mem_cons_of_mem _ q)
theorem minL_ok : ∀ (ns : List Int) (n : Int), minL n ns ∈ n :: ns ∧ ∀ y, y ∈ n :: ns → minL n ns ≤ y
  | [], n => ⟨by simp [minL], by simp [minL]⟩
  | m :: ms, n => by
    obtain ⟨h1, h2⟩ := minL_ok ms (if m < n then m else n)
    have e : minL n (m :: ms) = minL (if m < n then m else n) ms := rfl
    rw [e]
    generalize minL (if m < n then m else n) ms = M at *
    have hc := h2 _ (List.mem_cons_self ..)
    refine ⟨?_, fun y hy => ?_⟩
    · rcases List.mem_cons.mp h1 with q | q
      · rw [q]
        split
        · simp
        · simp
      · simp [q]
    · rcases List.mem_cons.mp hy with q | q
      · subst q; split at hc <;> omega
      · rcases List.mem_cons.mp q with q | q
        · subst q; split at hc <;> omega
        · exact h2 y (List.mem_cons_of_mem _ q)
def bMax : BF := fun S args => match args with
  | [.d (.int i), .d (.int j)] => some (.int (if j > i then j else i))
  | [v] => match intsV S v with
    | some (n :: ns) => some (.int (maxL n ns))
    | _ => none
  | _ => none
theorem bMax_ok (hc : X.calm = true) : BfOk X (.builtin "max") bMax := by
  intro pins s σ H xs us Q I r h
  obtain ⟨W, args, d, rfl, hold, ra, ed, out⟩ := h
  unfold bMax at ed
  split at ed
  · cases ed
    obtain ⟨y, z, rfl, r1, r2⟩ := two_args ra rfl
    cases r1; cases r2
    exact call_max2 hc pins s σ _ _ us Q I r ⟨_, _, rfl, outR.here (x := V.int _) out hold (.int _)⟩
  · rename_i v
    split at ed
    · rename_i n ns ex
      cases ed
      obtain ⟨y, rfl, r1⟩ := one_arg ra rfl
      obtain ⟨a, rfl, hp⟩ := intsV_ok hold r1 ex
      refine cr_max hc pins s σ _ _ us Q I r ⟨a, n :: ns, rfl, .inl hp, by simp, fun m hm hle => ?_⟩
      obtain ⟨h1, h2⟩ := maxL_ok ns n
      have em : m = maxL n ns := Int.le_antisymm (h2 m hm) (hle _ h1)
      rw [em]
      exact outR.here (x := V.int _) out hold (.int _)
    · cases ed
  · cases ed
def bMin : BF := fun S args => match args with
  | [.d (.int i), .d (.int j)] => some (.int (if j < i then j else i))
  | [v] => match intsV S v with
    | some (n :: ns) => some (.int (minL n ns))
    | _ => none
  | _ => none
theorem bMin_ok (hc : X.calm = true) : BfOk X (.builtin "min") bMin := by
  intro pins s σ H xs us Q I r h
  obtain ⟨W, args, d, rfl, hold, ra, ed, out⟩ := h
  unfold bMin at ed
  split at ed
  · cases ed
    obtain ⟨y, z, rfl, r1, r2⟩ := two_args ra rfl
    cases r1; cases r2
    exact call_min2 hc pins s σ _ _ us Q I r ⟨_, _, rfl, outR.here (x := V.int _) out hold (.int _)⟩
  · rename_i v
    split at ed
    · rename_i n ns ex
      cases ed
      obtain ⟨y, rfl, r1⟩ := one_arg ra rfl
      obtain ⟨a, rfl, hp⟩ := intsV_ok hold r1 ex
      refine cr_min hc pins s σ _ _ us Q I r ⟨a, n :: ns, rfl, .inl hp, by simp, fun m hm hle => ?_⟩
      obtain ⟨h1, h2⟩ := minL_ok ns n
      have em : m = minL n ns := Int.le_antisymm (hle _ h1) (h2 m hm)
      rw [em]
      exact outR.here (x := V.int _) out hold (.int _)
    · cases ed
  · cases ed
def bAll : BF := fun S args => match args with
  | [v] => ((seqL S v).bind boolsD).map fun bs => .bl (bs.all id)
  | _ => none
theorem bAll_ok (hc : X.calm = true) : BfOk X (.builtin "all") bAll := by
  intro pins s σ H xs us Q I r h
  obtain ⟨W, args, d, rfl, hold, ra, ed, out⟩ := h
  unfold bAll at ed
  split at ed
  · rename_i v
    cases ex : seqL W.S v with
    | none => rw [ex] at ed; cases ed
    | some ys =>
      rw [ex] at ed
      have ed : (boolsD ys).map (fun bs => D.bl (bs.all id)) = some d := ed
      cases eb : boolsD ys with
      | none => rw [eb] at ed; cases ed
      | some bs =>
        rw [eb] at ed
        cases ed
        obtain ⟨y, rfl, r1⟩ := one_arg ra rfl
        obtain ⟨a, vs, rfl, hp, rs⟩ := seqL_ok hold r1 ex
        have := bools_ok rs eb
        subst this
        exact cr_all hc pins s σ _ _ us Q I r ⟨a, bs, rfl, .inl (Wd.full_rd hp), outR.here (x := V.bl _) out hold (.bl _)⟩
  · cases ed
def bInt : BF := fun _ args => match args with
  | [.d (.int i)] => some (.int i)
  | [.d (.bl k)] => some (.int (if k then 1 else 0))
  | [.d (.str z)] => if z.length ≤ 640 then (PySem.intText? z).map .int else none
  | _ => none
theorem bInt_ok : BfOk X (.type "int") bInt := by
  intro pins s σ H xs us Q I r h
  obtain ⟨W, args, d, rfl, hold, ra, ed, out⟩ := h
  unfold bInt at ed
  split at ed
  · cases ed
    obtain ⟨y, rfl, r1⟩ := one_arg ra rfl
    cases r1
    exact call_int1 pins s σ _ _ us Q I r (.inl ⟨_, rfl, outR.here (x := V.int _) out hold (.int _)⟩)
  · cases ed
    obtain ⟨y, rfl, r1⟩ := one_arg ra rfl
    cases r1
    exact call_int1 pins s σ _ _ us Q I r (.inr ⟨_, rfl, outR.here (x := V.int _) out hold (.int _)⟩)
  · split at ed
    · rename_i z hz
      cases ez : PySem.intText? z with
      | none => rw [ez] at ed; cases ed
      | some n =>
        rw [ez] at ed
        cases ed
        obtain ⟨y, rfl, r1⟩ := one_arg ra rfl
        cases r1
        exact call_int_str pins s σ _ _ us Q I r ⟨_, _, rfl, ez, hz, outR.here (x := V.int _) out hold (.int _)⟩
    · cases ed
  · cases ed
def bAbs : BF := fun _ args => match args with
  | [.d (.int i)] => some (.int (if i < 0 then -i else i))
  | _ => none
theorem bAbs_ok : BfOk X (.builtin "abs") bAbs := by
  intro pins s σ H xs us Q I r h
  obtain ⟨W, args, d, rfl, hold, ra, ed, out⟩ := h
  unfold bAbs at ed
  split at ed
  · cases ed
    obtain ⟨y, rfl, r1⟩ := one_arg ra rfl
    cases r1
    exact call_abs pins s σ _ _ us Q I r ⟨_, rfl, outR.here (x := V.int _) out hold (.int _)⟩
  · cases ed
def bStr : BF := fun _ args => match args with
  | [.d (.int i)] => if i.natAbs.log2 < 1920 then some (.str (toString i)) else none
  | _ => none
theorem bStr_ok : BfOk X (.type "str") bStr := by
  intro pins s σ H xs us Q I r h
  obtain ⟨W, args, d, rfl, hold, ra, ed, out⟩ := h
  unfold bStr at ed
  split at ed
  · split at ed
    · rename_i hz
      cases ed
      obtain ⟨y, rfl, r1⟩ := one_arg ra rfl
      cases r1
      exact call_str_int pins s σ _ _ us Q I r ⟨_, rfl, hz, outR.here (x := V.str _) out hold (.str _)⟩
    · cases ed
  · cases ed
/-- list(xs): a list's, a tuple's items -/
def bList : BF := fun S args => match args with
  | [v] => (seqA S v).map .lst
  | _ => none
theorem bList_ok : BfOk X (.type "list") bList := by
  intro pins s σ H xs us Q I r h
  obtain ⟨W, args, d, rfl, hold, ra, ed, out⟩ := h
  unfold bList at ed
  split at ed
  · rename_i v
    cases ex : seqA W.S v with
    | none => rw [ex] at ed; cases ed
    | some ys =>
      rw [ex] at ed
      cases ed
      obtain ⟨y, rfl, r1⟩ := one_arg ra rfl
      obtain ⟨a, vs, rfl, hp, rs⟩ := seqA_ok hold r1 ex
      refine call_list_of pins s σ _ _ us Q I r ⟨a, vs, rfl, hp.imp .inl .inl, fun q hq => ?_⟩
      obtain ⟨n1, n2⟩ := Wd.full_none hq
      exact outR.new out hold hq (.lst (.inl upd_same) (fz_new (H := W.H) (F := W.F) hold n1 _) (rs.mono (ext_new (M := W.M) (S := W.S) (F := W.F) n1).le))
  · cases ed
/-- tuple(xs) -/
def bTuple : BF := fun S args => match args with
  | [v] => (seqA S v).map .tup
  | _ => none
theorem bTuple_ok : BfOk X (.type "tuple") bTuple := by
  intro pins s σ H xs us Q I r h
  obtain ⟨W, args, d, rfl, hold, ra, ed, out⟩ := h
  unfold bTuple at ed
  split at ed
  · rename_i v
    obtain ⟨y, rfl, r1⟩ := one_arg ra rfl
    unfold seqA at ed
    split at ed
    · rename_i ys et
      cases ed
      cases v with
      | ref n => cases et
      | d z =>
        cases r1 with
        | tup h1 z1 rs =>
          cases et
          exact call_tuple_of pins s σ _ _ us Q I r ⟨_, _, rfl, .inr ⟨.inl (Wd.full_rd h1), outR.here out hold (.tup h1 z1 rs)⟩⟩
        | _ => cases et
    · cases ex : seqL W.S v with
      | none => rw [ex] at ed; cases ed
      | some ys =>
        rw [ex] at ed
        cases ed
        obtain ⟨a, vs, rfl, hp, rs⟩ := seqL_ok hold r1 ex
        refine call_tuple_of pins s σ _ _ us Q I r ⟨a, vs, rfl, .inl ⟨.inl (Wd.full_rd hp), fun q hq => ?_⟩⟩
        obtain ⟨n1, n2⟩ := Wd.full_none hq
        exact outR.new out hold hq (.tup (.inl upd_same) (fz_new (H := W.H) (F := W.F) hold n1 _) (rs.mono (ext_new (M := W.M) (S := W.S) (F := W.F) n1).le))
  · cases ed
/-! ### isinstance with a built-in class -/
def tyN (S : Store) : Val → Option String
  | .d (.non) => some "NoneType"
  | .d (.bl _) => some "bool"
  | .d (.int _) => some "int"
  | .d (.str _) => some "str"
  | .d (.tup _) => some "tuple"
  | .d (.lst _) => some "list"
  | .ref n => match S[n]? with
    | some (.live _ (.lst _)) => some "list"
    | _ => none
  | _ => none
theorem tyN_ok {K : PySem.W.Frag} {v : Val} {y : V} {T : String} (hold : Hold w mg W) (r : RepV w mg W v y) (e : tyN W.S v = some T) : TyX K W.full y (.type T) := by
  have lst : ∀ {a : Addr} {vs : List V}, Rd W.H a (.lst vs) → TyX K W.full (.ref a) (.type "list") := fun {a vs} h => by
    rcases Wd.full_rd h with h | ⟨o, h⟩
    · exact .base (.lst h)
    · exact .base (.frz h)
  cases v with
  | ref n =>
    simp only [tyN] at e
    split at e
    · rename_i lk xs hs
      cases e
      obtain ⟨a, vs, rfl, h, rs⟩ := seqL_ok (xs := xs) hold r (by simp [seqL, hs])
      exact lst h
    · cases e
  | d z =>
    cases r with
    | non => cases e; exact .base .non
    | bl b => cases e; exact .base (.bl b)
    | int i => cases e; exact .base (.int i)
    | str x => cases e; exact .base (.str x)
    | tup h z r =>
      cases e
      rcases Wd.full_rd h with h | ⟨o, h⟩
      · exact .base (.tup h)
      · exact .fTuple h
    | lst h z r => cases e; exact lst h
    | _ => cases e
def bIs : BF := fun S args => match args with
  | [v, .d (.ty n)] => match tyN S v with
    | some T => (kitB T n).map .bl
    | none => none
  | _ => none
theorem bIs_ok : BfOk X (.builtin "isinstance") bIs := by
  intro pins s σ H xs us Q I r h
  obtain ⟨W, args, d, rfl, hold, ra, ed, out⟩ := h
  unfold bIs at ed
  split at ed
  · rename_i v n
    split at ed
    · rename_i T eT
      cases ek : kitB T n with
      | none => rw [ek] at ed; cases ed
      | some k =>
        rw [ek] at ed
        cases ed
        obtain ⟨y, z, rfl, r1, r2⟩ := two_args ra rfl
        cases r2
        exact call_isi pins s σ _ _ us Q I r ⟨y, .ty n, .type T, .type n, k, rfl, .ty n, tyN_ok hold r1 eT, kit_ty ek, outR.here (x := V.bl k) out hold (.bl k)⟩
    · cases ed
  · cases ed
/-- the own class that a value is of -/
def clsV (S : Store) : Val → Option Str
  | .d (.ins c _) => some c
  | .ref n => match S[n]? with
    | some (.live _ (.ins c _)) => some c
    | _ => none
  | _ => none
/-- .. with an own class, of a value of a built-in type | an instance: tbl tells of each class -/
def isO (tbl : List (Str × Bool)) (S : Store) (v : Val) : Option D := match tyN S v with
  | some _ => some (.bl false)
  | none => match clsV S v with
    | some c => (tbl.lookup c).map .bl
    | none => none
def mIsO (tbl : List (Str × Bool)) (m : ME) : ME := fun ρ S => (m ρ S).bind fun v S1 => okD (isO tbl S1 v) S1
/-- what isinstance looks at of an own class -/
structure ClsI (K : PySem.W.Frag) (C : Addr) : Prop where
  cl : Cls K C
  ha : PySem.W.findIn K (.ref C) "__class__" = some (some (.builtin "object.__class__"))
  hm : PySem.W.mroIn K C (.type "object") = some true
structure IsG (K : PySem.W.Frag) : Prop where
  hn : PySem.W.specialIn K (.builtin "object.__class__") "__get__" = some (some (.builtin "getset_descriptor.__get__"))
  htk : PySem.W.takesIn K (.builtin "object.__class__") = some true
theorem ins_at {v : Val} {y : V} {c : Str} (hold : Hold w mg W) (r : RepV w mg W v y) (hc : clsV W.S v = some c) : ∃ a C dx gs, y = .ref a ∧ W.full a = some (.ins C dx gs) ∧ mg c = some (.ref C) := by
  cases v with
  | ref n =>
    simp only [clsV] at hc
    split at hc
    · rename_i lk c' fs hs
      cases hc
      obtain ⟨a, ha, rfl⟩ := r
      obtain ⟨a', ha', C, dx, gs, h, m, _⟩ := hold.cell n lk _ hs
      rw [ha] at ha'
      cases ha'
      exact ⟨a, C, dx, gs, rfl, Wd.full_at h, m⟩
    · cases hc
  | d z =>
    cases r with
    | ins h z m r => cases hc; exact ⟨_, _, _, _, rfl, Wd.full_at h, m⟩
    | _ => cases hc
theorem ce_isO {x : Str} {C : Addr} {p p2 : Pos} {m : ME} (tbl : List (Str × Bool)) (hmx : X.mg x = some (.ref C)) (hG : IsG X.K)
    (hB : ∀ T, T ∈ (["NoneType", "bool", "int", "str", "tuple", "list"] : List String) → PySem.W.kitOne X.K (.type T) (.ref C) = some false)
    (hT : ∀ c b, tbl.lookup c = some b → ∀ C', X.mg c = some (.ref C') → ClsI X.K C' ∧ PySem.W.kitOne X.K (.ref C') (.ref C) = some b)
    (hi : X.mg "isinstance" = none) (he : CE X e m) (hgx : Gl X x := by rfl) (hg : Gl X "isinstance" := by rfl) (hdb : (x == ("__debug__" : Str)) = false := by decide)
    (h1 : starEach [e, .Name x p2] X.env = (false, eval e X.env) :: starEach [.Name x p2] X.env := by rfl) (h2 : starEach [.Name x p2] X.env = (false, eval (.Name x p2) X.env) :: starEach [] X.env := by rfl) (hpl : (backTo pos (starEach [.Name x p2] X.env)).any (·.1) = false := by rfl) :
    CE X (.Call (.Name "isinstance" p) [e, .Name x p2] [] pos) (mIsO tbl m) := fun E tk => by
  refine PE.imp (pe_callB call_isi hg hi (by decide +kernel) (pa_cons (he E tk) (pa_cons (pe_glob (v := .ref C) hgx hmx rfl hdb) pa_nil h2) h1) (by decide) (by decide) h1 hpl) fun σ H Q h => ?_
  obtain ⟨W, ρ, rfl, hold, rel, out⟩ := h
  refine ⟨W, ρ, rfl, hold, rel, outR.mono (outR.bind (Rl := RepV X.w X.mg) hold out) (fun y H1 h1 => ?_) fun _ _ _ z => z⟩
  obtain ⟨W1, v, rfl, e1, hold1, r1, out1⟩ := h1
  obtain ⟨d, q1, q2⟩ := outR.okD_out out1
  unfold isO at q1
  split at q1
  · rename_i T eT
    cases q1
    have ht := tyN_ok (K := X.K) hold1 r1 eT
    refine ⟨y, .ref C, .type T, .ref C, false, rfl, .own C, ht, hB T ?_, outR.here (x := V.bl _) q2 hold1 (.bl _)⟩
    cases v with
    | ref n =>
      simp only [tyN] at eT
      split at eT
      · cases eT; simp
      · cases eT
    | d z => cases z <;> first | (cases eT; simp) | cases eT
  · have key : ∃ c b, clsV W1.S v = some c ∧ tbl.lookup c = some b ∧ d = .bl b := by
      cases ec : clsV W1.S v with
      | none => rw [ec] at q1; cases q1
      | some c =>
        rw [ec] at q1
        have q1 : (tbl.lookup c).map D.bl = some d := q1
        cases eb : tbl.lookup c with
        | none => rw [eb] at q1; cases q1
        | some b => rw [eb] at q1; cases q1; exact ⟨c, b, rfl, eb, rfl⟩
    obtain ⟨c, b, k1, k2, rfl⟩ := key
    obtain ⟨a, C', dx, gs, rfl, hH, hmg⟩ := ins_at hold1 r1 k1
    obtain ⟨ci, kt⟩ := hT c b k2 C' hmg
    exact ⟨.ref a, .ref C, .ref C', .ref C, b, rfl, .own C, .base (.ins hH ci.cl ci.ha hG.hn hG.htk ci.hm), kt, outR.here (x := V.bl _) q2 hold1 (.bl _)⟩
end
end Lc

set_option maxHeartbeats 2000000
/-! Lc, part L: methods of built-in types, stores, own classes. -/
namespace Lc
open PySem PySem.Spec PyProof.Rows L2
abbrev MF := Store → Val → List Val → R Val
def rM (w : World) (mg : Str → Option Value) (f : MF) : V → List V → Hp → VK → Prop := fun x xs H Q => ∃ (W : Wd) (v : Val) (args : List Val), W.full = H ∧ Hold w mg W ∧ RepV w mg W v x ∧ RepVs w mg W args xs ∧ outR w mg (f W.S v args) W (RepV w mg) (fun _ _ _ => False) Q
def MfOk (X : Cx) (id : String) (f : MF) : Prop := MtR X id (rM X.w X.mg f)


def mMeth (g : Store → Val → Bool) (f : MF) (mo : ME) (ma : MA) : ME := fun ρ S => (mo ρ S).bind fun v S1 => if g S1 v = true then (ma ρ S1).bind fun vs S2 => noErr (f S2 v vs) else .bad
def isL (S : Store) (v : Val) : Bool := (seqL S v).isSome
def isS (_ : Store) (v : Val) : Bool := match v with
  | .d (.str _) => true
  | _ => false
def TyG (X : Cx) (T : String) (g : Store → Val → Bool) : Prop := ∀ (W : Wd) (v : Val) (x : V), Hold X.w X.mg W → RepV X.w X.mg W v x → g W.S v = true → tyV X.K T x W.full
section
variable {X : Cx} {pos : Pos} {w : World} {mg : Str → Option Value} {W : Wd}
theorem tyG_list : TyG X "list" isL := fun W v x hold r h => by
  unfold isL at h
  cases e : seqL W.S v with
  | none => rw [e] at h; cases h
  | some xs =>
    obtain ⟨a, vs, rfl, hp, _⟩ := seqL_ok hold r e
    exact .inl ⟨rfl, vs, .inl (Wd.full_rd hp)⟩
theorem tyG_str : TyG X "str" isS := fun W v x hold r h => by
  cases v with
  | ref n => cases h
  | d z =>
    cases r with
    | str _ => rfl
    | _ => cases h
theorem outR.noErr_ {α β : Type} {r : R α} {Rl : Wd → α → β → Prop} {E E' : XH} {Q : β → Hp → Prop} (h : outR w mg (noErr r) W Rl E Q) : outR w mg r W Rl E' Q := by
  cases r with
  | ok a S => exact h
  | err x S => exact h.elim
  | bad => exact h
variable {o e : Expr} {es : List Expr} {name : Str} {apos cpos : Pos} {T id : String} {g : Store → Val → Bool} {f : MF} {mo : ME} {ma : MA}
theorem ce_bm (tg : TyG X T g) (pa : PlainAttrs T) (slot : Slot T name id) (hty : typeOf (.builtin id) = pure (.type "method_descriptor")) (hm : MfOk X id f) (ho : CE X o mo) (ha : CA X (e :: es) ma)
    (hbase : attributeBase o name X.env (eval o X.env) = eval o X.env := by rfl)
    (hfew : ((backTo cpos (starEach (e :: es) X.env)).all (fun x => !x.1) && (backToKw cpos (keywordEach [] X.env)).all (fun x => x.1.isSome)
      && decide ((e :: es).length + ([] : List Keyword).length + (if ([] : List Keyword).isEmpty then 0 else 1) < 30)) = true := by rfl)
    (hline : (apos.endLine == cpos.line) = true := by rfl) (hs : starEach (e :: es) X.env = (false, eval e X.env) :: starEach es X.env := by rfl) (hplain : (backTo cpos (starEach es X.env)).any (·.1) = false := by rfl) :
    CE X (.Call (.Attribute o name apos) (e :: es) [] cpos) (mMeth g f mo ma) := fun E tk => PE.imp (pe_bm pa slot hty hm (ho E tk) (ha E tk) hbase hfew hline hs hplain) fun σ H Q h => by
  obtain ⟨W, ρ, rfl, hold, rel, out⟩ := h
  refine ⟨W, ρ, rfl, hold, rel, outR.mono (outR.bind (Rl := RepV X.w X.mg) hold out) (fun x H1 h1 => ?_) fun _ _ _ z => z⟩
  obtain ⟨W1, v, rfl, e1, hold1, r1, out1⟩ := h1
  split at out1
  · rename_i hg
    refine ⟨tg W1 v x hold1 r1 hg, W1, ρ, rfl, hold1, rel.mono e1, outR.mono (outR.bind (Rl := RepVs X.w X.mg) hold1 out1) (fun xs H2 h2 => ?_) fun _ _ _ z => z⟩
    obtain ⟨W2, vs, rfl, e2, hold2, r2, out2⟩ := h2
    exact ⟨W2, v, vs, rfl, hold2, e2.repV r1, r2, outR.noErr_ out2⟩
  · exact out1.elim
theorem ce_bm0 (tg : TyG X T g) (pa : PlainAttrs T) (slot : Slot T name id) (hty : typeOf (.builtin id) = pure (.type "method_descriptor")) (hm : MfOk X id f) (ho : CE X o mo)
    (hbase : attributeBase o name X.env (eval o X.env) = eval o X.env := by rfl) (hline : (apos.endLine == cpos.line) = true := by rfl) :
    CE X (.Call (.Attribute o name apos) [] [] cpos) (mMeth g f mo maNil) := fun E tk => PE.imp (pe_bm0 pa slot hty hm (ho E tk) hbase hline) fun σ H Q h => by
  obtain ⟨W, ρ, rfl, hold, rel, out⟩ := h
  refine ⟨W, ρ, rfl, hold, rel, outR.mono (outR.bind (Rl := RepV X.w X.mg) hold out) (fun x H1 h1 => ?_) fun _ _ _ z => z⟩
  obtain ⟨W1, v, rfl, e1, hold1, r1, out1⟩ := h1
  split at out1
  · rename_i hg
    exact ⟨tg W1 v x hold1 r1 hg, W1, v, [], rfl, hold1, r1, .nil, outR.noErr_ out1⟩
  · exact out1.elim

/-! ### methods of a list -/
def liveL (S : Store) (n : Nat) : Option (List D) := match S[n]? with
  | some (.live false (.lst xs)) => some xs
  | _ => none
theorem liveL_at {S : Store} {n : Nat} {xs : List D} (h : liveL S n = some xs) : S[n]? = some (.live false (.lst xs)) := by
  unfold liveL at h
  split at h
  · rename_i ys e; cases h; exact e
  · cases h
/-- a list is rewritten -/
theorem lst_out {S' : Store} {n : Nat} {a : Addr} {xs ys : List D} {vs : List V} {v : Val} {x : V} {E : XH} {Q : VK} (hold : Hold w mg W) (hn : W.M[n]? = some a) (hs : W.S[n]? = some (Cell.live false (.lst xs)))
    (out : outR w mg (.ok v (W.S.set n (.live false (.lst ys)))) W (RepV w mg) E Q) (rs : Reps (W.gr w mg) ys vs) (r : RepV w mg W v x) : Q x (upd W.full a (.lst vs)) := by
  have e2 : Ext W ⟨W.M, W.S.set n (.live false (.lst ys)), upd W.H a (.lst vs), W.F⟩ := ext_set hold hn hs
  have h2 := hold_set (o := .lst vs) (b' := .lst ys) hold hn hs ⟨vs, upd_same, rs.mono e2.le⟩
  have q := out ⟨W.M, W.S.set n (.live false (.lst ys)), upd W.H a (.lst vs), W.F⟩ x rfl e2 h2 (e2.repV r)
  rwa [show (⟨W.M, W.S.set n (.live false (.lst ys)), upd W.H a (.lst vs), W.F⟩ : Wd).full = upd W.full a (.lst vs) from join_upd _ _ _ _] at q
theorem liveL_cell {n : Nat} {xs : List D} {x : V} (hold : Hold w mg W) (r : RepV w mg W (.ref n) x) (h : liveL W.S n = some xs) : ∃ a vs, x = .ref a ∧ W.M[n]? = some a ∧ W.H a = some (.lst vs) ∧ Reps (W.gr w mg) xs vs := by
  obtain ⟨a, ha, rfl⟩ := r
  obtain ⟨a', ha', vs, h1, h2⟩ := hold.cell n false _ (liveL_at h)
  rw [ha] at ha'
  cases ha'
  exact ⟨a, vs, rfl, ha, h1, h2⟩
def mfAppend : MF := fun S v args => match v, args with
  | .ref n, [u] => match frzV S u with
    | some (d, S1) => match liveL S1 n with
      | some xs => if xs.length < 16777216 then .ok (.d .non) (S1.set n (.live false (.lst (xs ++ [d])))) else .bad
      | none => .bad
    | none => .bad
  | _, _ => .bad
theorem mfAppend_ok : MfOk X "list.append" mfAppend := by
  intro pins s σ H x xs v us Q I rx rs h
  obtain ⟨W, v', args, rfl, hold, r1, r2, out⟩ := h
  unfold mfAppend at out
  split at out
  · rename_i n u
    split at out
    · rename_i d S1 ez
      split at out
      · rename_i ys ey
        split at out
        · rename_i hl
          obtain ⟨y, rfl, ry⟩ := one_arg r2 rfl
          obtain ⟨e1, hold1, rd⟩ := frz_ok hold ry ez
          obtain ⟨a, vs, rfl, ha, hH, rvs⟩ := liveL_cell hold1 (e1.repV r1) ey
          refine mt_append pins s σ _ _ _ v us Q I rx rs ⟨a, vs, y, rfl, rfl, Wd.full_at (W := ⟨W.M, S1, W.H, W.F⟩) hH, by rw [← rvs.length, sizeLine_eq]; exact hl, ?_⟩
          have out1 := outR.shift e1 hold hold1 out
          exact lst_out (W := ⟨W.M, S1, W.H, W.F⟩) (S' := S1) hold1 ha (liveL_at ey) out1 (rvs.append (.cons rd .nil)) .non
        · exact out.elim
      · exact out.elim
    · exact out.elim
  · exact out.elim
def mfPop : MF := fun S v args => match v, args with
  | .ref n, [] => match liveL S n with
    | some xs => match xs[xs.length - 1]? with
      | some d => .ok (.d d) (S.set n (.live false (.lst xs.dropLast)))
      | none => .bad
    | none => .bad
  | .ref n, [.d (.int i)] => match liveL S n with
    | some xs => if xs.length ≤ 16777216 then (match ixN xs.length i with
      | some k => match xs[k]? with
        | some d => .ok (.d d) (S.set n (.live false (.lst (xs.eraseIdx k))))
        | none => .bad
      | none => .bad) else .bad
    | none => .bad
  | _, _ => .bad
theorem Reps.dropLast {G : Gr} {xs : List D} {vs : List V} (r : Reps G xs vs) : Reps G xs.dropLast vs.dropLast := by
  rw [List.dropLast_eq_take, List.dropLast_eq_take, r.length]
  exact r.take _
theorem mfPop_ok : MfOk X "list.pop" mfPop := by
  intro pins s σ H x xs v us Q I rx rs h
  obtain ⟨W, v', args, rfl, hold, r1, r2, out⟩ := h
  unfold mfPop at out
  split at out
  · rename_i n
    split at out
    · rename_i ys ey
      split at out
      · rename_i d ed
        cases r2
        obtain ⟨a, vs, rfl, ha, hH, rvs⟩ := liveL_cell hold r1 ey
        obtain ⟨y, ey', ry⟩ := rvs.get ed
        refine mt_pop pins s σ _ _ _ v us Q I rx rs ⟨a, vs, y, rfl, rfl, Wd.full_at hH, by rw [← rvs.length]; exact ey', ?_⟩
        exact lst_out (S' := W.S) hold ha (liveL_at ey) out rvs.dropLast ry
      · exact out.elim
    · exact out.elim
  · rename_i n i
    split at out
    · rename_i ys ey
      split at out
      · rename_i hl
        split at out
        · rename_i k ek
          split at out
          · rename_i d ed
            obtain ⟨z, rfl, rz⟩ := one_arg r2 rfl
            cases rz
            obtain ⟨a, vs, rfl, ha, hH, rvs⟩ := liveL_cell hold r1 ey
            obtain ⟨y, ey', ry⟩ := rvs.get ed
            obtain ⟨h1, h2, h3, h4⟩ := ixN_seq ek
            refine mt_popAt pins s σ _ _ _ v us Q I rx rs ⟨a, vs, i, k, y, rfl, rfl, Wd.full_at hH, by omega, by omega, by rw [← rvs.length]; exact h1, ey', ?_⟩
            exact lst_out (S' := W.S) hold ha (liveL_at ey) out (rvs.eraseIdx k) ry
          · exact out.elim
        · exact out.elim
      · exact out.elim
    · exact out.elim
  · exact out.elim
/-! ### methods of a str -/
def mfCount : MF := fun S v args => match v, args with
  | .d (.str a), [.d (.str b)] => .ok (.d (.int (Txt.count a b))) S
  | _, _ => .bad
theorem mfCount_ok : MfOk X "str.count" mfCount := by
  intro pins s σ H x xs v us Q I rx rs h
  obtain ⟨W, v', args, rfl, hold, r1, r2, out⟩ := h
  unfold mfCount at out
  split at out
  · rename_i a b
    obtain ⟨y, rfl, ry⟩ := one_arg r2 rfl
    cases r1; cases ry
    exact mt_count pins s σ _ _ _ v us Q I rx rs ⟨a, b, rfl, rfl, outR.here (x := V.int _) out hold (.int _)⟩
  · exact out.elim
/-! ### divmod -/
def bDivmod : BF := fun _ args => match args with
  | [.d (.int i), .d (.int j)] => if 0 < j ∧ j.natAbs.log2 < 9000 then some (.tup [.int (i / j), .int (i % j)]) else none
  | _ => none
/-! ### *xs in a display -/
def maStar (m : ME) (ms : MA) : MA := fun ρ S => (m ρ S).bind fun v S1 => match seqA S1 v with
  | some xs => (ms ρ S1).bind fun vs S2 => .ok (xs.map .d ++ vs) S2
  | none => .bad
theorem ca_star {e : Expr} {es : List Expr} {p : Pos} {m : ME} {ms : MA} (he : CE X e m) (hes : CA X es ms) (hs : starEach (.Starred e p :: es) X.env = (true, eval e X.env) :: starEach es X.env := by rfl) : CA X (.Starred e p :: es) (maStar m ms) := fun E tk => by
  refine PA.imp (StX.pa_star (he E tk) (hes E tk) hs) fun σ H Q h => ?_
  obtain ⟨W, ρ, rfl, hold, rel, out⟩ := h
  refine ⟨W, ρ, rfl, hold, rel, outR.mono (outR.bind (Rl := RepV X.w X.mg) hold out) (fun x H1 h1 => ?_) fun _ _ _ z => z⟩
  obtain ⟨W1, v, rfl, e1, hold1, r1, out1⟩ := h1
  split at out1
  · rename_i xs ex
    obtain ⟨a, vs, rfl, hp, rvs⟩ := seqA_ok hold1 r1 ex
    refine ⟨a, vs, rfl, (hp.imp .inl .inl).symm, W1, ρ, rfl, hold1, rel.mono e1, outR.mono (outR.bind (Rl := RepVs X.w X.mg) hold1 out1) (fun ws H2 h2 => ?_) fun _ _ _ z => z⟩
    obtain ⟨W2, us, rfl, e2, hold2, r2, out2⟩ := h2
    exact outR.here out2 hold2 ((repVs_of_reps (rvs.mono e2.le)).append r2)
  · exact out1.elim
/-! ### o[i] = v -/
def stI (S : Store) (o i v : Val) : Option Store := match o, i, v with
  | .ref n, .d (.int k), .d d => match liveL S n with
    | some xs => match ixN xs.length k with
      | some j => some (S.set n (.live false (.lst (xs.set j d))))
      | none => none
    | none => none
  | _, _, _ => none
def rSt (w : World) (mg : Str → Option Value) : TSet := fun o i v H Q => ∃ (W : Wd) (o' i' v' : Val) (S' : Store), W.full = H ∧ Hold w mg W ∧ RepV w mg W o' o ∧ RepV w mg W i' i ∧ RepV w mg W v' v ∧ stI W.S o' i' v' = some S' ∧
  ∀ W' : Wd, W'.S = S' → Ext W W' → Hold w mg W' → Q W'.full
theorem st_ok : PSet X (rSt X.w X.mg) := by
  intro pins s σ H o i v ov iv u Q I ro ri rv h
  obtain ⟨W, o', i', v', S', rfl, hold, r1, r2, r3, e, out⟩ := h
  unfold stI at e
  split at e
  · rename_i n k d
    split at e
    · rename_i xs ex
      split at e
      · rename_i j ej
        cases e
        cases r2
        obtain ⟨a, vs, rfl, ha, hH, rvs⟩ := liveL_cell hold r1 ex
        refine set_list pins s σ _ _ _ _ ov iv u Q I ro ri rv ⟨a, vs, k, j, rfl, rfl, Wd.full_at hH, by rw [← rvs.length]; exact ej, ?_⟩
        have e2 : Ext W ⟨W.M, W.S.set n (.live false (.lst (xs.set j d))), upd W.H a (.lst (vs.set j v)), W.F⟩ := ext_set hold ha (liveL_at ex)
        have h2 := hold_set (o := .lst (vs.set j v)) (b' := .lst (xs.set j d)) hold ha (liveL_at ex) ⟨vs.set j v, upd_same, Reps.set (e2.rep r3) j (rvs.mono e2.le)⟩
        have q := out _ rfl e2 h2
        rwa [show (⟨W.M, W.S.set n (.live false (.lst (xs.set j d))), upd W.H a (.lst (vs.set j v)), W.F⟩ : Wd).full = upd W.full a (.lst (vs.set j v)) from join_upd _ _ _ _] at q
      · cases e
    · cases e
  · cases e
def msSetI (mv mo mi : ME) : MS := fun ρ S => (mv ρ S).toO ρ fun v S1 => (mo ρ S1).toO ρ fun o S2 => (mi ρ S2).toO ρ fun i S3 => match stI S3 o i v with
  | some S4 => .nx ρ S4
  | none => .bad
end
end Lc

set_option maxHeartbeats 2000000
/-! Lc, part M: own classes; what is walked. -/
namespace Lc
open PySem PySem.Spec PyProof.Rows L2
/-- o[i] = v -/
theorem cs_setI {X : Cx} {pos : Pos} {o i v : Expr} {p1 : Pos} {mv mo mi : ME} (hv : CE X v mv) (ho : CE X o mo) (hi : CE X i mi)
    (ha : ∀ v, assign (.Subscript o i p1) X.env v = (do
      let ov ← holding [v] (eval o X.env)
      let iv ← holding [v, ov] (eval i X.env)
      standAt p1
      holding [v, ov, iv] (setItem ov iv v)
      release [v, ov, iv] []) := by intro _; rfl)
    (hs : swapsWithSole [.Subscript o i p1] v pos.line X.env = pure false := by rfl) (hw : swappedStores [.Subscript o i p1] v X.env = pure none := by rfl)
    (h1 : (assignEach [.Subscript o i p1] X.env).map (·.2) = [assign (.Subscript o i p1) X.env] := by rfl) : CS X (.Assign [.Subscript o i p1] v pos) (msSetI mv mo mi) := fun E tk =>
  PS.imp (ps_asg (hv E tk) (pg_sub (ho E tk) (hi E tk) st_ok ha) hs hw h1) fun D σ H h => by
  obtain ⟨W, ρ, rfl, hold, rel, out⟩ := h
  refine ⟨W, ρ, rfl, hold, rel, outR.mono (outO.bind (Rl := RepV X.w X.mg) hold rel out) (fun y H1 h1 => ?_) fun _ _ _ z => z⟩
  obtain ⟨W1, v1, rfl, e1, hold1, rel1, r1, out1⟩ := h1
  refine ⟨W1, ρ, rfl, hold1, rel1, outR.mono (outO.bind (Rl := RepV X.w X.mg) hold1 rel1 out1) (fun y2 H2 h2 => ?_) fun _ _ _ z => z⟩
  obtain ⟨W2, v2, rfl, e2, hold2, rel2, r2, out2⟩ := h2
  refine ⟨W2, ρ, rfl, hold2, rel2, outR.mono (outO.bind (Rl := RepV X.w X.mg) hold2 rel2 out2) (fun y3 H3 h3 => ?_) fun _ _ _ z => z⟩
  obtain ⟨W3, v3, rfl, e3, hold3, rel3, r3, out3⟩ := h3
  split at out3
  · rename_i S4 e4
    exact ⟨W3, v2, v3, v1, S4, rfl, hold3, e3.repV r2, r3, e3.repV (e2.repV r1), e4, fun W' hs e ho => out3 W' σ hs e ho (rel3.mono e)⟩
  · exact out3.elim

/-! ### own classes -/
def fldV (S : Store) (v : Val) (f : Str) : Option Val := match v with
  | .d (.ins _ fs) => (fs.lookup f).map .d
  | .ref n => match S[n]? with
    | some (.live _ (.ins _ fs)) => fs.lookup f
    | _ => none
  | _ => none
section
variable {X : Cx} {pos : Pos} {w : World} {mg : Str → Option Value} {W : Wd}
theorem RepFV.lookup {f : Str} : ∀ {xs : List (Str × Val)} {vs : List (Str × V)}, RepFV w mg W xs vs → (∀ x, xs.lookup f = some x → ∃ v, vs.lookup f = some v ∧ RepV w mg W x v) ∧ (xs.lookup f = none → vs.lookup f = none)
  | _, _, .nil => ⟨(fun _ e => nomatch e), fun _ => rfl⟩
  | _, _, .cons (f := g) (x := y) (v := u) r t => by
    obtain ⟨t1, t2⟩ := RepFV.lookup (f := f) t
    by_cases h : (f == g) = true
    · refine ⟨fun x e => ?_, fun e => ?_⟩
      · rw [List.lookup_cons, h] at e
        have e2 : y = x := Option.some.inj e
        subst e2
        exact ⟨u, by rw [List.lookup_cons, h], r⟩
      · rw [List.lookup_cons, h] at e
        cases e
    · have h' : (f == g) = false := by simpa using h
      refine ⟨fun x e => ?_, fun e => ?_⟩
      · rw [List.lookup_cons, h'] at e
        obtain ⟨v, a, b⟩ := t1 x e
        exact ⟨v, by rw [List.lookup_cons, h']; exact a, b⟩
      · rw [List.lookup_cons, h'] at e
        rw [List.lookup_cons, h']
        exact t2 e
theorem repF_FV : ∀ {xs : List (Str × D)} {vs : List (Str × V)}, RepF (W.gr w mg) xs vs → RepFV w mg W (xs.map fun p => (p.1, Val.d p.2)) vs
  | _, _, .nil => .nil
  | _, _, .cons r t => .cons r (repF_FV t)
theorem lookup_map {f : Str} : ∀ {xs : List (Str × D)}, (xs.map fun p => (p.1, Val.d p.2)).lookup f = (xs.lookup f).map Val.d
  | [] => rfl
  | (g, y) :: r => by
    rw [List.map_cons, List.lookup_cons, List.lookup_cons]
    cases f == g with
    | true => rfl
    | false => exact lookup_map
/-- an instance, its fields -/
theorem ins_fld {v : Val} {y : V} {c : Str} (hold : Hold w mg W) (r : RepV w mg W v y) (hc : clsV W.S v = some c) :
    ∃ a C dx gs, y = .ref a ∧ W.full a = some (.ins C dx gs) ∧ mg c = some (.ref C) ∧ ∀ f, (∀ x, fldV W.S v f = some x → ∃ u, gs.lookup f = some u ∧ RepV w mg W x u) ∧ (fldV W.S v f = none → gs.lookup f = none) := by
  cases v with
  | ref n =>
    simp only [clsV] at hc
    split at hc
    · rename_i lk c' fs hs
      cases hc
      obtain ⟨a, ha, rfl⟩ := r
      obtain ⟨a', ha', C, dx, gs, h, m, rf⟩ := hold.cell n lk _ hs
      rw [ha] at ha'
      cases ha'
      refine ⟨a, C, dx, gs, rfl, Wd.full_at h, m, fun f => ?_⟩
      have e : fldV W.S (.ref n) f = fs.lookup f := by unfold fldV; simp only [hs]
      rw [e]
      exact rf.lookup
    · cases hc
  | d z =>
    cases r with
    | ins h z m rf =>
      cases hc
      refine ⟨_, _, _, _, rfl, Wd.full_at h, m, fun f => ?_⟩
      have q := RepFV.lookup (f := f) (repF_FV (W := W) (w := w) (mg := mg) rf)
      rw [lookup_map] at q
      exact q
    | _ => cases hc
/-- a getter: e.f answers with what φ says -/
def PropOk (X : Cx) (C : Addr) (f : Str) (φ : Fn) : Prop := ∀ (pins : List (Addr × Obj)) (s : Shared) (σ : L2.St) (Q : VK) (W : Wd) (v : Val) (a dx : Addr) (gs : List (Str × V)) (b : Bool) (E' : Value → Shared → Prop), Inv X pins σ W.full s → W.full a = some (.ins C dx gs) →
  Hold X.w X.mg W → RepV X.w X.mg W v (.ref a) → outR X.w X.mg (φ [v] W.S) W (RepV X.w X.mg) (fun _ _ _ => False) Q → wpAny (model X.prog X.w) X.A (getAttr (.ref a) f b) (EP X pins σ Q) E' s
theorem passes0 {X : Cx} : Passes (L2.CX X.prog X.w) X (fun _ _ _ => False) := fun pins σ H s e s' I c => by
  obtain ⟨a, B, H', cls, d, _, _, _, _, _, _, _, hE⟩ := c
  exact hE.elim
theorem propOk_fn {C p g : Addr} {fd : FuncData} {f : Str} {k : Nat} {ps : List Str} {n : Nat} {m : MS} (c : Cls X.K C) (hp : PropOf X.K C f p g) (F : FnOk X.prog X.w X.K X.mg X.base (L2.CX X.prog X.w) k g fd ps (spOf X.w X.mg ps.length (mkFn ps.length n m))) (hr : Room (k + 1) X.A)
    (hb : Binds X.K fd ps []) (hl : ps.length = 1) : PropOk X C f (mkFn ps.length n m) := by
  intro pins s σ Q W v a dx gs b E' I e hold r out
  refine getprop_ok (E := fun _ _ _ => False) I e c hp F hr hb .nil (fun pins σ H s e s' I c => by
    obtain ⟨a, B, H', cls, d, _, _, _, _, _, _, _, hE⟩ := c
    exact hE.elim) ⟨by rw [hl]; rfl, W, [v], rfl, hold, .cons r .nil, out⟩
theorem propOk_pure {C : Addr} {f : Str} {φ : Fn} (h : PropOk X C f φ) : PropOk X C f (purify φ) := by
  intro pins s σ Q W v a dx gs b E' I e hold r out
  exact h pins s σ Q W.lk v a dx gs b E' I e (lk_hold hold) (lk_repV r) (purify_out hold out)
/-- what a class says of a name: a field (none), a property (what its getter does) -/
def AttrOk (X : Cx) (f : Str) (C : Addr) : Option Fn → Prop
  | none => Cls X.K C ∧ NoAttr X.K C f
  | some φ => PropOk X C f φ
def mAttr (f : Str) (T : List (Str × Option Fn)) (m : ME) : ME := fun ρ S => (m ρ S).bind fun v S1 => match (clsV S1 v).bind (fun z => T.lookup z) with
  | some none => match fldV S1 v f with
    | some u => .ok u S1
    | none => .bad
  | some (some φ) => noErr (φ [v] S1)
  | none => .bad
theorem ce_attr {e : Expr} {f : Str} {m : ME} (T : List (Str × Option Fn)) (hT : ∀ c o, T.lookup c = some o → ∀ C, X.mg c = some (.ref C) → AttrOk X f C o) (he : CE X e m)
    (hab : attributeBase e f X.env (eval e X.env) = eval e X.env := by rfl) : CE X (.Attribute e f pos) (mAttr f T m) := fun E tk => ⟨fun pins s σ H Q I h => by
  obtain ⟨W, ρ, rfl, hold, rel, out⟩ := h
  refine attr_of hab (thn ((he E tk).run pins s σ _ (fun x H1 => ∃ (W1 : Wd) (v : Val), W1.full = H1 ∧ Hold X.w X.mg W1 ∧ RepV X.w X.mg W1 v x ∧ outR X.w X.mg (match (clsV W1.S v).bind (fun z => T.lookup z) with
    | some none => match fldV W1.S v f with
      | some u => .ok u W1.S
      | none => .bad
    | some (some φ) => noErr (φ [v] W1.S)
    | none => .bad) W1 (RepV X.w X.mg) (fun c d H' => E c d σ H') Q) I ⟨W, ρ, rfl, hold, rel, outR.mono (outR.bind (Rl := RepV X.w X.mg) hold out) (fun x H1 ⟨W1, v, e0, _, hold1, r1, out1⟩ => ⟨W1, v, e0, hold1, r1, out1⟩) fun _ _ _ z => z⟩) fun u s1 ⟨x, H1, I1, rx, W1, v, e0, hold1, r1, out1⟩ => ?_)
  subst e0
  cases ec : clsV W1.S v with
  | none => rw [ec] at out1; exact out1.elim
  | some c =>
    rw [ec] at out1
    obtain ⟨a, C, dx, gs, rfl, hH, hmg, hf⟩ := ins_fld hold1 r1 ec
    obtain rfl : u = Value.ref a := rx
    have e1 : ((some c).bind fun z => T.lookup z) = T.lookup c := rfl
    rw [e1] at out1
    cases et : T.lookup c with
    | none => rw [et] at out1; exact out1.elim
    | some o =>
      rw [et] at out1
      have A := hT c o et C hmg
      cases o with
      | none =>
        obtain ⟨c1, n1⟩ := A
        have out1 : outR X.w X.mg (match fldV W1.S v f with
          | some u => .ok u W1.S
          | none => .bad) W1 (RepV X.w X.mg) (fun c d H' => E c d σ H') Q := out1
        cases ef : fldV W1.S v f with
        | none => rw [ef] at out1; exact out1.elim
        | some x =>
          rw [ef] at out1
          obtain ⟨y, l, ry⟩ := (hf f).1 x ef
          exact getattr_ok I1 hH c1 n1 l fun u' s2 I2 ru => ⟨y, _, I2, ru, outR.here out1 hold1 ry⟩
      | some φ => exact A pins s1 σ Q W1 v a dx gs true X.xe I1 hH hold1 r1 (outR.noErr_ out1)⟩
/-! ### methods of own classes -/
def mMethO (name : Str) (T : List (Str × Fn)) (mo : ME) (ma : MA) : ME := fun ρ S => (mo ρ S).bind fun v S1 => match (clsV S1 v).bind (fun z => T.lookup z) with
  | some φ => if (fldV S1 v name).isNone = true then (ma ρ S1).bind fun vs S2 => φ (v :: vs) S2 else .bad
  | none => .bad
def MethOk (X : Cx) (m : Str) (C : Addr) (φ : Fn) : Prop := ∃ g, Cls X.K C ∧ Meth X.K C m g ∧ CallOk X (.ref g) φ
variable {o e : Expr} {es : List Expr} {name : Str} {apos : Pos} {mo : ME} {ma : MA}
theorem ce_meth {pl : Sem Bool} (T : List (Str × Fn)) (hT : ∀ c φ, T.lookup c = some φ → ∀ C, X.mg c = some (.ref C) → MethOk X name C φ) (ho : CE X o mo) (ha : CA X (e :: es) ma)
    (hst : starEach (e :: es) X.env = (false, eval e X.env) :: starEach es X.env := by rfl) (hpl : (backTo pos (starEach es X.env)).any (·.1) = false := by rfl)
    (ht : eval (.Call (.Attribute o name apos) (e :: es) [] pos) X.env = (do
      let ov ← eval o X.env
      standAt apos.atName
      let (f, first) ← holding [ov] (getMethod ov name pl)
      callWith pos f first (backTo pos (starEach (e :: es) X.env)) (backToKw pos (keywordEach [] X.env))) := by rfl) : CE X (.Call (.Attribute o name apos) (e :: es) [] pos) (mMethO name T mo ma) := fun E tk => ⟨fun pins s σ H Q I h => by
  obtain ⟨W, ρ, rfl, hold, rel, out⟩ := h
  refine PySem.W.methodCall_KW (pl := pl) (thn ((ho E tk).run pins s σ _ (fun x H1 => ∃ (W1 : Wd) (v : Val), W1.full = H1 ∧ Hold X.w X.mg W1 ∧ RelL X.w X.mg W1 ρ σ ∧ RepV X.w X.mg W1 v x ∧ outR X.w X.mg (match (clsV W1.S v).bind (fun z => T.lookup z) with
    | some φ => if (fldV W1.S v name).isNone = true then (ma ρ W1.S).bind fun vs S2 => φ (v :: vs) S2 else .bad
    | none => .bad) W1 (RepV X.w X.mg) (fun c d H' => E c d σ H') Q) I ⟨W, ρ, rfl, hold, rel, outR.mono (outR.bind (Rl := RepV X.w X.mg) hold out) (fun x H1 ⟨W1, v, e0, e1, hold1, r1, out1⟩ => ⟨W1, v, e0, hold1, rel.mono e1, r1, out1⟩) fun _ _ _ z => z⟩) fun u s1 ⟨x, H1, I1, rx, W1, v, e0, hold1, rel1, r1, out1⟩ => ?_) ht
  subst e0
  cases ec : clsV W1.S v with
  | none => rw [ec] at out1; exact out1.elim
  | some c =>
    rw [ec] at out1
    obtain ⟨a, C, dx, gs, rfl, hH, hmg, hf⟩ := ins_fld hold1 r1 ec
    obtain rfl : u = Value.ref a := rx
    have e1 : ((some c).bind fun z => T.lookup z) = T.lookup c := rfl
    rw [e1] at out1
    cases et : T.lookup c with
    | none => rw [et] at out1; exact out1.elim
    | some φ =>
      rw [et] at out1
      obtain ⟨g, c1, m1, C1⟩ := hT c φ et C hmg
      have out1 : outR X.w X.mg (if (fldV W1.S v name).isNone = true then (ma ρ W1.S).bind fun vs S2 => φ (v :: vs) S2 else .bad) W1 (RepV X.w X.mg) (fun c d H' => E c d σ H') Q := out1
      split at out1
      · rename_i hn
        refine getmeth_ok I1 hH c1 m1 ((hf name).2 (by simpa using hn)) ?_
        refine PySem.W.callWith_K (first := [.ref a]) (h₀ := X.base) I1.ok.mod.kin m1.kp (thn ((ha E tk).run pos pins s1 σ _ (fun xs H2 => ∃ (W2 : Wd) (vs : List Val), W2.full = H2 ∧ Hold X.w X.mg W2 ∧ RepV X.w X.mg W2 v (.ref a) ∧ RepVs X.w X.mg W2 vs xs ∧
          outR X.w X.mg (φ (v :: vs) W2.S) W2 (RepV X.w X.mg) (fun c d H' => E c d σ H') Q) I1 ⟨W1, ρ, rfl, hold1, rel1, outR.mono (outR.bind (Rl := RepVs X.w X.mg) hold1 out1) (fun xs H2 ⟨W2, vs, e0, e2, hold2, r2, out2⟩ => ⟨W2, vs, e0, hold2, e2.repV r1, r2, out2⟩) fun _ _ _ z => z⟩)
          fun us s2 ⟨xs, H2, I2, rs, W2, vs, e0, hold2, rv2, r2, out2⟩ => ⟨I2.kIn, ?_⟩) hst hpl
        subst e0
        exact C1 E tk pins s2 σ _ (.ref a :: us) (.ref a :: xs) Q I2 (.cons rfl rs) ⟨W2, v :: vs, rfl, hold2, .cons rv2 r2, out2⟩
      · exact out1.elim⟩
theorem ce_meth0 {pl : Sem Bool} (T : List (Str × Fn)) (hT : ∀ c φ, T.lookup c = some φ → ∀ C, X.mg c = some (.ref C) → MethOk X name C φ) (ho : CE X o mo)
    (ht : eval (.Call (.Attribute o name apos) [] [] pos) X.env = (do
      let ov ← eval o X.env
      standAt apos.atName
      let (f, first) ← holding [ov] (getMethod ov name pl)
      callWith pos f first (backTo pos (starEach [] X.env)) (backToKw pos (keywordEach [] X.env))) := by rfl) : CE X (.Call (.Attribute o name apos) [] [] pos) (mMethO name T mo maNil) := fun E tk => ⟨fun pins s σ H Q I h => by
  obtain ⟨W, ρ, rfl, hold, rel, out⟩ := h
  refine PySem.W.methodCall_KW (pl := pl) (thn ((ho E tk).run pins s σ _ (fun x H1 => ∃ (W1 : Wd) (v : Val), W1.full = H1 ∧ Hold X.w X.mg W1 ∧ RepV X.w X.mg W1 v x ∧ outR X.w X.mg (match (clsV W1.S v).bind (fun z => T.lookup z) with
    | some φ => if (fldV W1.S v name).isNone = true then φ [v] W1.S else .bad
    | none => .bad) W1 (RepV X.w X.mg) (fun c d H' => E c d σ H') Q) I ⟨W, ρ, rfl, hold, rel, outR.mono (outR.bind (Rl := RepV X.w X.mg) hold out) (fun x H1 ⟨W1, v, e0, e1, hold1, r1, out1⟩ => ⟨W1, v, e0, hold1, r1, out1⟩) fun _ _ _ z => z⟩) fun u s1 ⟨x, H1, I1, rx, W1, v, e0, hold1, r1, out1⟩ => ?_) ht
  subst e0
  cases ec : clsV W1.S v with
  | none => rw [ec] at out1; exact out1.elim
  | some c =>
    rw [ec] at out1
    obtain ⟨a, C, dx, gs, rfl, hH, hmg, hf⟩ := ins_fld hold1 r1 ec
    obtain rfl : u = Value.ref a := rx
    have e1 : ((some c).bind fun z => T.lookup z) = T.lookup c := rfl
    rw [e1] at out1
    cases et : T.lookup c with
    | none => rw [et] at out1; exact out1.elim
    | some φ =>
      rw [et] at out1
      obtain ⟨g, c1, m1, C1⟩ := hT c φ et C hmg
      have out1 : outR X.w X.mg (if (fldV W1.S v name).isNone = true then φ [v] W1.S else .bad) W1 (RepV X.w X.mg) (fun c d H' => E c d σ H') Q := out1
      split at out1
      · rename_i hn
        refine getmeth_ok I1 hH c1 m1 ((hf name).2 (by simpa using hn)) ?_
        exact PySem.W.callWith_K0 (first := [.ref a]) I1.kIn m1.kp (C1 E tk pins s1 σ _ [.ref a] [.ref a] Q I1 (.cons rfl .nil) ⟨W1, [v], rfl, hold1, .cons r1 .nil, out1⟩)
      · exact out1.elim⟩
/-! ### an instance is made -/
def mkObj (c : Str) (φ : Fn) : Fn := fun args S => match φ (.ref S.length :: args) (S ++ [.live false (.ins c [])]) with
  | .ok (.d .non) S' => .ok (.ref S.length) S'
  | .ok _ _ => .bad
  | .err x S' => .err x S'
  | .bad => .bad
theorem callOk_make {c : Str} {C f : Addr} {fd : FuncData} {k : Nat} {ps : List Str} {n : Nat} {m : MS} (hmg : X.mg c = some (.ref C)) (M : Mk X.K C f)
    (F : FnOk X.prog X.w X.K X.mg X.base (L2.CX X.prog X.w) k f fd ps (spOf X.w X.mg ps.length (mkFn ps.length n m))) (hr : Room (k + 1) X.A) (hb : Binds X.K fd ps []) : CallOk X (.ref C) (mkObj c (mkFn ps.length n m)) := fun E tk pins s σ H us xs Q I r h => by
  obtain ⟨W, args, rfl, hold, ra, out⟩ := h
  have hx : PassesAt (L2.CX X.prog X.w) X σ (WE E σ) := passAt tk σ
  have hN1 : W.full (s.heap.objs.size + 1) = none := I.hok.fresh (Nat.le_succ _)
  have hN0 : W.full s.heap.objs.size = none := I.hok.fresh (Nat.le_refl _)
  have hne : s.heap.objs.size ≠ s.heap.objs.size + 1 := Nat.ne_of_lt (Nat.lt_succ_self _)
  -- the new world
  obtain ⟨a1, a2⟩ := Wd.full_none hN0
  obtain ⟨b1, b2⟩ := Wd.full_none hN1
  have E1 : Ext W ⟨W.M, W.S, upd W.H s.heap.objs.size (.own (s.heap.objs.size + 1)), W.F⟩ := ext_new a1
  have ho1 : Hold X.w X.mg ⟨W.M, W.S, upd W.H s.heap.objs.size (.own (s.heap.objs.size + 1)), W.F⟩ := hold_new hold a1 a2
  have b1' : upd W.H s.heap.objs.size (.own (s.heap.objs.size + 1)) (s.heap.objs.size + 1) = none := by rw [upd_ne (Ne.symm hne)]; exact b1
  have E2 : Ext ⟨W.M, W.S, upd W.H s.heap.objs.size (.own (s.heap.objs.size + 1)), W.F⟩ ⟨W.M ++ [s.heap.objs.size + 1], W.S ++ [.live false (.ins c [])], upd (upd W.H s.heap.objs.size (.own (s.heap.objs.size + 1))) (s.heap.objs.size + 1) (.ins C s.heap.objs.size []), W.F⟩ := ext_cell ho1 b1'
  have ho2 := hold_cell (o := .ins C s.heap.objs.size []) (b := .ins c []) (lk := false) ho1 b1' b2 ⟨C, s.heap.objs.size, [], upd_same, hmg, .nil⟩
  have E3 := E1.trans E2 hold ho1
  have full3 : (⟨W.M ++ [s.heap.objs.size + 1], W.S ++ [.live false (.ins c [])], upd (upd W.H s.heap.objs.size (.own (s.heap.objs.size + 1))) (s.heap.objs.size + 1) (.ins C s.heap.objs.size []), W.F⟩ : Wd).full
      = upd (upd W.full s.heap.objs.size (.own (s.heap.objs.size + 1))) (s.heap.objs.size + 1) (.ins C s.heap.objs.size []) := by
    show join _ _ = _
    rw [join_upd, join_upd]
    rfl
  have hat : (W.M ++ [s.heap.objs.size + 1])[W.S.length]? = some (s.heap.objs.size + 1) := by
    rw [← hold.len, List.getElem?_append_right (Nat.le_refl _)]
    simp
  have rargs : RepVs X.w X.mg ⟨W.M ++ [s.heap.objs.size + 1], W.S ++ [.live false (.ins c [])], upd (upd W.H s.heap.objs.size (.own (s.heap.objs.size + 1))) (s.heap.objs.size + 1) (.ins C s.heap.objs.size []), W.F⟩ (.ref W.S.length :: args) (.ref (s.heap.objs.size + 1) :: xs) :=
    .cons ⟨_, hat, rfl⟩ (E3.repVs ra)
  unfold mkObj at out
  by_cases hl : (Val.ref W.S.length :: args).length = ps.length
  · have hq : spOf X.w X.mg ps.length (mkFn ps.length n m) (.ref (s.heap.objs.size + 1) :: xs) (upd (upd W.full s.heap.objs.size (.own (s.heap.objs.size + 1))) (s.heap.objs.size + 1) (.ins C s.heap.objs.size []))
        (fun v H2 => v = .non ∧ Q (.ref (s.heap.objs.size + 1)) H2) (WE E σ) := by
      refine ⟨by rw [← rargs.length]; exact hl, _, _, full3, ho2, rargs, ?_⟩
      cases e : mkFn ps.length n m (.ref W.S.length :: args) (W.S ++ [.live false (.ins c [])]) with
      | bad => rw [e] at out; exact out.elim
      | err x S' =>
        rw [e] at out
        intro W' c' d' hs' e' ho' rx
        exact out W' c' d' hs' (E3.trans e' hold ho2) ho' rx
      | ok v S' =>
        rw [e] at out
        intro W' y hs' e' ho' ry
        cases v with
        | ref _ => exact out.elim
        | d z =>
          cases z with
          | non =>
            cases ry
            refine ⟨rfl, out W' _ hs' (E3.trans e' hold ho2) ho' ⟨_, e'.M_at hat, rfl⟩⟩
          | _ => exact out.elim
    have I2 := Inv.made (C := C) I
    have r2 : Vals (V.ref (s.heap.objs.size + 1) :: xs) (Value.ref (s.heap.objs.size + 1) :: us) := .cons rfl r
    have hl2 : (Value.ref (s.heap.objs.size + 1) :: us).length = ps.length := by
      have e := r2.length
      rw [F.len _ _ _ _ hq] at e
      exact e.symm
    have bb := hb { s with heap := (s.heap.push PySem.W.emptyDict).push (PySem.W.instObj C s.heap.objs.size) } (Value.ref (s.heap.objs.size + 1) :: us) I2.kIn (by rw [List.append_nil]; exact hl2)
    rw [List.append_nil] at bb
    refine wpAny_call (make_map (f := f) I.kIn M.makes M.init (beq_iff_eq.mp M.fn) (codeAny_mono (F.run _ X.stack _ _ ⟨Value.ref (s.heap.objs.size + 1) :: us, []⟩ (Value.ref (s.heap.objs.size + 1) :: us) _ _ (WE E σ) (hr.make C us [])
      (I2.env0.make C us []) bb r2 hq) fun r s' hq' => ?_))
    cases r with
    | error e => exact hx pins _ _ e s' I2 hq'
    | ok fl =>
      cases fl with
      | ret u =>
        obtain ⟨v, H', I3, rv, ev, q3⟩ := I2.after hq'
        subst ev
        exact ⟨rv, ⟨V.ref (s.heap.objs.size + 1), H', I3, rfl, q3⟩⟩
      | next => exact False.elim hq'
      | brk => exact False.elim hq'
      | cont => exact False.elim hq'
  · unfold mkFn at out
    rw [if_neg hl] at out
    exact out.elim
/-! ### o.f = v -/
def putV (f : Str) (v : Val) : List (Str × Val) → List (Str × Val)
  | [] => [(f, v)]
  | (g, x) :: r => if g = f then (g, v) :: r else (g, x) :: putV f v r
theorem putV_ok {f : Str} {v : Val} {y : V} (r : RepV w mg W v y) : ∀ {fs : List (Str × Val)} {gs : List (Str × V)}, RepFV w mg W fs gs → RepFV w mg W (putV f v fs) (putF f y gs)
  | _, _, .nil => .cons r .nil
  | _, _, .cons (f := g) q t => by
    unfold putV putF
    split
    · exact .cons r t
    · exact .cons q (putV_ok r t)
theorem RepFV.length : ∀ {fs : List (Str × Val)} {gs : List (Str × V)}, RepFV w mg W fs gs → fs.length = gs.length
  | _, _, .nil => rfl
  | _, _, .cons _ t => congrArg Nat.succ (RepFV.length t)
/-- cls: the classes for which the name is a plain attribute -/
def stF (f : Str) (cls : List Str) (S : Store) (o v : Val) : Option Store := match o with
  | .ref n => match S[n]? with
    | some (.live false (.ins c fs)) => if cls.contains c = true ∧ fs.length < 1000 then some (S.set n (.live false (.ins c (putV f v fs)))) else none
    | _ => none
  | _ => none
def msSetF (f : Str) (cls : List Str) (mv mo : ME) : MS := fun ρ S => (mv ρ S).toO ρ fun v S1 => (mo ρ S1).toO ρ fun o S2 => match stF f cls S2 o v with
  | some S3 => .nx ρ S3
  | none => .bad
theorem cs_setF {o v : Expr} {f : Str} {p1 : Pos} {mv mo : ME} (cls : List Str) (hT : ∀ c, c ∈ cls → ∀ C, X.mg c = some (.ref C) → Cls X.K C ∧ NoAttr X.K C f) (ho : CE X o mo) (hv : CE X v mv)
    (hs : swapsWith v (some (.Attribute o f p1)) pos.line X.env = pure false := by rfl) : CS X (.Assign [.Attribute o f p1] v pos) (msSetF f cls mv mo) := fun E tk => PS.imp (ps_fld (ho E tk) (hv E tk) hs) fun D σ H h => by
  obtain ⟨W, ρ, rfl, hold, rel, out⟩ := h
  refine ⟨W, ρ, rfl, hold, rel, outR.mono (outO.bind (Rl := RepV X.w X.mg) hold rel out) (fun y H1 h1 => ?_) fun _ _ _ z => z⟩
  obtain ⟨W1, v1, rfl, e1, hold1, rel1, r1, out1⟩ := h1
  refine ⟨W1, ρ, rfl, hold1, rel1, outR.mono (outO.bind (Rl := RepV X.w X.mg) hold1 rel1 out1) (fun y2 H2 h2 => ?_) fun _ _ _ z => z⟩
  obtain ⟨W2, v2, rfl, e2, hold2, rel2, r2, out2⟩ := h2
  split at out2
  · rename_i S3 e3
    unfold stF at e3
    split at e3
    · rename_i n
      split at e3
      · rename_i c fs hc
        split at e3
        · rename_i hh
          cases e3
          obtain ⟨a, ha, rfl⟩ := r2
          obtain ⟨a', ha', C, dx, gs, h, m, rf⟩ := hold2.cell n false _ hc
          rw [ha] at ha'
          cases ha'
          obtain ⟨c1, n1⟩ := hT c (by simpa using hh.1) C m
          refine ⟨a, C, dx, gs, rfl, Wd.full_at h, c1, n1, by rw [← rf.length]; exact hh.2, ?_⟩
          have ry := e2.repV r1
          have e4 : Ext W2 ⟨W2.M, W2.S.set n (.live false (.ins c (putV f v1 fs))), upd W2.H a (.ins C dx (putF f y gs)), W2.F⟩ := ext_set hold2 ha hc
          have h4 := hold_set (o := .ins C dx (putF f y gs)) (b' := .ins c (putV f v1 fs)) hold2 ha hc ⟨C, dx, _, upd_same, m, putV_ok (e4.repV ry) (e4.repFV rf)⟩
          have q := out2 _ σ rfl e4 h4 (rel2.mono e4)
          rwa [show (⟨W2.M, W2.S.set n (.live false (.ins c (putV f v1 fs))), upd W2.H a (.ins C dx (putF f y gs)), W2.F⟩ : Wd).full = upd W2.full a (.ins C dx (putF f y gs)) from join_upd _ _ _ _] at q
        · cases e3
      · cases e3
    · cases e3
  · exact out2.elim
end
end Lc

set_option maxHeartbeats 2000000
/-! Lc, part N: what is walked. -/
namespace Lc
open PySem PySem.Spec PyProof.Rows L2
section
variable {X : Cx} {tg : Expr} {pos : Pos} {w : World} {mg : Str → Option Value} {W : Wd}
theorem reps_at_len {G : Gr} {xs : List D} {vs : List V} {i : Nat} {v : V} (r : Reps G xs vs) (h : vs[i]? = some v) : ∃ x, (xs.map Val.d)[i]? = some (.d x) ∧ Rep G x v := by
  obtain ⟨x, h1, h2⟩ := r.at h
  exact ⟨x, by rw [List.getElem?_map, h1]; rfl, h2⟩
/-- what stands stays under the steps that a walk sees -/
theorem stays {a : Addr} {o : HO} (h : W.H a = some o) (s : W.Stuck a) {W' : Wd} (e : ExtF W W') : W'.full a = some o := Wd.full_at (e.keep a o h s)
theorem rd_stays {a : Addr} {u : HO} (h : Rd W.H a u) (s : W.Stuck a) {W' : Wd} (e : ExtF W W') : Rd W'.full a u := by
  rcases h with h | ⟨o, h⟩
  · exact .inl (stays h s e)
  · exact .inr ⟨o, stays h s e⟩
theorem it_list {K : PySem.W.Frag} {a : Addr} {xs : List D} {vs : List V} (h : Rd W.H a (.lst vs)) (s : W.Stuck a) (rs : Reps (W.gr w mg) xs vs) : ItOk w mg W (xs.map .d) (Itl K a) := by
  refine ⟨fun H => SqL K H a vs, fun W' e => .inl (rd_stays h s e), ?_⟩
  rw [List.length_map, rs.length]
  exact walk_list.mono (fun _ h => h) fun i H x H' hi g y => by
    obtain ⟨rfl, y⟩ := y
    intro W' hf e ho
    obtain ⟨z, h1, h2⟩ := reps_at_len rs y
    exact ⟨W', hf, rfl, Ext.refl W', ho, .d z, h1, Rep.mono (Ext.le e) h2⟩
theorem it_tup {K : PySem.W.Frag} {a : Addr} {xs : List D} {vs : List V} (h : Rd W.H a (.tup vs)) (s : W.Stuck a) (rs : Reps (W.gr w mg) xs vs) : ItOk w mg W (xs.map .d) (Itt K a) := by
  refine ⟨fun H => SqT K H a vs, fun W' e => .inl (rd_stays h s e), ?_⟩
  rw [List.length_map, rs.length]
  exact walk_tup.mono (fun _ h => h) fun i H x H' hi g y => by
    obtain ⟨rfl, y⟩ := y
    intro W' hf e ho
    obtain ⟨z, h1, h2⟩ := reps_at_len rs y
    exact ⟨W', hf, rfl, Ext.refl W', ho, .d z, h1, Rep.mono (Ext.le e) h2⟩
def chD (z : Str) : List Val := z.cps.toList.map fun c => .d (.str ⟨#[c]⟩)
theorem it_str {z : Str} : ItOk w mg W (chD z) (Its z) := by
  refine ⟨fun _ => True, fun _ _ => trivial, ?_⟩
  have hl : (chD z).length = z.cps.size := by unfold chD; simp
  rw [hl]
  exact walk_str.mono (fun _ h => h) fun i H x H' hi g y => by
    obtain ⟨rfl, c, y, rfl⟩ := y
    intro W' hf e ho
    exact ⟨W', hf, rfl, Ext.refl W', ho, .d (.str ⟨#[c]⟩), by unfold chD; rw [List.getElem?_map, Array.getElem?_toList, y]; rfl, .str _⟩
def rngD (lo c : Int) (n : Nat) : List Val := (List.range n).map fun i => .d (.int (lo + (i : Nat) * c))
theorem it_range {lo : Int} {n : Nat} : ItOk w mg W (rngD lo 1 n) (Itr lo n) := by
  refine ⟨fun _ => True, fun _ _ => trivial, ?_⟩
  have hl : (rngD lo 1 n).length = n := by unfold rngD; simp
  rw [hl]
  exact walk_range.mono (fun _ h => h) fun i H x H' hi g y => by
    obtain ⟨rfl, rfl⟩ := y
    intro W' hf e ho
    exact ⟨W', hf, rfl, Ext.refl W', ho, .d (.int (lo + (i : Nat) * 1)), by unfold rngD; rw [List.getElem?_map, List.getElem?_range hi]; rfl, by rw [Int.mul_one]; exact .int _⟩
theorem it_rangeC {lo c : Int} {n : Nat} : ItOk w mg W (rngD lo c n) (Itc lo c n) := by
  refine ⟨fun _ => True, fun _ _ => trivial, ?_⟩
  have hl : (rngD lo c n).length = n := by unfold rngD; simp
  rw [hl]
  exact walk_rangeC.mono (fun _ h => h) fun i H x H' hi g y => by
    obtain ⟨rfl, rfl⟩ := y
    intro W' hf e ho
    exact ⟨W', hf, rfl, Ext.refl W', ho, .d (.int (lo + (i : Nat) * c)), by unfold rngD; rw [List.getElem?_map, List.getElem?_range hi]; rfl, .int _⟩
/-! ### a list, a tuple, a text -/
/-- a changeable list is read only from here on -/
def itV (S : Store) (v : Val) : R (List Val) := match v with
  | .d (.lst xs) => .ok (xs.map .d) S
  | .d (.tup xs) => .ok (xs.map .d) S
  | .d (.str z) => .ok (chD z) S
  | .ref n => match S[n]? with
    | some (.live false (.lst xs)) => .ok (xs.map .d) (S.set n (.live true (.lst xs)))
    | some (.live true (.lst xs)) => .ok (xs.map .d) S
    | _ => .bad
  | _ => .bad
def miV (m : ME) : MI := fun ρ S => (m ρ S).bind fun v S1 => itV S1 v
theorem stuck_ref {n : Nat} {a : Addr} {b : Body} (hold : Hold w mg W) (ha : W.M[n]? = some a) (h : W.S[n]? = some (.live true b)) : W.Stuck a := fun m hm b' q => by
  have := nodup_at hold.nd hm ha
  subst this
  rw [h] at q
  cases q
theorem ci_seq {e : Expr} {m : ME} (he : CE X e m) : CI X tg e (miV m) := fun E tk => ⟨fun pins s σ H R I h => by
  obtain ⟨W, ρ, rfl, hold, rel, out⟩ := h
  unfold miV at out
  cases em : m ρ W.S with
  | bad => rw [em] at out; exact out.elim
  | err x S' =>
    refine (pi_list (he E tk)).run pins s σ _ R I ⟨W, ρ, rfl, hold, rel, ?_⟩
    rw [em] at out ⊢
    exact out
  | ok v S' =>
    have out : outR X.w X.mg (itV S' v) W (ItOk X.w X.mg) (fun c d H' => E c d σ H') R := by rw [em] at out; exact out
    unfold itV at out
    split at out
    · rename_i xs
      refine (pi_list (he E tk)).run pins s σ _ R I ⟨W, ρ, rfl, hold, rel, ?_⟩
      rw [em]
      intro W' y hs e ho r
      cases r with
      | lst h z rs =>
        subst hs
        refine ⟨_, rfl, ⟨_, .inl (Wd.full_rd h)⟩, out W' _ rfl e ho (it_list h (Wd.Fz.stuck z) rs)⟩
    · rename_i xs
      refine (pi_tup (he E tk)).run pins s σ _ R I ⟨W, ρ, rfl, hold, rel, ?_⟩
      rw [em]
      intro W' y hs e ho r
      cases r with
      | tup h z rs =>
        subst hs
        refine ⟨_, rfl, ⟨_, .inl (Wd.full_rd h)⟩, out W' _ rfl e ho (it_tup h (Wd.Fz.stuck z) rs)⟩
    · rename_i z
      refine (pi_str (he E tk)).run pins s σ _ R I ⟨W, ρ, rfl, hold, rel, ?_⟩
      rw [em]
      intro W' y hs e ho r
      cases r
      subst hs
      exact ⟨_, rfl, out W' _ rfl e ho it_str⟩
    · rename_i n
      refine (pi_list (he E tk)).run pins s σ _ R I ⟨W, ρ, rfl, hold, rel, ?_⟩
      rw [em]
      intro W' y hs e ho r
      subst hs
      obtain ⟨a, ha, rfl⟩ := r
      split at out
      · rename_i xs hc
        obtain ⟨a', ha', vs, h, rs⟩ := ho.cell n false _ hc
        rw [ha] at ha'
        cases ha'
        have E2 : Ext W' ⟨W'.M, W'.S.set n (.live true (.lst xs)), W'.H, W'.F⟩ := ext_mark hc rfl
        have ho2 : Hold X.w X.mg ⟨W'.M, W'.S.set n (.live true (.lst xs)), W'.H, W'.F⟩ := hold_mark ho hc (.inr rfl)
        refine ⟨a, rfl, ⟨_, .inl (Wd.full_rd (.inl h))⟩, out ⟨W'.M, W'.S.set n (.live true (.lst xs)), W'.H, W'.F⟩ _ rfl (e.trans E2 hold ho) ho2 (it_list (W := ⟨W'.M, W'.S.set n (.live true (.lst xs)), W'.H, W'.F⟩) (.inl h) (stuck_ref ho2 ha (b := .lst xs) ?_) (rs.mono E2.le))⟩
        exact List.getElem?_set_self (List.getElem?_eq_some_iff.mp hc).1
      · rename_i xs hc
        obtain ⟨a', ha', vs, h, rs⟩ := ho.cell n true _ hc
        rw [ha] at ha'
        cases ha'
        exact ⟨a, rfl, ⟨_, .inl (Wd.full_rd (.inl h))⟩, out W' _ rfl e ho (it_list (.inl h) (stuck_ref ho ha hc) rs)⟩
      · exact out.elim
    · exact out.elim⟩
/-! ### range -/
def rng1 (vs : List Val) (S : Store) : R (List Val) := match vs with
  | [.d (.int j)] => if -(2 ^ 62) ≤ j ∧ j < 2 ^ 62 then .ok (rngD 0 1 j.toNat) S else .bad
  | _ => .bad
def rng2 (vs : List Val) (S : Store) : R (List Val) := match vs with
  | [.d (.int i), .d (.int j)] => if -(2 ^ 62) ≤ i ∧ i < 2 ^ 62 ∧ -(2 ^ 62) ≤ j ∧ j < 2 ^ 62 then .ok (rngD i 1 (j - i).toNat) S else .bad
  | _ => .bad
def rng3 (vs : List Val) (S : Store) : R (List Val) := match vs with
  | [.d (.int i), .d (.int j), .d (.int c)] => if c = -1 ∧ -(2 ^ 62) ≤ i ∧ i < 2 ^ 62 ∧ -(2 ^ 62) ≤ j ∧ j < 2 ^ 62 then .ok (rngD i (-1) (i - j).toNat) S else .bad
  | _ => .bad
def miRng (g : List Val → Store → R (List Val)) (ma : MA) : MI := fun ρ S => (ma ρ S).bind g
theorem ci_rng1 {a : Expr} {ma : MA} {p : Pos} (hm : X.mg "range" = none) (ha : CA X [a] ma) (hg : Gl X "range" := by rfl) (hs : starEach [a] X.env = [(false, eval a X.env)] := by rfl) : CI X tg (.Call (.Name "range" p) [a] [] pos) (miRng rng1 ma) := fun E tk => PI.imp (pi_range1 hg hm (ha E tk) hs) fun σ H R h => by
  obtain ⟨W, ρ, rfl, hold, rel, out⟩ := h
  refine ⟨W, ρ, rfl, hold, rel, outR.mono (outR.bind (Rl := RepVs X.w X.mg) hold out) (fun xs H1 h1 => ?_) fun _ _ _ z => z⟩
  obtain ⟨W1, vs, rfl, e1, hold1, r1, out1⟩ := h1
  unfold rng1 at out1
  split at out1
  · rename_i j
    split at out1
    · rename_i hb
      obtain ⟨y, rfl, ry⟩ := one_arg r1 rfl
      cases ry
      exact ⟨j, rfl, hb.1, hb.2, outR.here out1 hold1 it_range⟩
    · exact out1.elim
  · exact out1.elim
theorem ci_rng2 {a b : Expr} {ma : MA} {p : Pos} (hm : X.mg "range" = none) (ha : CA X [a, b] ma) (hg : Gl X "range" := by rfl) (hs : starEach [a, b] X.env = [(false, eval a X.env), (false, eval b X.env)] := by rfl) (hs2 : starEach [b] X.env = [(false, eval b X.env)] := by rfl) :
    CI X tg (.Call (.Name "range" p) [a, b] [] pos) (miRng rng2 ma) := fun E tk => PI.imp (pi_range2 hg hm (ha E tk) hs hs2) fun σ H R h => by
  obtain ⟨W, ρ, rfl, hold, rel, out⟩ := h
  refine ⟨W, ρ, rfl, hold, rel, outR.mono (outR.bind (Rl := RepVs X.w X.mg) hold out) (fun xs H1 h1 => ?_) fun _ _ _ z => z⟩
  obtain ⟨W1, vs, rfl, e1, hold1, r1, out1⟩ := h1
  unfold rng2 at out1
  split at out1
  · rename_i i j
    split at out1
    · rename_i hb
      obtain ⟨y, z, rfl, ry, rz⟩ := two_args r1 rfl
      cases ry; cases rz
      exact ⟨i, j, rfl, hb, outR.here out1 hold1 it_range⟩
    · exact out1.elim
  · exact out1.elim
theorem ci_rng3 {a b c : Expr} {ma : MA} {p : Pos} (hm : X.mg "range" = none) (ha : CA X [a, b, c] ma) (hg : Gl X "range" := by rfl)
    (hs : starEach [a, b, c] X.env = (false, eval a X.env) :: starEach [b, c] X.env := by rfl) (hpl : (backTo pos (starEach [b, c] X.env)).any (·.1) = false := by rfl) :
    CI X tg (.Call (.Name "range" p) [a, b, c] [] pos) (miRng rng3 ma) := fun E tk => PI.imp (pi_range3 hg hm (ha E tk) hs hpl) fun σ H R h => by
  obtain ⟨W, ρ, rfl, hold, rel, out⟩ := h
  refine ⟨W, ρ, rfl, hold, rel, outR.mono (outR.bind (Rl := RepVs X.w X.mg) hold out) (fun xs H1 h1 => ?_) fun _ _ _ z => z⟩
  obtain ⟨W1, vs, rfl, e1, hold1, r1, out1⟩ := h1
  unfold rng3 at out1
  split at out1
  · rename_i i j c
    split at out1
    · rename_i hb
      obtain ⟨rfl, h1, h2, h3, h4⟩ := hb
      cases r1 with
      | cons ry r1 =>
        obtain ⟨y, z, rfl, rz, rw'⟩ := two_args r1 rfl
        cases ry; cases rz; cases rw'
        exact ⟨i, j, -1, _, rfl, RgC.neg h1 h2 h3 h4, outR.here out1 hold1 it_rangeC⟩
    · exact out1.elim
  · exact out1.elim
/-! ### enumerate, zip -/
def lstV (S : Store) (v : Val) : R (List D) := match v with
  | .d (.lst xs) => .ok xs S
  | .ref n => match S[n]? with
    | some (.live false (.lst xs)) => .ok xs (S.set n (.live true (.lst xs)))
    | some (.live true (.lst xs)) => .ok xs S
    | _ => .bad
  | _ => .bad
/-- a list that stays -/
def Lst (w : World) (mg : Str → Option Value) (W : Wd) (xs : List D) (a : Addr) : Prop := ∃ vs, Rd W.H a (.lst vs) ∧ W.Stuck a ∧ Reps (W.gr w mg) xs vs
theorem Lst.mono {W' : Wd} {xs : List D} {a : Addr} (h : Lst w mg W xs a) (e : Ext W W') (hold : Hold w mg W) (hold' : Hold w mg W') : Lst w mg W' xs a := by
  obtain ⟨vs, h1, h2, h3⟩ := h
  have ne : W.H a ≠ none := by
    rcases h1 with h1 | ⟨o, h1⟩ <;> (rw [h1]; simp)
  refine ⟨vs, ?_, e.stuck hold hold' ne h2, h3.mono e.le⟩
  rcases h1 with h1 | ⟨o, h1⟩
  · exact .inl (e.keep _ _ h1 h2)
  · exact .inr ⟨o, e.keep _ _ h1 h2⟩
/-- as an outcome -/
theorem lstV_out {v : Val} {y : V} {α β : Type} {f : List D → Store → R α} {Rl : Wd → α → β → Prop} {E : XH} {Q : β → Hp → Prop} (hold : Hold w mg W) (r : RepV w mg W v y) (out : outR w mg ((lstV W.S v).bind f) W Rl E Q) :
    ∃ a xs W', y = .ref a ∧ W'.full = W.full ∧ Ext W W' ∧ Hold w mg W' ∧ Lst w mg W' xs a ∧ outR w mg (f xs W'.S) W' Rl E Q := by
  unfold lstV at out
  split at out
  · rename_i xs
    cases r with
    | lst h z rs => exact ⟨_, xs, W, rfl, rfl, Ext.refl W, hold, ⟨_, h, Wd.Fz.stuck z, rs⟩, out⟩
  · rename_i n
    obtain ⟨a, ha, rfl⟩ := r
    split at out
    · rename_i xs hc
      obtain ⟨a', ha', vs, h, rs⟩ := hold.cell n false _ hc
      rw [ha] at ha'
      cases ha'
      have E2 : Ext W ⟨W.M, W.S.set n (.live true (.lst xs)), W.H, W.F⟩ := ext_mark hc rfl
      have ho2 : Hold w mg ⟨W.M, W.S.set n (.live true (.lst xs)), W.H, W.F⟩ := hold_mark hold hc (.inr rfl)
      refine ⟨a, xs, ⟨W.M, W.S.set n (.live true (.lst xs)), W.H, W.F⟩, rfl, rfl, E2, ho2, ⟨vs, .inl h, stuck_ref ho2 ha (b := .lst xs) ?_, rs.mono E2.le⟩, outR.shift E2 hold ho2 out⟩
      exact List.getElem?_set_self (List.getElem?_eq_some_iff.mp hc).1
    · rename_i xs hc
      obtain ⟨a', ha', vs, h, rs⟩ := hold.cell n true _ hc
      rw [ha] at ha'
      cases ha'
      exact ⟨a, xs, W, rfl, rfl, Ext.refl W, hold, ⟨vs, .inl h, stuck_ref hold ha hc, rs⟩, out⟩
    · exact out.elim
  · exact out.elim
def enumD (xs : List D) : List Val := (List.range xs.length).map fun i => .d (.tup [.int (i : Nat), xs.getD i .non])
def miEnum (ma : MA) : MI := fun ρ S => (ma ρ S).bind fun vs S1 => match vs with
  | [v] => (lstV S1 v).bind fun xs S2 => .ok (enumD xs) S2
  | _ => .bad
/-- a pair made by a walk -/
theorem pair_out {W' : Wd} {T : Addr} {p q : V} {y z : D} (ho : Hold w mg W') (hT : W'.full T = none) (r1 : Rep (W'.gr w mg) y p) (r2 : Rep (W'.gr w mg) z q) :
    ∃ W'' : Wd, W''.full = upd W'.full T (.tup [p, q]) ∧ W''.S = W'.S ∧ Ext W' W'' ∧ Hold w mg W'' ∧ RepV w mg W'' (.d (.tup [y, z])) (.ref T) := by
  obtain ⟨h1, h2⟩ := Wd.full_none hT
  have E2 : Ext W' ⟨W'.M, W'.S, upd W'.H T (.tup [p, q]), W'.F⟩ := ext_new h1
  exact ⟨⟨W'.M, W'.S, upd W'.H T (.tup [p, q]), W'.F⟩, join_upd _ _ _ _, rfl, E2, hold_new ho h1 h2, .tup (.inl upd_same) (fz_new ho h1 _) (.cons (E2.rep r1) (.cons (E2.rep r2) .nil))⟩
theorem it_enum {K : PySem.W.Frag} {a : Addr} {xs : List D} (h : Lst w mg W xs a) : ItOk w mg W (enumD xs) (Ite K a) := by
  obtain ⟨vs, h1, h2, rs⟩ := h
  refine ⟨fun H => SqL K H a vs, fun W' e => .inl (rd_stays h1 h2 e), ?_⟩
  have hl : (enumD xs).length = vs.length := by unfold enumD; rw [List.length_map, List.length_range, rs.length]
  rw [hl]
  exact walk_enum.mono (fun _ h => h) fun i H x H' hi g y => by
    obtain ⟨T, p, q, rfl, hT, rfl, y1, y2⟩ := y
    intro W' hf e ho
    subst hf
    cases y1
    obtain ⟨z, z1, z2⟩ := rs.at y2
    obtain ⟨W'', f1, f2, f3, f4, f5⟩ := pair_out (W' := W') (y := .int (i : Nat)) ho hT (.int _) (Rep.mono (Ext.le e) z2)
    refine ⟨W'', f1, f2, f3, f4, _, ?_, f5⟩
    unfold enumD
    rw [List.getElem?_map, List.getElem?_range (by rw [rs.length]; exact hi)]
    simp [List.getD, z1]
theorem ci_enum {e : Expr} {ma : MA} {p tpos : Pos} {elts : List Expr} {kk : Nat} (hm : X.mg "enumerate" = none) (ha : CA X [e] ma) (hg : Gl X "enumerate" := by rfl) (hs : starEach [e] X.env = [(false, eval e X.env)] := by rfl) :
    CI X (.Tuple elts kk tpos) (.Call (.Name "enumerate" p) [e] [] pos) (miEnum ma) := fun E tk => PI.imp (pi_enum hg hm (ha E tk) hs) fun σ H R h => by
  obtain ⟨W, ρ, rfl, hold, rel, out⟩ := h
  refine ⟨W, ρ, rfl, hold, rel, outR.mono (outR.bind (Rl := RepVs X.w X.mg) hold out) (fun xs H1 h1 => ?_) fun _ _ _ z => z⟩
  obtain ⟨W1, vs, rfl, e1, hold1, r1, out1⟩ := h1
  split at out1
  · obtain ⟨y, rfl, ry⟩ := one_arg r1 rfl
    obtain ⟨a, xs, W2, rfl, hf, e2, hold2, L, out2⟩ := lstV_out hold1 ry out1
    rw [← hf]
    obtain ⟨vs, h1, h2, h3⟩ := id L
    exact ⟨a, vs, rfl, .inl (Wd.full_rd h1), outR.here out2 hold2 (it_enum L)⟩
  · exact out1.elim
def zipD (xs ys : List D) : List Val := (xs.zip ys).map fun p => .d (.tup [p.1, p.2])
def miZip (ma : MA) : MI := fun ρ S => (ma ρ S).bind fun vs S1 => match vs with
  | [v, u] => (lstV S1 v).bind fun xs S2 => (lstV S2 u).bind fun ys S3 => .ok (zipD xs ys) S3
  | _ => .bad
theorem it_zip {K : PySem.W.Frag} {a b : Addr} {xs ys : List D} (h : Lst w mg W xs a) (h' : Lst w mg W ys b) : ItOk w mg W (zipD xs ys) (Itz K a b) := by
  obtain ⟨vs, h1, h2, rs⟩ := h
  obtain ⟨us, k1, k2, qs⟩ := h'
  refine ⟨fun H => SqL K H a vs ∧ SqL K H b us, fun W' e => ⟨.inl (rd_stays h1 h2 e), .inl (rd_stays k1 k2 e)⟩, ?_⟩
  have hl : (zipD xs ys).length = min vs.length us.length := by unfold zipD; rw [List.length_map, List.length_zip, rs.length, qs.length]
  exact (walk_zip hl).mono (fun _ h => h) fun i H x H' hi g y => by
    obtain ⟨T, p, q, rfl, hT, rfl, y1, y2⟩ := y
    intro W' hf e ho
    subst hf
    obtain ⟨z, z1, z2⟩ := rs.at y1
    obtain ⟨u, u1, u2⟩ := qs.at y2
    obtain ⟨W'', f1, f2, f3, f4, f5⟩ := pair_out (W' := W') ho hT (Rep.mono (Ext.le e) z2) (Rep.mono (Ext.le e) u2)
    refine ⟨W'', f1, f2, f3, f4, _, ?_, f5⟩
    unfold zipD
    rw [List.getElem?_map, show (xs.zip ys)[i]? = some (z, u) from List.getElem?_zip_eq_some.mpr ⟨z1, u1⟩]
    rfl
theorem ci_zip {e e2 : Expr} {ma : MA} {p tpos : Pos} {elts : List Expr} {kk : Nat} (hm : X.mg "zip" = none) (ha : CA X [e, e2] ma) (hg : Gl X "zip" := by rfl)
    (hs : starEach [e, e2] X.env = (false, eval e X.env) :: starEach [e2] X.env := by rfl) (hpl : (backTo pos (starEach [e2] X.env)).any (·.1) = false := by rfl) :
    CI X (.Tuple elts kk tpos) (.Call (.Name "zip" p) [e, e2] [] pos) (miZip ma) := fun E tk => PI.imp (pi_zip hg hm (ha E tk) hs hpl) fun σ H R h => by
  obtain ⟨W, ρ, rfl, hold, rel, out⟩ := h
  refine ⟨W, ρ, rfl, hold, rel, outR.mono (outR.bind (Rl := RepVs X.w X.mg) hold out) (fun xs H1 h1 => ?_) fun _ _ _ z => z⟩
  obtain ⟨W1, vs, rfl, e1, hold1, r1, out1⟩ := h1
  split at out1
  · obtain ⟨y, z, rfl, ry, rz⟩ := two_args r1 rfl
    obtain ⟨a, xs, W2, rfl, hf, e2, hold2, L, out2⟩ := lstV_out hold1 ry out1
    obtain ⟨b, ys, W3, rfl, hf3, e3, hold3, L3, out3⟩ := lstV_out hold2 (e2.repV rz) out2
    rw [← hf, ← hf3]
    have L := L.mono e3 hold2 hold3
    obtain ⟨vs, h1, h2, h3⟩ := id L
    obtain ⟨us, k1, k2, k3⟩ := id L3
    exact ⟨a, b, vs, us, rfl, .inl (Wd.full_rd h1), .inl (Wd.full_rd k1), outR.here out3 hold3 (it_zip L L3)⟩
  · exact out1.elim
end
end Lc

set_option maxHeartbeats 2000000
/-! Lc, part O: facts of the written part, by a look of one's own. -/
namespace Lc
open PySem PySem.Spec PyProof.Rows L2
/-- what an object names, as far as the facts look -/
def refsC (o : Obj) : List Addr := match o.data with
  | .dict es _ => es.toList.flatMap fun e => He.refV e.val
  | .func fd => He.refV fd.code
  | .cls cd => [cd.ns]
  | .fields vs => match o.cls with
    | .type t => if t = "property" then (match vs.toList with
      | a :: _ => He.refV a
      | [] => []) else []
    | _ => []
  | _ => []
def nextC (g : Addr → Option Obj) (as : List Addr) : List Addr := as.flatMap fun a => match g a with
  | some o => refsC o
  | none => []
def asC (g : Addr → Option Obj) : Nat → List Addr → List Addr
  | 0, as => as
  | n + 1, as => as ++ asC g n (nextC g as)
theorem frG_mem' {g : Addr → Option Obj} {as : List Addr} {a : Addr} {o : Obj} (h : (a, o) ∈ He.frG g as) : g a = some o := by
  unfold He.frG at h
  obtain ⟨b, _, e⟩ := List.mem_filterMap.mp h
  cases hb : g b with
  | none => rw [hb] at e; cases e
  | some u =>
    rw [hb] at e
    have e2 : (b, u) = (a, o) := Option.some.inj e
    injection e2 with e3 e4
    rw [← e3, ← e4]
    exact hb
theorem lookup_mem' {a : Addr} {o : Obj} : ∀ {l : List (Addr × Obj)}, l.lookup a = some o → (a, o) ∈ l
  | [], h => by cases h
  | (b, u) :: r, h => by
    have h2 : (match a == b with | true => some u | false => r.lookup a) = some o := h
    cases q : (a == b) with
    | true =>
      rw [q] at h2
      have e : u = o := Option.some.inj h2
      rw [beq_iff_eq.mp q, e]
      exact List.mem_cons_self
    | false =>
      rw [q] at h2
      exact List.mem_cons_of_mem _ (lookup_mem' h2)
def notList (o : Obj) : Bool := match o.cls with
  | .type t => !decide (t = "list")
  | _ => true
/-- .. without lists -/
def frC (g : Addr → Option Obj) (as : List Addr) : PySem.W.Frag := (He.frG g as).filter fun q => notList q.2
theorem frC_mem {g : Addr → Option Obj} {as : List Addr} {a : Addr} {o : Obj} (h : (frC g as).lookup a = some o) : g a = some o ∧ o.cls ≠ .type "list" := by
  obtain ⟨h1, h2⟩ := List.mem_filter.mp (lookup_mem' h)
  refine ⟨frG_mem' h1, fun e => ?_⟩
  have h3 : notList o = true := h2
  unfold notList at h3
  rw [e] at h3
  simp at h3
def NoList (K : PySem.W.Frag) : Prop := ∀ a o, K.lookup a = some o → o.cls ≠ .type "list"
abbrev Fct : Type := PySem.W.Frag → Bool
/-! ### single facts -/
/-- a property's object, its getter -/
def pa (K : PySem.W.Frag) (x f : Str) : Addr := He.ma K (He.ga K x) f
def pgt (K : PySem.W.Frag) (x f : Str) : Addr := match PySem.W.recIn K (pa K x f) "property" with
  | some (.ref g :: _) => g
  | _ => 0
/-- a def, and whether it is a property's getter -/
abbrev DfG : Type := He.DefD × Bool
def adr (K : PySem.W.Frag) (d : DfG) : Addr := match d.2 with
  | true => pgt K d.1.at_.1 (d.1.at_.2.getD "")
  | false => He.fAd K d.1.at_
def fnA (K : PySem.W.Frag) (a : Addr) : He.FnW := match K.lookup a with
  | some ⟨_, _, .func fd, _⟩ => some (fd.name, fd.qualname, fd.params, fd.body, fd.scope, fd.globals, fd.closure, fd.builtins)
  | _ => none
def okA (K : PySem.W.Frag) (a : Addr) (d : He.DefD) : Bool := PySem.W.keepIn K (.ref a) && (match K.lookup a with
  | some ⟨_, _, .func fd, _⟩ => PySem.W.codeIn K fd.code d.qual && (He.dflB K fd.defaults (d.dvs K) && He.kwdB K fd.kwdefaults (d.kws K))
  | _ => false)
theorem funA {K : PySem.W.Frag} {a : Addr} {d : He.DefD} (e : fnA K a = d.val) (c : okA K a d = true) : ∃ fd, FunD K d.name d.qual d.params d.body d.scope (d.dvs K) (d.kws K) a fd := by
  obtain ⟨kp, c2⟩ := He.ba c
  unfold fnA at e
  cases q : K.lookup a with
  | none => rw [q] at c2; cases c2
  | some o =>
    obtain ⟨oc, od, dt, osl⟩ := o
    rw [q] at c2 e
    cases dt with
    | func fd =>
      obtain ⟨n1, n2, n3, n4, n5, n6, n7, n8, n9, n10, n11, n12, n13, n14, n15⟩ := fd
      have e2 : (some (n1, n2, n3, n4, n5, n6, n7, n15) : He.FnW) = some (d.name, d.qual, d.params, .stmts d.body, d.scope, mainGlobals, [], builtinsNs) := e
      simp only [Option.some.injEq, Prod.mk.injEq] at e2
      obtain ⟨h1, h2, h3, h4, h5, h6, h7, h8⟩ := e2
      subst h1 h2 h3 h4 h5 h6 h7 h8
      have c3 : (PySem.W.codeIn K n13 d.qual && (He.dflB K n8 (d.dvs K) && He.kwdB K n9 (d.kws K))) = true := c2
      obtain ⟨k1, k2⟩ := He.ba c3
      obtain ⟨k3, k4⟩ := He.ba k2
      exact ⟨_, ⟨oc, od, n8, n9, n10, n11, n12, n13, n14, osl, rfl, q, k1, He.dflB_ok k3, He.kwdB_ok k4⟩, kp⟩
    | _ => cases c2
abbrev AlC : Type := Bool × List He.FnW
def obsC (ex : List Fct) (fn : List DfG) (K : PySem.W.Frag) : AlC := ((ex.all fun f => f K) && fn.all fun d => okA K (adr K d) d.1, fn.map fun d => fnA K (adr K d))
def valC (fn : List DfG) : AlC := (true, fn.map fun d => d.1.val)
def SaysC (ex : List Fct) (fn : List DfG) (K : PySem.W.Frag) : Prop := obsC ex fn K = valC fn
def obsCG (ex : List Fct) (fn : List DfG) (g : Addr → Option Obj) : AlC := obsC ex fn (frC g (asC g 5 [mainGlobals]))
def hookC (ex : List Fct) (fn : List DfG) : PySem.W.Hook where
  α := AlC
  obs := fun s => obsCG ex fn s.heap.get?
  val := fun _ => valC fn
  says := fun _ h => ∃ K : PySem.W.Frag, K.In h ∧ NoList K ∧ SaysC ex fn K
  of := fun _ _ e => ⟨_, fun _ _ q => (frC_mem q).1, fun _ _ q => (frC_mem q).2, e⟩
  keeps := fun _ _ _ ⟨K, hK, c⟩ k => ⟨K, PySem.W.Frag.In.keeps hK k, c⟩
theorem obsCG_eq {ex : List Fct} {fn : List DfG} {g : Addr → Option Obj} {s : Shared} (h : ∀ a, g a = s.heap.get? a) : obsCG ex fn g = (hookC ex fn).obs s := by
  have e : g = s.heap.get? := funext h
  rw [e] <;> rfl
/-- what the walk leans on -/
structure HdC (ex : List Fct) (fn : List DfG) (K : PySem.W.Frag) (mg : Str → Option Value) : Prop where
  at_ : ∃ h : Heap, K.In h ∧ h.Ns mainGlobals mg
  says : SaysC ex fn K
section
variable {ex : List Fct} {fn : List DfG} {K : PySem.W.Frag} {mg : Str → Option Value}
theorem HdC.fact (Z : HdC ex fn K mg) (i : Nat) {f : Fct} (h : ex[i]? = some f := by rfl) : f K = true := by
  have c1 := (He.ba (show ((ex.all fun f => f K) && fn.all fun d => okA K (adr K d) d.1) = true from congrArg (fun z : AlC => z.1) Z.says)).1
  exact List.all_eq_true.mp c1 f (List.mem_of_getElem? h)
theorem HdC.def_ (Z : HdC ex fn K mg) (i : Nat) {d : DfG} (h : fn[i]? = some d := by rfl) : ∃ fd, FunD K d.1.name d.1.qual d.1.params d.1.body d.1.scope (d.1.dvs K) (d.1.kws K) (adr K d) fd := by
  have c2 := (He.ba (show ((ex.all fun f => f K) && fn.all fun d => okA K (adr K d) d.1) = true from congrArg (fun z : AlC => z.1) Z.says)).2
  have e : fn.map (fun d => fnA K (adr K d)) = fn.map fun d => d.1.val := congrArg (fun z : AlC => z.2) Z.says
  have e2 : (fn.map fun d => fnA K (adr K d))[i]? = (fn.map fun d => d.1.val)[i]? := by rw [e]
  rw [List.getElem?_map, List.getElem?_map, h] at e2
  exact funA (Option.some.inj e2) (List.all_eq_true.mp c2 d (List.mem_of_getElem? h))
/-! ### single facts -/
def fGlo (x : Str) : Fct := fun K => (He.Fa.glo x).ok K
def fFree (x : Str) : Fct := fun K => (He.Fa.free x).ok K
def fInt (x : Str) (i : Int) : Fct := fun K => (He.Fa.int x i).ok K
def fCls (x : Str) : Fct := fun K => (He.Fa.cls x).ok K
def fNoat (x f : Str) : Fct := fun K => (He.Fa.noat x f).ok K
def fMeth (x m : Str) : Fct := fun K => (He.Fa.meth x m).ok K
def fMkr (x : Str) : Fct := fun K => (He.Fa.mkr x).ok K
def fProp (x f : Str) : Fct := fun K => He.eqO (PySem.W.findIn K (.ref (He.ga K x)) f) (some (some (.ref (pa K x f)))) &&
  (He.eqO (PySem.W.specialIn K (.ref (pa K x f)) "__get__") (some (some (.builtin "property.__get__"))) && (decide (PySem.W.takesIn K (.ref (pa K x f)) = some true) && (match PySem.W.recIn K (pa K x f) "property" with
    | some (.ref _ :: _) => true
    | _ => false)))
def fKit (x y : Str) (b : Bool) : Fct := fun K => decide (PySem.W.kitOne K (.ref (He.ga K x)) (.ref (He.ga K y)) = some b)
def tyNs : List String := ["NoneType", "bool", "int", "str", "tuple", "list"]
def fKitB (y : Str) : Fct := fun K => tyNs.all fun T => decide (PySem.W.kitOne K (.type T) (.ref (He.ga K y)) = some false)
def fClsI (x : Str) : Fct := fun K => (He.Fa.cls x).ok K && (He.eqO (PySem.W.findIn K (.ref (He.ga K x)) "__class__") (some (some (.builtin "object.__class__"))) && decide (PySem.W.mroIn K (He.ga K x) (.type "object") = some true))
def fIsG : Fct := fun K => He.eqO (PySem.W.specialIn K (.builtin "object.__class__") "__get__") (some (some (.builtin "getset_descriptor.__get__"))) && decide (PySem.W.takesIn K (.builtin "object.__class__") = some true)
theorem HdC.glo (Z : HdC ex fn K mg) {x : Str} (h : fGlo x K = true) : mg x = some (.ref (He.ga K x)) := by
  obtain ⟨h', X, G⟩ := Z.at_
  exact He.glo_ok X G h
theorem HdC.free (Z : HdC ex fn K mg) {x : Str} (h : fFree x K = true) : mg x = none := by
  obtain ⟨h', X, G⟩ := Z.at_
  exact He.free_ok X G h
theorem HdC.int (Z : HdC ex fn K mg) {x : Str} {i : Int} (h : fInt x i K = true) : ∃ t, mg x = some (.int i t) := by
  obtain ⟨h', X, G⟩ := Z.at_
  exact He.int_ok X G h
theorem fCls_ok {x : Str} (h : fCls x K = true) : Cls K (He.ga K x) := He.cls_ok h
theorem fNoat_ok {x f : Str} (h : fNoat x f K = true) : NoAttr K (He.ga K x) f := He.noat_ok h
theorem fMeth_ok {x m : Str} (h : fMeth x m K = true) : Meth K (He.ga K x) m (He.ma K (He.ga K x) m) := He.meth_ok h
theorem fMkr_ok {x : Str} (h : fMkr x K = true) : Mk K (He.ga K x) (He.ma K (He.ga K x) "__init__") := He.mkr_ok h
theorem fProp_ok {x f : Str} (h : fProp x f K = true) : PropOf K (He.ga K x) f (pa K x f) (pgt K x f) := by
  obtain ⟨h1, h⟩ := He.ba h
  obtain ⟨h2, h⟩ := He.ba h
  obtain ⟨h3, h4⟩ := He.ba h
  refine ⟨He.eqO_ok h1, He.eqO_ok h2, of_decide_eq_true h3, ?_⟩
  split at h4
  · rename_i g rest e
    refine ⟨rest, ?_⟩
    rw [e]
    unfold pgt
    rw [e]
  · cases h4
theorem fKit_ok {x y : Str} {b : Bool} (h : fKit x y b K = true) : PySem.W.kitOne K (.ref (He.ga K x)) (.ref (He.ga K y)) = some b := of_decide_eq_true h
theorem fKitB_ok {y : Str} (h : fKitB y K = true) : ∀ T, T ∈ tyNs → PySem.W.kitOne K (.type T) (.ref (He.ga K y)) = some false := fun T hT => of_decide_eq_true (List.all_eq_true.mp h T hT)
theorem fClsI_ok {x : Str} (h : fClsI x K = true) : ClsI K (He.ga K x) := by
  obtain ⟨h1, h⟩ := He.ba h
  obtain ⟨h2, h3⟩ := He.ba h
  exact ⟨He.cls_ok h1, He.eqO_ok h2, of_decide_eq_true h3⟩
theorem fIsG_ok (h : fIsG K = true) : IsG K := by
  obtain ⟨h1, h2⟩ := He.ba h
  exact ⟨He.eqO_ok h1, of_decide_eq_true h2⟩
/-- an address by the module's name is the one -/
theorem ref_inj {x : Str} {C : Addr} (h : mg x = some (.ref (He.ga K x))) (h' : mg x = some (.ref C)) : C = He.ga K x := by
  rw [h] at h'
  cases h'
  rfl
theorem at_ga {x : Str} {P : Addr → Prop} (h : mg x = some (.ref (He.ga K x))) (p : P (He.ga K x)) : ∀ C, mg x = some (.ref C) → P C := fun C h' => by
  rw [ref_inj h h']
  exact p
theorem tb_nil {α : Type} {P : Str → α → Prop} : ∀ c o, ([] : List (Str × α)).lookup c = some o → P c o := fun _ _ h => by cases h
theorem tb_cons {α : Type} {P : Str → α → Prop} {c0 : Str} {o0 : α} {l : List (Str × α)} (h : P c0 o0) (t : ∀ c o, l.lookup c = some o → P c o) : ∀ c o, ((c0, o0) :: l).lookup c = some o → P c o := fun c o e => by
  rw [List.lookup_cons] at e
  cases q : (c == c0) with
  | true =>
    rw [q] at e
    have e1 : c = c0 := by simpa using q
    have e2 : o0 = o := Option.some.inj e
    rw [e1, ← e2]
    exact h
  | false =>
    rw [q] at e
    exact t c o e
end
end Lc

set_option maxHeartbeats 2000000
/-! Lc, part P: things let go by hand, calls that leave nothing behind, the law's end. -/
namespace Lc
open PySem PySem.Spec PyProof.Rows L2
section
variable {X : Cx} {pos : Pos} {w : World} {mg : Str → Option Value} {W W' : Wd}
theorem ce_gintE {x : Str} {i : Int} (hm : ∃ t, X.mg x = some (.int i t)) (hg : Gl X x := by rfl) (hd : (x == ("__debug__" : Str)) = false := by decide) : CE X (.Name x pos) (mC (.int i)) := by
  obtain ⟨t, h⟩ := hm
  exact ce_gint h hg hd
/-- the value let go -/
def mFrz (m : ME) : ME := fun ρ S => (m ρ S).bind fun v S1 => match frzV S1 v with
  | some (d, S2) => .ok (.d d) S2
  | none => .bad
theorem ce_frz {e : Expr} {m : ME} (he : CE X e m) : CE X e (mFrz m) := fun E tk => PE.imp (he E tk) fun σ H Q h => by
  obtain ⟨W, ρ, rfl, hold, rel, out⟩ := h
  refine ⟨W, ρ, rfl, hold, rel, outR.mono (outR.bind (Rl := RepV X.w X.mg) hold out) (fun x H1 h1 => ?_) fun _ _ _ z => z⟩
  obtain ⟨W1, v, rfl, e1, hold1, r1, out1⟩ := h1
  split at out1
  · rename_i d S2 hf
    obtain ⟨e2, ho2, r2⟩ := frz_ok hold1 r1 hf
    exact out1 ⟨W1.M, S2, W1.H, W1.F⟩ x rfl e2 ho2 r2
  · exact out1.elim
theorem bDivmod_ok : BfOk X (.builtin "divmod") bDivmod := by
  intro pins s σ H xs us Q I r h
  obtain ⟨W, args, d, rfl, hold, ra, ed, out⟩ := h
  unfold bDivmod at ed
  split at ed
  · rename_i i j
    split at ed
    · rename_i hj
      cases ed
      obtain ⟨y, z, rfl, r1, r2⟩ := two_args ra rfl
      cases r1; cases r2
      refine call_divmodW pins s σ _ _ us Q I r ⟨i, j, rfl, ⟨hj.1, PyProof.noPylong_of_log2 hj.2⟩, fun p hp => ?_⟩
      obtain ⟨n1, n2⟩ := Wd.full_none hp
      exact outR.new out hold hp (.tup (.inl upd_same) (fz_new (H := W.H) (F := W.F) hold n1 _) (.cons (.int _) (.cons (.int _) .nil)))
    · cases ed
  · cases ed
/-! ### a call that leaves no new cell behind -/
def lowF (n : Nat) : List (Str × Val) → Bool
  | [] => true
  | (_, .d _) :: r => lowF n r
  | (_, .ref k) :: r => decide (k < n) && lowF n r
def lowC (n : Nat) : Cell → Bool
  | .live _ (.ins _ fs) => lowF n fs
  | _ => true
/-- a new cell handed out becomes data, new cells are forgotten -/
def trim (φ : Fn) : Fn := fun args S => match φ args S with
  | .ok v S' => match outV S.length S' v with
    | some v' => if ((S'.take S.length).all (lowC S.length)) = true then .ok v' (S'.take S.length) else .bad
    | none => .bad
  | .err x S' => if ((S'.take S.length).all (lowC S.length)) = true then .err x (S'.take S.length) else .bad
  | .bad => .bad
theorem lowF_rep {n : Nat} (hn : ∀ (k : Nat) (a : Addr), k < n → W.M[k]? = some a → W'.M[k]? = some a) (le : (W.gr w mg).Le (W'.gr w mg)) : ∀ {fs : List (Str × Val)} {gs : List (Str × V)}, RepFV w mg W fs gs → lowF n fs = true → RepFV w mg W' fs gs
  | _, _, .nil, _ => .nil
  | _, _, .cons (x := .d x) r t, h => .cons (Rep.mono le r) (lowF_rep hn le t h)
  | _, _, .cons (x := .ref k) r t, h => by
    obtain ⟨a, ha, q⟩ := r
    obtain ⟨h1, h2⟩ := He.ba (show (decide (k < n) && lowF n _) = true from h)
    exact .cons ⟨a, hn k a (of_decide_eq_true h1) ha, q⟩ (lowF_rep hn le t h2)
theorem trim_back (hold : Hold w mg W) (e : Ext W W') (ho : Hold w mg W') (hl : ((W'.S.take W.S.length).all (lowC W.S.length)) = true) :
    Ext W ⟨W.M, W'.S.take W.S.length, W'.H, W.F⟩ ∧ Hold w mg ⟨W.M, W'.S.take W.S.length, W'.H, W.F⟩ ∧ (W'.gr w mg).Le ((⟨W.M, W'.S.take W.S.length, W'.H, W.F⟩ : Wd).gr w mg) := by
  obtain ⟨more, hm⟩ := e.pre
  have hlen : W.S.length ≤ W'.S.length := by
    rw [← hold.len, ← ho.len, hm]
    simp
  have at_ : ∀ {n : Nat}, n < W.S.length → (W'.S.take W.S.length)[n]? = W'.S[n]? := fun {n} h => List.getElem?_take_of_lt h
  have low : ∀ {n : Nat} {a : Addr}, W.M[n]? = some a → n < W.S.length := fun {n a} h => by
    rw [← hold.len]
    exact (List.getElem?_eq_some_iff.mp h).1
  have E : Ext W ⟨W.M, W'.S.take W.S.length, W'.H, W.F⟩ := ⟨rfl, ⟨[], by simp⟩, e.keep, e.trk, fun a h f n hn => by
      have hn' : W.M[n]? = some a := hn
      show (W'.S.take W.S.length)[n]? = some Cell.dead
      rw [at_ (low hn')]
      exact e.frz a h f n (e.M_at hn'),
    fun n c h s => by
      have hn : n < W.S.length := (List.getElem?_eq_some_iff.mp h).1
      show (W'.S.take W.S.length)[n]? = some c
      rw [at_ hn]
      exact e.lock n c h s⟩
  have le : (W'.gr w mg).Le ((⟨W.M, W'.S.take W.S.length, W'.H, W.F⟩ : Wd).gr w mg) := ⟨rfl, rfl, fun a o h z => ⟨h, fun n hn => by
    have hn' : W.M[n]? = some a := hn
    show (W'.S.take W.S.length)[n]? = some Cell.dead
    rw [at_ (low hn')]
    exact z n (e.M_at hn')⟩⟩
  refine ⟨E, ⟨?_, hold.nd, fun a ha => e.trk a (hold.trk a ha), fun a ha => by rw [← show W'.F = W.F from e.fr]; exact ho.dj a ha, fun n lk b h => ?_⟩, le⟩
  · show W.M.length = (W'.S.take W.S.length).length
    rw [List.length_take, Nat.min_eq_left hlen]
    exact hold.len
  · have h' : (W'.S.take W.S.length)[n]? = some (Cell.live lk b) := h
    have hn : n < W.S.length := by
      have := (List.getElem?_eq_some_iff.mp h').1
      rw [List.length_take] at this
      omega
    have hlow : lowC W.S.length (.live lk b) = true := List.all_eq_true.mp hl _ (List.mem_of_getElem? h')
    rw [at_ hn] at h'
    obtain ⟨a, ha, r⟩ := ho.cell n lk b h'
    have hn' : n < W.M.length := by rw [hold.len]; exact hn
    have ha' : W.M[n]? = some a := by
      have q := e.M_at (List.getElem?_eq_getElem hn')
      rw [ha] at q
      rw [List.getElem?_eq_getElem hn']
      exact q.symm
    refine ⟨a, ha', ?_⟩
    cases b with
    | lst xs => obtain ⟨vs, h, r⟩ := r; exact ⟨vs, h, r.mono le⟩
    | dic kvs => obtain ⟨es, h, r⟩ := r; exact ⟨es, h, r.mono le⟩
    | ins c fs =>
      obtain ⟨C, dx, gs, h, m, r⟩ := r
      refine ⟨C, dx, gs, h, m, lowF_rep (n := W.S.length) (fun k a hk hka => ?_) le r hlow⟩
      have hk' : k < W.M.length := by rw [hold.len]; exact hk
      have q := e.M_at (List.getElem?_eq_getElem hk')
      rw [hka] at q
      show W.M[k]? = some a
      rw [List.getElem?_eq_getElem hk']
      exact q.symm
theorem trim_out {φ : Fn} {args : List Val} {E : XH} {Q : VK} (hold : Hold w mg W) (h : outR w mg (trim φ args W.S) W (RepV w mg) E Q) : outR w mg (φ args W.S) W (RepV w mg) E Q := by
  unfold trim at h
  have ef : ∀ {W' : Wd}, Ext W W' → (⟨W.M, W'.S.take W.S.length, W'.H, W.F⟩ : Wd).full = W'.full := fun {W'} e => by
    unfold Wd.full
    rw [show W'.F = W.F from e.fr]
  cases q : φ args W.S with
  | bad => rw [q] at h; exact h
  | err x S' =>
    rw [q] at h
    intro W' c d hs e ho rx
    subst hs
    have h : outR w mg (if ((W'.S.take W.S.length).all (lowC W.S.length)) = true then R.err x (W'.S.take W.S.length) else .bad) W (RepV w mg) E Q := h
    split at h
    · rename_i hl
      obtain ⟨E1, ho1, le⟩ := trim_back hold e ho hl
      have q := h ⟨W.M, W'.S.take W.S.length, W'.H, W.F⟩ c d rfl E1 ho1 (by
        cases rx with
        | zero m z => exact .zero m z
        | one m h1 z r => exact .one m h1 (le.at_ _ _ h1 z).2 (r.mono le))
      rwa [ef e] at q
    · exact h.elim
  | ok v S' =>
    rw [q] at h
    intro W' x hs e ho r
    subst hs
    have h : outR w mg (match outV W.S.length W'.S v with
      | some v' => if ((W'.S.take W.S.length).all (lowC W.S.length)) = true then R.ok v' (W'.S.take W.S.length) else .bad
      | none => .bad) W (RepV w mg) E Q := h
    cases ov : outV W.S.length W'.S v with
    | none => rw [ov] at h; exact h.elim
    | some v' =>
      rw [ov] at h
      have h : outR w mg (if ((W'.S.take W.S.length).all (lowC W.S.length)) = true then R.ok v' (W'.S.take W.S.length) else .bad) W (RepV w mg) E Q := h
      split at h
      · rename_i hl
        obtain ⟨E1, ho1, le⟩ := trim_back hold e ho hl
        have q := h ⟨W.M, W'.S.take W.S.length, W'.H, W.F⟩ x rfl E1 ho1 (by
          cases v with
          | d y =>
            cases ov
            exact Rep.mono le r
          | ref n =>
            obtain ⟨a, ha, rfl⟩ := r
            simp only [outV] at ov
            split at ov
            · rename_i hn
              cases ov
              have hn' : n < W.M.length := by rw [hold.len]; exact hn
              have h0 : W.M[n]? = some W.M[n] := List.getElem?_eq_getElem hn'
              have h1 := e.M_at h0
              rw [ha] at h1
              cases h1
              exact ⟨W.M[n], h0, rfl⟩
            · rename_i hn
              split at ov
              · rename_i lk b hb
                cases eb : bodyD b with
                | none => rw [eb] at ov; cases ov
                | some y =>
                  rw [eb] at ov
                  cases ov
                  obtain ⟨a', ha', rb⟩ := ho.cell n lk b hb
                  rw [ha] at ha'
                  cases ha'
                  refine body_rep le rfl (fun j hj => ?_) rb eb
                  have hj' : W.M[j]? = some a := hj
                  have ej : j = n := nodup_at ho.nd (e.M_at hj') ha
                  have : j < W.M.length := (List.getElem?_eq_some_iff.mp hj').1
                  rw [hold.len] at this
                  omega
              · cases ov)
        rwa [ef e] at q
      · exact h.elim
theorem callOk_trim {u : Value} {φ : Fn} (C : CallOk X u φ) : CallOk X u (trim φ) := fun E tk pins s σ H us xs Q I r h => by
  obtain ⟨W, args, rfl, hold, ra, out⟩ := h
  exact C E tk pins s σ _ us xs Q I r ⟨W, args, rfl, hold, ra, trim_out hold out⟩
end
/-! ### a comprehension's block, checked -/
def blkB (N : List Str) (sc scope : Scope) (own : List (Str × Nat)) : Bool := decide (scope.kind = .function) && ((scope.names.all fun y => decide (scope.names.lookup y.1 = some y.2)) && ((own.all fun p => decide (N[p.2]? = some p.1)) &&
  ((scope.names.all fun y => !decide (y.2 = .free) || (decide (sc.names.lookup y.1 = some .cell) || decide (sc.names.lookup y.1 = some .free))) && (scope.names.all fun y => !(decide (y.2 = .local) || decide (y.2 = .cell)) || ((own.map (·.1)).contains y.1 || !N.contains y.1)))))
theorem blk_of {N : List Str} {sc scope : Scope} {own : List (Str × Nat)} (h : blkB N sc scope own = true) : BlkOk N sc scope own := by
  obtain ⟨h1, h⟩ := He.ba h
  obtain ⟨h2, h⟩ := He.ba h
  obtain ⟨h3, h⟩ := He.ba h
  obtain ⟨h4, h5⟩ := He.ba h
  refine ⟨of_decide_eq_true h1, fun y hy => of_decide_eq_true (List.all_eq_true.mp h2 y hy), fun p hp => of_decide_eq_true (List.all_eq_true.mp h3 p hp), fun y hy hf => ?_, fun y hy hl => ?_⟩
  · have q := List.all_eq_true.mp h4 y hy
    simp only [hf, decide_true, Bool.not_true, Bool.false_or, Bool.or_eq_true, decide_eq_true_eq] at q
    exact q
  · have q := List.all_eq_true.mp h5 y hy
    have e : (decide (y.2 = NameKind.local) || decide (y.2 = NameKind.cell)) = true := by
      rcases hl with e | e <;> simp [e]
    rw [e] at q
    simp only [Bool.not_true, Bool.false_or, Bool.or_eq_true, Bool.not_eq_true', List.contains_iff_mem] at q
    rcases q with q | q
    · exact .inl q
    · refine .inr fun m => ?_
      have : N.contains y.1 = true := List.contains_iff_mem.mpr m
      rw [this] at q
      cases q
/-! ### built-in names -/
theorem bo_len : bootBuiltins "len" = some (.builtin "len") := by decide +kernel
theorem bo_sum : bootBuiltins "sum" = some (.builtin "sum") := by decide +kernel
theorem bo_max : bootBuiltins "max" = some (.builtin "max") := by decide +kernel
theorem bo_min : bootBuiltins "min" = some (.builtin "min") := by decide +kernel
theorem bo_all : bootBuiltins "all" = some (.builtin "all") := by decide +kernel
theorem bo_abs : bootBuiltins "abs" = some (.builtin "abs") := by decide +kernel
theorem bo_divmod : bootBuiltins "divmod" = some (.builtin "divmod") := by decide +kernel
theorem bo_isinstance : bootBuiltins "isinstance" = some (.builtin "isinstance") := by decide +kernel
theorem bo_int : bootBuiltins "int" = some (.type "int") := by decide +kernel
theorem bo_str : bootBuiltins "str" = some (.type "str") := by decide +kernel
theorem bo_list : bootBuiltins "list" = some (.type "list") := by decide +kernel
theorem bo_tuple : bootBuiltins "tuple" = some (.type "tuple") := by decide +kernel
theorem bo_bool : bootBuiltins "bool" = some (.type "bool") := by decide +kernel
theorem bo_ValueError : bootBuiltins "ValueError" = some (.type "ValueError") := by decide +kernel
/-! ### the law's end -/
theorem sp_law {w : World} {mg : Str → Option Value} {K : PySem.W.Frag} {φ : Fn} {H : Hp} {a : Addr} {ns : List Int} {S' : Store} (hK : NoList K) (hS : SqL K H a (ns.map V.int))
    (hφ : φ [.d (.lst (ns.map .int))] [] = .ok (.d (.bl true)) S') : spOf w mg 1 φ [.ref a] H (fun v _ => v = .bl true) fun _ _ _ => False := by
  have hR : Rd H a (.lst (ns.map V.int)) := by
    rcases hS with h | ⟨o, its, n, h1, h2, _⟩
    · exact h
    · exact absurd h2 (hK a o h1)
  refine ⟨rfl, ⟨[], [], H, fun _ => none⟩, [.d (.lst (ns.map .int))], ?_, ⟨rfl, List.nodup_nil, fun a h => absurd h (by simp), fun _ _ => rfl, fun n lk b h => by simp at h⟩, .cons (.lst hR (fun n h => by simp at h) ?_) .nil, ?_⟩
  · funext b
    show join H (fun _ => none) b = H b
    unfold join
    cases H b <;> rfl
  · induction ns with
    | nil => exact .nil
    | cons n ns ih =>
      exact .cons (.int n) (by
        have : ∀ (G : Gr) (l : List Int), Reps G (l.map Lc.D.int) (l.map V.int) := fun G l => by
          induction l with
          | nil => exact .nil
          | cons m l ih => exact .cons (.int m) ih
        exact this _ _)
  · rw [show φ [.d (.lst (ns.map .int))] (⟨[], [], H, fun _ => none⟩ : Wd).S = .ok (.d (.bl true)) S' from hφ]
    intro W' x _ _ _ r
    cases r
    rfl
theorem walk_ofC {l : PySem.W.OpenLaw} {n k : Nat} {q : Program} {loose : List Str} {XP : (Str → Option Value) → Heap → Prop} {YP : World → Heap → Prop} {d : DefRec} {x : Str}
    (hn : l.most = some n) (hn2 : n ≤ sizeLine) (hdf : d.params.defaults = []) (hr : Room k callerA)
    (F : ∀ (w : World) (mg : Str → Option Value) (fa : Addr) (h : Heap), YP w h → h.Ns mainGlobals mg → mg d.name = some (.ref fa) →
      ∃ (K : PySem.W.Frag) (fd : FuncData) (φ : Fn), K.In h ∧ NoList K ∧ (∀ (s : Shared) (u : Value), BindsTo s fd ⟨[u], []⟩ [(x, u)]) ∧
        (∀ ns : List Int, ns.length ≤ n → ∃ S', φ [.d (.lst (ns.map .int))] [] = .ok (.d (.bl true)) S') ∧
        ∀ base : Heap, K.In base → base.Ns mainGlobals mg → FnOk l.prog w K mg base (L2.CX l.prog w) k fa fd [x] (spOf w mg 1 φ)) :
    PySem.W.WalkO q loose XP YP l.row.toRowW d [] (fun f vs => PySem.call f vs) := by
  refine Att.attach_call hn hdf fun w s₀ s₁ mg mb fa o pm cd doc a vs ns G Y ho hd hcd hmg hobj hints hlen hg => ?_
  obtain ⟨K, fd, φ, KX, hNL, hb, hφ, hF⟩ := F w mg fa _ Y G.T.g hmg
  refine law_call KX G.T.g G.T.b G.T.builtins G.T.nolimit hg hobj hints (Nat.le_trans hlen hn2) hr hF hb (fun H hO hS => ?_) fun H e s' c => ?_
  · obtain ⟨S', e⟩ := hφ ns hlen
    exact sp_law hNL hS e
  · obtain ⟨a, B, H', cls, d, _, _, _, _, _, _, _, hE⟩ := c
    exact hE.elim
end Lc

set_option maxHeartbeats 2000000
/-! Lc, part Q: errors as values. -/
namespace Lc
open PySem PySem.Spec PyProof.Rows L2
theorem excHO_ok {P : Program} {w : World} {H : Hp} {h : Heap} {a : Addr} {cls : Value} {d : Option Addr} {oe : Obj} {vs : Array Value} (e : h.get? a = some oe) (z : Zc cls d oe) (q : oe.data = .fields vs) : ObjOk P w H h a (excHO a cls d) :=
  ⟨⟨oe, vs, e, z, q⟩, ⟨oe, e⟩, fun _ _ ⟨o, v, q, r⟩ k => ⟨o, v, k o q, r⟩⟩
theorem excHO_at {P : Program} {w : World} {H : Hp} {h : Heap} {a : Addr} {cls : Value} {d : Option Addr} (hok : HOk P w H h) (e : H a = some (excHO a cls d)) : ∃ (oe : Obj) (vs : Array Value), h.get? a = some oe ∧ Zc cls d oe ∧ oe.data = .fields vs := by
  have x : ObjOk P w H h a (.ext fun h => ∃ (oe : Obj) (vs : Array Value), h.get? a = some oe ∧ Zc cls d oe ∧ oe.data = .fields vs) := hok a _ e
  exact x.1
section
variable {X : Cx} {w : World} {mg : Str → Option Value} {W : Wd}
/-! ### made: a class without its own __init__ -/
def excMk0 (c : Str) : Fn := fun args S => match args with
  | [_] => .ok (.d (.exc c [])) S
  | _ => .bad
structure Exc0 (K : PySem.W.Frag) (C : Addr) : Prop where
  ex : PySem.W.excIn K C He.veBase "ValueError.__new__" = true
  kp : PySem.W.keepIn K (.ref C) = true
  sub : PySem.W.subIn K (.ref C) (.type "BaseException") = some true
  ty : PySem.W.typeIn K (.ref C) = some (.type "type")
theorem callOk_exc0 {c : Str} {C : Addr} (hmg : X.mg c = some (.ref C)) (T0 : Exc0 X.K C) : CallOk X (.ref C) (excMk0 c) := fun E tk pins s σ H us xs Q I r h => by
  obtain ⟨W, args, rfl, hold, ra, out⟩ := h
  unfold excMk0 at out
  split at out
  · obtain ⟨y, rfl, ry⟩ := one_arg ra rfl
    cases r with
    | cons r1 r2 =>
      cases r2
      obtain ⟨bm, N, nm, qn, bs, hdct, sn, sub, ab, col, dd, k0, k1, k2, k3, k5, mN, hC, hN, hni, T⟩ := exc_obj I.kIn T0.ex
      refine wpAny_call_exc_subT F.excBase_ValueError T hC hN hni (fun h' a hm => ?_) (by show 1 ≤ sizeLine; rw [sizeLine_eq]; omega)
      have hn : W.full a = none := I.hok.gone hm.new
      obtain ⟨t, ht, _, _⟩ := hm.there
      obtain ⟨n1, n2⟩ := Wd.full_none hn
      exact ⟨.ref a, upd W.full a (excHO a (.ref C) none), I.laidN hm.keeps hm.new hn (excHO_ok ht ⟨rfl, rfl⟩ rfl), rfl, outR.new (E := fun c d H' => E c d σ H') out hold hn (.exc0 upd_same (fz_new (H := W.H) (F := W.F) hold n1 _) hmg)⟩
  · exact out.elim
/-! ### made: a class whose own __init__ keeps its argument -/
def excMk1 (c f : Str) : Fn := fun args S => match args with
  | [v] => match frzV S v with
    | some (d, S') => .ok (.d (.exc c [(f, d)])) S'
    | none => .bad
  | _ => .bad
/-- what __init__ promises -/
def spInit (C : Addr) (f : Str) : Sp := fun vs H Q _ => ∃ (a : Addr) (y : V), vs = [.ref a, y] ∧ H a = some (exo a C none) ∧ ∀ dx, H dx = none → dx ≠ a → Q .non (upd (upd H dx (exd dx [(f, y)])) a (exo a C (some dx)))
structure Exc1 (K : PySem.W.Frag) (C : Addr) (f : Str) (fI : Addr) : Prop where
  oex : OexC K C
  no : PySem.W.findIn K (.ref C) f = some none
  ini : PySem.W.findIn K (.ref C) "__init__" = some (some (.ref fI))
  tin : PySem.W.typeIn K (.ref fI) = some (.type "function")
theorem fn_init {P : Program} {w : World} {K : PySem.W.Frag} {mg : Str → Option Value} {base : Heap} {x qual : Str} {params : Arguments} {body : List Stmt} {scope : Scope} {fI C : Addr} {fd : FuncData} {a b f : Str} {p1 p2 p3 p4 : Pos}
    (F : FunD K x qual params body scope [] [] fI fd) (S : FnScope [a, b] [a, b] scope) (hb : body = [.Assign [.Attribute (.Name a p1) f p2] (.Name b p3) p4]) (h1 : Exc1 K C f fI)
    (hd : (a == ("__debug__" : Str)) = false) (hd' : (b == ("__debug__" : Str)) = false) (hcd : (a == ("__classdict__" : Str)) = false) (hcd' : (b == ("__classdict__" : Str)) = false) :
    FnOk P w K mg base (L2.CX P w) 1 fI fd [a, b] (spInit C f) := by
  refine FunD.ok F S (fun vs H Q E h => ?_) (fun cdv A outer s H vs Q E hr h => ?_)
  · obtain ⟨a, y, rfl, _⟩ := h
    rfl
  · subst hb
    have va : Vis scope a := (S.par a (by simp)).elim .inl fun z => .inr (.inl z)
    have vb : Vis scope b := (S.par b (by simp)).elim .inl fun z => .inr (.inl z)
    refine ⟨_, pss_one (ps_ost (pe_var (i := 0) rfl va hd hcd) (pe_var (i := 1) rfl vb hd' hcd')), ?_⟩
    obtain ⟨o, y, rfl, ho, q⟩ := h
    exact ⟨y, rfl, .ref o, rfl, o, C, rfl, h1.oex, h1.no, .inl ⟨ho, fun dx n ne => q dx n ne⟩⟩
theorem callOk_exc1 {c f : Str} {C fI : Addr} {fd : FuncData} {ps : List Str} (hmg : X.mg c = some (.ref C)) (T : Exc1 X.K C f fI) (F1 : FnOk X.prog X.w X.K X.mg X.base (L2.CX X.prog X.w) 1 fI fd ps (spInit C f)) (hr : Room 2 X.A) (hb : Binds X.K fd ps []) (hl2 : ps.length = 2) :
    CallOk X (.ref C) (excMk1 c f) := fun E tk pins s σ H us xs Q I r h => by
  obtain ⟨W, args, rfl, hold, ra, out⟩ := h
  unfold excMk1 at out
  split at out
  · rename_i v
    cases ez : frzV W.S v with
    | none => rw [ez] at out; exact out.elim
    | some q =>
      obtain ⟨d, S'⟩ := q
      rw [ez] at out
      obtain ⟨y, rfl, ry⟩ := one_arg ra rfl
      obtain ⟨e1, ho1, rd⟩ := frz_ok hold ry ez
      have out1 : outR X.w X.mg (.ok (.d (.exc c [(f, d)])) S') W (RepV X.w X.mg) (fun c d H' => E c d σ H') Q := out
      cases r with
      | cons r1 r2 =>
        cases r2
        rename_i u
        obtain ⟨nm, q, N, bs, bm, sn, sub, ab, col, dd, k0, k1, k2, k3, k5, hC, hbm⟩ := T.oex.cls
        obtain ⟨hp, g, dr, tk', os⟩ := s
        have hsz : hp.objs.size ≤ hp.objs.size + 1 := Nat.le_succ _
        have hn : W.full (hp.objs.size + 1) = none := I.hok.fresh hsz
        have kk : ∀ b o, hp.get? b = some o → ((hp.push (PySem.W.kdv_tup [u])).push (PySem.HandSPX.excO C hp.objs.size)).get? b = some o := fun b o e => Heap.get?_push_of_some _ (Heap.get?_push_of_some _ e)
        have hget : ((hp.push (PySem.W.kdv_tup [u])).push (PySem.HandSPX.excO C hp.objs.size)).get? (hp.objs.size + 1) = some (PySem.HandSPX.excO C hp.objs.size) := by heap_get
        have I2 : Inv X pins σ (upd W.full (hp.objs.size + 1) (exo (hp.objs.size + 1) C none)) ⟨(hp.push (PySem.W.kdv_tup [u])).push (PySem.HandSPX.excO C hp.objs.size), g, dr, tk', os⟩ :=
          I.laid (t' := tk') (a := hp.objs.size + 1) (o := exo (hp.objs.size + 1) C none) (h' := (hp.push (PySem.W.kdv_tup [u])).push (PySem.HandSPX.excO C hp.objs.size)) kk hsz (exo_ok hget)
        have r2 : Vals [V.ref (hp.objs.size + 1), y] [Value.ref (hp.objs.size + 1), u] := .cons rfl (.cons r1 .nil)
        -- what the end is
        have hq : spInit C f [V.ref (hp.objs.size + 1), y] (upd W.full (hp.objs.size + 1) (exo (hp.objs.size + 1) C none)) (fun v H2 => v = .non ∧ ∃ dx, W.full dx = none ∧ dx ≠ hp.objs.size + 1 ∧
            H2 = upd (upd (upd W.full (hp.objs.size + 1) (exo (hp.objs.size + 1) C none)) dx (exd dx [(f, y)])) (hp.objs.size + 1) (exo (hp.objs.size + 1) C (some dx))) (fun _ _ _ => False) :=
          ⟨_, y, rfl, upd_same, fun dx n ne => ⟨rfl, dx, by rw [upd_ne ne] at n; exact n, ne, rfl⟩⟩
        have bb := hb ⟨(hp.push (PySem.W.kdv_tup [u])).push (PySem.HandSPX.excO C hp.objs.size), g, dr, tk', os⟩ [Value.ref (hp.objs.size + 1), u] I2.kIn (by rw [List.append_nil, hl2]; rfl)
        rw [List.append_nil] at bb
        refine wpAny_call (PySem.HandSPX.call_own F.excBase_ValueError (fun Y => PySem.HandSPX.refsVE_contains Y bm hbm) (I.kIn _ _ hC) (PySem.W.looks_findIn I.kIn T.ini) (fun self => PySem.W.bind_fn I.kIn self T.tin) (by show 1 ≤ sizeLine; rw [sizeLine_eq]; omega)
          (codeAny_mono (F1.run _ X.stack _ _ ⟨Value.ref (hp.objs.size + 1) :: [u], []⟩ [Value.ref (hp.objs.size + 1), u] _ _ (fun _ _ _ => False) (hr.make C [u] []) (I2.env0.make C [u] []) bb r2 hq) fun r s' hq' => ?_))
        cases r with
        | error er =>
          obtain ⟨a, B, H', cls, d', _, _, _, _, _, _, _, hE⟩ := hq'
          exact hE.elim
        | ok fl =>
          cases fl with
          | ret u' =>
            obtain ⟨v', H2, I3, rv, ev, dx, hdx, ne, rfl⟩ := I2.after hq'
            subst ev
            refine ⟨rv, ?_⟩
            generalize hp.objs.size + 1 = a at *
            have ea : upd (upd (upd W.full a (exo a C none)) dx (exd dx [(f, y)])) a (exo a C (some dx)) a = some (exo a C (some dx)) := upd_same
            have ed : upd (upd (upd W.full a (exo a C none)) dx (exd dx [(f, y)])) a (exo a C (some dx)) dx = some (exd dx [(f, y)]) := by rw [upd_ne ne, upd_same]
            obtain ⟨t0, hoe⟩ := exo_at I3.hok ea
            obtain ⟨mA, hns, rel⟩ := exd_at I3.hok ed
            have J1 := I3.write (t' := s'.toks) (x := a) (e := a) (o := excHO a (.ref C) (some dx)) (h' := s'.heap) (by rw [ea]; exact True.intro) (.inl rfl) (fun _ _ _ z => z) ⟨_, hoe⟩ (excHO_ok hoe ⟨rfl, rfl⟩ rfl)
            have J2 := J1.write (t' := s'.toks) (x := dx) (e := dx) (o := .xd [(f, y)]) (h' := s'.heap) (by rw [upd_ne ne, ed]; exact True.intro) (.inl rfl) (fun _ _ _ z => z) (by
              obtain ⟨o, es, ep, h1, _⟩ := hns
              exact ⟨o, h1⟩) ⟨mA, hns, rel⟩
            have eH : upd (upd (upd (upd (upd W.full a (exo a C none)) dx (exd dx [(f, y)])) a (exo a C (some dx))) a (excHO a (.ref C) (some dx))) dx (.xd [(f, y)]) = upd (upd W.full dx (.xd [(f, y)])) a (excHO a (.ref C) (some dx)) := by
              funext b
              by_cases hb : b = dx
              · subst hb
                rw [upd_same, upd_ne ne, upd_same]
              · rw [upd_ne hb]
                by_cases ha : b = a
                · subst ha
                  rw [upd_same, upd_same]
                · rw [upd_ne ha, upd_ne ha, upd_ne hb, upd_ne ha, upd_ne ha, upd_ne hb]
            rw [eH] at J2
            refine ⟨.ref a, _, J2, rfl, ?_⟩
            obtain ⟨n1, n2⟩ := Wd.full_none hdx
            obtain ⟨m1, m2⟩ := Wd.full_none hn
            have E1 : Ext ⟨W.M, S', W.H, W.F⟩ ⟨W.M, S', upd W.H dx (.xd [(f, y)]), W.F⟩ := ext_new n1
            have ho2 : Hold X.w X.mg ⟨W.M, S', upd W.H dx (.xd [(f, y)]), W.F⟩ := hold_new ho1 n1 n2
            have m1' : upd W.H dx (.xd [(f, y)]) a = none := by rw [upd_ne (Ne.symm ne)]; exact m1
            have E2 : Ext ⟨W.M, S', upd W.H dx (.xd [(f, y)]), W.F⟩ ⟨W.M, S', upd (upd W.H dx (.xd [(f, y)])) a (excHO a (.ref C) (some dx)), W.F⟩ := ext_new m1'
            have ho3 : Hold X.w X.mg ⟨W.M, S', upd (upd W.H dx (.xd [(f, y)])) a (excHO a (.ref C) (some dx)), W.F⟩ := hold_new ho2 m1' m2
            have q := out1 ⟨W.M, S', upd (upd W.H dx (.xd [(f, y)])) a (excHO a (.ref C) (some dx)), W.F⟩ (.ref a) rfl (e1.trans (E1.trans E2 ho1 ho2) hold ho1) ho3
              (.exc1 upd_same (fz_new ho2 m1' _) (by show upd _ a _ dx = _; rw [upd_ne ne, upd_same]) (fun k hk => (fz_new ho1 n1 (upd W.H dx (.xd [(f, y)]))) k hk) hmg (.cons ((E1.trans E2 ho1 ho2).rep rd) .nil))
            rwa [show (⟨W.M, S', upd (upd W.H dx (.xd [(f, y)])) a (excHO a (.ref C) (some dx)), W.F⟩ : Wd).full = upd (upd W.full dx (.xd [(f, y)])) a (excHO a (.ref C) (some dx)) by
              show join _ _ = _
              rw [join_upd, join_upd]
              rfl] at q
          | next => exact False.elim hq'
          | brk => exact False.elim hq'
          | cont => exact False.elim hq'
  · exact out.elim
/-! ### a field of an error -/
def mXfld (f : Str) (cls : List Str) (m : ME) : ME := fun ρ S => (m ρ S).bind fun v S1 => match v with
  | .d (.exc c fs) => if cls.contains c = true then okD (fs.lookup f) S1 else .bad
  | _ => .bad
theorem ce_xfld {e : Expr} {f : Str} {m : ME} {pos : Pos} (cls : List Str) (hT : ∀ c, c ∈ cls → ∀ C, X.mg c = some (.ref C) → XfC X.K C ∧ PySem.W.findIn X.K (.ref C) f = some none) (he : CE X e m)
    (hb : attributeBase e f X.env (eval e X.env) = eval e X.env := by rfl) : CE X (.Attribute e f pos) (mXfld f cls m) := fun E tk => ⟨fun pins s σ H Q I h => by
  obtain ⟨W, ρ, rfl, hold, rel, out⟩ := h
  refine attr_of hb (thn ((he E tk).run pins s σ _ (fun x H1 => ∃ (W1 : Wd) (v : Val), W1.full = H1 ∧ Hold X.w X.mg W1 ∧ RepV X.w X.mg W1 v x ∧ outR X.w X.mg (match v with
    | .d (.exc c fs) => if cls.contains c = true then okD (fs.lookup f) W1.S else .bad
    | _ => .bad) W1 (RepV X.w X.mg) (fun c d H' => E c d σ H') Q) I ⟨W, ρ, rfl, hold, rel, outR.mono (outR.bind (Rl := RepV X.w X.mg) hold out) (fun x H1 ⟨W1, v, e0, _, hold1, r1, out1⟩ => ⟨W1, v, e0, hold1, r1, out1⟩) fun _ _ _ z => z⟩) fun u s1 ⟨x, H1, I1, rx, W1, v, e0, hold1, r1, out1⟩ => ?_)
  subst e0
  split at out1
  · rename_i c fs
    split at out1
    · rename_i hc
      obtain ⟨d, ed, out2⟩ := outR.okD_out out1
      have hc' : c ∈ cls := by simpa using hc
      cases r1 with
      | exc0 h z m => cases ed
      | @exc1 _ C _ gs a dx h z h2 z2 m rf =>
        obtain rfl : u = Value.ref a := rx
        obtain ⟨T, hno⟩ := hT c hc' C m
        obtain ⟨oe, vs, ho, hz, hd⟩ := excHO_at I1.hok (Wd.full_at h)
        obtain ⟨mA, hns, hr⟩ := (show ObjOk X.prog X.w W1.full s1.heap dx (.xd gs) from I1.hok dx _ (Wd.full_at h2))
        obtain ⟨od, hod, hl⟩ := lookIn_ns hns
        obtain ⟨y, l, ry⟩ := rf.lookup ed
        obtain ⟨u, hu, ru⟩ := RelO.some_of (v := y) (o := mA f) (by rw [← l]; exact hr f)
        have J : PySem.W.InstAt s1.heap a oe C (some od) := ⟨ho, hz.1, by unfold PySem.W.notCls; rw [hd] <;> rfl, by rw [hz.2]; exact hod⟩
        exact HandSPX.exc_get I1.kIn J T.ga T.gg T.exC (PySem.W.findObj_own T.hdC hno rfl (by rw [hl, hu])) (handed_of ru) ⟨y, _, I1.tok _, ru, outR.here out2 hold1 ry⟩
    · exact out1.elim
  · exact out1.elim⟩
end
end Lc

set_option maxHeartbeats 2000000
/-! Lc, part R: isinstance of errors; facts of error classes. -/
namespace Lc
open PySem PySem.Spec PyProof.Rows L2
section
variable {prog : Program} {w : World} {A : Around} {E : Value → Shared → Prop} {s : Shared} {K : PySem.W.Frag} {x D : Addr} {ox : Obj} {od : Option Obj}
open PySem.W in
theorem kin_classX {Q : Option Value → Shared → Prop} (T : ExcC K D) (X : K.In s.heap) (I : InstAt s.heap x ox D od) (h : Q (some (.ref D)) { s with toks := s.toks + 1 }) : wpAny (model prog w) A (getAttr? (.ref x) "__class__") Q E s := by
  have hf : findObj K D od "__class__" = some (.bind (.builtin "getset_descriptor.__get__") (.builtin "object.__class__")) := by
    have hc : (clsIn K D).isSome = true := by
      obtain ⟨cd, hc, _⟩ := any_some T.hd
      rw [hc]
      rfl
    cases od with
    | none => exact findObj_dataN hc T.ha T.hn T.ht
    | some o => exact findObj_data hc T.ha T.hn T.ht
  obtain ⟨hp, g, d, t, os⟩ := s
  have L0 := I.type (M := model prog w)
  have L1 := looks_findIn (M := model prog w) X T.hg
  have L2 := looks_findIn (M := model prog w) X T.hk
  have L3 := looks_find (M := model prog w) X I hf
  have sub : Looks (model prog w) hp (isInstance (.ref x) (.type "BaseException")) true := L0.andThen (looks_subIn X T.hs)
  have hx0 : (false && onTheHeap (Value.builtin "BaseException.__getattribute__")) = false := rfl
  have hx2 : (Value.builtin "BaseException.__getattribute__" == Value.builtin "object.__getattribute__") = false := by decide +kernel
  have hx1 : (onTheHeap (Value.ref D) && Value.builtin "BaseException.__getattribute__" == Value.builtin "object.__getattribute__") = false := by rw [hx2]; rfl
  unfold getAttr? getAttrBy? getAttrBy
  refine wpAny_bind (wpAny_mkText (wpAny_bind (wpAny_attempt (wpAny_holding (wpAny_bind (L0.at (wpAny_bind (L1.at ?_))))))))
  show wpAny _ _ (if (onTheHeap (Value.ref D) && Value.builtin "BaseException.__getattribute__" == Value.builtin "object.__getattribute__") = true then _ else _) _ _ _
  rw [hx1, if_neg Bool.false_ne_true]
  unfold getAttrByItsOwn hookBefore
  refine wpAny_bind ?_
  rw [if_pos (show onTheHeap (Value.ref D) = true from rfl)]
  refine L2.at ?_
  refine wpAny_bind (wpAny_attempt (wpAny_holding ?_))
  unfold callGetattribute
  rw [hx0, if_neg Bool.false_ne_true]
  unfold boundAndCalled
  rw [PySem.F.excAttr_ValueError.ga.bind (.ref x)]
  refine wpAny_bind (wpAny_pure ?_)
  show wpAny _ _ (call (.builtin "BaseException.__getattribute__") [.ref x, .str "__class__" t]) _ _ _
  refine wpAny_call (codeAny_call_builtin PySem.F.excAttr_ValueError.ga.plain PySem.F.entry_bexc_ga ?_)
  refine @check_slot (model prog w) _ _ ⟨hp, g, d, t + 1, os⟩ "BaseException.__getattribute__" "BaseException" "__getattribute__" (.ref x) [.str "__class__" t] [] _ (by decide +kernel) (by decide +kernel) sub (PySem.F.args_bexc_ga (.ref x) (.str "__class__" t)) ?_
  unfold Builtin.«object.__getattribute__»
  refine wpAny_bind (wpAny_of_eq (a := ((Value.ref x : Value), [Value.str "__class__" t])) (by first | rfl | (simp only [slotArgs]; rfl)) ?_)
  refine wpAny_bind (wpAny_pure (wpAny_bind (L0.at (wpAny_bind (L3.at ?_)))))
  show wpAny _ _ (holding [Value.builtin "object.__class__"] (call (.builtin "getset_descriptor.__get__") [.builtin "object.__class__", .ref x, .ref D]) >>= ret) _ _ _
  refine wpAny_bind (wpAny_holding (wpAny_call (class_get (s := ⟨hp, g, d, t + 1, os⟩) (ox := ox) (od := od) X I T.hm ?_)))
  refine wpAny_pure ?_
  show wpAny _ _ (handedOut (.ref D)) _ _ _
  rw [handedOut_of (v := .ref D) rfl]
  first
    | exact wpAny_pure (wpAny_pure h)
    | exact wpAny_pure h
    | exact wpAny_pure (wpAny_bind (wpAny_pure (wpAny_pure h)))
open PySem.W in
theorem kitx_excX (T : ExcC K D) : KitX K (.ref x) (.ref D) (fun h => ∃ ox od, InstAt h x ox D od) where
  ty := fun _ _ _ ⟨ox, od, I⟩ => I.type
  it := fun _ _ X _ => by
    obtain ⟨cdD, hcD, _⟩ := any_some T.hd
    unfold clsIn at hcD
    split at hcD
    · rename_i c' d' cd' sl' ho
      intro A' Q' E' s' k q
      unfold isType loadHead
      exact wpAny_bind (wpAny_loadPart (k _ _ (X _ _ ho)) (wpAny_pure q))
    · cases hcD
  ne := fun h tp dd its n sl X htp => by
    obtain ⟨cdD, hcD, _⟩ := any_some T.hd
    refine Bool.eq_false_iff.mpr fun q => ?_
    have e : D = tp := Value.ref.inj (beq_iff_eq.mp q)
    subst e
    unfold clsIn at hcD
    split at hcD
    · rename_i c' d' cd' sl' ho
      have z := (X _ _ ho).symm.trans htp
      cases z
    · cases hcD
  ca := fun X ⟨ox, od, I⟩ k => kin_classX T X I k
end
/-! ### isinstance -/
/-- tB: of built-in types; tI: of own classes; tX: of error classes -/
def isX (tB : List (String × Bool)) (tI tX : List (Str × Bool)) (S : Store) (v : Val) : Option D := match tyN S v with
  | some T => (tB.lookup T).map .bl
  | none => match v with
    | .d (.exc c _) => (tX.lookup c).map .bl
    | v => match clsV S v with
      | some c => (tI.lookup c).map .bl
      | none => none
def mIsX (tB : List (String × Bool)) (tI tX : List (Str × Bool)) (m : ME) : ME := fun ρ S => (m ρ S).bind fun v S1 => okD (isX tB tI tX S1 v) S1
section
variable {X : Cx} {pos : Pos} {e cx : Expr} {p : Pos} {m : ME}
theorem ce_isX {cd : V} {cv : Value} (tB : List (String × Bool)) (tI tX : List (Str × Bool)) (hcv : ClsV cd cv) (hcx : PE X cx (tC cd)) (hG : IsG X.K)
    (hB : ∀ T b, tB.lookup T = some b → PySem.W.kitOne X.K (.type T) cv = some b)
    (hI : ∀ c b, tI.lookup c = some b → ∀ C', X.mg c = some (.ref C') → ClsI X.K C' ∧ PySem.W.kitOne X.K (.ref C') cv = some b)
    (hX : ∀ c b, tX.lookup c = some b → ∀ C', X.mg c = some (.ref C') → ExcC X.K C' ∧ PySem.W.kitOne X.K (.ref C') cv = some b)
    (hi : X.mg "isinstance" = none) (he : CE X e m) (hg : Gl X "isinstance" := by rfl)
    (h1 : starEach [e, cx] X.env = (false, eval e X.env) :: starEach [cx] X.env := by rfl) (h2 : starEach [cx] X.env = (false, eval cx X.env) :: starEach [] X.env := by rfl) (hpl : (backTo pos (starEach [cx] X.env)).any (·.1) = false := by rfl) :
    CE X (.Call (.Name "isinstance" p) [e, cx] [] pos) (mIsX tB tI tX m) := fun E tk => ⟨fun pins s σ H Q I h => by
  obtain ⟨W, ρ, rfl, hold, rel, out⟩ := h
  -- what the call of isinstance does, by the value
  have go : CallR X (.builtin "isinstance") (fun xs H Q => ∃ (W1 : Wd) (v : Val) (x : V) (d : D), xs = [x, cd] ∧ W1.full = H ∧ Hold X.w X.mg W1 ∧ RepV X.w X.mg W1 v x ∧ isX tB tI tX W1.S v = some d ∧ outR X.w X.mg (.ok (.d d) W1.S) W1 (RepV X.w X.mg) (fun _ _ _ => False) Q) := by
    intro pins s σ H xs us Q I r h
    obtain ⟨W1, v, x, d, rfl, rfl, hold1, r1, q1, q2⟩ := h
    unfold isX at q1
    split at q1
    · rename_i T eT
      cases eb : tB.lookup T with
      | none => rw [eb] at q1; cases q1
      | some b =>
        rw [eb] at q1
        cases q1
        exact call_isi pins s σ _ _ us Q I r ⟨x, cd, .type T, cv, b, rfl, hcv, tyN_ok (K := X.K) hold1 r1 eT, hB T b eb, outR.here (x := V.bl _) q2 hold1 (.bl _)⟩
    · split at q1
      · rename_i c fs _
        cases eb : tX.lookup c with
        | none => rw [eb] at q1; cases q1
        | some b =>
          rw [eb] at q1
          cases q1
          have key : ∃ a C, x = .ref a ∧ X.mg c = some (.ref C) ∧ ∃ ox od, PySem.W.InstAt s.heap a ox C od := by
            cases r1 with
            | @exc0 _ C a h z m =>
              obtain ⟨oe, vs, ho, hz, hd⟩ := excHO_at I.hok (Wd.full_at h)
              exact ⟨a, C, rfl, m, oe, none, ho, hz.1, by unfold PySem.W.notCls; rw [hd] <;> rfl, by rw [hz.2]; trivial⟩
            | @exc1 _ C _ gs a dx h z h2 z2 m rf =>
              obtain ⟨oe, vs, ho, hz, hd⟩ := excHO_at I.hok (Wd.full_at h)
              obtain ⟨mA, hns, hr⟩ := (show ObjOk X.prog X.w W1.full s.heap dx (.xd gs) from I.hok dx _ (Wd.full_at h2))
              obtain ⟨od, hod, hl⟩ := lookIn_ns hns
              exact ⟨a, C, rfl, m, oe, some od, ho, hz.1, by unfold PySem.W.notCls; rw [hd] <;> rfl, by rw [hz.2]; exact hod⟩
          obtain ⟨a, C, rfl, hm, J⟩ := key
          obtain ⟨T, kt⟩ := hX c b eb C hm
          cases r with
          | cons rx rr =>
            cases rr with
            | cons rt rr =>
              cases rr
              cases rx
              have ec := hcv.eq rt
              subst ec
              exact PySem.W.kia_one (kitx_excX T) I.kIn J kt (fun z => nomatch z) fun tk => ⟨.bl b, _, I.kept (t' := tk) fun _ _ z => z, rfl, outR.here (x := V.bl _) q2 hold1 (.bl _)⟩
      · have key : ∃ c b, clsV W1.S v = some c ∧ tI.lookup c = some b ∧ d = .bl b := by
          cases ec : clsV W1.S v with
          | none => rw [ec] at q1; cases q1
          | some c =>
            rw [ec] at q1
            have q1 : (tI.lookup c).map D.bl = some d := q1
            cases eb : tI.lookup c with
            | none => rw [eb] at q1; cases q1
            | some b => rw [eb] at q1; cases q1; exact ⟨c, b, rfl, eb, rfl⟩
        obtain ⟨c, b, k1, k2, rfl⟩ := key
        obtain ⟨a, C', dx, gs, rfl, hH, hmg⟩ := ins_at hold1 r1 k1
        obtain ⟨ci, kt⟩ := hI c b k2 C' hmg
        exact call_isi pins s σ _ _ us Q I r ⟨.ref a, cd, .ref C', cv, b, rfl, hcv, .base (.ins hH ci.cl ci.ha hG.hn hG.htk ci.hm), kt, outR.here (x := V.bl b) q2 hold1 (.bl b)⟩
  refine (pe_callB go hg hi bo_isinstance (pa_cons (he E tk) (pa_cons hcx pa_nil h2) h1) (by decide) (by decide) h1 hpl).run pins s σ _ Q I ?_
  refine ⟨W, ρ, rfl, hold, rel, outR.mono (outR.bind (Rl := RepV X.w X.mg) hold out) (fun y H1 h1 => ?_) fun _ _ _ z => z⟩
  obtain ⟨W1, v, rfl, e1, hold1, r1, out1⟩ := h1
  obtain ⟨d, q1, q2⟩ := outR.okD_out out1
  exact ⟨W1, v, y, d, rfl, rfl, hold1, r1, q1, q2⟩⟩
end
/-! ### facts -/
section
variable {ex : List Fct} {fn : List DfG} {K : PySem.W.Frag} {mg : Str → Option Value}
def oexB (K : PySem.W.Frag) (C : Addr) : Bool := match K.lookup C with
  | some ⟨.type t, dd, .cls ⟨nm, bases, mro, ns, qn, hd, sn, sub, ab, col, del⟩, sl⟩ => decide (t = "type") && (match mro, sl.toList with
    | .ref C' :: bm, [_, _, _, _, some (.builtin n), _] => decide (C' = C) && (decide (n = "ValueError.__new__") && (hd && (!del && PySem.HandSPX.refsVE bm)))
    | _, _ => false)
  | _ => false
theorem oexB_ok {C : Addr} (h : oexB K C = true) : ∃ nm q N bs bm sn sub ab col dd k0 k1 k2 k3 k5, K.lookup C = some (excClassObj nm q C N bs bm true sn sub ab col dd k0 k1 k2 k3 k5 "ValueError.__new__") ∧ PySem.HandSPX.refsVE bm = true := by
  unfold oexB at h
  split at h
  · rename_i t dd nm bases mro ns qn hd sn sub ab col del sl ho
    obtain ⟨h1, h⟩ := He.ba h
    split at h
    · rename_i C' bm k0 k1 k2 k3 n k5 hm hs
      obtain ⟨h2, h⟩ := He.ba h
      obtain ⟨h3, h⟩ := He.ba h
      obtain ⟨h4, h⟩ := He.ba h
      obtain ⟨h5, h6⟩ := He.ba h
      have e1 := of_decide_eq_true h1
      have e2 := of_decide_eq_true h2
      have e3 := of_decide_eq_true h3
      have e5 : del = false := by simpa using h5
      subst e1 e2 e3 h4 e5
      refine ⟨nm, qn, ns, bases, bm, sn, sub, ab, col, dd, k0, k1, k2, k3, k5, ?_, h6⟩
      rw [ho]
      have es : sl = #[k0, k1, k2, k3, some (.builtin "ValueError.__new__"), k5] := by
        apply Array.toList_inj.mp
        rw [hm]
      rw [es]
    · cases h
  · cases h
def fExc0 (x : Str) : Fct := fun K => (He.Fa.exc x).ok K
theorem fExc0_ok {x : Str} (h : fExc0 x K = true) : Exc0 K (He.ga K x) := by
  obtain ⟨h1, h2, h3, h4⟩ := He.exc_ok h
  exact ⟨h1, h2, h3, h4⟩
def ini (K : PySem.W.Frag) (x : Str) : Addr := He.ma K (He.ga K x) "__init__"
def fExc1 (x f : Str) : Fct := fun K => oexB K (He.ga K x) && (decide (PySem.W.findIn K (.ref (He.ga K x)) "__setattr__" = some (some (.builtin "object.__setattr__"))) && (decide (PySem.W.subIn K (.ref (He.ga K x)) (.type "BaseException") = some true) &&
  (decide (PySem.W.typeIn K (.ref (He.ga K x)) = some (.type "type")) && (PySem.W.keepIn K (.ref (He.ga K x)) && (decide (PySem.W.findIn K (.ref (He.ga K x)) f = some none) && (decide (PySem.W.findIn K (.ref (He.ga K x)) "__init__" = some (some (.ref (ini K x)))) &&
  decide (PySem.W.typeIn K (.ref (ini K x)) = some (.type "function"))))))))
theorem fExc1_ok {x f : Str} (h : fExc1 x f K = true) : Exc1 K (He.ga K x) f (ini K x) := by
  obtain ⟨h1, h⟩ := He.ba h
  obtain ⟨h2, h⟩ := He.ba h
  obtain ⟨h3, h⟩ := He.ba h
  obtain ⟨h4, h⟩ := He.ba h
  obtain ⟨h5, h⟩ := He.ba h
  obtain ⟨h6, h⟩ := He.ba h
  obtain ⟨h7, h8⟩ := He.ba h
  exact ⟨⟨oexB_ok h1, of_decide_eq_true h2, of_decide_eq_true h3, of_decide_eq_true h4, h5⟩, of_decide_eq_true h6, of_decide_eq_true h7, of_decide_eq_true h8⟩
def fKeep (x : Str) : Fct := fun K => PySem.W.keepIn K (.ref (He.ga K x))
def fXf (x f : Str) : Fct := fun K => xfB K (He.ga K x) && decide (PySem.W.findIn K (.ref (He.ga K x)) f = some none)
theorem fXf_ok {x f : Str} (h : fXf x f K = true) : XfC K (He.ga K x) ∧ PySem.W.findIn K (.ref (He.ga K x)) f = some none := by
  obtain ⟨h1, h2⟩ := He.ba h
  exact ⟨xfB_ok h1, of_decide_eq_true h2⟩
def fExcC (x : Str) : Fct := fun K => xfB K (He.ga K x) && (decide (PySem.W.findIn K (.ref (He.ga K x)) "__class__" = some (some (.builtin "object.__class__"))) && (decide (PySem.W.mroIn K (He.ga K x) (.type "object") = some true) && fIsG K))
theorem fExcC_ok {x : Str} (h : fExcC x K = true) : ExcC K (He.ga K x) := by
  obtain ⟨h1, h⟩ := He.ba h
  obtain ⟨h2, h⟩ := He.ba h
  obtain ⟨h3, h4⟩ := He.ba h
  have a := xfB_ok h1
  have b := fIsG_ok h4
  exact ⟨a.ga, a.gg, a.exC, a.hdC, of_decide_eq_true h2, b.hn, b.htk, of_decide_eq_true h3⟩
/-- a class and a built-in class -/
def fKitV (x : Str) (n : String) (b : Bool) : Fct := fun K => decide (PySem.W.kitOne K (.ref (He.ga K x)) (.type n) = some b)
theorem fKitV_ok {x : Str} {n : String} {b : Bool} (h : fKitV x n b K = true) : PySem.W.kitOne K (.ref (He.ga K x)) (.type n) = some b := of_decide_eq_true h
def tyFalse : List (String × Bool) := tyNs.map fun t => (t, false)
theorem tyFalse_ok {cv : Value} (h : ∀ T, T ∈ tyNs → PySem.W.kitOne K (.type T) cv = some false) : ∀ T b, tyFalse.lookup T = some b → PySem.W.kitOne K (.type T) cv = some b := fun T b e => by
  have h1 : (T, b) ∈ tyFalse := by
    have : ∀ {l : List (String × Bool)}, l.lookup T = some b → (T, b) ∈ l := fun {l} => by
      induction l with
      | nil => intro h; cases h
      | cons p l ih =>
        intro h
        obtain ⟨u, c⟩ := p
        rw [List.lookup_cons] at h
        cases q : (T == u) with
        | true =>
          rw [q] at h
          have e1 : T = u := by simpa using q
          have e2 : c = b := Option.some.inj h
          rw [e1, e2]
          exact List.mem_cons_self
        | false =>
          rw [q] at h
          exact List.mem_cons_of_mem _ (ih h)
    exact this e
  obtain ⟨t, ht, e2⟩ := List.mem_map.mp h1
  cases e2
  exact h _ ht
def fKitBV (n : String) : Fct := fun K => tyNs.all fun T => decide (PySem.W.kitOne K (.type T) (.type n) = some false)
theorem fKitBV_ok {n : String} (h : fKitBV n K = true) : ∀ T, T ∈ tyNs → PySem.W.kitOne K (.type T) (.type n) = some false := fun T hT => of_decide_eq_true (List.all_eq_true.mp h T hT)
end
end Lc

set_option maxHeartbeats 2000000
/-! Lc, part X: what the pieces compute, step by step. -/
namespace Lc
open PySem PySem.Spec PyProof.Rows L2
variable {ρ ρ1 ρ2 : Loc} {S S1 S2 S3 S4 : Store} {v u z : Val} {d : D} {k : Bool} {vs : List Val} {o : O}
theorem x_var {i : Nat} (h : ρ[i]? = some (some v)) : mVar i ρ S = .ok v S := by unfold mVar; rw [h]
theorem x_c {d : D} : mC d ρ S = .ok (.d d) S := rfl
theorem x_bin {f : F2} {ma mb : ME} (h1 : ma ρ S = .ok v S1) (h2 : mb ρ S1 = .ok u S2) (h3 : f S2 v u = some d) : mBin f ma mb ρ S = .ok (.d d) S2 := by
  unfold mBin; rw [h1]; show (mb ρ S1).bind _ = _; rw [h2]; show okD (f S2 v u) S2 = _; rw [h3]; rfl
theorem x_un {f : F1'} {m : ME} (h1 : m ρ S = .ok v S1) (h3 : f S1 v = some d) : mUn f m ρ S = .ok (.d d) S1 := by
  unfold mUn; rw [h1]; show okD (f S1 v) S1 = _; rw [h3]; rfl
theorem x_call {φ : Fn} {ma : MA} (h1 : ma ρ S = .ok vs S1) (h2 : φ vs S1 = .ok v S2) : mCall φ ma ρ S = .ok v S2 := by
  unfold mCall; rw [h1]; exact h2
theorem x_nil : maNil ρ S = .ok [] S := rfl
theorem x_cons {m : ME} {ms : MA} (h1 : m ρ S = .ok v S1) (h2 : ms ρ S1 = .ok vs S2) : maCons m ms ρ S = .ok (v :: vs) S2 := by
  unfold maCons; rw [h1]; show (ms ρ S1).bind _ = _; rw [h2]; rfl
theorem x_star {m : ME} {ms : MA} {xs : List D} (h1 : m ρ S = .ok v S1) (hx : seqA S1 v = some xs) (h2 : ms ρ S1 = .ok vs S2) : maStar m ms ρ S = .ok (xs.map .d ++ vs) S2 := by
  unfold maStar; rw [h1]; show (match seqA S1 v with | some xs => (ms ρ S1).bind fun vs S2 => R.ok (xs.map Val.d ++ vs) S2 | none => .bad) = _; rw [hx]; show (ms ρ S1).bind _ = _; rw [h2]; rfl
theorem x_b {f : BF} {ma : MA} (h1 : ma ρ S = .ok vs S1) (h2 : f S1 vs = some d) : mB f ma ρ S = .ok (.d d) S1 := by
  unfold mB; rw [h1]; show okD (f S1 vs) S1 = _; rw [h2]; rfl
theorem x_test {m : ME} (h : m ρ S = .ok (.d (.bl k)) S1) : mTest m ρ S = .ok k S1 := by unfold mTest; rw [h]; rfl
theorem x_not {t : MT} (h : t ρ S = .ok k S1) : mNotT t ρ S = .ok (!k) S1 := by unfold mNotT; rw [h]; rfl
theorem x_ofT {t : MT} (h : t ρ S = .ok k S1) : ofT t ρ S = .ok (.d (.bl k)) S1 := by unfold ofT; rw [h]; rfl
theorem x_andTT {ta tb : MT} (h1 : ta ρ S = .ok true S1) (h2 : tb ρ S1 = .ok k S2) : mAndT ta tb ρ S = .ok k S2 := by unfold mAndT; rw [h1]; exact h2
theorem x_andTF {ta tb : MT} (h1 : ta ρ S = .ok false S1) : mAndT ta tb ρ S = .ok false S1 := by unfold mAndT; rw [h1]; rfl
theorem x_orTT {ta tb : MT} (h1 : ta ρ S = .ok true S1) : mOrT ta tb ρ S = .ok true S1 := by unfold mOrT; rw [h1]; rfl
theorem x_orTF {ta tb : MT} (h1 : ta ρ S = .ok false S1) (h2 : tb ρ S1 = .ok k S2) : mOrT ta tb ρ S = .ok k S2 := by unfold mOrT; rw [h1]; exact h2
theorem x_andVT {a b : ME} (h1 : a ρ S = .ok (.d (.bl true)) S1) (h2 : b ρ S1 = .ok v S2) : mAndV a b ρ S = .ok v S2 := by unfold mAndV; rw [x_test h1]; exact h2
theorem x_andVF {a b : ME} (h1 : a ρ S = .ok (.d (.bl false)) S1) : mAndV a b ρ S = .ok (.d (.bl false)) S1 := by unfold mAndV; rw [x_test h1]; rfl
theorem x_orVT {a b : ME} (h1 : a ρ S = .ok (.d (.bl true)) S1) : mOrV a b ρ S = .ok (.d (.bl true)) S1 := by unfold mOrV; rw [x_test h1]; rfl
theorem x_orVF {a b : ME} (h1 : a ρ S = .ok (.d (.bl false)) S1) (h2 : b ρ S1 = .ok v S2) : mOrV a b ρ S = .ok v S2 := by unfold mOrV; rw [x_test h1]; exact h2
theorem x_ifT {t : MT} {a b : ME} (h1 : t ρ S = .ok true S1) (h2 : a ρ S1 = .ok v S2) : mIf t a b ρ S = .ok v S2 := by unfold mIf; rw [h1]; exact h2
theorem x_ifF {t : MT} {a b : ME} (h1 : t ρ S = .ok false S1) (h2 : b ρ S1 = .ok v S2) : mIf t a b ρ S = .ok v S2 := by unfold mIf; rw [h1]; exact h2
theorem x_chn {a : ME} {m : MCh} {r : R Val} (h1 : a ρ S = .ok v S1) (h2 : m v ρ S1 = r) : mChn a m ρ S = r := by unfold mChn; rw [h1]; exact h2
theorem x_last {f : F2} {b : ME} (h1 : b ρ S = .ok u S1) (h2 : f S1 v u = some d) : chLast f b v ρ S = .ok (.d d) S1 := by unfold chLast; rw [h1]; show okD (f S1 v u) S1 = _; rw [h2]; rfl
theorem x_linkT {f : F2} {b : ME} {m : MCh} {r : R Val} (h1 : b ρ S = .ok u S1) (h2 : f S1 v u = some (.bl true)) (h3 : m u ρ S1 = r) : chLink f b m v ρ S = r := by
  unfold chLink; rw [h1]; show (match f S1 v u with | some (.bl true) => m u ρ S1 | some (.bl false) => R.ok (.d (.bl false)) S1 | _ => .bad) = _; rw [h2]; exact h3
theorem x_linkF {f : F2} {b : ME} {m : MCh} (h1 : b ρ S = .ok u S1) (h2 : f S1 v u = some (.bl false)) : chLink f b m v ρ S = .ok (.d (.bl false)) S1 := by
  unfold chLink; rw [h1]; show (match f S1 v u with | some (.bl true) => m u ρ S1 | some (.bl false) => R.ok (.d (.bl false)) S1 | _ => .bad) = _; rw [h2]
/-- displays of data -/
def dsOf : List Val → Option (List D)
  | [] => some []
  | .d x :: r => (dsOf r).map (x :: ·)
  | .ref _ :: _ => none
theorem frzVs_ds : ∀ {vs : List Val} {ds : List D}, dsOf vs = some ds → frzVs S vs = some (ds, S)
  | [], _, h => by cases h; rfl
  | .d x :: r, _, h => by
    unfold dsOf at h
    cases e : dsOf r with
    | none => rw [e] at h; cases h
    | some q =>
      rw [e] at h
      cases h
      show (match frzV S (.d x) with | some (x, S1) => (match frzVs S1 r with | some (xs, S2) => some (x :: xs, S2) | none => none) | none => none) = _
      show (match frzVs S r with | some (xs, S2) => some (x :: xs, S2) | none => none) = _
      rw [frzVs_ds e]
  | .ref _ :: _, _, h => by cases h
theorem x_tup {ma : MA} {ds : List D} (h1 : ma ρ S = .ok vs S1) (h2 : dsOf vs = some ds) (h3 : ds.length ≤ 1000) : mTup ma ρ S = .ok (.d (.tup ds)) S1 := by
  unfold mTup; rw [h1]; show (match frzVs S1 vs with | some (ds, S2) => if ds.length ≤ 1000 then R.ok (Val.d (D.tup ds)) S2 else R.bad | none => .bad) = _; rw [frzVs_ds h2]; exact if_pos h3
theorem x_lst {ma : MA} {ds : List D} (h1 : ma ρ S = .ok vs S1) (h2 : dsOf vs = some ds) (h3 : ds.length ≤ 1000) : mLst ma ρ S = .ok (.d (.lst ds)) S1 := by
  unfold mLst; rw [h1]; show (match frzVs S1 vs with | some (ds, S2) => if ds.length ≤ 1000 then R.ok (Val.d (D.lst ds)) S2 else R.bad | none => .bad) = _; rw [frzVs_ds h2]; exact if_pos h3
theorem x_lstM {ma : MA} {ds : List D} (h1 : ma ρ S = .ok vs S1) (h2 : dsOf vs = some ds) (h3 : ds.length ≤ 1000) : mLstM ma ρ S = .ok (.ref S1.length) (S1 ++ [.live false (.lst ds)]) := by
  unfold mLstM; rw [h1]; show (match frzVs S1 vs with | some (ds, S2) => if ds.length ≤ 1000 then R.ok (Val.ref S2.length) (S2 ++ [Cell.live false (Body.lst ds)]) else R.bad | none => .bad) = _; rw [frzVs_ds h2]; exact if_pos h3
theorem x_xfld {f : Str} {cls : List Str} {m : ME} {c : Str} {fs : List (Str × D)} (h1 : m ρ S = .ok (.d (.exc c fs)) S1) (h2 : cls.contains c = true) (h3 : fs.lookup f = some d) : mXfld f cls m ρ S = .ok (.d d) S1 := by
  unfold mXfld; rw [h1]; show (if cls.contains c = true then okD (fs.lookup f) S1 else .bad) = _; rw [if_pos h2, h3]; rfl
theorem x_isX {tB : List (String × Bool)} {tI tX : List (Str × Bool)} {m : ME} (h1 : m ρ S = .ok v S1) (h2 : isX tB tI tX S1 v = some d) : mIsX tB tI tX m ρ S = .ok (.d d) S1 := by
  unfold mIsX; rw [h1]; show okD (isX tB tI tX S1 v) S1 = _; rw [h2]; rfl
theorem x_isO {t : List (Str × Bool)} {m : ME} (h1 : m ρ S = .ok v S1) (h2 : isO t S1 v = some d) : mIsO t m ρ S = .ok (.d d) S1 := by
  unfold mIsO; rw [h1]; show okD (isO t S1 v) S1 = _; rw [h2]; rfl
theorem x_fld {f : Str} {T : List (Str × Option Fn)} {m : ME} {c : Str} (h1 : m ρ S = .ok v S1) (h2 : clsV S1 v = some c) (h3 : T.lookup c = some none) (h4 : fldV S1 v f = some u) : mAttr f T m ρ S = .ok u S1 := by
  unfold mAttr; rw [h1]; simp only [R.bind, h2, Option.bind_some, h3, h4]
theorem x_prop {f : Str} {T : List (Str × Option Fn)} {m : ME} {c : Str} {φ : Fn} (h1 : m ρ S = .ok v S1) (h2 : clsV S1 v = some c) (h3 : T.lookup c = some (some φ)) (h4 : φ [v] S1 = .ok u S2) : mAttr f T m ρ S = .ok u S2 := by
  unfold mAttr; rw [h1]; simp only [R.bind, h2, Option.bind_some, h3, h4, noErr]
theorem x_meth {f : Str} {T : List (Str × Fn)} {m : ME} {ma : MA} {c : Str} {φ : Fn} (h1 : m ρ S = .ok v S1) (h2 : clsV S1 v = some c) (h3 : T.lookup c = some φ) (h4 : fldV S1 v f = none) (h5 : ma ρ S1 = .ok vs S2) (h6 : φ (v :: vs) S2 = .ok u S3) : mMethO f T m ma ρ S = .ok u S3 := by
  unfold mMethO; rw [h1]; simp only [R.bind, h2, Option.bind_some, h3, h4, Option.isNone_none, if_true, h5, h6]
theorem x_bm {g : Store → Val → Bool} {f : MF} {m : ME} {ma : MA} (h1 : m ρ S = .ok v S1) (h2 : g S1 v = true) (h3 : ma ρ S1 = .ok vs S2) (h4 : f S2 v vs = .ok u S3) : mMeth g f m ma ρ S = .ok u S3 := by
  unfold mMeth; rw [h1]; simp only [R.bind, h2, if_true, h3, h4, noErr]
theorem x_sl {m : ME} {lo hi : MO} {l h : Option Int} (h1 : m ρ S = .ok v S1) (h2 : lo ρ S1 = .ok l S2) (h3 : hi ρ S2 = .ok h S3) (h4 : slF S3 v l h = some d) : mSl m lo hi ρ S = .ok (.d d) S3 := by
  unfold mSl; rw [h1]; simp only [R.bind, h2, h3, h4, okD]
theorem x_moN : moN ρ S = .ok none S := rfl
theorem x_moS {m : ME} {i : Int} (h : m ρ S = .ok (.d (.int i)) S1) : moS m ρ S = .ok (some i) S1 := by unfold moS; rw [h]; rfl
theorem x_rev {m : ME} (h1 : m ρ S = .ok v S1) (h2 : revF S1 v = some d) : mRev m ρ S = .ok (.d d) S1 := by unfold mRev; rw [h1]; simp only [R.bind, h2, okD]
theorem x_frz {m : ME} (h1 : m ρ S = .ok v S1) (h2 : frzV S1 v = some (d, S2)) : mFrz m ρ S = .ok (.d d) S2 := by unfold mFrz; rw [h1]; simp only [R.bind, h2]
/-! ### statements -/
theorem x_nilS : msNil ρ S = .nx ρ S := rfl
theorem x_seq {m1 m2 : MS} (h1 : m1 ρ S = .nx ρ1 S1) (h2 : m2 ρ1 S1 = o) : msSeq m1 m2 ρ S = o := by unfold msSeq; rw [h1]; exact h2
theorem x_seqR {m1 m2 : MS} (h1 : m1 ρ S = .rt v S1) : msSeq m1 m2 ρ S = .rt v S1 := by unfold msSeq; rw [h1]; rfl
theorem x_seqB {m1 m2 : MS} (h1 : m1 ρ S = .bk ρ1 S1) : msSeq m1 m2 ρ S = .bk ρ1 S1 := by unfold msSeq; rw [h1]; rfl
theorem x_seqC {m1 m2 : MS} (h1 : m1 ρ S = .ct ρ1 S1) : msSeq m1 m2 ρ S = .ct ρ1 S1 := by unfold msSeq; rw [h1]; rfl
theorem x_set {i : Nat} {m : ME} (h : m ρ S = .ok v S1) : msSet i m ρ S = .nx (ρ.set i (some v)) S1 := by unfold msSet; rw [h]; rfl
theorem x_ret {m : ME} (h : m ρ S = .ok v S1) : msRet m ρ S = .rt v S1 := by unfold msRet; rw [h]; rfl
theorem x_expr {m : ME} (h : m ρ S = .ok v S1) : msExpr m ρ S = .nx ρ S1 := by unfold msExpr; rw [h]; rfl
theorem x_sifT {t : MT} {m1 m2 : MS} (h1 : t ρ S = .ok true S1) (h2 : m1 ρ S1 = o) : msIf t m1 m2 ρ S = o := by unfold msIf; rw [h1]; exact h2
theorem x_sifF {t : MT} {m1 m2 : MS} (h1 : t ρ S = .ok false S1) (h2 : m2 ρ S1 = o) : msIf t m1 m2 ρ S = o := by unfold msIf; rw [h1]; exact h2
theorem x_setI {mv mo mi : ME} (h1 : mv ρ S = .ok v S1) (h2 : mo ρ S1 = .ok u S2) (h3 : mi ρ S2 = .ok z S3) (h4 : Lc.stI S3 u z v = some S4) : msSetI mv mo mi ρ S = .nx ρ S4 := by
  unfold msSetI; rw [h1]; simp only [R.toO, h2, h3, h4]
theorem x_setF {f : Str} {cls : List Str} {mv mo : ME} (h1 : mv ρ S = .ok v S1) (h2 : mo ρ S1 = .ok u S2) (h4 : stF f cls S2 u v = some S3) : msSetF f cls mv mo ρ S = .nx ρ S3 := by
  unfold msSetF; rw [h1]; simp only [R.toO, h2, h4]
theorem x_par {ma : MA} {gs : MGs} (h1 : ma ρ S = .ok vs S1) (h2 : gs vs ρ = some ρ1) : msPar ma gs ρ S = .nx ρ1 S1 := by unfold msPar; rw [h1]; simp only [R.toO, h2]
theorem x_asg {m : ME} {g : MG} (h1 : m ρ S = .ok v S1) (h2 : g v ρ = some ρ1) : msAsg m g ρ S = .nx ρ1 S1 := by unfold msAsg; rw [h1]; simp only [R.toO, h2]
theorem x_aug {i : Nat} {f : F2} {m : ME} (h0 : ρ[i]? = some (some v)) (h1 : m ρ S = .ok u S1) (h2 : f S1 v u = some d) : msAug i f m ρ S = .nx (ρ.set i (some (.d d))) S1 := by
  unfold msAug; rw [h0]; simp only [h1, R.toO, h2]
theorem x_for {mi : MI} {g : MG} {b : MS} {xs : List Val} (h1 : mi ρ S = .ok xs S1) (h2 : forL g b xs ρ S1 = o) : msFor mi g b ρ S = o := by unfold msFor; rw [h1]; exact h2
theorem x_forN {g : MG} {b : MS} : forL g b [] ρ S = .nx ρ S := rfl
theorem x_forC {g : MG} {b : MS} {x : Val} {xs : List Val} (h1 : g x ρ = some ρ1) (h2 : b ρ1 S = .nx ρ2 S2) (h3 : forL g b xs ρ2 S2 = o) : forL g b (x :: xs) ρ S = o := by
  show (match g x ρ with | none => O.bad | some ρ1 => match b ρ1 S with | .nx ρ2 S2 => forL g b xs ρ2 S2 | .ct ρ2 S2 => forL g b xs ρ2 S2 | .bk ρ2 S2 => .nx ρ2 S2 | o => o) = o
  rw [h1]; show (match b ρ1 S with | .nx ρ2 S2 => forL g b xs ρ2 S2 | .ct ρ2 S2 => forL g b xs ρ2 S2 | .bk ρ2 S2 => .nx ρ2 S2 | o => o) = o
  rw [h2]; exact h3
theorem x_forR {g : MG} {b : MS} {x : Val} {xs : List Val} (h1 : g x ρ = some ρ1) (h2 : b ρ1 S = .rt v S2) : forL g b (x :: xs) ρ S = .rt v S2 := by
  show (match g x ρ with | none => O.bad | some ρ1 => match b ρ1 S with | .nx ρ2 S2 => forL g b xs ρ2 S2 | .ct ρ2 S2 => forL g b xs ρ2 S2 | .bk ρ2 S2 => .nx ρ2 S2 | o => o) = _
  rw [h1]; show (match b ρ1 S with | .nx ρ2 S2 => forL g b xs ρ2 S2 | .ct ρ2 S2 => forL g b xs ρ2 S2 | .bk ρ2 S2 => .nx ρ2 S2 | o => o) = _
  rw [h2]
theorem x_while0 {n : Nat} {t : MT} {b : MS} (h : t ρ S = .ok false S1) : whileF t b (n + 1) ρ S = .nx ρ S1 := by unfold whileF; rw [h]; rfl
theorem x_while1 {n : Nat} {t : MT} {b : MS} (h : t ρ S = .ok true S1) (h2 : b ρ S1 = .nx ρ2 S2) (h3 : whileF t b n ρ2 S2 = o) : whileF t b (n + 1) ρ S = o := by
  unfold whileF; rw [h]; show (match b ρ S1 with | .nx ρ2 S2 => whileF t b n ρ2 S2 | .ct ρ2 S2 => whileF t b n ρ2 S2 | .bk ρ2 S2 => .nx ρ2 S2 | o => o) = o; rw [h2]; exact h3
theorem x_miV {m : ME} {xs : List Val} (h1 : m ρ S = .ok v S1) (h2 : itV S1 v = .ok xs S2) : miV m ρ S = .ok xs S2 := by unfold miV; rw [h1]; exact h2
theorem x_rng {g : List Val → Store → R (List Val)} {ma : MA} {xs : List Val} (h1 : ma ρ S = .ok vs S1) (h2 : g vs S1 = .ok xs S2) : miRng g ma ρ S = .ok xs S2 := by unfold miRng; rw [h1]; exact h2
theorem x_enum {ma : MA} {xs : List D} (h1 : ma ρ S = .ok [v] S1) (h2 : lstV S1 v = .ok xs S2) : miEnum ma ρ S = .ok (enumD xs) S2 := by unfold miEnum; rw [h1]; simp only [R.bind, h2]
/-! ### calls -/
theorem x_fn {np n : Nat} {m : MS} {args : List Val} (h0 : args.length = np) (h : m (args.map some ++ List.replicate (n - args.length) none) S = .rt v S1) : mkFn np n m args S = .ok v S1 := by
  unfold mkFn; rw [if_pos h0, h]
theorem x_fnN {np n : Nat} {m : MS} {args : List Val} (h0 : args.length = np) (h : m (args.map some ++ List.replicate (n - args.length) none) S = .nx ρ1 S1) : mkFn np n m args S = .ok (.d .non) S1 := by
  unfold mkFn; rw [if_pos h0, h]
theorem x_pure {φ : Fn} {args : List Val} (h : φ args (lockAll S) = .ok v S1) (h2 : outV S.length S1 v = some u) : purify φ args S = .ok u S := by
  unfold purify; rw [h]; simp only [h2]
theorem x_trim {φ : Fn} {args : List Val} (h : φ args S = .ok v S1) (h2 : outV S.length S1 v = some u) (h3 : ((S1.take S.length).all (lowC S.length)) = true) : trim φ args S = .ok u (S1.take S.length) := by
  unfold trim; rw [h]; simp only [h2, h3, if_true]
theorem x_mk {c : Str} {φ : Fn} {args : List Val} (h : φ (.ref S.length :: args) (S ++ [.live false (.ins c [])]) = .ok (.d .non) S1) : mkObj c φ args S = .ok (.ref S.length) S1 := by
  unfold mkObj; rw [h]
/-! ### comprehensions -/
theorem x_lc {vs' : List Nat} {mi : MI} {g : MG} {mt : MT} {me : ME} {xs : List Val} {ys : List D} (h1 : mi ρ S = .ok xs S1) (h2 : xs.length ≤ 16777216) (h3 : lcL g mt me (wipeL ρ vs') xs S1 = .ok ys S2) : mLc vs' mi g mt me ρ S = .ok (.d (.lst ys)) S2 := by
  unfold mLc; rw [h1]; show (if xs.length ≤ 16777216 then _ else _) = _; rw [if_pos h2, h3]; rfl
theorem x_lcN {g : MG} {mt : MT} {me : ME} : lcL g mt me ρ [] S = .ok [] S := rfl
theorem x_lcC {g : MG} {me : ME} {x : Val} {xs : List Val} {ys : List D} (h1 : g x ρ = some ρ1) (h2 : me ρ1 S = .ok (.d d) S1) (h3 : lcL g mtYes me ρ xs S1 = .ok ys S2) : lcL g mtYes me ρ (x :: xs) S = .ok (d :: ys) S2 := by
  unfold lcL; rw [h1]; simp only [mtYes, noErr, R.bind, if_true, h2, frzV]
  rw [show lcL g mtYes me ρ xs S1 = R.ok ys S2 from h3]
theorem x_lcT {g : MG} {mt : MT} {me : ME} {x : Val} {xs : List Val} {ys : List D} (h1 : g x ρ = some ρ1) (h0 : mt ρ1 S = .ok true S3) (h2 : me ρ1 S3 = .ok (.d d) S1) (h3 : lcL g mt me ρ xs S1 = .ok ys S2) : lcL g mt me ρ (x :: xs) S = .ok (d :: ys) S2 := by
  unfold lcL; rw [h1]; simp only [h0, noErr, R.bind, if_true, h2, frzV]
  rw [show lcL g mt me ρ xs S1 = R.ok ys S2 from h3]
theorem x_lcF {g : MG} {mt : MT} {me : ME} {x : Val} {xs : List Val} {ys : List D} (h1 : g x ρ = some ρ1) (h0 : mt ρ1 S = .ok false S3) (h3 : lcL g mt me ρ xs S3 = .ok ys S2) : lcL g mt me ρ (x :: xs) S = .ok ys S2 := by
  unfold lcL; rw [h1]; simp only [h0, noErr, R.bind]
  exact h3
/-- a comprehension whose store does not change: by a function -/
theorem x_lcMap {g : MG} {me : ME} {α : Type} {A : α → Val} {B : α → D} : ∀ (l : List α), (∀ a, a ∈ l → ∃ ρ1, g (A a) ρ = some ρ1 ∧ me ρ1 S = .ok (.d (B a)) S) → lcL g mtYes me ρ (l.map A) S = .ok (l.map B) S
  | [], _ => rfl
  | a :: l, h => by
    obtain ⟨ρ1, h1, h2⟩ := h a (List.mem_cons_self ..)
    exact x_lcC h1 h2 (x_lcMap l fun b hb => h b (List.mem_cons_of_mem _ hb))
end Lc

set_option maxHeartbeats 2000000
namespace Lw
open PySem PySem.Spec PyProof.Rows L2 Lc
def top (i : Nat) : Stmt := PySem.Challenge.pw_lacekeys_k51_errors_made.main.body.getD i (.Pass ⟨0, 0, 0, 0⟩)
abbrev s__law_bag : Stmt := top 22
def d__law_bag : DfG := (⟨("_law_bag", none), "_law_bag", "_law_bag", defArgs s__law_bag, defBody s__law_bag, defScope s__law_bag, [], []⟩, false)
abbrev s__law_pick : Stmt := top 23
def d__law_pick : DfG := (⟨("_law_pick", none), "_law_pick", "_law_pick", defArgs s__law_pick, defBody s__law_pick, defScope s__law_pick, [], []⟩, false)
abbrev s__law_made : Stmt := top 24
def d__law_made : DfG := (⟨("_law_made", none), "_law_made", "_law_made", defArgs s__law_made, defBody s__law_made, defScope s__law_made, [], []⟩, false)
abbrev s__law_classes : Stmt := top 25
def d__law_classes : DfG := (⟨("_law_classes", none), "_law_classes", "_law_classes", defArgs s__law_classes, defBody s__law_classes, defScope s__law_classes, [], []⟩, false)
abbrev s_law : Stmt := top 26
def d_law : DfG := (⟨("law", none), "law", "law", defArgs s_law, defBody s_law, defScope s_law, [], []⟩, false)
abbrev s_InvalidLoad___init__ : Stmt := inClass (top 2) 0
def d_InvalidLoad___init__ : DfG := (⟨("InvalidLoad", some "__init__"), "__init__", "InvalidLoad.__init__", defArgs s_InvalidLoad___init__, defBody s_InvalidLoad___init__, defScope s_InvalidLoad___init__, [], []⟩, false)
abbrev s_InvalidBoxes___init__ : Stmt := inClass (top 3) 0
def d_InvalidBoxes___init__ : DfG := (⟨("InvalidBoxes", some "__init__"), "__init__", "InvalidBoxes.__init__", defArgs s_InvalidBoxes___init__, defBody s_InvalidBoxes___init__, defScope s_InvalidBoxes___init__, [], []⟩, false)
abbrev s_InvalidText___init__ : Stmt := inClass (top 4) 0
def d_InvalidText___init__ : DfG := (⟨("InvalidText", some "__init__"), "__init__", "InvalidText.__init__", defArgs s_InvalidText___init__, defBody s_InvalidText___init__, defScope s_InvalidText___init__, [], []⟩, false)
abbrev s_TooMany___init__ : Stmt := inClass (top 5) 0
def d_TooMany___init__ : DfG := (⟨("TooMany", some "__init__"), "__init__", "TooMany.__init__", defArgs s_TooMany___init__, defBody s_TooMany___init__, defScope s_TooMany___init__, [], []⟩, false)
abbrev s_OverBudget___init__ : Stmt := inClass (top 6) 0
def d_OverBudget___init__ : DfG := (⟨("OverBudget", some "__init__"), "__init__", "OverBudget.__init__", defArgs s_OverBudget___init__, defBody s_OverBudget___init__, defScope s_OverBudget___init__, [], []⟩, false)
def fn : List DfG := [d__law_bag, d__law_pick, d__law_made, d__law_classes, d_law, d_InvalidLoad___init__, d_InvalidBoxes___init__, d_InvalidText___init__, d_TooMany___init__, d_OverBudget___init__]
def ex0 : List Fct := [fFree "max", fFree "int", fGlo "OverBudget", fGlo "TooMany", fGlo "InvalidText", fGlo "InvalidBoxes", fGlo "InvalidLoad", fGlo "InvalidKey", fGlo "InvalidCell", fGlo "InvalidBits", fGlo "InvalidLayout", fGlo "InvalidWord", fGlo "InvalidBudget", fGlo "InvalidSize", fGlo "InvalidNumber", fGlo "InvalidIndex", fGlo "InvalidBox", fGlo "InvalidCommand", fGlo "Nothing", fGlo "InvalidOperation", fGlo "UnlikeGrids", fKit "InvalidCommand" "InvalidText" false, fExcC "InvalidCommand", fKit "Nothing" "InvalidText" false, fExcC "Nothing", fKit "InvalidOperation" "InvalidText" false, fExcC "InvalidOperation", fKit "UnlikeGrids" "InvalidText" false, fExcC "UnlikeGrids", fKit "InvalidBudget" "InvalidText" false, fExcC "InvalidBudget", fKit "InvalidSize" "InvalidText" false, fExcC "InvalidSize", fKit "InvalidNumber" "InvalidText" false, fExcC "InvalidNumber", fKit "InvalidIndex" "InvalidText" false, fExcC "InvalidIndex", fKit "InvalidBox" "InvalidText" false, fExcC "InvalidBox", fKit "InvalidKey" "InvalidText" false]
def ex1 : List Fct := [fExcC "InvalidKey", fKit "InvalidCell" "InvalidText" false, fExcC "InvalidCell", fKit "InvalidBits" "InvalidText" false, fExcC "InvalidBits", fKit "InvalidLayout" "InvalidText" false, fExcC "InvalidLayout", fKit "InvalidWord" "InvalidText" false, fExcC "InvalidWord", fKit "OverBudget" "InvalidText" false, fExcC "OverBudget", fKit "TooMany" "InvalidText" false, fExcC "TooMany", fKit "InvalidText" "InvalidText" true, fExcC "InvalidText", fKit "InvalidBoxes" "InvalidText" false, fExcC "InvalidBoxes", fKit "InvalidLoad" "InvalidText" false, fExcC "InvalidLoad", fKit "LaceError" "InvalidText" false, fGlo "LaceError", fExcC "LaceError", fKitB "InvalidText", fIsG, fFree "isinstance", fKit "InvalidCommand" "InvalidBoxes" false, fKit "Nothing" "InvalidBoxes" false, fKit "InvalidOperation" "InvalidBoxes" false, fKit "UnlikeGrids" "InvalidBoxes" false, fKit "InvalidBudget" "InvalidBoxes" false, fKit "InvalidSize" "InvalidBoxes" false, fKit "InvalidNumber" "InvalidBoxes" false, fKit "InvalidIndex" "InvalidBoxes" false, fKit "InvalidBox" "InvalidBoxes" false, fKit "InvalidKey" "InvalidBoxes" false, fKit "InvalidCell" "InvalidBoxes" false, fKit "InvalidBits" "InvalidBoxes" false, fKit "InvalidLayout" "InvalidBoxes" false, fKit "InvalidWord" "InvalidBoxes" false, fKit "OverBudget" "InvalidBoxes" false]
def ex2 : List Fct := [fKit "TooMany" "InvalidBoxes" false, fKit "InvalidText" "InvalidBoxes" false, fKit "InvalidBoxes" "InvalidBoxes" true, fKit "InvalidLoad" "InvalidBoxes" false, fKit "LaceError" "InvalidBoxes" false, fKitB "InvalidBoxes", fKit "InvalidCommand" "InvalidLoad" false, fKit "Nothing" "InvalidLoad" false, fKit "InvalidOperation" "InvalidLoad" false, fKit "UnlikeGrids" "InvalidLoad" false, fKit "InvalidBudget" "InvalidLoad" false, fKit "InvalidSize" "InvalidLoad" false, fKit "InvalidNumber" "InvalidLoad" false, fKit "InvalidIndex" "InvalidLoad" false, fKit "InvalidBox" "InvalidLoad" false, fKit "InvalidKey" "InvalidLoad" false, fKit "InvalidCell" "InvalidLoad" false, fKit "InvalidBits" "InvalidLoad" false, fKit "InvalidLayout" "InvalidLoad" false, fKit "InvalidWord" "InvalidLoad" false, fKit "OverBudget" "InvalidLoad" false, fKit "TooMany" "InvalidLoad" false, fKit "InvalidText" "InvalidLoad" false, fKit "InvalidBoxes" "InvalidLoad" false, fKit "InvalidLoad" "InvalidLoad" true, fKit "LaceError" "InvalidLoad" false, fKitB "InvalidLoad", fKit "InvalidCommand" "InvalidWord" false, fKit "Nothing" "InvalidWord" false, fKit "InvalidOperation" "InvalidWord" false, fKit "UnlikeGrids" "InvalidWord" false, fKit "InvalidBudget" "InvalidWord" false, fKit "InvalidSize" "InvalidWord" false, fKit "InvalidNumber" "InvalidWord" false, fKit "InvalidIndex" "InvalidWord" false, fKit "InvalidBox" "InvalidWord" false, fKit "InvalidKey" "InvalidWord" false, fKit "InvalidCell" "InvalidWord" false, fKit "InvalidBits" "InvalidWord" false, fKit "InvalidLayout" "InvalidWord" false]
def ex3 : List Fct := [fKit "InvalidWord" "InvalidWord" true, fKit "OverBudget" "InvalidWord" false, fKit "TooMany" "InvalidWord" false, fKit "InvalidText" "InvalidWord" false, fKit "InvalidBoxes" "InvalidWord" false, fKit "InvalidLoad" "InvalidWord" false, fKit "LaceError" "InvalidWord" false, fKitB "InvalidWord", fKit "InvalidCommand" "OverBudget" false, fKit "Nothing" "OverBudget" false, fKit "InvalidOperation" "OverBudget" false, fKit "UnlikeGrids" "OverBudget" false, fKit "InvalidBudget" "OverBudget" false, fKit "InvalidSize" "OverBudget" false, fKit "InvalidNumber" "OverBudget" false, fKit "InvalidIndex" "OverBudget" false, fKit "InvalidBox" "OverBudget" false, fKit "InvalidKey" "OverBudget" false, fKit "InvalidCell" "OverBudget" false, fKit "InvalidBits" "OverBudget" false, fKit "InvalidLayout" "OverBudget" false, fKit "InvalidWord" "OverBudget" false, fKit "OverBudget" "OverBudget" true, fKit "TooMany" "OverBudget" false, fKit "InvalidText" "OverBudget" false, fKit "InvalidBoxes" "OverBudget" false, fKit "InvalidLoad" "OverBudget" false, fKit "LaceError" "OverBudget" false, fKitB "OverBudget", fKit "InvalidCommand" "TooMany" false, fKit "Nothing" "TooMany" false, fKit "InvalidOperation" "TooMany" false, fKit "UnlikeGrids" "TooMany" false, fKit "InvalidBudget" "TooMany" false, fKit "InvalidSize" "TooMany" false, fKit "InvalidNumber" "TooMany" false, fKit "InvalidIndex" "TooMany" false, fKit "InvalidBox" "TooMany" false, fKit "InvalidKey" "TooMany" false, fKit "InvalidCell" "TooMany" false]
def ex4 : List Fct := [fKit "InvalidBits" "TooMany" false, fKit "InvalidLayout" "TooMany" false, fKit "InvalidWord" "TooMany" false, fKit "OverBudget" "TooMany" false, fKit "TooMany" "TooMany" true, fKit "InvalidText" "TooMany" false, fKit "InvalidBoxes" "TooMany" false, fKit "InvalidLoad" "TooMany" false, fKit "LaceError" "TooMany" false, fKitB "TooMany", fKit "InvalidCommand" "InvalidCell" false, fKit "Nothing" "InvalidCell" false, fKit "InvalidOperation" "InvalidCell" false, fKit "UnlikeGrids" "InvalidCell" false, fKit "InvalidBudget" "InvalidCell" false, fKit "InvalidSize" "InvalidCell" false, fKit "InvalidNumber" "InvalidCell" false, fKit "InvalidIndex" "InvalidCell" false, fKit "InvalidBox" "InvalidCell" false, fKit "InvalidKey" "InvalidCell" false, fKit "InvalidCell" "InvalidCell" true, fKit "InvalidBits" "InvalidCell" false, fKit "InvalidLayout" "InvalidCell" false, fKit "InvalidWord" "InvalidCell" false, fKit "OverBudget" "InvalidCell" false, fKit "TooMany" "InvalidCell" false, fKit "InvalidText" "InvalidCell" false, fKit "InvalidBoxes" "InvalidCell" false, fKit "InvalidLoad" "InvalidCell" false, fKit "LaceError" "InvalidCell" false, fKitB "InvalidCell", fKit "InvalidCommand" "InvalidBits" false, fKit "Nothing" "InvalidBits" false, fKit "InvalidOperation" "InvalidBits" false, fKit "UnlikeGrids" "InvalidBits" false, fKit "InvalidBudget" "InvalidBits" false, fKit "InvalidSize" "InvalidBits" false, fKit "InvalidNumber" "InvalidBits" false, fKit "InvalidIndex" "InvalidBits" false, fKit "InvalidBox" "InvalidBits" false]
def ex5 : List Fct := [fKit "InvalidKey" "InvalidBits" false, fKit "InvalidCell" "InvalidBits" false, fKit "InvalidBits" "InvalidBits" true, fKit "InvalidLayout" "InvalidBits" false, fKit "InvalidWord" "InvalidBits" false, fKit "OverBudget" "InvalidBits" false, fKit "TooMany" "InvalidBits" false, fKit "InvalidText" "InvalidBits" false, fKit "InvalidBoxes" "InvalidBits" false, fKit "InvalidLoad" "InvalidBits" false, fKit "LaceError" "InvalidBits" false, fKitB "InvalidBits", fKit "InvalidCommand" "InvalidLayout" false, fKit "Nothing" "InvalidLayout" false, fKit "InvalidOperation" "InvalidLayout" false, fKit "UnlikeGrids" "InvalidLayout" false, fKit "InvalidBudget" "InvalidLayout" false, fKit "InvalidSize" "InvalidLayout" false, fKit "InvalidNumber" "InvalidLayout" false, fKit "InvalidIndex" "InvalidLayout" false, fKit "InvalidBox" "InvalidLayout" false, fKit "InvalidKey" "InvalidLayout" false, fKit "InvalidCell" "InvalidLayout" false, fKit "InvalidBits" "InvalidLayout" false, fKit "InvalidLayout" "InvalidLayout" true, fKit "InvalidWord" "InvalidLayout" false, fKit "OverBudget" "InvalidLayout" false, fKit "TooMany" "InvalidLayout" false, fKit "InvalidText" "InvalidLayout" false, fKit "InvalidBoxes" "InvalidLayout" false, fKit "InvalidLoad" "InvalidLayout" false, fKit "LaceError" "InvalidLayout" false, fKitB "InvalidLayout", fKit "InvalidCommand" "InvalidIndex" false, fKit "Nothing" "InvalidIndex" false, fKit "InvalidOperation" "InvalidIndex" false, fKit "UnlikeGrids" "InvalidIndex" false, fKit "InvalidBudget" "InvalidIndex" false, fKit "InvalidSize" "InvalidIndex" false, fKit "InvalidNumber" "InvalidIndex" false]
def ex6 : List Fct := [fKit "InvalidIndex" "InvalidIndex" true, fKit "InvalidBox" "InvalidIndex" false, fKit "InvalidKey" "InvalidIndex" false, fKit "InvalidCell" "InvalidIndex" false, fKit "InvalidBits" "InvalidIndex" false, fKit "InvalidLayout" "InvalidIndex" false, fKit "InvalidWord" "InvalidIndex" false, fKit "OverBudget" "InvalidIndex" false, fKit "TooMany" "InvalidIndex" false, fKit "InvalidText" "InvalidIndex" false, fKit "InvalidBoxes" "InvalidIndex" false, fKit "InvalidLoad" "InvalidIndex" false, fKit "LaceError" "InvalidIndex" false, fKitB "InvalidIndex", fKit "InvalidCommand" "InvalidBox" false, fKit "Nothing" "InvalidBox" false, fKit "InvalidOperation" "InvalidBox" false, fKit "UnlikeGrids" "InvalidBox" false, fKit "InvalidBudget" "InvalidBox" false, fKit "InvalidSize" "InvalidBox" false, fKit "InvalidNumber" "InvalidBox" false, fKit "InvalidIndex" "InvalidBox" false, fKit "InvalidBox" "InvalidBox" true, fKit "InvalidKey" "InvalidBox" false, fKit "InvalidCell" "InvalidBox" false, fKit "InvalidBits" "InvalidBox" false, fKit "InvalidLayout" "InvalidBox" false, fKit "InvalidWord" "InvalidBox" false, fKit "OverBudget" "InvalidBox" false, fKit "TooMany" "InvalidBox" false, fKit "InvalidText" "InvalidBox" false, fKit "InvalidBoxes" "InvalidBox" false, fKit "InvalidLoad" "InvalidBox" false, fKit "LaceError" "InvalidBox" false, fKitB "InvalidBox", fKit "InvalidCommand" "InvalidKey" false, fKit "Nothing" "InvalidKey" false, fKit "InvalidOperation" "InvalidKey" false, fKit "UnlikeGrids" "InvalidKey" false, fKit "InvalidBudget" "InvalidKey" false]
def ex7 : List Fct := [fKit "InvalidSize" "InvalidKey" false, fKit "InvalidNumber" "InvalidKey" false, fKit "InvalidIndex" "InvalidKey" false, fKit "InvalidBox" "InvalidKey" false, fKit "InvalidKey" "InvalidKey" true, fKit "InvalidCell" "InvalidKey" false, fKit "InvalidBits" "InvalidKey" false, fKit "InvalidLayout" "InvalidKey" false, fKit "InvalidWord" "InvalidKey" false, fKit "OverBudget" "InvalidKey" false, fKit "TooMany" "InvalidKey" false, fKit "InvalidText" "InvalidKey" false, fKit "InvalidBoxes" "InvalidKey" false, fKit "InvalidLoad" "InvalidKey" false, fKit "LaceError" "InvalidKey" false, fKitB "InvalidKey", fKit "InvalidCommand" "InvalidBudget" false, fKit "Nothing" "InvalidBudget" false, fKit "InvalidOperation" "InvalidBudget" false, fKit "UnlikeGrids" "InvalidBudget" false, fKit "InvalidBudget" "InvalidBudget" true, fKit "InvalidSize" "InvalidBudget" false, fKit "InvalidNumber" "InvalidBudget" false, fKit "InvalidIndex" "InvalidBudget" false, fKit "InvalidBox" "InvalidBudget" false, fKit "InvalidKey" "InvalidBudget" false, fKit "InvalidCell" "InvalidBudget" false, fKit "InvalidBits" "InvalidBudget" false, fKit "InvalidLayout" "InvalidBudget" false, fKit "InvalidWord" "InvalidBudget" false, fKit "OverBudget" "InvalidBudget" false, fKit "TooMany" "InvalidBudget" false, fKit "InvalidText" "InvalidBudget" false, fKit "InvalidBoxes" "InvalidBudget" false, fKit "InvalidLoad" "InvalidBudget" false, fKit "LaceError" "InvalidBudget" false, fKitB "InvalidBudget", fKit "InvalidCommand" "InvalidSize" false, fKit "Nothing" "InvalidSize" false, fKit "InvalidOperation" "InvalidSize" false]
def ex8 : List Fct := [fKit "UnlikeGrids" "InvalidSize" false, fKit "InvalidBudget" "InvalidSize" false, fKit "InvalidSize" "InvalidSize" true, fKit "InvalidNumber" "InvalidSize" false, fKit "InvalidIndex" "InvalidSize" false, fKit "InvalidBox" "InvalidSize" false, fKit "InvalidKey" "InvalidSize" false, fKit "InvalidCell" "InvalidSize" false, fKit "InvalidBits" "InvalidSize" false, fKit "InvalidLayout" "InvalidSize" false, fKit "InvalidWord" "InvalidSize" false, fKit "OverBudget" "InvalidSize" false, fKit "TooMany" "InvalidSize" false, fKit "InvalidText" "InvalidSize" false, fKit "InvalidBoxes" "InvalidSize" false, fKit "InvalidLoad" "InvalidSize" false, fKit "LaceError" "InvalidSize" false, fKitB "InvalidSize", fKit "InvalidCommand" "InvalidNumber" false, fKit "Nothing" "InvalidNumber" false, fKit "InvalidOperation" "InvalidNumber" false, fKit "UnlikeGrids" "InvalidNumber" false, fKit "InvalidBudget" "InvalidNumber" false, fKit "InvalidSize" "InvalidNumber" false, fKit "InvalidNumber" "InvalidNumber" true, fKit "InvalidIndex" "InvalidNumber" false, fKit "InvalidBox" "InvalidNumber" false, fKit "InvalidKey" "InvalidNumber" false, fKit "InvalidCell" "InvalidNumber" false, fKit "InvalidBits" "InvalidNumber" false, fKit "InvalidLayout" "InvalidNumber" false, fKit "InvalidWord" "InvalidNumber" false, fKit "OverBudget" "InvalidNumber" false, fKit "TooMany" "InvalidNumber" false, fKit "InvalidText" "InvalidNumber" false, fKit "InvalidBoxes" "InvalidNumber" false, fKit "InvalidLoad" "InvalidNumber" false, fKit "LaceError" "InvalidNumber" false, fKitB "InvalidNumber", fKit "InvalidCommand" "Nothing" false]
def ex9 : List Fct := [fKit "Nothing" "Nothing" true, fKit "InvalidOperation" "Nothing" false, fKit "UnlikeGrids" "Nothing" false, fKit "InvalidBudget" "Nothing" false, fKit "InvalidSize" "Nothing" false, fKit "InvalidNumber" "Nothing" false, fKit "InvalidIndex" "Nothing" false, fKit "InvalidBox" "Nothing" false, fKit "InvalidKey" "Nothing" false, fKit "InvalidCell" "Nothing" false, fKit "InvalidBits" "Nothing" false, fKit "InvalidLayout" "Nothing" false, fKit "InvalidWord" "Nothing" false, fKit "OverBudget" "Nothing" false, fKit "TooMany" "Nothing" false, fKit "InvalidText" "Nothing" false, fKit "InvalidBoxes" "Nothing" false, fKit "InvalidLoad" "Nothing" false, fKit "LaceError" "Nothing" false, fKitB "Nothing", fKit "InvalidCommand" "InvalidOperation" false, fKit "Nothing" "InvalidOperation" false, fKit "InvalidOperation" "InvalidOperation" true, fKit "UnlikeGrids" "InvalidOperation" false, fKit "InvalidBudget" "InvalidOperation" false, fKit "InvalidSize" "InvalidOperation" false, fKit "InvalidNumber" "InvalidOperation" false, fKit "InvalidIndex" "InvalidOperation" false, fKit "InvalidBox" "InvalidOperation" false, fKit "InvalidKey" "InvalidOperation" false, fKit "InvalidCell" "InvalidOperation" false, fKit "InvalidBits" "InvalidOperation" false, fKit "InvalidLayout" "InvalidOperation" false, fKit "InvalidWord" "InvalidOperation" false, fKit "OverBudget" "InvalidOperation" false, fKit "TooMany" "InvalidOperation" false, fKit "InvalidText" "InvalidOperation" false, fKit "InvalidBoxes" "InvalidOperation" false, fKit "InvalidLoad" "InvalidOperation" false, fKit "LaceError" "InvalidOperation" false]
def ex10 : List Fct := [fKitB "InvalidOperation", fKit "InvalidCommand" "UnlikeGrids" false, fKit "Nothing" "UnlikeGrids" false, fKit "InvalidOperation" "UnlikeGrids" false, fKit "UnlikeGrids" "UnlikeGrids" true, fKit "InvalidBudget" "UnlikeGrids" false, fKit "InvalidSize" "UnlikeGrids" false, fKit "InvalidNumber" "UnlikeGrids" false, fKit "InvalidIndex" "UnlikeGrids" false, fKit "InvalidBox" "UnlikeGrids" false, fKit "InvalidKey" "UnlikeGrids" false, fKit "InvalidCell" "UnlikeGrids" false, fKit "InvalidBits" "UnlikeGrids" false, fKit "InvalidLayout" "UnlikeGrids" false, fKit "InvalidWord" "UnlikeGrids" false, fKit "OverBudget" "UnlikeGrids" false, fKit "TooMany" "UnlikeGrids" false, fKit "InvalidText" "UnlikeGrids" false, fKit "InvalidBoxes" "UnlikeGrids" false, fKit "InvalidLoad" "UnlikeGrids" false, fKit "LaceError" "UnlikeGrids" false, fKitB "UnlikeGrids", fKit "InvalidCommand" "InvalidCommand" true, fKit "Nothing" "InvalidCommand" false, fKit "InvalidOperation" "InvalidCommand" false, fKit "UnlikeGrids" "InvalidCommand" false, fKit "InvalidBudget" "InvalidCommand" false, fKit "InvalidSize" "InvalidCommand" false, fKit "InvalidNumber" "InvalidCommand" false, fKit "InvalidIndex" "InvalidCommand" false, fKit "InvalidBox" "InvalidCommand" false, fKit "InvalidKey" "InvalidCommand" false, fKit "InvalidCell" "InvalidCommand" false, fKit "InvalidBits" "InvalidCommand" false, fKit "InvalidLayout" "InvalidCommand" false, fKit "InvalidWord" "InvalidCommand" false, fKit "OverBudget" "InvalidCommand" false, fKit "TooMany" "InvalidCommand" false, fKit "InvalidText" "InvalidCommand" false, fKit "InvalidBoxes" "InvalidCommand" false]
def ex11 : List Fct := [fKit "InvalidLoad" "InvalidCommand" false, fKit "LaceError" "InvalidCommand" false, fKitB "InvalidCommand", fGlo "_law_bag", fFree "range", fGlo "_law_pick", fGlo "_law_made", fFree "enumerate", fKit "InvalidCommand" "LaceError" true, fKit "Nothing" "LaceError" true, fKit "InvalidOperation" "LaceError" true, fKit "UnlikeGrids" "LaceError" true, fKit "InvalidBudget" "LaceError" true, fKit "InvalidSize" "LaceError" true, fKit "InvalidNumber" "LaceError" true, fKit "InvalidIndex" "LaceError" true, fKit "InvalidBox" "LaceError" true, fKit "InvalidKey" "LaceError" true, fKit "InvalidCell" "LaceError" true, fKit "InvalidBits" "LaceError" true, fKit "InvalidLayout" "LaceError" true, fKit "InvalidWord" "LaceError" true, fKit "OverBudget" "LaceError" true, fKit "TooMany" "LaceError" true, fKit "InvalidText" "LaceError" true, fKit "InvalidBoxes" "LaceError" true, fKit "InvalidLoad" "LaceError" true, fKit "LaceError" "LaceError" true, fKitB "LaceError", fKitV "InvalidCommand" "ValueError" true, fKitV "Nothing" "ValueError" true, fKitV "InvalidOperation" "ValueError" true, fKitV "UnlikeGrids" "ValueError" true, fKitV "InvalidBudget" "ValueError" true, fKitV "InvalidSize" "ValueError" true, fKitV "InvalidNumber" "ValueError" true, fKitV "InvalidIndex" "ValueError" true, fKitV "InvalidBox" "ValueError" true, fKitV "InvalidKey" "ValueError" true, fKitV "InvalidCell" "ValueError" true]
def ex12 : List Fct := [fKitV "InvalidBits" "ValueError" true, fKitV "InvalidLayout" "ValueError" true, fKitV "InvalidWord" "ValueError" true, fKitV "OverBudget" "ValueError" true, fKitV "TooMany" "ValueError" true, fKitV "InvalidText" "ValueError" true, fKitV "InvalidBoxes" "ValueError" true, fKitV "InvalidLoad" "ValueError" true, fKitV "LaceError" "ValueError" true, fKitBV "ValueError", fFree "ValueError", fGlo "_law_classes", fFree "len", fXf "OverBudget" "total", fXf "TooMany" "limit", fXf "InvalidText" "part", fXf "InvalidLoad" "item", fXf "InvalidBoxes" "item", fExc0 "LaceError", fExc1 "InvalidLoad" "item", fExc1 "InvalidBoxes" "item", fExc1 "InvalidText" "part", fExc1 "TooMany" "limit", fExc1 "OverBudget" "total", fExc0 "InvalidWord", fExc0 "InvalidLayout", fExc0 "InvalidBits", fExc0 "InvalidCell", fExc0 "InvalidKey", fExc0 "InvalidBox", fExc0 "InvalidIndex", fExc0 "InvalidNumber", fExc0 "InvalidSize", fExc0 "InvalidBudget", fExc0 "UnlikeGrids", fExc0 "InvalidOperation", fExc0 "Nothing", fExc0 "InvalidCommand", fGlo "law"]
def ex : List Fct := ex0 ++ ex1 ++ ex2 ++ ex3 ++ ex4 ++ ex5 ++ ex6 ++ ex7 ++ ex8 ++ ex9 ++ ex10 ++ ex11 ++ ex12
abbrev Hd (K : PySem.W.Frag) (mg : Str → Option Value) : Prop := HdC ex fn K mg
def nm0 : List Str := ["LaceError", "InvalidLoad", "InvalidBoxes", "InvalidText", "TooMany", "OverBudget", "InvalidWord", "InvalidLayout", "InvalidBits", "InvalidCell", "InvalidKey", "InvalidBox", "InvalidIndex", "InvalidNumber", "InvalidSize", "InvalidBudget", "UnlikeGrids", "InvalidOperation", "Nothing", "InvalidCommand", "_law_bag", "_law_pick", "_law_made", "_law_classes"]
def names : List Str := nm0
def φ_LaceError : Fn := excMk0 "LaceError"
theorem mk_LaceError {X : Cx} (Z : Hd X.K X.mg) (hr : Room 2 X.A) : CallOk X (.ref (He.ga X.K "LaceError")) φ_LaceError := callOk_exc0 (Z.glo (Z.fact 60)) (fExc0_ok (Z.fact 498))
theorem kp_LaceError {K : PySem.W.Frag} {mg : Str → Option Value} (Z : Hd K mg) : PySem.W.keepIn K (.ref (He.ga K "LaceError")) = true := (fExc0_ok (Z.fact 498)).kp
def φ_InvalidLoad : Fn := excMk1 "InvalidLoad" "item"
theorem sc_InvalidLoad___init__ : FnScope ["self", "item"] ["self", "item"] (defScope s_InvalidLoad___init__) := ⟨rfl, rfl, rfl, by decide +kernel, rfl, by decide +kernel, by decide +kernel⟩
theorem fd_InvalidLoad___init__ {K : PySem.W.Frag} {mg : Str → Option Value} (Z : Hd K mg) : ∃ fd : FuncData, FunD K "__init__" "InvalidLoad.__init__" (defArgs s_InvalidLoad___init__) (defBody s_InvalidLoad___init__) (defScope s_InvalidLoad___init__) [] [] (adr K d_InvalidLoad___init__) fd := Z.def_ 5 (d := d_InvalidLoad___init__) rfl
theorem mk_InvalidLoad {X : Cx} (Z : Hd X.K X.mg) (hr : Room 2 X.A) : CallOk X (.ref (He.ga X.K "InvalidLoad")) φ_InvalidLoad := by
  obtain ⟨fd, F⟩ := fd_InvalidLoad___init__ Z
  have T := fExc1_ok (Z.fact 499)
  have F1 : FnOk X.prog X.w X.K X.mg X.base (L2.CX X.prog X.w) 1 (ini X.K "InvalidLoad") fd ["self", "item"] (spInit (He.ga X.K "InvalidLoad") "item") := fn_init F sc_InvalidLoad___init__ rfl T (by decide) (by decide) (by decide) (by decide)
  exact callOk_exc1 (Z.glo (Z.fact 6)) T F1 hr (F.bindsN fun _ _ _ _ _ _ us hl => match us, hl with | [_, _], _ => rfl) rfl
theorem kp_InvalidLoad {K : PySem.W.Frag} {mg : Str → Option Value} (Z : Hd K mg) : PySem.W.keepIn K (.ref (He.ga K "InvalidLoad")) = true := (fExc1_ok (Z.fact 499)).oex.kC
def φ_InvalidBoxes : Fn := excMk1 "InvalidBoxes" "item"
theorem sc_InvalidBoxes___init__ : FnScope ["self", "item"] ["self", "item"] (defScope s_InvalidBoxes___init__) := ⟨rfl, rfl, rfl, by decide +kernel, rfl, by decide +kernel, by decide +kernel⟩
theorem fd_InvalidBoxes___init__ {K : PySem.W.Frag} {mg : Str → Option Value} (Z : Hd K mg) : ∃ fd : FuncData, FunD K "__init__" "InvalidBoxes.__init__" (defArgs s_InvalidBoxes___init__) (defBody s_InvalidBoxes___init__) (defScope s_InvalidBoxes___init__) [] [] (adr K d_InvalidBoxes___init__) fd := Z.def_ 6 (d := d_InvalidBoxes___init__) rfl
theorem mk_InvalidBoxes {X : Cx} (Z : Hd X.K X.mg) (hr : Room 2 X.A) : CallOk X (.ref (He.ga X.K "InvalidBoxes")) φ_InvalidBoxes := by
  obtain ⟨fd, F⟩ := fd_InvalidBoxes___init__ Z
  have T := fExc1_ok (Z.fact 500)
  have F1 : FnOk X.prog X.w X.K X.mg X.base (L2.CX X.prog X.w) 1 (ini X.K "InvalidBoxes") fd ["self", "item"] (spInit (He.ga X.K "InvalidBoxes") "item") := fn_init F sc_InvalidBoxes___init__ rfl T (by decide) (by decide) (by decide) (by decide)
  exact callOk_exc1 (Z.glo (Z.fact 5)) T F1 hr (F.bindsN fun _ _ _ _ _ _ us hl => match us, hl with | [_, _], _ => rfl) rfl
theorem kp_InvalidBoxes {K : PySem.W.Frag} {mg : Str → Option Value} (Z : Hd K mg) : PySem.W.keepIn K (.ref (He.ga K "InvalidBoxes")) = true := (fExc1_ok (Z.fact 500)).oex.kC
def φ_InvalidText : Fn := excMk1 "InvalidText" "part"
theorem sc_InvalidText___init__ : FnScope ["self", "part"] ["self", "part"] (defScope s_InvalidText___init__) := ⟨rfl, rfl, rfl, by decide +kernel, rfl, by decide +kernel, by decide +kernel⟩
theorem fd_InvalidText___init__ {K : PySem.W.Frag} {mg : Str → Option Value} (Z : Hd K mg) : ∃ fd : FuncData, FunD K "__init__" "InvalidText.__init__" (defArgs s_InvalidText___init__) (defBody s_InvalidText___init__) (defScope s_InvalidText___init__) [] [] (adr K d_InvalidText___init__) fd := Z.def_ 7 (d := d_InvalidText___init__) rfl
theorem mk_InvalidText {X : Cx} (Z : Hd X.K X.mg) (hr : Room 2 X.A) : CallOk X (.ref (He.ga X.K "InvalidText")) φ_InvalidText := by
  obtain ⟨fd, F⟩ := fd_InvalidText___init__ Z
  have T := fExc1_ok (Z.fact 501)
  have F1 : FnOk X.prog X.w X.K X.mg X.base (L2.CX X.prog X.w) 1 (ini X.K "InvalidText") fd ["self", "part"] (spInit (He.ga X.K "InvalidText") "part") := fn_init F sc_InvalidText___init__ rfl T (by decide) (by decide) (by decide) (by decide)
  exact callOk_exc1 (Z.glo (Z.fact 4)) T F1 hr (F.bindsN fun _ _ _ _ _ _ us hl => match us, hl with | [_, _], _ => rfl) rfl
theorem kp_InvalidText {K : PySem.W.Frag} {mg : Str → Option Value} (Z : Hd K mg) : PySem.W.keepIn K (.ref (He.ga K "InvalidText")) = true := (fExc1_ok (Z.fact 501)).oex.kC
def φ_TooMany : Fn := excMk1 "TooMany" "limit"
theorem sc_TooMany___init__ : FnScope ["self", "limit"] ["self", "limit"] (defScope s_TooMany___init__) := ⟨rfl, rfl, rfl, by decide +kernel, rfl, by decide +kernel, by decide +kernel⟩
theorem fd_TooMany___init__ {K : PySem.W.Frag} {mg : Str → Option Value} (Z : Hd K mg) : ∃ fd : FuncData, FunD K "__init__" "TooMany.__init__" (defArgs s_TooMany___init__) (defBody s_TooMany___init__) (defScope s_TooMany___init__) [] [] (adr K d_TooMany___init__) fd := Z.def_ 8 (d := d_TooMany___init__) rfl
theorem mk_TooMany {X : Cx} (Z : Hd X.K X.mg) (hr : Room 2 X.A) : CallOk X (.ref (He.ga X.K "TooMany")) φ_TooMany := by
  obtain ⟨fd, F⟩ := fd_TooMany___init__ Z
  have T := fExc1_ok (Z.fact 502)
  have F1 : FnOk X.prog X.w X.K X.mg X.base (L2.CX X.prog X.w) 1 (ini X.K "TooMany") fd ["self", "limit"] (spInit (He.ga X.K "TooMany") "limit") := fn_init F sc_TooMany___init__ rfl T (by decide) (by decide) (by decide) (by decide)
  exact callOk_exc1 (Z.glo (Z.fact 3)) T F1 hr (F.bindsN fun _ _ _ _ _ _ us hl => match us, hl with | [_, _], _ => rfl) rfl
theorem kp_TooMany {K : PySem.W.Frag} {mg : Str → Option Value} (Z : Hd K mg) : PySem.W.keepIn K (.ref (He.ga K "TooMany")) = true := (fExc1_ok (Z.fact 502)).oex.kC
def φ_OverBudget : Fn := excMk1 "OverBudget" "total"
theorem sc_OverBudget___init__ : FnScope ["self", "total"] ["self", "total"] (defScope s_OverBudget___init__) := ⟨rfl, rfl, rfl, by decide +kernel, rfl, by decide +kernel, by decide +kernel⟩
theorem fd_OverBudget___init__ {K : PySem.W.Frag} {mg : Str → Option Value} (Z : Hd K mg) : ∃ fd : FuncData, FunD K "__init__" "OverBudget.__init__" (defArgs s_OverBudget___init__) (defBody s_OverBudget___init__) (defScope s_OverBudget___init__) [] [] (adr K d_OverBudget___init__) fd := Z.def_ 9 (d := d_OverBudget___init__) rfl
theorem mk_OverBudget {X : Cx} (Z : Hd X.K X.mg) (hr : Room 2 X.A) : CallOk X (.ref (He.ga X.K "OverBudget")) φ_OverBudget := by
  obtain ⟨fd, F⟩ := fd_OverBudget___init__ Z
  have T := fExc1_ok (Z.fact 503)
  have F1 : FnOk X.prog X.w X.K X.mg X.base (L2.CX X.prog X.w) 1 (ini X.K "OverBudget") fd ["self", "total"] (spInit (He.ga X.K "OverBudget") "total") := fn_init F sc_OverBudget___init__ rfl T (by decide) (by decide) (by decide) (by decide)
  exact callOk_exc1 (Z.glo (Z.fact 2)) T F1 hr (F.bindsN fun _ _ _ _ _ _ us hl => match us, hl with | [_, _], _ => rfl) rfl
theorem kp_OverBudget {K : PySem.W.Frag} {mg : Str → Option Value} (Z : Hd K mg) : PySem.W.keepIn K (.ref (He.ga K "OverBudget")) = true := (fExc1_ok (Z.fact 503)).oex.kC
def φ_InvalidWord : Fn := excMk0 "InvalidWord"
theorem mk_InvalidWord {X : Cx} (Z : Hd X.K X.mg) (hr : Room 2 X.A) : CallOk X (.ref (He.ga X.K "InvalidWord")) φ_InvalidWord := callOk_exc0 (Z.glo (Z.fact 11)) (fExc0_ok (Z.fact 504))
theorem kp_InvalidWord {K : PySem.W.Frag} {mg : Str → Option Value} (Z : Hd K mg) : PySem.W.keepIn K (.ref (He.ga K "InvalidWord")) = true := (fExc0_ok (Z.fact 504)).kp
def φ_InvalidLayout : Fn := excMk0 "InvalidLayout"
theorem mk_InvalidLayout {X : Cx} (Z : Hd X.K X.mg) (hr : Room 2 X.A) : CallOk X (.ref (He.ga X.K "InvalidLayout")) φ_InvalidLayout := callOk_exc0 (Z.glo (Z.fact 10)) (fExc0_ok (Z.fact 505))
theorem kp_InvalidLayout {K : PySem.W.Frag} {mg : Str → Option Value} (Z : Hd K mg) : PySem.W.keepIn K (.ref (He.ga K "InvalidLayout")) = true := (fExc0_ok (Z.fact 505)).kp
def φ_InvalidBits : Fn := excMk0 "InvalidBits"
theorem mk_InvalidBits {X : Cx} (Z : Hd X.K X.mg) (hr : Room 2 X.A) : CallOk X (.ref (He.ga X.K "InvalidBits")) φ_InvalidBits := callOk_exc0 (Z.glo (Z.fact 9)) (fExc0_ok (Z.fact 506))
theorem kp_InvalidBits {K : PySem.W.Frag} {mg : Str → Option Value} (Z : Hd K mg) : PySem.W.keepIn K (.ref (He.ga K "InvalidBits")) = true := (fExc0_ok (Z.fact 506)).kp
def φ_InvalidCell : Fn := excMk0 "InvalidCell"
theorem mk_InvalidCell {X : Cx} (Z : Hd X.K X.mg) (hr : Room 2 X.A) : CallOk X (.ref (He.ga X.K "InvalidCell")) φ_InvalidCell := callOk_exc0 (Z.glo (Z.fact 8)) (fExc0_ok (Z.fact 507))
theorem kp_InvalidCell {K : PySem.W.Frag} {mg : Str → Option Value} (Z : Hd K mg) : PySem.W.keepIn K (.ref (He.ga K "InvalidCell")) = true := (fExc0_ok (Z.fact 507)).kp
def φ_InvalidKey : Fn := excMk0 "InvalidKey"
theorem mk_InvalidKey {X : Cx} (Z : Hd X.K X.mg) (hr : Room 2 X.A) : CallOk X (.ref (He.ga X.K "InvalidKey")) φ_InvalidKey := callOk_exc0 (Z.glo (Z.fact 7)) (fExc0_ok (Z.fact 508))
theorem kp_InvalidKey {K : PySem.W.Frag} {mg : Str → Option Value} (Z : Hd K mg) : PySem.W.keepIn K (.ref (He.ga K "InvalidKey")) = true := (fExc0_ok (Z.fact 508)).kp
def φ_InvalidBox : Fn := excMk0 "InvalidBox"
theorem mk_InvalidBox {X : Cx} (Z : Hd X.K X.mg) (hr : Room 2 X.A) : CallOk X (.ref (He.ga X.K "InvalidBox")) φ_InvalidBox := callOk_exc0 (Z.glo (Z.fact 16)) (fExc0_ok (Z.fact 509))
theorem kp_InvalidBox {K : PySem.W.Frag} {mg : Str → Option Value} (Z : Hd K mg) : PySem.W.keepIn K (.ref (He.ga K "InvalidBox")) = true := (fExc0_ok (Z.fact 509)).kp
def φ_InvalidIndex : Fn := excMk0 "InvalidIndex"
theorem mk_InvalidIndex {X : Cx} (Z : Hd X.K X.mg) (hr : Room 2 X.A) : CallOk X (.ref (He.ga X.K "InvalidIndex")) φ_InvalidIndex := callOk_exc0 (Z.glo (Z.fact 15)) (fExc0_ok (Z.fact 510))
theorem kp_InvalidIndex {K : PySem.W.Frag} {mg : Str → Option Value} (Z : Hd K mg) : PySem.W.keepIn K (.ref (He.ga K "InvalidIndex")) = true := (fExc0_ok (Z.fact 510)).kp
def φ_InvalidNumber : Fn := excMk0 "InvalidNumber"
theorem mk_InvalidNumber {X : Cx} (Z : Hd X.K X.mg) (hr : Room 2 X.A) : CallOk X (.ref (He.ga X.K "InvalidNumber")) φ_InvalidNumber := callOk_exc0 (Z.glo (Z.fact 14)) (fExc0_ok (Z.fact 511))
theorem kp_InvalidNumber {K : PySem.W.Frag} {mg : Str → Option Value} (Z : Hd K mg) : PySem.W.keepIn K (.ref (He.ga K "InvalidNumber")) = true := (fExc0_ok (Z.fact 511)).kp
def φ_InvalidSize : Fn := excMk0 "InvalidSize"
theorem mk_InvalidSize {X : Cx} (Z : Hd X.K X.mg) (hr : Room 2 X.A) : CallOk X (.ref (He.ga X.K "InvalidSize")) φ_InvalidSize := callOk_exc0 (Z.glo (Z.fact 13)) (fExc0_ok (Z.fact 512))
theorem kp_InvalidSize {K : PySem.W.Frag} {mg : Str → Option Value} (Z : Hd K mg) : PySem.W.keepIn K (.ref (He.ga K "InvalidSize")) = true := (fExc0_ok (Z.fact 512)).kp
def φ_InvalidBudget : Fn := excMk0 "InvalidBudget"
theorem mk_InvalidBudget {X : Cx} (Z : Hd X.K X.mg) (hr : Room 2 X.A) : CallOk X (.ref (He.ga X.K "InvalidBudget")) φ_InvalidBudget := callOk_exc0 (Z.glo (Z.fact 12)) (fExc0_ok (Z.fact 513))
theorem kp_InvalidBudget {K : PySem.W.Frag} {mg : Str → Option Value} (Z : Hd K mg) : PySem.W.keepIn K (.ref (He.ga K "InvalidBudget")) = true := (fExc0_ok (Z.fact 513)).kp
def φ_UnlikeGrids : Fn := excMk0 "UnlikeGrids"
theorem mk_UnlikeGrids {X : Cx} (Z : Hd X.K X.mg) (hr : Room 2 X.A) : CallOk X (.ref (He.ga X.K "UnlikeGrids")) φ_UnlikeGrids := callOk_exc0 (Z.glo (Z.fact 20)) (fExc0_ok (Z.fact 514))
theorem kp_UnlikeGrids {K : PySem.W.Frag} {mg : Str → Option Value} (Z : Hd K mg) : PySem.W.keepIn K (.ref (He.ga K "UnlikeGrids")) = true := (fExc0_ok (Z.fact 514)).kp
def φ_InvalidOperation : Fn := excMk0 "InvalidOperation"
theorem mk_InvalidOperation {X : Cx} (Z : Hd X.K X.mg) (hr : Room 2 X.A) : CallOk X (.ref (He.ga X.K "InvalidOperation")) φ_InvalidOperation := callOk_exc0 (Z.glo (Z.fact 19)) (fExc0_ok (Z.fact 515))
theorem kp_InvalidOperation {K : PySem.W.Frag} {mg : Str → Option Value} (Z : Hd K mg) : PySem.W.keepIn K (.ref (He.ga K "InvalidOperation")) = true := (fExc0_ok (Z.fact 515)).kp
def φ_Nothing : Fn := excMk0 "Nothing"
theorem mk_Nothing {X : Cx} (Z : Hd X.K X.mg) (hr : Room 2 X.A) : CallOk X (.ref (He.ga X.K "Nothing")) φ_Nothing := callOk_exc0 (Z.glo (Z.fact 18)) (fExc0_ok (Z.fact 516))
theorem kp_Nothing {K : PySem.W.Frag} {mg : Str → Option Value} (Z : Hd K mg) : PySem.W.keepIn K (.ref (He.ga K "Nothing")) = true := (fExc0_ok (Z.fact 516)).kp
def φ_InvalidCommand : Fn := excMk0 "InvalidCommand"
theorem mk_InvalidCommand {X : Cx} (Z : Hd X.K X.mg) (hr : Room 2 X.A) : CallOk X (.ref (He.ga X.K "InvalidCommand")) φ_InvalidCommand := callOk_exc0 (Z.glo (Z.fact 17)) (fExc0_ok (Z.fact 517))
theorem kp_InvalidCommand {K : PySem.W.Frag} {mg : Str → Option Value} (Z : Hd K mg) : PySem.W.keepIn K (.ref (He.ga K "InvalidCommand")) = true := (fExc0_ok (Z.fact 517)).kp
/-! ### _law_bag -/
def m__law_bag : MS := (msRet (mLstM (maCons (mB bMax (maCons (mC (.int (0))) (maCons (mBin opSub (mVar 0) (mBin opPow (mC (.int (10))) (mC (.int (18))))) maNil))) (maCons (mVar 0) (maCons (mC (.int (0))) maNil)))))
def f__law_bag : Fn := mkFn 1 1 m__law_bag
def φ__law_bag : Fn := f__law_bag
theorem sc__law_bag : FnScope ["cell"] ["cell"] (defScope s__law_bag) := ⟨rfl, rfl, rfl, by decide +kernel, rfl, by decide +kernel, by decide +kernel⟩
theorem bd__law_bag {P : Program} {w : World} {K : PySem.W.Frag} {mg : Str → Option Value} {base : Heap} {f : Addr} (Z : Hd K mg) (cdv : Value) (A : Around) (outer : List Env) (s : Shared) (H : Hp) (E : XK) (hr : Room 0 (A.deeper (envOfC "_law_bag" (defScope s__law_bag) s.heap.objs.size f cdv))) : CSs (cxOf (L2.CX P w) P w K mg base ["cell"] "_law_bag" (defScope s__law_bag) f cdv A outer s H E) (defBody s__law_bag) m__law_bag := by
  have hN := (sc__law_bag).nd
  unfold m__law_bag
  exact (css_one (cs_ret (ce_lstM (ca_cons (ce_b (bMax_ok rfl) (Z.free (Z.fact 0)) bo_max (ca_cons ce_int (ca_cons (ce_op opSub_ok (ce_var 0) (ce_op opPow_ok ce_int ce_int)) ca_nil))) (ca_cons (ce_var 0) (ca_cons ce_int ca_nil))))))
theorem fd__law_bag {K : PySem.W.Frag} {mg : Str → Option Value} (Z : Hd K mg) : ∃ fd : FuncData, FunD K "_law_bag" "_law_bag" (defArgs s__law_bag) (defBody s__law_bag) (defScope s__law_bag) [] [] (adr K d__law_bag) fd := Z.def_ 0 (d := d__law_bag) rfl
theorem fn__law_bag {P : Program} {w : World} {K : PySem.W.Frag} {mg : Str → Option Value} {base : Heap} (Z : Hd K mg) : ∃ fd : FuncData, FnOk P w K mg base (L2.CX P w) 1 (adr K d__law_bag) fd ["cell"] (spOf w mg 1 f__law_bag) ∧ Binds K fd ["cell"] [] := by
  obtain ⟨fd, F⟩ := fd__law_bag Z
  exact ⟨fd, Lc.fn_ok (N := ["cell"]) (ps := ["cell"]) (k := 0) m__law_bag F sc__law_bag (fun cdv A outer s H E hr => bd__law_bag Z cdv A outer s H E hr), F.bindsN fun _ _ _ _ _ _ us hl => match us, hl with | [_], _ => rfl⟩
theorem cl__law_bag {X : Cx} (Z : Hd X.K X.mg) (hr : Room 1 X.A) : CallOk X (.ref (He.ga X.K "_law_bag")) φ__law_bag := by
  obtain ⟨fd, F, b⟩ := fn__law_bag (P := X.prog) (w := X.w) (base := X.base) Z
  exact callOk_fn (m := m__law_bag) F hr b
theorem kp__law_bag {K : PySem.W.Frag} {mg : Str → Option Value} (Z : Hd K mg) : PySem.W.keepIn K (.ref (adr K d__law_bag)) = true := by
  obtain ⟨fd, F⟩ := fd__law_bag Z
  exact F.kp
/-! ### _law_pick -/
def m__law_pick : MS := (msSeq (msSetI (mBin opAdd (mBin opIx (mVar 0) (mC (.int (2)))) (mC (.int (1)))) (mVar 0) (mC (.int (2))))
  (msSeq (msIf (mTest (mBin opGt (mBin opIx (mVar 0) (mC (.int (0)))) (mC (.int (0))))) (msSeq (msSet 2 (mBin opMod (mB bInt (maCons (mBin opIx (mVar 0) (mC (.int (0)))) maNil)) (mVar 1)))
  (msSeq (msSetI (mBin opDiv (mB bInt (maCons (mBin opIx (mVar 0) (mC (.int (0)))) maNil)) (mVar 1)) (mVar 0) (mC (.int (0))))
  (msRet (mVar 2)))) msNil)
  (msSeq (msPar (maCons (mB bInt (maCons (mBin opIx (mVar 0) (mC (.int (1)))) maNil)) (maCons (mB bInt (maCons (mBin opIx (mVar 0) (mC (.int (2)))) maNil)) maNil)) (mgCons (mgName 3) (mgCons (mgName 4) mgNil)))
  (msSeq (msSet 5 (mBin opMod (mB bInt (maCons (mBin opAdd (mBin opAdd (mBin opMul (mBin opMod (mVar 3) (mC (.int (2147483629)))) (mC (.int (48271)))) (mBin opMul (mVar 4) (mC (.int (69621))))) (mC (.int (12345)))) maNil)) (mC (.int (2147483647)))))
  (msSeq (msSet 6 (mBin opMod (mB bInt (maCons (mBin opAdd (mBin opMul (mVar 5) (mVar 5)) (mBin opMul (mVar 4) (mC (.int (40692))))) maNil)) (mC (.int (2147483587)))))
  (msSeq (msSet 7 (mBin opDiv (mB bInt (maCons (mBin opAdd (mBin opMul (mVar 5) (mC (.int (2147483587)))) (mVar 6)) maNil)) (mC (.int (32)))))
  (msSeq (msIf (mTest (mBin opGt (mVar 1) (mBin opPow (mC (.int (10))) (mC (.int (15)))))) (msSet 7 (mBin opAdd (mBin opPow (mVar 7) (mC (.int (8)))) (mVar 6))) msNil)
  (msRet (mBin opMod (mB bInt (maCons (mVar 7) maNil)) (mVar 1))))))))))
def f__law_pick : Fn := mkFn 2 8 m__law_pick
def φ__law_pick : Fn := trim f__law_pick
theorem sc__law_pick : FnScope ["bag", "many", "told", "seed", "turn", "first", "second", "drawn"] ["bag", "many"] (defScope s__law_pick) := ⟨rfl, rfl, rfl, by decide +kernel, rfl, by decide +kernel, by decide +kernel⟩
theorem bd__law_pick {P : Program} {w : World} {K : PySem.W.Frag} {mg : Str → Option Value} {base : Heap} {f : Addr} (Z : Hd K mg) (cdv : Value) (A : Around) (outer : List Env) (s : Shared) (H : Hp) (E : XK) (hr : Room 0 (A.deeper (envOfC "_law_pick" (defScope s__law_pick) s.heap.objs.size f cdv))) : CSs (cxOf (L2.CX P w) P w K mg base ["bag", "many", "told", "seed", "turn", "first", "second", "drawn"] "_law_pick" (defScope s__law_pick) f cdv A outer s H E) (defBody s__law_pick) m__law_pick := by
  have hN := (sc__law_pick).nd
  unfold m__law_pick
  exact (css_cons (cs_setI (ce_op opAdd_ok (ce_ix opIx_ok (ce_var 0) ce_int) ce_int) (ce_var 0) ce_int)
  (css_cons (cs_if (ct_cmp opGt_ok (ce_ix opIx_ok (ce_var 0) ce_int) ce_int) (css_cons (cs_set 2 hN (ce_op opMod_ok (ce_bT bInt_ok (Z.free (Z.fact 1)) bo_int (ca_cons (ce_ix opIx_ok (ce_var 0) ce_int) ca_nil)) (ce_var 1)))
  (css_cons (cs_setI (ce_op opDiv_ok (ce_bT bInt_ok (Z.free (Z.fact 1)) bo_int (ca_cons (ce_ix opIx_ok (ce_var 0) ce_int) ca_nil)) (ce_var 1)) (ce_var 0) ce_int)
  (css_one (cs_ret (ce_var 2))))) css_nil)
  (css_cons (cs_par2 3 4 rfl hN (ca_cons (ce_bT bInt_ok (Z.free (Z.fact 1)) bo_int (ca_cons (ce_ix opIx_ok (ce_var 0) ce_int) ca_nil)) (ca_cons (ce_bT bInt_ok (Z.free (Z.fact 1)) bo_int (ca_cons (ce_ix opIx_ok (ce_var 0) ce_int) ca_nil)) ca_nil)))
  (css_cons (cs_set 5 hN (ce_op opMod_ok (ce_bT bInt_ok (Z.free (Z.fact 1)) bo_int (ca_cons (ce_op opAdd_ok (ce_op opAdd_ok (ce_op opMul_ok (ce_op opMod_ok (ce_var 3) ce_int) ce_int) (ce_op opMul_ok (ce_var 4) ce_int)) ce_int) ca_nil)) ce_int))
  (css_cons (cs_set 6 hN (ce_op opMod_ok (ce_bT bInt_ok (Z.free (Z.fact 1)) bo_int (ca_cons (ce_op opAdd_ok (ce_op opMul_ok (ce_var 5) (ce_var 5)) (ce_op opMul_ok (ce_var 4) ce_int)) ca_nil)) ce_int))
  (css_cons (cs_set 7 hN (ce_op opDiv_ok (ce_bT bInt_ok (Z.free (Z.fact 1)) bo_int (ca_cons (ce_op opAdd_ok (ce_op opMul_ok (ce_var 5) ce_int) (ce_var 6)) ca_nil)) ce_int))
  (css_cons (cs_if (ct_cmp opGt_ok (ce_var 1) (ce_op opPow_ok ce_int ce_int)) (css_one (cs_set 7 hN (ce_op opAdd_ok (ce_op opPow_ok (ce_var 7) ce_int) (ce_var 6)))) css_nil)
  (css_one (cs_ret (ce_op opMod_ok (ce_bT bInt_ok (Z.free (Z.fact 1)) bo_int (ca_cons (ce_var 7) ca_nil)) (ce_var 1)))))))))))
theorem fd__law_pick {K : PySem.W.Frag} {mg : Str → Option Value} (Z : Hd K mg) : ∃ fd : FuncData, FunD K "_law_pick" "_law_pick" (defArgs s__law_pick) (defBody s__law_pick) (defScope s__law_pick) [] [] (adr K d__law_pick) fd := Z.def_ 1 (d := d__law_pick) rfl
theorem fn__law_pick {P : Program} {w : World} {K : PySem.W.Frag} {mg : Str → Option Value} {base : Heap} (Z : Hd K mg) : ∃ fd : FuncData, FnOk P w K mg base (L2.CX P w) 1 (adr K d__law_pick) fd ["bag", "many"] (spOf w mg 2 f__law_pick) ∧ Binds K fd ["bag", "many"] [] := by
  obtain ⟨fd, F⟩ := fd__law_pick Z
  exact ⟨fd, Lc.fn_ok (N := ["bag", "many", "told", "seed", "turn", "first", "second", "drawn"]) (ps := ["bag", "many"]) (k := 0) m__law_pick F sc__law_pick (fun cdv A outer s H E hr => bd__law_pick Z cdv A outer s H E hr), F.bindsN fun _ _ _ _ _ _ us hl => match us, hl with | [_, _], _ => rfl⟩
theorem cl__law_pick {X : Cx} (Z : Hd X.K X.mg) (hr : Room 1 X.A) : CallOk X (.ref (He.ga X.K "_law_pick")) φ__law_pick := by
  obtain ⟨fd, F, b⟩ := fn__law_pick (P := X.prog) (w := X.w) (base := X.base) Z
  exact callOk_trim (callOk_fn (m := m__law_pick) F hr b)
theorem kp__law_pick {K : PySem.W.Frag} {mg : Str → Option Value} (Z : Hd K mg) : PySem.W.keepIn K (.ref (adr K d__law_pick)) = true := by
  obtain ⟨fd, F⟩ := fd__law_pick Z
  exact F.kp
/-! ### _law_made -/
def m__law_made : MS := (msSeq (msSet 1 (mLst (maCons (mCall φ_InvalidLoad (maCons (mVar 0) maNil)) (maCons (mCall φ_InvalidBoxes (maCons (mVar 0) maNil)) (maCons (mCall φ_InvalidText (maCons (mVar 0) maNil)) (maCons (mCall φ_TooMany (maCons (mVar 0) maNil)) (maCons (mCall φ_OverBudget (maCons (mVar 0) maNil)) maNil)))))))
  (msSeq (msSet 1 (mBin opAdd (mVar 1) (mLst (maCons (mCall φ_InvalidWord (maCons (mC (.str "x")) maNil)) (maCons (mCall φ_InvalidLayout (maCons (mC (.str "x")) maNil)) (maCons (mCall φ_InvalidBits (maCons (mC (.str "x")) maNil)) (maCons (mCall φ_InvalidCell (maCons (mC (.str "x")) maNil)) (maCons (mCall φ_InvalidKey (maCons (mC (.str "x")) maNil)) maNil))))))))
  (msSeq (msSet 1 (mBin opAdd (mVar 1) (mLst (maCons (mCall φ_InvalidBox (maCons (mC (.str "x")) maNil)) (maCons (mCall φ_InvalidIndex (maCons (mC (.str "x")) maNil)) (maCons (mCall φ_InvalidNumber (maCons (mC (.str "x")) maNil)) (maCons (mCall φ_InvalidSize (maCons (mC (.str "x")) maNil)) (maCons (mCall φ_InvalidBudget (maCons (mC (.str "x")) maNil)) maNil))))))))
  (msRet (mBin opAdd (mVar 1) (mLst (maCons (mCall φ_UnlikeGrids (maCons (mC (.str "x")) maNil)) (maCons (mCall φ_InvalidOperation (maCons (mC (.str "x")) maNil)) (maCons (mCall φ_Nothing (maCons (mC (.str "x")) maNil)) (maCons (mCall φ_InvalidCommand (maCons (mC (.str "x")) maNil)) maNil))))))))))
def f__law_made : Fn := mkFn 1 2 m__law_made
def φ__law_made : Fn := purify f__law_made
theorem sc__law_made : FnScope ["number", "found"] ["number"] (defScope s__law_made) := ⟨rfl, rfl, rfl, by decide +kernel, rfl, by decide +kernel, by decide +kernel⟩
theorem bd__law_made {P : Program} {w : World} {K : PySem.W.Frag} {mg : Str → Option Value} {base : Heap} {f : Addr} (Z : Hd K mg) (cdv : Value) (A : Around) (outer : List Env) (s : Shared) (H : Hp) (E : XK) (hr : Room 2 (A.deeper (envOfC "_law_made" (defScope s__law_made) s.heap.objs.size f cdv))) : CSs (cxOf (L2.CX P w) P w K mg base ["number", "found"] "_law_made" (defScope s__law_made) f cdv A outer s H E) (defBody s__law_made) m__law_made := by
  have hN := (sc__law_made).nd
  unfold m__law_made
  exact (css_cons (cs_set 1 hN (ce_lst (ca_cons (ce_call (mk_InvalidLoad Z (hr.mono (by decide))) (Z.glo (Z.fact 6)) (kp_InvalidLoad Z) (ca_cons (ce_var 0) ca_nil)) (ca_cons (ce_call (mk_InvalidBoxes Z (hr.mono (by decide))) (Z.glo (Z.fact 5)) (kp_InvalidBoxes Z) (ca_cons (ce_var 0) ca_nil)) (ca_cons (ce_call (mk_InvalidText Z (hr.mono (by decide))) (Z.glo (Z.fact 4)) (kp_InvalidText Z) (ca_cons (ce_var 0) ca_nil)) (ca_cons (ce_call (mk_TooMany Z (hr.mono (by decide))) (Z.glo (Z.fact 3)) (kp_TooMany Z) (ca_cons (ce_var 0) ca_nil)) (ca_cons (ce_call (mk_OverBudget Z (hr.mono (by decide))) (Z.glo (Z.fact 2)) (kp_OverBudget Z) (ca_cons (ce_var 0) ca_nil)) ca_nil)))))))
  (css_cons (cs_set 1 hN (ce_op opAdd_ok (ce_var 1) (ce_lst (ca_cons (ce_call (mk_InvalidWord Z (hr.mono (by decide))) (Z.glo (Z.fact 11)) (kp_InvalidWord Z) (ca_cons ce_str ca_nil)) (ca_cons (ce_call (mk_InvalidLayout Z (hr.mono (by decide))) (Z.glo (Z.fact 10)) (kp_InvalidLayout Z) (ca_cons ce_str ca_nil)) (ca_cons (ce_call (mk_InvalidBits Z (hr.mono (by decide))) (Z.glo (Z.fact 9)) (kp_InvalidBits Z) (ca_cons ce_str ca_nil)) (ca_cons (ce_call (mk_InvalidCell Z (hr.mono (by decide))) (Z.glo (Z.fact 8)) (kp_InvalidCell Z) (ca_cons ce_str ca_nil)) (ca_cons (ce_call (mk_InvalidKey Z (hr.mono (by decide))) (Z.glo (Z.fact 7)) (kp_InvalidKey Z) (ca_cons ce_str ca_nil)) ca_nil))))))))
  (css_cons (cs_set 1 hN (ce_op opAdd_ok (ce_var 1) (ce_lst (ca_cons (ce_call (mk_InvalidBox Z (hr.mono (by decide))) (Z.glo (Z.fact 16)) (kp_InvalidBox Z) (ca_cons ce_str ca_nil)) (ca_cons (ce_call (mk_InvalidIndex Z (hr.mono (by decide))) (Z.glo (Z.fact 15)) (kp_InvalidIndex Z) (ca_cons ce_str ca_nil)) (ca_cons (ce_call (mk_InvalidNumber Z (hr.mono (by decide))) (Z.glo (Z.fact 14)) (kp_InvalidNumber Z) (ca_cons ce_str ca_nil)) (ca_cons (ce_call (mk_InvalidSize Z (hr.mono (by decide))) (Z.glo (Z.fact 13)) (kp_InvalidSize Z) (ca_cons ce_str ca_nil)) (ca_cons (ce_call (mk_InvalidBudget Z (hr.mono (by decide))) (Z.glo (Z.fact 12)) (kp_InvalidBudget Z) (ca_cons ce_str ca_nil)) ca_nil))))))))
  (css_one (cs_ret (ce_op opAdd_ok (ce_var 1) (ce_lst (ca_cons (ce_call (mk_UnlikeGrids Z (hr.mono (by decide))) (Z.glo (Z.fact 20)) (kp_UnlikeGrids Z) (ca_cons ce_str ca_nil)) (ca_cons (ce_call (mk_InvalidOperation Z (hr.mono (by decide))) (Z.glo (Z.fact 19)) (kp_InvalidOperation Z) (ca_cons ce_str ca_nil)) (ca_cons (ce_call (mk_Nothing Z (hr.mono (by decide))) (Z.glo (Z.fact 18)) (kp_Nothing Z) (ca_cons ce_str ca_nil)) (ca_cons (ce_call (mk_InvalidCommand Z (hr.mono (by decide))) (Z.glo (Z.fact 17)) (kp_InvalidCommand Z) (ca_cons ce_str ca_nil)) ca_nil)))))))))))
theorem fd__law_made {K : PySem.W.Frag} {mg : Str → Option Value} (Z : Hd K mg) : ∃ fd : FuncData, FunD K "_law_made" "_law_made" (defArgs s__law_made) (defBody s__law_made) (defScope s__law_made) [] [] (adr K d__law_made) fd := Z.def_ 2 (d := d__law_made) rfl
theorem fn__law_made {P : Program} {w : World} {K : PySem.W.Frag} {mg : Str → Option Value} {base : Heap} (Z : Hd K mg) : ∃ fd : FuncData, FnOk P w K mg base (L2.CX P w) 3 (adr K d__law_made) fd ["number"] (spOf w mg 1 f__law_made) ∧ Binds K fd ["number"] [] := by
  obtain ⟨fd, F⟩ := fd__law_made Z
  exact ⟨fd, Lc.fn_ok (N := ["number", "found"]) (ps := ["number"]) (k := 2) m__law_made F sc__law_made (fun cdv A outer s H E hr => bd__law_made Z cdv A outer s H E hr), F.bindsN fun _ _ _ _ _ _ us hl => match us, hl with | [_], _ => rfl⟩
theorem cl__law_made {X : Cx} (Z : Hd X.K X.mg) (hr : Room 3 X.A) : CallOk X (.ref (He.ga X.K "_law_made")) φ__law_made := by
  obtain ⟨fd, F, b⟩ := fn__law_made (P := X.prog) (w := X.w) (base := X.base) Z
  exact callOk_pure (callOk_fn (m := m__law_made) F hr b)
theorem kp__law_made {K : PySem.W.Frag} {mg : Str → Option Value} (Z : Hd K mg) : PySem.W.keepIn K (.ref (adr K d__law_made)) = true := by
  obtain ⟨fd, F⟩ := fd__law_made Z
  exact F.kp
/-! ### _law_classes -/
def m__law_classes : MS := (msSeq (msSet 1 (mLst (maCons (mIsX tyFalse [] [("LaceError", false), ("InvalidLoad", true), ("InvalidBoxes", false), ("InvalidText", false), ("TooMany", false), ("OverBudget", false), ("InvalidWord", false), ("InvalidLayout", false), ("InvalidBits", false), ("InvalidCell", false), ("InvalidKey", false), ("InvalidBox", false), ("InvalidIndex", false), ("InvalidNumber", false), ("InvalidSize", false), ("InvalidBudget", false), ("UnlikeGrids", false), ("InvalidOperation", false), ("Nothing", false), ("InvalidCommand", false)] (mVar 0)) (maCons (mIsX tyFalse [] [("LaceError", false), ("InvalidLoad", false), ("InvalidBoxes", true), ("InvalidText", false), ("TooMany", false), ("OverBudget", false), ("InvalidWord", false), ("InvalidLayout", false), ("InvalidBits", false), ("InvalidCell", false), ("InvalidKey", false), ("InvalidBox", false), ("InvalidIndex", false), ("InvalidNumber", false), ("InvalidSize", false), ("InvalidBudget", false), ("UnlikeGrids", false), ("InvalidOperation", false), ("Nothing", false), ("InvalidCommand", false)] (mVar 0)) (maCons (mIsX tyFalse [] [("LaceError", false), ("InvalidLoad", false), ("InvalidBoxes", false), ("InvalidText", true), ("TooMany", false), ("OverBudget", false), ("InvalidWord", false), ("InvalidLayout", false), ("InvalidBits", false), ("InvalidCell", false), ("InvalidKey", false), ("InvalidBox", false), ("InvalidIndex", false), ("InvalidNumber", false), ("InvalidSize", false), ("InvalidBudget", false), ("UnlikeGrids", false), ("InvalidOperation", false), ("Nothing", false), ("InvalidCommand", false)] (mVar 0)) maNil)))))
  (msSeq (msSet 1 (mBin opAdd (mVar 1) (mLst (maCons (mIsX tyFalse [] [("LaceError", false), ("InvalidLoad", false), ("InvalidBoxes", false), ("InvalidText", false), ("TooMany", true), ("OverBudget", false), ("InvalidWord", false), ("InvalidLayout", false), ("InvalidBits", false), ("InvalidCell", false), ("InvalidKey", false), ("InvalidBox", false), ("InvalidIndex", false), ("InvalidNumber", false), ("InvalidSize", false), ("InvalidBudget", false), ("UnlikeGrids", false), ("InvalidOperation", false), ("Nothing", false), ("InvalidCommand", false)] (mVar 0)) (maCons (mIsX tyFalse [] [("LaceError", false), ("InvalidLoad", false), ("InvalidBoxes", false), ("InvalidText", false), ("TooMany", false), ("OverBudget", true), ("InvalidWord", false), ("InvalidLayout", false), ("InvalidBits", false), ("InvalidCell", false), ("InvalidKey", false), ("InvalidBox", false), ("InvalidIndex", false), ("InvalidNumber", false), ("InvalidSize", false), ("InvalidBudget", false), ("UnlikeGrids", false), ("InvalidOperation", false), ("Nothing", false), ("InvalidCommand", false)] (mVar 0)) (maCons (mIsX tyFalse [] [("LaceError", false), ("InvalidLoad", false), ("InvalidBoxes", false), ("InvalidText", false), ("TooMany", false), ("OverBudget", false), ("InvalidWord", true), ("InvalidLayout", false), ("InvalidBits", false), ("InvalidCell", false), ("InvalidKey", false), ("InvalidBox", false), ("InvalidIndex", false), ("InvalidNumber", false), ("InvalidSize", false), ("InvalidBudget", false), ("UnlikeGrids", false), ("InvalidOperation", false), ("Nothing", false), ("InvalidCommand", false)] (mVar 0)) maNil))))))
  (msSeq (msSet 1 (mBin opAdd (mVar 1) (mLst (maCons (mIsX tyFalse [] [("LaceError", false), ("InvalidLoad", false), ("InvalidBoxes", false), ("InvalidText", false), ("TooMany", false), ("OverBudget", false), ("InvalidWord", false), ("InvalidLayout", true), ("InvalidBits", false), ("InvalidCell", false), ("InvalidKey", false), ("InvalidBox", false), ("InvalidIndex", false), ("InvalidNumber", false), ("InvalidSize", false), ("InvalidBudget", false), ("UnlikeGrids", false), ("InvalidOperation", false), ("Nothing", false), ("InvalidCommand", false)] (mVar 0)) (maCons (mIsX tyFalse [] [("LaceError", false), ("InvalidLoad", false), ("InvalidBoxes", false), ("InvalidText", false), ("TooMany", false), ("OverBudget", false), ("InvalidWord", false), ("InvalidLayout", false), ("InvalidBits", true), ("InvalidCell", false), ("InvalidKey", false), ("InvalidBox", false), ("InvalidIndex", false), ("InvalidNumber", false), ("InvalidSize", false), ("InvalidBudget", false), ("UnlikeGrids", false), ("InvalidOperation", false), ("Nothing", false), ("InvalidCommand", false)] (mVar 0)) (maCons (mIsX tyFalse [] [("LaceError", false), ("InvalidLoad", false), ("InvalidBoxes", false), ("InvalidText", false), ("TooMany", false), ("OverBudget", false), ("InvalidWord", false), ("InvalidLayout", false), ("InvalidBits", false), ("InvalidCell", true), ("InvalidKey", false), ("InvalidBox", false), ("InvalidIndex", false), ("InvalidNumber", false), ("InvalidSize", false), ("InvalidBudget", false), ("UnlikeGrids", false), ("InvalidOperation", false), ("Nothing", false), ("InvalidCommand", false)] (mVar 0)) maNil))))))
  (msSeq (msSet 1 (mBin opAdd (mVar 1) (mLst (maCons (mIsX tyFalse [] [("LaceError", false), ("InvalidLoad", false), ("InvalidBoxes", false), ("InvalidText", false), ("TooMany", false), ("OverBudget", false), ("InvalidWord", false), ("InvalidLayout", false), ("InvalidBits", false), ("InvalidCell", false), ("InvalidKey", true), ("InvalidBox", false), ("InvalidIndex", false), ("InvalidNumber", false), ("InvalidSize", false), ("InvalidBudget", false), ("UnlikeGrids", false), ("InvalidOperation", false), ("Nothing", false), ("InvalidCommand", false)] (mVar 0)) (maCons (mIsX tyFalse [] [("LaceError", false), ("InvalidLoad", false), ("InvalidBoxes", false), ("InvalidText", false), ("TooMany", false), ("OverBudget", false), ("InvalidWord", false), ("InvalidLayout", false), ("InvalidBits", false), ("InvalidCell", false), ("InvalidKey", false), ("InvalidBox", true), ("InvalidIndex", false), ("InvalidNumber", false), ("InvalidSize", false), ("InvalidBudget", false), ("UnlikeGrids", false), ("InvalidOperation", false), ("Nothing", false), ("InvalidCommand", false)] (mVar 0)) (maCons (mIsX tyFalse [] [("LaceError", false), ("InvalidLoad", false), ("InvalidBoxes", false), ("InvalidText", false), ("TooMany", false), ("OverBudget", false), ("InvalidWord", false), ("InvalidLayout", false), ("InvalidBits", false), ("InvalidCell", false), ("InvalidKey", false), ("InvalidBox", false), ("InvalidIndex", true), ("InvalidNumber", false), ("InvalidSize", false), ("InvalidBudget", false), ("UnlikeGrids", false), ("InvalidOperation", false), ("Nothing", false), ("InvalidCommand", false)] (mVar 0)) maNil))))))
  (msSeq (msSet 1 (mBin opAdd (mVar 1) (mLst (maCons (mIsX tyFalse [] [("LaceError", false), ("InvalidLoad", false), ("InvalidBoxes", false), ("InvalidText", false), ("TooMany", false), ("OverBudget", false), ("InvalidWord", false), ("InvalidLayout", false), ("InvalidBits", false), ("InvalidCell", false), ("InvalidKey", false), ("InvalidBox", false), ("InvalidIndex", false), ("InvalidNumber", true), ("InvalidSize", false), ("InvalidBudget", false), ("UnlikeGrids", false), ("InvalidOperation", false), ("Nothing", false), ("InvalidCommand", false)] (mVar 0)) (maCons (mIsX tyFalse [] [("LaceError", false), ("InvalidLoad", false), ("InvalidBoxes", false), ("InvalidText", false), ("TooMany", false), ("OverBudget", false), ("InvalidWord", false), ("InvalidLayout", false), ("InvalidBits", false), ("InvalidCell", false), ("InvalidKey", false), ("InvalidBox", false), ("InvalidIndex", false), ("InvalidNumber", false), ("InvalidSize", true), ("InvalidBudget", false), ("UnlikeGrids", false), ("InvalidOperation", false), ("Nothing", false), ("InvalidCommand", false)] (mVar 0)) (maCons (mIsX tyFalse [] [("LaceError", false), ("InvalidLoad", false), ("InvalidBoxes", false), ("InvalidText", false), ("TooMany", false), ("OverBudget", false), ("InvalidWord", false), ("InvalidLayout", false), ("InvalidBits", false), ("InvalidCell", false), ("InvalidKey", false), ("InvalidBox", false), ("InvalidIndex", false), ("InvalidNumber", false), ("InvalidSize", false), ("InvalidBudget", true), ("UnlikeGrids", false), ("InvalidOperation", false), ("Nothing", false), ("InvalidCommand", false)] (mVar 0)) maNil))))))
  (msSeq (msSet 1 (mBin opAdd (mVar 1) (mLst (maCons (mIsX tyFalse [] [("LaceError", false), ("InvalidLoad", false), ("InvalidBoxes", false), ("InvalidText", false), ("TooMany", false), ("OverBudget", false), ("InvalidWord", false), ("InvalidLayout", false), ("InvalidBits", false), ("InvalidCell", false), ("InvalidKey", false), ("InvalidBox", false), ("InvalidIndex", false), ("InvalidNumber", false), ("InvalidSize", false), ("InvalidBudget", false), ("UnlikeGrids", true), ("InvalidOperation", false), ("Nothing", false), ("InvalidCommand", false)] (mVar 0)) (maCons (mIsX tyFalse [] [("LaceError", false), ("InvalidLoad", false), ("InvalidBoxes", false), ("InvalidText", false), ("TooMany", false), ("OverBudget", false), ("InvalidWord", false), ("InvalidLayout", false), ("InvalidBits", false), ("InvalidCell", false), ("InvalidKey", false), ("InvalidBox", false), ("InvalidIndex", false), ("InvalidNumber", false), ("InvalidSize", false), ("InvalidBudget", false), ("UnlikeGrids", false), ("InvalidOperation", true), ("Nothing", false), ("InvalidCommand", false)] (mVar 0)) (maCons (mIsX tyFalse [] [("LaceError", false), ("InvalidLoad", false), ("InvalidBoxes", false), ("InvalidText", false), ("TooMany", false), ("OverBudget", false), ("InvalidWord", false), ("InvalidLayout", false), ("InvalidBits", false), ("InvalidCell", false), ("InvalidKey", false), ("InvalidBox", false), ("InvalidIndex", false), ("InvalidNumber", false), ("InvalidSize", false), ("InvalidBudget", false), ("UnlikeGrids", false), ("InvalidOperation", false), ("Nothing", true), ("InvalidCommand", false)] (mVar 0)) maNil))))))
  (msRet (mBin opAdd (mVar 1) (mLst (maCons (mIsX tyFalse [] [("LaceError", false), ("InvalidLoad", false), ("InvalidBoxes", false), ("InvalidText", false), ("TooMany", false), ("OverBudget", false), ("InvalidWord", false), ("InvalidLayout", false), ("InvalidBits", false), ("InvalidCell", false), ("InvalidKey", false), ("InvalidBox", false), ("InvalidIndex", false), ("InvalidNumber", false), ("InvalidSize", false), ("InvalidBudget", false), ("UnlikeGrids", false), ("InvalidOperation", false), ("Nothing", false), ("InvalidCommand", true)] (mVar 0)) maNil))))))))))
def f__law_classes : Fn := mkFn 1 2 m__law_classes
def φ__law_classes : Fn := purify f__law_classes
theorem sc__law_classes : FnScope ["one", "found"] ["one"] (defScope s__law_classes) := ⟨rfl, rfl, rfl, by decide +kernel, rfl, by decide +kernel, by decide +kernel⟩
theorem bd__law_classes {P : Program} {w : World} {K : PySem.W.Frag} {mg : Str → Option Value} {base : Heap} {f : Addr} (Z : Hd K mg) (cdv : Value) (A : Around) (outer : List Env) (s : Shared) (H : Hp) (E : XK) (hr : Room 0 (A.deeper (envOfC "_law_classes" (defScope s__law_classes) s.heap.objs.size f cdv))) : CSs (cxOf (L2.CX P w) P w K mg base ["one", "found"] "_law_classes" (defScope s__law_classes) f cdv A outer s H E) (defBody s__law_classes) m__law_classes := by
  have hN := (sc__law_classes).nd
  unfold m__law_classes
  exact (css_cons (cs_set 1 hN (ce_lst (ca_cons (ce_isX tyFalse [] [("LaceError", false), ("InvalidLoad", true), ("InvalidBoxes", false), ("InvalidText", false), ("TooMany", false), ("OverBudget", false), ("InvalidWord", false), ("InvalidLayout", false), ("InvalidBits", false), ("InvalidCell", false), ("InvalidKey", false), ("InvalidBox", false), ("InvalidIndex", false), ("InvalidNumber", false), ("InvalidSize", false), ("InvalidBudget", false), ("UnlikeGrids", false), ("InvalidOperation", false), ("Nothing", false), ("InvalidCommand", false)] (.own _) (pe_glob (v := .ref _) rfl (Z.glo (Z.fact 6)) rfl (by decide)) (fIsG_ok (Z.fact 63)) (tyFalse_ok (fKitB_ok (Z.fact 106))) tb_nil (tb_cons (at_ga (P := fun C => ExcC _ C ∧ PySem.W.kitOne _ (.ref C) _ = some false) (Z.glo (Z.fact 60)) ⟨fExcC_ok (Z.fact 61), fKit_ok (Z.fact 105)⟩) (tb_cons (at_ga (P := fun C => ExcC _ C ∧ PySem.W.kitOne _ (.ref C) _ = some true) (Z.glo (Z.fact 6)) ⟨fExcC_ok (Z.fact 58), fKit_ok (Z.fact 104)⟩) (tb_cons (at_ga (P := fun C => ExcC _ C ∧ PySem.W.kitOne _ (.ref C) _ = some false) (Z.glo (Z.fact 5)) ⟨fExcC_ok (Z.fact 56), fKit_ok (Z.fact 103)⟩) (tb_cons (at_ga (P := fun C => ExcC _ C ∧ PySem.W.kitOne _ (.ref C) _ = some false) (Z.glo (Z.fact 4)) ⟨fExcC_ok (Z.fact 54), fKit_ok (Z.fact 102)⟩) (tb_cons (at_ga (P := fun C => ExcC _ C ∧ PySem.W.kitOne _ (.ref C) _ = some false) (Z.glo (Z.fact 3)) ⟨fExcC_ok (Z.fact 52), fKit_ok (Z.fact 101)⟩) (tb_cons (at_ga (P := fun C => ExcC _ C ∧ PySem.W.kitOne _ (.ref C) _ = some false) (Z.glo (Z.fact 2)) ⟨fExcC_ok (Z.fact 50), fKit_ok (Z.fact 100)⟩) (tb_cons (at_ga (P := fun C => ExcC _ C ∧ PySem.W.kitOne _ (.ref C) _ = some false) (Z.glo (Z.fact 11)) ⟨fExcC_ok (Z.fact 48), fKit_ok (Z.fact 99)⟩) (tb_cons (at_ga (P := fun C => ExcC _ C ∧ PySem.W.kitOne _ (.ref C) _ = some false) (Z.glo (Z.fact 10)) ⟨fExcC_ok (Z.fact 46), fKit_ok (Z.fact 98)⟩) (tb_cons (at_ga (P := fun C => ExcC _ C ∧ PySem.W.kitOne _ (.ref C) _ = some false) (Z.glo (Z.fact 9)) ⟨fExcC_ok (Z.fact 44), fKit_ok (Z.fact 97)⟩) (tb_cons (at_ga (P := fun C => ExcC _ C ∧ PySem.W.kitOne _ (.ref C) _ = some false) (Z.glo (Z.fact 8)) ⟨fExcC_ok (Z.fact 42), fKit_ok (Z.fact 96)⟩) (tb_cons (at_ga (P := fun C => ExcC _ C ∧ PySem.W.kitOne _ (.ref C) _ = some false) (Z.glo (Z.fact 7)) ⟨fExcC_ok (Z.fact 40), fKit_ok (Z.fact 95)⟩) (tb_cons (at_ga (P := fun C => ExcC _ C ∧ PySem.W.kitOne _ (.ref C) _ = some false) (Z.glo (Z.fact 16)) ⟨fExcC_ok (Z.fact 38), fKit_ok (Z.fact 94)⟩) (tb_cons (at_ga (P := fun C => ExcC _ C ∧ PySem.W.kitOne _ (.ref C) _ = some false) (Z.glo (Z.fact 15)) ⟨fExcC_ok (Z.fact 36), fKit_ok (Z.fact 93)⟩) (tb_cons (at_ga (P := fun C => ExcC _ C ∧ PySem.W.kitOne _ (.ref C) _ = some false) (Z.glo (Z.fact 14)) ⟨fExcC_ok (Z.fact 34), fKit_ok (Z.fact 92)⟩) (tb_cons (at_ga (P := fun C => ExcC _ C ∧ PySem.W.kitOne _ (.ref C) _ = some false) (Z.glo (Z.fact 13)) ⟨fExcC_ok (Z.fact 32), fKit_ok (Z.fact 91)⟩) (tb_cons (at_ga (P := fun C => ExcC _ C ∧ PySem.W.kitOne _ (.ref C) _ = some false) (Z.glo (Z.fact 12)) ⟨fExcC_ok (Z.fact 30), fKit_ok (Z.fact 90)⟩) (tb_cons (at_ga (P := fun C => ExcC _ C ∧ PySem.W.kitOne _ (.ref C) _ = some false) (Z.glo (Z.fact 20)) ⟨fExcC_ok (Z.fact 28), fKit_ok (Z.fact 89)⟩) (tb_cons (at_ga (P := fun C => ExcC _ C ∧ PySem.W.kitOne _ (.ref C) _ = some false) (Z.glo (Z.fact 19)) ⟨fExcC_ok (Z.fact 26), fKit_ok (Z.fact 88)⟩) (tb_cons (at_ga (P := fun C => ExcC _ C ∧ PySem.W.kitOne _ (.ref C) _ = some false) (Z.glo (Z.fact 18)) ⟨fExcC_ok (Z.fact 24), fKit_ok (Z.fact 87)⟩) (tb_cons (at_ga (P := fun C => ExcC _ C ∧ PySem.W.kitOne _ (.ref C) _ = some false) (Z.glo (Z.fact 17)) ⟨fExcC_ok (Z.fact 22), fKit_ok (Z.fact 86)⟩) (tb_nil))))))))))))))))))))) (Z.free (Z.fact 64)) (ce_var 0)) (ca_cons (ce_isX tyFalse [] [("LaceError", false), ("InvalidLoad", false), ("InvalidBoxes", true), ("InvalidText", false), ("TooMany", false), ("OverBudget", false), ("InvalidWord", false), ("InvalidLayout", false), ("InvalidBits", false), ("InvalidCell", false), ("InvalidKey", false), ("InvalidBox", false), ("InvalidIndex", false), ("InvalidNumber", false), ("InvalidSize", false), ("InvalidBudget", false), ("UnlikeGrids", false), ("InvalidOperation", false), ("Nothing", false), ("InvalidCommand", false)] (.own _) (pe_glob (v := .ref _) rfl (Z.glo (Z.fact 5)) rfl (by decide)) (fIsG_ok (Z.fact 63)) (tyFalse_ok (fKitB_ok (Z.fact 85))) tb_nil (tb_cons (at_ga (P := fun C => ExcC _ C ∧ PySem.W.kitOne _ (.ref C) _ = some false) (Z.glo (Z.fact 60)) ⟨fExcC_ok (Z.fact 61), fKit_ok (Z.fact 84)⟩) (tb_cons (at_ga (P := fun C => ExcC _ C ∧ PySem.W.kitOne _ (.ref C) _ = some false) (Z.glo (Z.fact 6)) ⟨fExcC_ok (Z.fact 58), fKit_ok (Z.fact 83)⟩) (tb_cons (at_ga (P := fun C => ExcC _ C ∧ PySem.W.kitOne _ (.ref C) _ = some true) (Z.glo (Z.fact 5)) ⟨fExcC_ok (Z.fact 56), fKit_ok (Z.fact 82)⟩) (tb_cons (at_ga (P := fun C => ExcC _ C ∧ PySem.W.kitOne _ (.ref C) _ = some false) (Z.glo (Z.fact 4)) ⟨fExcC_ok (Z.fact 54), fKit_ok (Z.fact 81)⟩) (tb_cons (at_ga (P := fun C => ExcC _ C ∧ PySem.W.kitOne _ (.ref C) _ = some false) (Z.glo (Z.fact 3)) ⟨fExcC_ok (Z.fact 52), fKit_ok (Z.fact 80)⟩) (tb_cons (at_ga (P := fun C => ExcC _ C ∧ PySem.W.kitOne _ (.ref C) _ = some false) (Z.glo (Z.fact 2)) ⟨fExcC_ok (Z.fact 50), fKit_ok (Z.fact 79)⟩) (tb_cons (at_ga (P := fun C => ExcC _ C ∧ PySem.W.kitOne _ (.ref C) _ = some false) (Z.glo (Z.fact 11)) ⟨fExcC_ok (Z.fact 48), fKit_ok (Z.fact 78)⟩) (tb_cons (at_ga (P := fun C => ExcC _ C ∧ PySem.W.kitOne _ (.ref C) _ = some false) (Z.glo (Z.fact 10)) ⟨fExcC_ok (Z.fact 46), fKit_ok (Z.fact 77)⟩) (tb_cons (at_ga (P := fun C => ExcC _ C ∧ PySem.W.kitOne _ (.ref C) _ = some false) (Z.glo (Z.fact 9)) ⟨fExcC_ok (Z.fact 44), fKit_ok (Z.fact 76)⟩) (tb_cons (at_ga (P := fun C => ExcC _ C ∧ PySem.W.kitOne _ (.ref C) _ = some false) (Z.glo (Z.fact 8)) ⟨fExcC_ok (Z.fact 42), fKit_ok (Z.fact 75)⟩) (tb_cons (at_ga (P := fun C => ExcC _ C ∧ PySem.W.kitOne _ (.ref C) _ = some false) (Z.glo (Z.fact 7)) ⟨fExcC_ok (Z.fact 40), fKit_ok (Z.fact 74)⟩) (tb_cons (at_ga (P := fun C => ExcC _ C ∧ PySem.W.kitOne _ (.ref C) _ = some false) (Z.glo (Z.fact 16)) ⟨fExcC_ok (Z.fact 38), fKit_ok (Z.fact 73)⟩) (tb_cons (at_ga (P := fun C => ExcC _ C ∧ PySem.W.kitOne _ (.ref C) _ = some false) (Z.glo (Z.fact 15)) ⟨fExcC_ok (Z.fact 36), fKit_ok (Z.fact 72)⟩) (tb_cons (at_ga (P := fun C => ExcC _ C ∧ PySem.W.kitOne _ (.ref C) _ = some false) (Z.glo (Z.fact 14)) ⟨fExcC_ok (Z.fact 34), fKit_ok (Z.fact 71)⟩) (tb_cons (at_ga (P := fun C => ExcC _ C ∧ PySem.W.kitOne _ (.ref C) _ = some false) (Z.glo (Z.fact 13)) ⟨fExcC_ok (Z.fact 32), fKit_ok (Z.fact 70)⟩) (tb_cons (at_ga (P := fun C => ExcC _ C ∧ PySem.W.kitOne _ (.ref C) _ = some false) (Z.glo (Z.fact 12)) ⟨fExcC_ok (Z.fact 30), fKit_ok (Z.fact 69)⟩) (tb_cons (at_ga (P := fun C => ExcC _ C ∧ PySem.W.kitOne _ (.ref C) _ = some false) (Z.glo (Z.fact 20)) ⟨fExcC_ok (Z.fact 28), fKit_ok (Z.fact 68)⟩) (tb_cons (at_ga (P := fun C => ExcC _ C ∧ PySem.W.kitOne _ (.ref C) _ = some false) (Z.glo (Z.fact 19)) ⟨fExcC_ok (Z.fact 26), fKit_ok (Z.fact 67)⟩) (tb_cons (at_ga (P := fun C => ExcC _ C ∧ PySem.W.kitOne _ (.ref C) _ = some false) (Z.glo (Z.fact 18)) ⟨fExcC_ok (Z.fact 24), fKit_ok (Z.fact 66)⟩) (tb_cons (at_ga (P := fun C => ExcC _ C ∧ PySem.W.kitOne _ (.ref C) _ = some false) (Z.glo (Z.fact 17)) ⟨fExcC_ok (Z.fact 22), fKit_ok (Z.fact 65)⟩) (tb_nil))))))))))))))))))))) (Z.free (Z.fact 64)) (ce_var 0)) (ca_cons (ce_isX tyFalse [] [("LaceError", false), ("InvalidLoad", false), ("InvalidBoxes", false), ("InvalidText", true), ("TooMany", false), ("OverBudget", false), ("InvalidWord", false), ("InvalidLayout", false), ("InvalidBits", false), ("InvalidCell", false), ("InvalidKey", false), ("InvalidBox", false), ("InvalidIndex", false), ("InvalidNumber", false), ("InvalidSize", false), ("InvalidBudget", false), ("UnlikeGrids", false), ("InvalidOperation", false), ("Nothing", false), ("InvalidCommand", false)] (.own _) (pe_glob (v := .ref _) rfl (Z.glo (Z.fact 4)) rfl (by decide)) (fIsG_ok (Z.fact 63)) (tyFalse_ok (fKitB_ok (Z.fact 62))) tb_nil (tb_cons (at_ga (P := fun C => ExcC _ C ∧ PySem.W.kitOne _ (.ref C) _ = some false) (Z.glo (Z.fact 60)) ⟨fExcC_ok (Z.fact 61), fKit_ok (Z.fact 59)⟩) (tb_cons (at_ga (P := fun C => ExcC _ C ∧ PySem.W.kitOne _ (.ref C) _ = some false) (Z.glo (Z.fact 6)) ⟨fExcC_ok (Z.fact 58), fKit_ok (Z.fact 57)⟩) (tb_cons (at_ga (P := fun C => ExcC _ C ∧ PySem.W.kitOne _ (.ref C) _ = some false) (Z.glo (Z.fact 5)) ⟨fExcC_ok (Z.fact 56), fKit_ok (Z.fact 55)⟩) (tb_cons (at_ga (P := fun C => ExcC _ C ∧ PySem.W.kitOne _ (.ref C) _ = some true) (Z.glo (Z.fact 4)) ⟨fExcC_ok (Z.fact 54), fKit_ok (Z.fact 53)⟩) (tb_cons (at_ga (P := fun C => ExcC _ C ∧ PySem.W.kitOne _ (.ref C) _ = some false) (Z.glo (Z.fact 3)) ⟨fExcC_ok (Z.fact 52), fKit_ok (Z.fact 51)⟩) (tb_cons (at_ga (P := fun C => ExcC _ C ∧ PySem.W.kitOne _ (.ref C) _ = some false) (Z.glo (Z.fact 2)) ⟨fExcC_ok (Z.fact 50), fKit_ok (Z.fact 49)⟩) (tb_cons (at_ga (P := fun C => ExcC _ C ∧ PySem.W.kitOne _ (.ref C) _ = some false) (Z.glo (Z.fact 11)) ⟨fExcC_ok (Z.fact 48), fKit_ok (Z.fact 47)⟩) (tb_cons (at_ga (P := fun C => ExcC _ C ∧ PySem.W.kitOne _ (.ref C) _ = some false) (Z.glo (Z.fact 10)) ⟨fExcC_ok (Z.fact 46), fKit_ok (Z.fact 45)⟩) (tb_cons (at_ga (P := fun C => ExcC _ C ∧ PySem.W.kitOne _ (.ref C) _ = some false) (Z.glo (Z.fact 9)) ⟨fExcC_ok (Z.fact 44), fKit_ok (Z.fact 43)⟩) (tb_cons (at_ga (P := fun C => ExcC _ C ∧ PySem.W.kitOne _ (.ref C) _ = some false) (Z.glo (Z.fact 8)) ⟨fExcC_ok (Z.fact 42), fKit_ok (Z.fact 41)⟩) (tb_cons (at_ga (P := fun C => ExcC _ C ∧ PySem.W.kitOne _ (.ref C) _ = some false) (Z.glo (Z.fact 7)) ⟨fExcC_ok (Z.fact 40), fKit_ok (Z.fact 39)⟩) (tb_cons (at_ga (P := fun C => ExcC _ C ∧ PySem.W.kitOne _ (.ref C) _ = some false) (Z.glo (Z.fact 16)) ⟨fExcC_ok (Z.fact 38), fKit_ok (Z.fact 37)⟩) (tb_cons (at_ga (P := fun C => ExcC _ C ∧ PySem.W.kitOne _ (.ref C) _ = some false) (Z.glo (Z.fact 15)) ⟨fExcC_ok (Z.fact 36), fKit_ok (Z.fact 35)⟩) (tb_cons (at_ga (P := fun C => ExcC _ C ∧ PySem.W.kitOne _ (.ref C) _ = some false) (Z.glo (Z.fact 14)) ⟨fExcC_ok (Z.fact 34), fKit_ok (Z.fact 33)⟩) (tb_cons (at_ga (P := fun C => ExcC _ C ∧ PySem.W.kitOne _ (.ref C) _ = some false) (Z.glo (Z.fact 13)) ⟨fExcC_ok (Z.fact 32), fKit_ok (Z.fact 31)⟩) (tb_cons (at_ga (P := fun C => ExcC _ C ∧ PySem.W.kitOne _ (.ref C) _ = some false) (Z.glo (Z.fact 12)) ⟨fExcC_ok (Z.fact 30), fKit_ok (Z.fact 29)⟩) (tb_cons (at_ga (P := fun C => ExcC _ C ∧ PySem.W.kitOne _ (.ref C) _ = some false) (Z.glo (Z.fact 20)) ⟨fExcC_ok (Z.fact 28), fKit_ok (Z.fact 27)⟩) (tb_cons (at_ga (P := fun C => ExcC _ C ∧ PySem.W.kitOne _ (.ref C) _ = some false) (Z.glo (Z.fact 19)) ⟨fExcC_ok (Z.fact 26), fKit_ok (Z.fact 25)⟩) (tb_cons (at_ga (P := fun C => ExcC _ C ∧ PySem.W.kitOne _ (.ref C) _ = some false) (Z.glo (Z.fact 18)) ⟨fExcC_ok (Z.fact 24), fKit_ok (Z.fact 23)⟩) (tb_cons (at_ga (P := fun C => ExcC _ C ∧ PySem.W.kitOne _ (.ref C) _ = some false) (Z.glo (Z.fact 17)) ⟨fExcC_ok (Z.fact 22), fKit_ok (Z.fact 21)⟩) (tb_nil))))))))))))))))))))) (Z.free (Z.fact 64)) (ce_var 0)) ca_nil)))))
  (css_cons (cs_set 1 hN (ce_op opAdd_ok (ce_var 1) (ce_lst (ca_cons (ce_isX tyFalse [] [("LaceError", false), ("InvalidLoad", false), ("InvalidBoxes", false), ("InvalidText", false), ("TooMany", true), ("OverBudget", false), ("InvalidWord", false), ("InvalidLayout", false), ("InvalidBits", false), ("InvalidCell", false), ("InvalidKey", false), ("InvalidBox", false), ("InvalidIndex", false), ("InvalidNumber", false), ("InvalidSize", false), ("InvalidBudget", false), ("UnlikeGrids", false), ("InvalidOperation", false), ("Nothing", false), ("InvalidCommand", false)] (.own _) (pe_glob (v := .ref _) rfl (Z.glo (Z.fact 3)) rfl (by decide)) (fIsG_ok (Z.fact 63)) (tyFalse_ok (fKitB_ok (Z.fact 169))) tb_nil (tb_cons (at_ga (P := fun C => ExcC _ C ∧ PySem.W.kitOne _ (.ref C) _ = some false) (Z.glo (Z.fact 60)) ⟨fExcC_ok (Z.fact 61), fKit_ok (Z.fact 168)⟩) (tb_cons (at_ga (P := fun C => ExcC _ C ∧ PySem.W.kitOne _ (.ref C) _ = some false) (Z.glo (Z.fact 6)) ⟨fExcC_ok (Z.fact 58), fKit_ok (Z.fact 167)⟩) (tb_cons (at_ga (P := fun C => ExcC _ C ∧ PySem.W.kitOne _ (.ref C) _ = some false) (Z.glo (Z.fact 5)) ⟨fExcC_ok (Z.fact 56), fKit_ok (Z.fact 166)⟩) (tb_cons (at_ga (P := fun C => ExcC _ C ∧ PySem.W.kitOne _ (.ref C) _ = some false) (Z.glo (Z.fact 4)) ⟨fExcC_ok (Z.fact 54), fKit_ok (Z.fact 165)⟩) (tb_cons (at_ga (P := fun C => ExcC _ C ∧ PySem.W.kitOne _ (.ref C) _ = some true) (Z.glo (Z.fact 3)) ⟨fExcC_ok (Z.fact 52), fKit_ok (Z.fact 164)⟩) (tb_cons (at_ga (P := fun C => ExcC _ C ∧ PySem.W.kitOne _ (.ref C) _ = some false) (Z.glo (Z.fact 2)) ⟨fExcC_ok (Z.fact 50), fKit_ok (Z.fact 163)⟩) (tb_cons (at_ga (P := fun C => ExcC _ C ∧ PySem.W.kitOne _ (.ref C) _ = some false) (Z.glo (Z.fact 11)) ⟨fExcC_ok (Z.fact 48), fKit_ok (Z.fact 162)⟩) (tb_cons (at_ga (P := fun C => ExcC _ C ∧ PySem.W.kitOne _ (.ref C) _ = some false) (Z.glo (Z.fact 10)) ⟨fExcC_ok (Z.fact 46), fKit_ok (Z.fact 161)⟩) (tb_cons (at_ga (P := fun C => ExcC _ C ∧ PySem.W.kitOne _ (.ref C) _ = some false) (Z.glo (Z.fact 9)) ⟨fExcC_ok (Z.fact 44), fKit_ok (Z.fact 160)⟩) (tb_cons (at_ga (P := fun C => ExcC _ C ∧ PySem.W.kitOne _ (.ref C) _ = some false) (Z.glo (Z.fact 8)) ⟨fExcC_ok (Z.fact 42), fKit_ok (Z.fact 159)⟩) (tb_cons (at_ga (P := fun C => ExcC _ C ∧ PySem.W.kitOne _ (.ref C) _ = some false) (Z.glo (Z.fact 7)) ⟨fExcC_ok (Z.fact 40), fKit_ok (Z.fact 158)⟩) (tb_cons (at_ga (P := fun C => ExcC _ C ∧ PySem.W.kitOne _ (.ref C) _ = some false) (Z.glo (Z.fact 16)) ⟨fExcC_ok (Z.fact 38), fKit_ok (Z.fact 157)⟩) (tb_cons (at_ga (P := fun C => ExcC _ C ∧ PySem.W.kitOne _ (.ref C) _ = some false) (Z.glo (Z.fact 15)) ⟨fExcC_ok (Z.fact 36), fKit_ok (Z.fact 156)⟩) (tb_cons (at_ga (P := fun C => ExcC _ C ∧ PySem.W.kitOne _ (.ref C) _ = some false) (Z.glo (Z.fact 14)) ⟨fExcC_ok (Z.fact 34), fKit_ok (Z.fact 155)⟩) (tb_cons (at_ga (P := fun C => ExcC _ C ∧ PySem.W.kitOne _ (.ref C) _ = some false) (Z.glo (Z.fact 13)) ⟨fExcC_ok (Z.fact 32), fKit_ok (Z.fact 154)⟩) (tb_cons (at_ga (P := fun C => ExcC _ C ∧ PySem.W.kitOne _ (.ref C) _ = some false) (Z.glo (Z.fact 12)) ⟨fExcC_ok (Z.fact 30), fKit_ok (Z.fact 153)⟩) (tb_cons (at_ga (P := fun C => ExcC _ C ∧ PySem.W.kitOne _ (.ref C) _ = some false) (Z.glo (Z.fact 20)) ⟨fExcC_ok (Z.fact 28), fKit_ok (Z.fact 152)⟩) (tb_cons (at_ga (P := fun C => ExcC _ C ∧ PySem.W.kitOne _ (.ref C) _ = some false) (Z.glo (Z.fact 19)) ⟨fExcC_ok (Z.fact 26), fKit_ok (Z.fact 151)⟩) (tb_cons (at_ga (P := fun C => ExcC _ C ∧ PySem.W.kitOne _ (.ref C) _ = some false) (Z.glo (Z.fact 18)) ⟨fExcC_ok (Z.fact 24), fKit_ok (Z.fact 150)⟩) (tb_cons (at_ga (P := fun C => ExcC _ C ∧ PySem.W.kitOne _ (.ref C) _ = some false) (Z.glo (Z.fact 17)) ⟨fExcC_ok (Z.fact 22), fKit_ok (Z.fact 149)⟩) (tb_nil))))))))))))))))))))) (Z.free (Z.fact 64)) (ce_var 0)) (ca_cons (ce_isX tyFalse [] [("LaceError", false), ("InvalidLoad", false), ("InvalidBoxes", false), ("InvalidText", false), ("TooMany", false), ("OverBudget", true), ("InvalidWord", false), ("InvalidLayout", false), ("InvalidBits", false), ("InvalidCell", false), ("InvalidKey", false), ("InvalidBox", false), ("InvalidIndex", false), ("InvalidNumber", false), ("InvalidSize", false), ("InvalidBudget", false), ("UnlikeGrids", false), ("InvalidOperation", false), ("Nothing", false), ("InvalidCommand", false)] (.own _) (pe_glob (v := .ref _) rfl (Z.glo (Z.fact 2)) rfl (by decide)) (fIsG_ok (Z.fact 63)) (tyFalse_ok (fKitB_ok (Z.fact 148))) tb_nil (tb_cons (at_ga (P := fun C => ExcC _ C ∧ PySem.W.kitOne _ (.ref C) _ = some false) (Z.glo (Z.fact 60)) ⟨fExcC_ok (Z.fact 61), fKit_ok (Z.fact 147)⟩) (tb_cons (at_ga (P := fun C => ExcC _ C ∧ PySem.W.kitOne _ (.ref C) _ = some false) (Z.glo (Z.fact 6)) ⟨fExcC_ok (Z.fact 58), fKit_ok (Z.fact 146)⟩) (tb_cons (at_ga (P := fun C => ExcC _ C ∧ PySem.W.kitOne _ (.ref C) _ = some false) (Z.glo (Z.fact 5)) ⟨fExcC_ok (Z.fact 56), fKit_ok (Z.fact 145)⟩) (tb_cons (at_ga (P := fun C => ExcC _ C ∧ PySem.W.kitOne _ (.ref C) _ = some false) (Z.glo (Z.fact 4)) ⟨fExcC_ok (Z.fact 54), fKit_ok (Z.fact 144)⟩) (tb_cons (at_ga (P := fun C => ExcC _ C ∧ PySem.W.kitOne _ (.ref C) _ = some false) (Z.glo (Z.fact 3)) ⟨fExcC_ok (Z.fact 52), fKit_ok (Z.fact 143)⟩) (tb_cons (at_ga (P := fun C => ExcC _ C ∧ PySem.W.kitOne _ (.ref C) _ = some true) (Z.glo (Z.fact 2)) ⟨fExcC_ok (Z.fact 50), fKit_ok (Z.fact 142)⟩) (tb_cons (at_ga (P := fun C => ExcC _ C ∧ PySem.W.kitOne _ (.ref C) _ = some false) (Z.glo (Z.fact 11)) ⟨fExcC_ok (Z.fact 48), fKit_ok (Z.fact 141)⟩) (tb_cons (at_ga (P := fun C => ExcC _ C ∧ PySem.W.kitOne _ (.ref C) _ = some false) (Z.glo (Z.fact 10)) ⟨fExcC_ok (Z.fact 46), fKit_ok (Z.fact 140)⟩) (tb_cons (at_ga (P := fun C => ExcC _ C ∧ PySem.W.kitOne _ (.ref C) _ = some false) (Z.glo (Z.fact 9)) ⟨fExcC_ok (Z.fact 44), fKit_ok (Z.fact 139)⟩) (tb_cons (at_ga (P := fun C => ExcC _ C ∧ PySem.W.kitOne _ (.ref C) _ = some false) (Z.glo (Z.fact 8)) ⟨fExcC_ok (Z.fact 42), fKit_ok (Z.fact 138)⟩) (tb_cons (at_ga (P := fun C => ExcC _ C ∧ PySem.W.kitOne _ (.ref C) _ = some false) (Z.glo (Z.fact 7)) ⟨fExcC_ok (Z.fact 40), fKit_ok (Z.fact 137)⟩) (tb_cons (at_ga (P := fun C => ExcC _ C ∧ PySem.W.kitOne _ (.ref C) _ = some false) (Z.glo (Z.fact 16)) ⟨fExcC_ok (Z.fact 38), fKit_ok (Z.fact 136)⟩) (tb_cons (at_ga (P := fun C => ExcC _ C ∧ PySem.W.kitOne _ (.ref C) _ = some false) (Z.glo (Z.fact 15)) ⟨fExcC_ok (Z.fact 36), fKit_ok (Z.fact 135)⟩) (tb_cons (at_ga (P := fun C => ExcC _ C ∧ PySem.W.kitOne _ (.ref C) _ = some false) (Z.glo (Z.fact 14)) ⟨fExcC_ok (Z.fact 34), fKit_ok (Z.fact 134)⟩) (tb_cons (at_ga (P := fun C => ExcC _ C ∧ PySem.W.kitOne _ (.ref C) _ = some false) (Z.glo (Z.fact 13)) ⟨fExcC_ok (Z.fact 32), fKit_ok (Z.fact 133)⟩) (tb_cons (at_ga (P := fun C => ExcC _ C ∧ PySem.W.kitOne _ (.ref C) _ = some false) (Z.glo (Z.fact 12)) ⟨fExcC_ok (Z.fact 30), fKit_ok (Z.fact 132)⟩) (tb_cons (at_ga (P := fun C => ExcC _ C ∧ PySem.W.kitOne _ (.ref C) _ = some false) (Z.glo (Z.fact 20)) ⟨fExcC_ok (Z.fact 28), fKit_ok (Z.fact 131)⟩) (tb_cons (at_ga (P := fun C => ExcC _ C ∧ PySem.W.kitOne _ (.ref C) _ = some false) (Z.glo (Z.fact 19)) ⟨fExcC_ok (Z.fact 26), fKit_ok (Z.fact 130)⟩) (tb_cons (at_ga (P := fun C => ExcC _ C ∧ PySem.W.kitOne _ (.ref C) _ = some false) (Z.glo (Z.fact 18)) ⟨fExcC_ok (Z.fact 24), fKit_ok (Z.fact 129)⟩) (tb_cons (at_ga (P := fun C => ExcC _ C ∧ PySem.W.kitOne _ (.ref C) _ = some false) (Z.glo (Z.fact 17)) ⟨fExcC_ok (Z.fact 22), fKit_ok (Z.fact 128)⟩) (tb_nil))))))))))))))))))))) (Z.free (Z.fact 64)) (ce_var 0)) (ca_cons (ce_isX tyFalse [] [("LaceError", false), ("InvalidLoad", false), ("InvalidBoxes", false), ("InvalidText", false), ("TooMany", false), ("OverBudget", false), ("InvalidWord", true), ("InvalidLayout", false), ("InvalidBits", false), ("InvalidCell", false), ("InvalidKey", false), ("InvalidBox", false), ("InvalidIndex", false), ("InvalidNumber", false), ("InvalidSize", false), ("InvalidBudget", false), ("UnlikeGrids", false), ("InvalidOperation", false), ("Nothing", false), ("InvalidCommand", false)] (.own _) (pe_glob (v := .ref _) rfl (Z.glo (Z.fact 11)) rfl (by decide)) (fIsG_ok (Z.fact 63)) (tyFalse_ok (fKitB_ok (Z.fact 127))) tb_nil (tb_cons (at_ga (P := fun C => ExcC _ C ∧ PySem.W.kitOne _ (.ref C) _ = some false) (Z.glo (Z.fact 60)) ⟨fExcC_ok (Z.fact 61), fKit_ok (Z.fact 126)⟩) (tb_cons (at_ga (P := fun C => ExcC _ C ∧ PySem.W.kitOne _ (.ref C) _ = some false) (Z.glo (Z.fact 6)) ⟨fExcC_ok (Z.fact 58), fKit_ok (Z.fact 125)⟩) (tb_cons (at_ga (P := fun C => ExcC _ C ∧ PySem.W.kitOne _ (.ref C) _ = some false) (Z.glo (Z.fact 5)) ⟨fExcC_ok (Z.fact 56), fKit_ok (Z.fact 124)⟩) (tb_cons (at_ga (P := fun C => ExcC _ C ∧ PySem.W.kitOne _ (.ref C) _ = some false) (Z.glo (Z.fact 4)) ⟨fExcC_ok (Z.fact 54), fKit_ok (Z.fact 123)⟩) (tb_cons (at_ga (P := fun C => ExcC _ C ∧ PySem.W.kitOne _ (.ref C) _ = some false) (Z.glo (Z.fact 3)) ⟨fExcC_ok (Z.fact 52), fKit_ok (Z.fact 122)⟩) (tb_cons (at_ga (P := fun C => ExcC _ C ∧ PySem.W.kitOne _ (.ref C) _ = some false) (Z.glo (Z.fact 2)) ⟨fExcC_ok (Z.fact 50), fKit_ok (Z.fact 121)⟩) (tb_cons (at_ga (P := fun C => ExcC _ C ∧ PySem.W.kitOne _ (.ref C) _ = some true) (Z.glo (Z.fact 11)) ⟨fExcC_ok (Z.fact 48), fKit_ok (Z.fact 120)⟩) (tb_cons (at_ga (P := fun C => ExcC _ C ∧ PySem.W.kitOne _ (.ref C) _ = some false) (Z.glo (Z.fact 10)) ⟨fExcC_ok (Z.fact 46), fKit_ok (Z.fact 119)⟩) (tb_cons (at_ga (P := fun C => ExcC _ C ∧ PySem.W.kitOne _ (.ref C) _ = some false) (Z.glo (Z.fact 9)) ⟨fExcC_ok (Z.fact 44), fKit_ok (Z.fact 118)⟩) (tb_cons (at_ga (P := fun C => ExcC _ C ∧ PySem.W.kitOne _ (.ref C) _ = some false) (Z.glo (Z.fact 8)) ⟨fExcC_ok (Z.fact 42), fKit_ok (Z.fact 117)⟩) (tb_cons (at_ga (P := fun C => ExcC _ C ∧ PySem.W.kitOne _ (.ref C) _ = some false) (Z.glo (Z.fact 7)) ⟨fExcC_ok (Z.fact 40), fKit_ok (Z.fact 116)⟩) (tb_cons (at_ga (P := fun C => ExcC _ C ∧ PySem.W.kitOne _ (.ref C) _ = some false) (Z.glo (Z.fact 16)) ⟨fExcC_ok (Z.fact 38), fKit_ok (Z.fact 115)⟩) (tb_cons (at_ga (P := fun C => ExcC _ C ∧ PySem.W.kitOne _ (.ref C) _ = some false) (Z.glo (Z.fact 15)) ⟨fExcC_ok (Z.fact 36), fKit_ok (Z.fact 114)⟩) (tb_cons (at_ga (P := fun C => ExcC _ C ∧ PySem.W.kitOne _ (.ref C) _ = some false) (Z.glo (Z.fact 14)) ⟨fExcC_ok (Z.fact 34), fKit_ok (Z.fact 113)⟩) (tb_cons (at_ga (P := fun C => ExcC _ C ∧ PySem.W.kitOne _ (.ref C) _ = some false) (Z.glo (Z.fact 13)) ⟨fExcC_ok (Z.fact 32), fKit_ok (Z.fact 112)⟩) (tb_cons (at_ga (P := fun C => ExcC _ C ∧ PySem.W.kitOne _ (.ref C) _ = some false) (Z.glo (Z.fact 12)) ⟨fExcC_ok (Z.fact 30), fKit_ok (Z.fact 111)⟩) (tb_cons (at_ga (P := fun C => ExcC _ C ∧ PySem.W.kitOne _ (.ref C) _ = some false) (Z.glo (Z.fact 20)) ⟨fExcC_ok (Z.fact 28), fKit_ok (Z.fact 110)⟩) (tb_cons (at_ga (P := fun C => ExcC _ C ∧ PySem.W.kitOne _ (.ref C) _ = some false) (Z.glo (Z.fact 19)) ⟨fExcC_ok (Z.fact 26), fKit_ok (Z.fact 109)⟩) (tb_cons (at_ga (P := fun C => ExcC _ C ∧ PySem.W.kitOne _ (.ref C) _ = some false) (Z.glo (Z.fact 18)) ⟨fExcC_ok (Z.fact 24), fKit_ok (Z.fact 108)⟩) (tb_cons (at_ga (P := fun C => ExcC _ C ∧ PySem.W.kitOne _ (.ref C) _ = some false) (Z.glo (Z.fact 17)) ⟨fExcC_ok (Z.fact 22), fKit_ok (Z.fact 107)⟩) (tb_nil))))))))))))))))))))) (Z.free (Z.fact 64)) (ce_var 0)) ca_nil))))))
  (css_cons (cs_set 1 hN (ce_op opAdd_ok (ce_var 1) (ce_lst (ca_cons (ce_isX tyFalse [] [("LaceError", false), ("InvalidLoad", false), ("InvalidBoxes", false), ("InvalidText", false), ("TooMany", false), ("OverBudget", false), ("InvalidWord", false), ("InvalidLayout", true), ("InvalidBits", false), ("InvalidCell", false), ("InvalidKey", false), ("InvalidBox", false), ("InvalidIndex", false), ("InvalidNumber", false), ("InvalidSize", false), ("InvalidBudget", false), ("UnlikeGrids", false), ("InvalidOperation", false), ("Nothing", false), ("InvalidCommand", false)] (.own _) (pe_glob (v := .ref _) rfl (Z.glo (Z.fact 10)) rfl (by decide)) (fIsG_ok (Z.fact 63)) (tyFalse_ok (fKitB_ok (Z.fact 232))) tb_nil (tb_cons (at_ga (P := fun C => ExcC _ C ∧ PySem.W.kitOne _ (.ref C) _ = some false) (Z.glo (Z.fact 60)) ⟨fExcC_ok (Z.fact 61), fKit_ok (Z.fact 231)⟩) (tb_cons (at_ga (P := fun C => ExcC _ C ∧ PySem.W.kitOne _ (.ref C) _ = some false) (Z.glo (Z.fact 6)) ⟨fExcC_ok (Z.fact 58), fKit_ok (Z.fact 230)⟩) (tb_cons (at_ga (P := fun C => ExcC _ C ∧ PySem.W.kitOne _ (.ref C) _ = some false) (Z.glo (Z.fact 5)) ⟨fExcC_ok (Z.fact 56), fKit_ok (Z.fact 229)⟩) (tb_cons (at_ga (P := fun C => ExcC _ C ∧ PySem.W.kitOne _ (.ref C) _ = some false) (Z.glo (Z.fact 4)) ⟨fExcC_ok (Z.fact 54), fKit_ok (Z.fact 228)⟩) (tb_cons (at_ga (P := fun C => ExcC _ C ∧ PySem.W.kitOne _ (.ref C) _ = some false) (Z.glo (Z.fact 3)) ⟨fExcC_ok (Z.fact 52), fKit_ok (Z.fact 227)⟩) (tb_cons (at_ga (P := fun C => ExcC _ C ∧ PySem.W.kitOne _ (.ref C) _ = some false) (Z.glo (Z.fact 2)) ⟨fExcC_ok (Z.fact 50), fKit_ok (Z.fact 226)⟩) (tb_cons (at_ga (P := fun C => ExcC _ C ∧ PySem.W.kitOne _ (.ref C) _ = some false) (Z.glo (Z.fact 11)) ⟨fExcC_ok (Z.fact 48), fKit_ok (Z.fact 225)⟩) (tb_cons (at_ga (P := fun C => ExcC _ C ∧ PySem.W.kitOne _ (.ref C) _ = some true) (Z.glo (Z.fact 10)) ⟨fExcC_ok (Z.fact 46), fKit_ok (Z.fact 224)⟩) (tb_cons (at_ga (P := fun C => ExcC _ C ∧ PySem.W.kitOne _ (.ref C) _ = some false) (Z.glo (Z.fact 9)) ⟨fExcC_ok (Z.fact 44), fKit_ok (Z.fact 223)⟩) (tb_cons (at_ga (P := fun C => ExcC _ C ∧ PySem.W.kitOne _ (.ref C) _ = some false) (Z.glo (Z.fact 8)) ⟨fExcC_ok (Z.fact 42), fKit_ok (Z.fact 222)⟩) (tb_cons (at_ga (P := fun C => ExcC _ C ∧ PySem.W.kitOne _ (.ref C) _ = some false) (Z.glo (Z.fact 7)) ⟨fExcC_ok (Z.fact 40), fKit_ok (Z.fact 221)⟩) (tb_cons (at_ga (P := fun C => ExcC _ C ∧ PySem.W.kitOne _ (.ref C) _ = some false) (Z.glo (Z.fact 16)) ⟨fExcC_ok (Z.fact 38), fKit_ok (Z.fact 220)⟩) (tb_cons (at_ga (P := fun C => ExcC _ C ∧ PySem.W.kitOne _ (.ref C) _ = some false) (Z.glo (Z.fact 15)) ⟨fExcC_ok (Z.fact 36), fKit_ok (Z.fact 219)⟩) (tb_cons (at_ga (P := fun C => ExcC _ C ∧ PySem.W.kitOne _ (.ref C) _ = some false) (Z.glo (Z.fact 14)) ⟨fExcC_ok (Z.fact 34), fKit_ok (Z.fact 218)⟩) (tb_cons (at_ga (P := fun C => ExcC _ C ∧ PySem.W.kitOne _ (.ref C) _ = some false) (Z.glo (Z.fact 13)) ⟨fExcC_ok (Z.fact 32), fKit_ok (Z.fact 217)⟩) (tb_cons (at_ga (P := fun C => ExcC _ C ∧ PySem.W.kitOne _ (.ref C) _ = some false) (Z.glo (Z.fact 12)) ⟨fExcC_ok (Z.fact 30), fKit_ok (Z.fact 216)⟩) (tb_cons (at_ga (P := fun C => ExcC _ C ∧ PySem.W.kitOne _ (.ref C) _ = some false) (Z.glo (Z.fact 20)) ⟨fExcC_ok (Z.fact 28), fKit_ok (Z.fact 215)⟩) (tb_cons (at_ga (P := fun C => ExcC _ C ∧ PySem.W.kitOne _ (.ref C) _ = some false) (Z.glo (Z.fact 19)) ⟨fExcC_ok (Z.fact 26), fKit_ok (Z.fact 214)⟩) (tb_cons (at_ga (P := fun C => ExcC _ C ∧ PySem.W.kitOne _ (.ref C) _ = some false) (Z.glo (Z.fact 18)) ⟨fExcC_ok (Z.fact 24), fKit_ok (Z.fact 213)⟩) (tb_cons (at_ga (P := fun C => ExcC _ C ∧ PySem.W.kitOne _ (.ref C) _ = some false) (Z.glo (Z.fact 17)) ⟨fExcC_ok (Z.fact 22), fKit_ok (Z.fact 212)⟩) (tb_nil))))))))))))))))))))) (Z.free (Z.fact 64)) (ce_var 0)) (ca_cons (ce_isX tyFalse [] [("LaceError", false), ("InvalidLoad", false), ("InvalidBoxes", false), ("InvalidText", false), ("TooMany", false), ("OverBudget", false), ("InvalidWord", false), ("InvalidLayout", false), ("InvalidBits", true), ("InvalidCell", false), ("InvalidKey", false), ("InvalidBox", false), ("InvalidIndex", false), ("InvalidNumber", false), ("InvalidSize", false), ("InvalidBudget", false), ("UnlikeGrids", false), ("InvalidOperation", false), ("Nothing", false), ("InvalidCommand", false)] (.own _) (pe_glob (v := .ref _) rfl (Z.glo (Z.fact 9)) rfl (by decide)) (fIsG_ok (Z.fact 63)) (tyFalse_ok (fKitB_ok (Z.fact 211))) tb_nil (tb_cons (at_ga (P := fun C => ExcC _ C ∧ PySem.W.kitOne _ (.ref C) _ = some false) (Z.glo (Z.fact 60)) ⟨fExcC_ok (Z.fact 61), fKit_ok (Z.fact 210)⟩) (tb_cons (at_ga (P := fun C => ExcC _ C ∧ PySem.W.kitOne _ (.ref C) _ = some false) (Z.glo (Z.fact 6)) ⟨fExcC_ok (Z.fact 58), fKit_ok (Z.fact 209)⟩) (tb_cons (at_ga (P := fun C => ExcC _ C ∧ PySem.W.kitOne _ (.ref C) _ = some false) (Z.glo (Z.fact 5)) ⟨fExcC_ok (Z.fact 56), fKit_ok (Z.fact 208)⟩) (tb_cons (at_ga (P := fun C => ExcC _ C ∧ PySem.W.kitOne _ (.ref C) _ = some false) (Z.glo (Z.fact 4)) ⟨fExcC_ok (Z.fact 54), fKit_ok (Z.fact 207)⟩) (tb_cons (at_ga (P := fun C => ExcC _ C ∧ PySem.W.kitOne _ (.ref C) _ = some false) (Z.glo (Z.fact 3)) ⟨fExcC_ok (Z.fact 52), fKit_ok (Z.fact 206)⟩) (tb_cons (at_ga (P := fun C => ExcC _ C ∧ PySem.W.kitOne _ (.ref C) _ = some false) (Z.glo (Z.fact 2)) ⟨fExcC_ok (Z.fact 50), fKit_ok (Z.fact 205)⟩) (tb_cons (at_ga (P := fun C => ExcC _ C ∧ PySem.W.kitOne _ (.ref C) _ = some false) (Z.glo (Z.fact 11)) ⟨fExcC_ok (Z.fact 48), fKit_ok (Z.fact 204)⟩) (tb_cons (at_ga (P := fun C => ExcC _ C ∧ PySem.W.kitOne _ (.ref C) _ = some false) (Z.glo (Z.fact 10)) ⟨fExcC_ok (Z.fact 46), fKit_ok (Z.fact 203)⟩) (tb_cons (at_ga (P := fun C => ExcC _ C ∧ PySem.W.kitOne _ (.ref C) _ = some true) (Z.glo (Z.fact 9)) ⟨fExcC_ok (Z.fact 44), fKit_ok (Z.fact 202)⟩) (tb_cons (at_ga (P := fun C => ExcC _ C ∧ PySem.W.kitOne _ (.ref C) _ = some false) (Z.glo (Z.fact 8)) ⟨fExcC_ok (Z.fact 42), fKit_ok (Z.fact 201)⟩) (tb_cons (at_ga (P := fun C => ExcC _ C ∧ PySem.W.kitOne _ (.ref C) _ = some false) (Z.glo (Z.fact 7)) ⟨fExcC_ok (Z.fact 40), fKit_ok (Z.fact 200)⟩) (tb_cons (at_ga (P := fun C => ExcC _ C ∧ PySem.W.kitOne _ (.ref C) _ = some false) (Z.glo (Z.fact 16)) ⟨fExcC_ok (Z.fact 38), fKit_ok (Z.fact 199)⟩) (tb_cons (at_ga (P := fun C => ExcC _ C ∧ PySem.W.kitOne _ (.ref C) _ = some false) (Z.glo (Z.fact 15)) ⟨fExcC_ok (Z.fact 36), fKit_ok (Z.fact 198)⟩) (tb_cons (at_ga (P := fun C => ExcC _ C ∧ PySem.W.kitOne _ (.ref C) _ = some false) (Z.glo (Z.fact 14)) ⟨fExcC_ok (Z.fact 34), fKit_ok (Z.fact 197)⟩) (tb_cons (at_ga (P := fun C => ExcC _ C ∧ PySem.W.kitOne _ (.ref C) _ = some false) (Z.glo (Z.fact 13)) ⟨fExcC_ok (Z.fact 32), fKit_ok (Z.fact 196)⟩) (tb_cons (at_ga (P := fun C => ExcC _ C ∧ PySem.W.kitOne _ (.ref C) _ = some false) (Z.glo (Z.fact 12)) ⟨fExcC_ok (Z.fact 30), fKit_ok (Z.fact 195)⟩) (tb_cons (at_ga (P := fun C => ExcC _ C ∧ PySem.W.kitOne _ (.ref C) _ = some false) (Z.glo (Z.fact 20)) ⟨fExcC_ok (Z.fact 28), fKit_ok (Z.fact 194)⟩) (tb_cons (at_ga (P := fun C => ExcC _ C ∧ PySem.W.kitOne _ (.ref C) _ = some false) (Z.glo (Z.fact 19)) ⟨fExcC_ok (Z.fact 26), fKit_ok (Z.fact 193)⟩) (tb_cons (at_ga (P := fun C => ExcC _ C ∧ PySem.W.kitOne _ (.ref C) _ = some false) (Z.glo (Z.fact 18)) ⟨fExcC_ok (Z.fact 24), fKit_ok (Z.fact 192)⟩) (tb_cons (at_ga (P := fun C => ExcC _ C ∧ PySem.W.kitOne _ (.ref C) _ = some false) (Z.glo (Z.fact 17)) ⟨fExcC_ok (Z.fact 22), fKit_ok (Z.fact 191)⟩) (tb_nil))))))))))))))))))))) (Z.free (Z.fact 64)) (ce_var 0)) (ca_cons (ce_isX tyFalse [] [("LaceError", false), ("InvalidLoad", false), ("InvalidBoxes", false), ("InvalidText", false), ("TooMany", false), ("OverBudget", false), ("InvalidWord", false), ("InvalidLayout", false), ("InvalidBits", false), ("InvalidCell", true), ("InvalidKey", false), ("InvalidBox", false), ("InvalidIndex", false), ("InvalidNumber", false), ("InvalidSize", false), ("InvalidBudget", false), ("UnlikeGrids", false), ("InvalidOperation", false), ("Nothing", false), ("InvalidCommand", false)] (.own _) (pe_glob (v := .ref _) rfl (Z.glo (Z.fact 8)) rfl (by decide)) (fIsG_ok (Z.fact 63)) (tyFalse_ok (fKitB_ok (Z.fact 190))) tb_nil (tb_cons (at_ga (P := fun C => ExcC _ C ∧ PySem.W.kitOne _ (.ref C) _ = some false) (Z.glo (Z.fact 60)) ⟨fExcC_ok (Z.fact 61), fKit_ok (Z.fact 189)⟩) (tb_cons (at_ga (P := fun C => ExcC _ C ∧ PySem.W.kitOne _ (.ref C) _ = some false) (Z.glo (Z.fact 6)) ⟨fExcC_ok (Z.fact 58), fKit_ok (Z.fact 188)⟩) (tb_cons (at_ga (P := fun C => ExcC _ C ∧ PySem.W.kitOne _ (.ref C) _ = some false) (Z.glo (Z.fact 5)) ⟨fExcC_ok (Z.fact 56), fKit_ok (Z.fact 187)⟩) (tb_cons (at_ga (P := fun C => ExcC _ C ∧ PySem.W.kitOne _ (.ref C) _ = some false) (Z.glo (Z.fact 4)) ⟨fExcC_ok (Z.fact 54), fKit_ok (Z.fact 186)⟩) (tb_cons (at_ga (P := fun C => ExcC _ C ∧ PySem.W.kitOne _ (.ref C) _ = some false) (Z.glo (Z.fact 3)) ⟨fExcC_ok (Z.fact 52), fKit_ok (Z.fact 185)⟩) (tb_cons (at_ga (P := fun C => ExcC _ C ∧ PySem.W.kitOne _ (.ref C) _ = some false) (Z.glo (Z.fact 2)) ⟨fExcC_ok (Z.fact 50), fKit_ok (Z.fact 184)⟩) (tb_cons (at_ga (P := fun C => ExcC _ C ∧ PySem.W.kitOne _ (.ref C) _ = some false) (Z.glo (Z.fact 11)) ⟨fExcC_ok (Z.fact 48), fKit_ok (Z.fact 183)⟩) (tb_cons (at_ga (P := fun C => ExcC _ C ∧ PySem.W.kitOne _ (.ref C) _ = some false) (Z.glo (Z.fact 10)) ⟨fExcC_ok (Z.fact 46), fKit_ok (Z.fact 182)⟩) (tb_cons (at_ga (P := fun C => ExcC _ C ∧ PySem.W.kitOne _ (.ref C) _ = some false) (Z.glo (Z.fact 9)) ⟨fExcC_ok (Z.fact 44), fKit_ok (Z.fact 181)⟩) (tb_cons (at_ga (P := fun C => ExcC _ C ∧ PySem.W.kitOne _ (.ref C) _ = some true) (Z.glo (Z.fact 8)) ⟨fExcC_ok (Z.fact 42), fKit_ok (Z.fact 180)⟩) (tb_cons (at_ga (P := fun C => ExcC _ C ∧ PySem.W.kitOne _ (.ref C) _ = some false) (Z.glo (Z.fact 7)) ⟨fExcC_ok (Z.fact 40), fKit_ok (Z.fact 179)⟩) (tb_cons (at_ga (P := fun C => ExcC _ C ∧ PySem.W.kitOne _ (.ref C) _ = some false) (Z.glo (Z.fact 16)) ⟨fExcC_ok (Z.fact 38), fKit_ok (Z.fact 178)⟩) (tb_cons (at_ga (P := fun C => ExcC _ C ∧ PySem.W.kitOne _ (.ref C) _ = some false) (Z.glo (Z.fact 15)) ⟨fExcC_ok (Z.fact 36), fKit_ok (Z.fact 177)⟩) (tb_cons (at_ga (P := fun C => ExcC _ C ∧ PySem.W.kitOne _ (.ref C) _ = some false) (Z.glo (Z.fact 14)) ⟨fExcC_ok (Z.fact 34), fKit_ok (Z.fact 176)⟩) (tb_cons (at_ga (P := fun C => ExcC _ C ∧ PySem.W.kitOne _ (.ref C) _ = some false) (Z.glo (Z.fact 13)) ⟨fExcC_ok (Z.fact 32), fKit_ok (Z.fact 175)⟩) (tb_cons (at_ga (P := fun C => ExcC _ C ∧ PySem.W.kitOne _ (.ref C) _ = some false) (Z.glo (Z.fact 12)) ⟨fExcC_ok (Z.fact 30), fKit_ok (Z.fact 174)⟩) (tb_cons (at_ga (P := fun C => ExcC _ C ∧ PySem.W.kitOne _ (.ref C) _ = some false) (Z.glo (Z.fact 20)) ⟨fExcC_ok (Z.fact 28), fKit_ok (Z.fact 173)⟩) (tb_cons (at_ga (P := fun C => ExcC _ C ∧ PySem.W.kitOne _ (.ref C) _ = some false) (Z.glo (Z.fact 19)) ⟨fExcC_ok (Z.fact 26), fKit_ok (Z.fact 172)⟩) (tb_cons (at_ga (P := fun C => ExcC _ C ∧ PySem.W.kitOne _ (.ref C) _ = some false) (Z.glo (Z.fact 18)) ⟨fExcC_ok (Z.fact 24), fKit_ok (Z.fact 171)⟩) (tb_cons (at_ga (P := fun C => ExcC _ C ∧ PySem.W.kitOne _ (.ref C) _ = some false) (Z.glo (Z.fact 17)) ⟨fExcC_ok (Z.fact 22), fKit_ok (Z.fact 170)⟩) (tb_nil))))))))))))))))))))) (Z.free (Z.fact 64)) (ce_var 0)) ca_nil))))))
  (css_cons (cs_set 1 hN (ce_op opAdd_ok (ce_var 1) (ce_lst (ca_cons (ce_isX tyFalse [] [("LaceError", false), ("InvalidLoad", false), ("InvalidBoxes", false), ("InvalidText", false), ("TooMany", false), ("OverBudget", false), ("InvalidWord", false), ("InvalidLayout", false), ("InvalidBits", false), ("InvalidCell", false), ("InvalidKey", true), ("InvalidBox", false), ("InvalidIndex", false), ("InvalidNumber", false), ("InvalidSize", false), ("InvalidBudget", false), ("UnlikeGrids", false), ("InvalidOperation", false), ("Nothing", false), ("InvalidCommand", false)] (.own _) (pe_glob (v := .ref _) rfl (Z.glo (Z.fact 7)) rfl (by decide)) (fIsG_ok (Z.fact 63)) (tyFalse_ok (fKitB_ok (Z.fact 295))) tb_nil (tb_cons (at_ga (P := fun C => ExcC _ C ∧ PySem.W.kitOne _ (.ref C) _ = some false) (Z.glo (Z.fact 60)) ⟨fExcC_ok (Z.fact 61), fKit_ok (Z.fact 294)⟩) (tb_cons (at_ga (P := fun C => ExcC _ C ∧ PySem.W.kitOne _ (.ref C) _ = some false) (Z.glo (Z.fact 6)) ⟨fExcC_ok (Z.fact 58), fKit_ok (Z.fact 293)⟩) (tb_cons (at_ga (P := fun C => ExcC _ C ∧ PySem.W.kitOne _ (.ref C) _ = some false) (Z.glo (Z.fact 5)) ⟨fExcC_ok (Z.fact 56), fKit_ok (Z.fact 292)⟩) (tb_cons (at_ga (P := fun C => ExcC _ C ∧ PySem.W.kitOne _ (.ref C) _ = some false) (Z.glo (Z.fact 4)) ⟨fExcC_ok (Z.fact 54), fKit_ok (Z.fact 291)⟩) (tb_cons (at_ga (P := fun C => ExcC _ C ∧ PySem.W.kitOne _ (.ref C) _ = some false) (Z.glo (Z.fact 3)) ⟨fExcC_ok (Z.fact 52), fKit_ok (Z.fact 290)⟩) (tb_cons (at_ga (P := fun C => ExcC _ C ∧ PySem.W.kitOne _ (.ref C) _ = some false) (Z.glo (Z.fact 2)) ⟨fExcC_ok (Z.fact 50), fKit_ok (Z.fact 289)⟩) (tb_cons (at_ga (P := fun C => ExcC _ C ∧ PySem.W.kitOne _ (.ref C) _ = some false) (Z.glo (Z.fact 11)) ⟨fExcC_ok (Z.fact 48), fKit_ok (Z.fact 288)⟩) (tb_cons (at_ga (P := fun C => ExcC _ C ∧ PySem.W.kitOne _ (.ref C) _ = some false) (Z.glo (Z.fact 10)) ⟨fExcC_ok (Z.fact 46), fKit_ok (Z.fact 287)⟩) (tb_cons (at_ga (P := fun C => ExcC _ C ∧ PySem.W.kitOne _ (.ref C) _ = some false) (Z.glo (Z.fact 9)) ⟨fExcC_ok (Z.fact 44), fKit_ok (Z.fact 286)⟩) (tb_cons (at_ga (P := fun C => ExcC _ C ∧ PySem.W.kitOne _ (.ref C) _ = some false) (Z.glo (Z.fact 8)) ⟨fExcC_ok (Z.fact 42), fKit_ok (Z.fact 285)⟩) (tb_cons (at_ga (P := fun C => ExcC _ C ∧ PySem.W.kitOne _ (.ref C) _ = some true) (Z.glo (Z.fact 7)) ⟨fExcC_ok (Z.fact 40), fKit_ok (Z.fact 284)⟩) (tb_cons (at_ga (P := fun C => ExcC _ C ∧ PySem.W.kitOne _ (.ref C) _ = some false) (Z.glo (Z.fact 16)) ⟨fExcC_ok (Z.fact 38), fKit_ok (Z.fact 283)⟩) (tb_cons (at_ga (P := fun C => ExcC _ C ∧ PySem.W.kitOne _ (.ref C) _ = some false) (Z.glo (Z.fact 15)) ⟨fExcC_ok (Z.fact 36), fKit_ok (Z.fact 282)⟩) (tb_cons (at_ga (P := fun C => ExcC _ C ∧ PySem.W.kitOne _ (.ref C) _ = some false) (Z.glo (Z.fact 14)) ⟨fExcC_ok (Z.fact 34), fKit_ok (Z.fact 281)⟩) (tb_cons (at_ga (P := fun C => ExcC _ C ∧ PySem.W.kitOne _ (.ref C) _ = some false) (Z.glo (Z.fact 13)) ⟨fExcC_ok (Z.fact 32), fKit_ok (Z.fact 280)⟩) (tb_cons (at_ga (P := fun C => ExcC _ C ∧ PySem.W.kitOne _ (.ref C) _ = some false) (Z.glo (Z.fact 12)) ⟨fExcC_ok (Z.fact 30), fKit_ok (Z.fact 279)⟩) (tb_cons (at_ga (P := fun C => ExcC _ C ∧ PySem.W.kitOne _ (.ref C) _ = some false) (Z.glo (Z.fact 20)) ⟨fExcC_ok (Z.fact 28), fKit_ok (Z.fact 278)⟩) (tb_cons (at_ga (P := fun C => ExcC _ C ∧ PySem.W.kitOne _ (.ref C) _ = some false) (Z.glo (Z.fact 19)) ⟨fExcC_ok (Z.fact 26), fKit_ok (Z.fact 277)⟩) (tb_cons (at_ga (P := fun C => ExcC _ C ∧ PySem.W.kitOne _ (.ref C) _ = some false) (Z.glo (Z.fact 18)) ⟨fExcC_ok (Z.fact 24), fKit_ok (Z.fact 276)⟩) (tb_cons (at_ga (P := fun C => ExcC _ C ∧ PySem.W.kitOne _ (.ref C) _ = some false) (Z.glo (Z.fact 17)) ⟨fExcC_ok (Z.fact 22), fKit_ok (Z.fact 275)⟩) (tb_nil))))))))))))))))))))) (Z.free (Z.fact 64)) (ce_var 0)) (ca_cons (ce_isX tyFalse [] [("LaceError", false), ("InvalidLoad", false), ("InvalidBoxes", false), ("InvalidText", false), ("TooMany", false), ("OverBudget", false), ("InvalidWord", false), ("InvalidLayout", false), ("InvalidBits", false), ("InvalidCell", false), ("InvalidKey", false), ("InvalidBox", true), ("InvalidIndex", false), ("InvalidNumber", false), ("InvalidSize", false), ("InvalidBudget", false), ("UnlikeGrids", false), ("InvalidOperation", false), ("Nothing", false), ("InvalidCommand", false)] (.own _) (pe_glob (v := .ref _) rfl (Z.glo (Z.fact 16)) rfl (by decide)) (fIsG_ok (Z.fact 63)) (tyFalse_ok (fKitB_ok (Z.fact 274))) tb_nil (tb_cons (at_ga (P := fun C => ExcC _ C ∧ PySem.W.kitOne _ (.ref C) _ = some false) (Z.glo (Z.fact 60)) ⟨fExcC_ok (Z.fact 61), fKit_ok (Z.fact 273)⟩) (tb_cons (at_ga (P := fun C => ExcC _ C ∧ PySem.W.kitOne _ (.ref C) _ = some false) (Z.glo (Z.fact 6)) ⟨fExcC_ok (Z.fact 58), fKit_ok (Z.fact 272)⟩) (tb_cons (at_ga (P := fun C => ExcC _ C ∧ PySem.W.kitOne _ (.ref C) _ = some false) (Z.glo (Z.fact 5)) ⟨fExcC_ok (Z.fact 56), fKit_ok (Z.fact 271)⟩) (tb_cons (at_ga (P := fun C => ExcC _ C ∧ PySem.W.kitOne _ (.ref C) _ = some false) (Z.glo (Z.fact 4)) ⟨fExcC_ok (Z.fact 54), fKit_ok (Z.fact 270)⟩) (tb_cons (at_ga (P := fun C => ExcC _ C ∧ PySem.W.kitOne _ (.ref C) _ = some false) (Z.glo (Z.fact 3)) ⟨fExcC_ok (Z.fact 52), fKit_ok (Z.fact 269)⟩) (tb_cons (at_ga (P := fun C => ExcC _ C ∧ PySem.W.kitOne _ (.ref C) _ = some false) (Z.glo (Z.fact 2)) ⟨fExcC_ok (Z.fact 50), fKit_ok (Z.fact 268)⟩) (tb_cons (at_ga (P := fun C => ExcC _ C ∧ PySem.W.kitOne _ (.ref C) _ = some false) (Z.glo (Z.fact 11)) ⟨fExcC_ok (Z.fact 48), fKit_ok (Z.fact 267)⟩) (tb_cons (at_ga (P := fun C => ExcC _ C ∧ PySem.W.kitOne _ (.ref C) _ = some false) (Z.glo (Z.fact 10)) ⟨fExcC_ok (Z.fact 46), fKit_ok (Z.fact 266)⟩) (tb_cons (at_ga (P := fun C => ExcC _ C ∧ PySem.W.kitOne _ (.ref C) _ = some false) (Z.glo (Z.fact 9)) ⟨fExcC_ok (Z.fact 44), fKit_ok (Z.fact 265)⟩) (tb_cons (at_ga (P := fun C => ExcC _ C ∧ PySem.W.kitOne _ (.ref C) _ = some false) (Z.glo (Z.fact 8)) ⟨fExcC_ok (Z.fact 42), fKit_ok (Z.fact 264)⟩) (tb_cons (at_ga (P := fun C => ExcC _ C ∧ PySem.W.kitOne _ (.ref C) _ = some false) (Z.glo (Z.fact 7)) ⟨fExcC_ok (Z.fact 40), fKit_ok (Z.fact 263)⟩) (tb_cons (at_ga (P := fun C => ExcC _ C ∧ PySem.W.kitOne _ (.ref C) _ = some true) (Z.glo (Z.fact 16)) ⟨fExcC_ok (Z.fact 38), fKit_ok (Z.fact 262)⟩) (tb_cons (at_ga (P := fun C => ExcC _ C ∧ PySem.W.kitOne _ (.ref C) _ = some false) (Z.glo (Z.fact 15)) ⟨fExcC_ok (Z.fact 36), fKit_ok (Z.fact 261)⟩) (tb_cons (at_ga (P := fun C => ExcC _ C ∧ PySem.W.kitOne _ (.ref C) _ = some false) (Z.glo (Z.fact 14)) ⟨fExcC_ok (Z.fact 34), fKit_ok (Z.fact 260)⟩) (tb_cons (at_ga (P := fun C => ExcC _ C ∧ PySem.W.kitOne _ (.ref C) _ = some false) (Z.glo (Z.fact 13)) ⟨fExcC_ok (Z.fact 32), fKit_ok (Z.fact 259)⟩) (tb_cons (at_ga (P := fun C => ExcC _ C ∧ PySem.W.kitOne _ (.ref C) _ = some false) (Z.glo (Z.fact 12)) ⟨fExcC_ok (Z.fact 30), fKit_ok (Z.fact 258)⟩) (tb_cons (at_ga (P := fun C => ExcC _ C ∧ PySem.W.kitOne _ (.ref C) _ = some false) (Z.glo (Z.fact 20)) ⟨fExcC_ok (Z.fact 28), fKit_ok (Z.fact 257)⟩) (tb_cons (at_ga (P := fun C => ExcC _ C ∧ PySem.W.kitOne _ (.ref C) _ = some false) (Z.glo (Z.fact 19)) ⟨fExcC_ok (Z.fact 26), fKit_ok (Z.fact 256)⟩) (tb_cons (at_ga (P := fun C => ExcC _ C ∧ PySem.W.kitOne _ (.ref C) _ = some false) (Z.glo (Z.fact 18)) ⟨fExcC_ok (Z.fact 24), fKit_ok (Z.fact 255)⟩) (tb_cons (at_ga (P := fun C => ExcC _ C ∧ PySem.W.kitOne _ (.ref C) _ = some false) (Z.glo (Z.fact 17)) ⟨fExcC_ok (Z.fact 22), fKit_ok (Z.fact 254)⟩) (tb_nil))))))))))))))))))))) (Z.free (Z.fact 64)) (ce_var 0)) (ca_cons (ce_isX tyFalse [] [("LaceError", false), ("InvalidLoad", false), ("InvalidBoxes", false), ("InvalidText", false), ("TooMany", false), ("OverBudget", false), ("InvalidWord", false), ("InvalidLayout", false), ("InvalidBits", false), ("InvalidCell", false), ("InvalidKey", false), ("InvalidBox", false), ("InvalidIndex", true), ("InvalidNumber", false), ("InvalidSize", false), ("InvalidBudget", false), ("UnlikeGrids", false), ("InvalidOperation", false), ("Nothing", false), ("InvalidCommand", false)] (.own _) (pe_glob (v := .ref _) rfl (Z.glo (Z.fact 15)) rfl (by decide)) (fIsG_ok (Z.fact 63)) (tyFalse_ok (fKitB_ok (Z.fact 253))) tb_nil (tb_cons (at_ga (P := fun C => ExcC _ C ∧ PySem.W.kitOne _ (.ref C) _ = some false) (Z.glo (Z.fact 60)) ⟨fExcC_ok (Z.fact 61), fKit_ok (Z.fact 252)⟩) (tb_cons (at_ga (P := fun C => ExcC _ C ∧ PySem.W.kitOne _ (.ref C) _ = some false) (Z.glo (Z.fact 6)) ⟨fExcC_ok (Z.fact 58), fKit_ok (Z.fact 251)⟩) (tb_cons (at_ga (P := fun C => ExcC _ C ∧ PySem.W.kitOne _ (.ref C) _ = some false) (Z.glo (Z.fact 5)) ⟨fExcC_ok (Z.fact 56), fKit_ok (Z.fact 250)⟩) (tb_cons (at_ga (P := fun C => ExcC _ C ∧ PySem.W.kitOne _ (.ref C) _ = some false) (Z.glo (Z.fact 4)) ⟨fExcC_ok (Z.fact 54), fKit_ok (Z.fact 249)⟩) (tb_cons (at_ga (P := fun C => ExcC _ C ∧ PySem.W.kitOne _ (.ref C) _ = some false) (Z.glo (Z.fact 3)) ⟨fExcC_ok (Z.fact 52), fKit_ok (Z.fact 248)⟩) (tb_cons (at_ga (P := fun C => ExcC _ C ∧ PySem.W.kitOne _ (.ref C) _ = some false) (Z.glo (Z.fact 2)) ⟨fExcC_ok (Z.fact 50), fKit_ok (Z.fact 247)⟩) (tb_cons (at_ga (P := fun C => ExcC _ C ∧ PySem.W.kitOne _ (.ref C) _ = some false) (Z.glo (Z.fact 11)) ⟨fExcC_ok (Z.fact 48), fKit_ok (Z.fact 246)⟩) (tb_cons (at_ga (P := fun C => ExcC _ C ∧ PySem.W.kitOne _ (.ref C) _ = some false) (Z.glo (Z.fact 10)) ⟨fExcC_ok (Z.fact 46), fKit_ok (Z.fact 245)⟩) (tb_cons (at_ga (P := fun C => ExcC _ C ∧ PySem.W.kitOne _ (.ref C) _ = some false) (Z.glo (Z.fact 9)) ⟨fExcC_ok (Z.fact 44), fKit_ok (Z.fact 244)⟩) (tb_cons (at_ga (P := fun C => ExcC _ C ∧ PySem.W.kitOne _ (.ref C) _ = some false) (Z.glo (Z.fact 8)) ⟨fExcC_ok (Z.fact 42), fKit_ok (Z.fact 243)⟩) (tb_cons (at_ga (P := fun C => ExcC _ C ∧ PySem.W.kitOne _ (.ref C) _ = some false) (Z.glo (Z.fact 7)) ⟨fExcC_ok (Z.fact 40), fKit_ok (Z.fact 242)⟩) (tb_cons (at_ga (P := fun C => ExcC _ C ∧ PySem.W.kitOne _ (.ref C) _ = some false) (Z.glo (Z.fact 16)) ⟨fExcC_ok (Z.fact 38), fKit_ok (Z.fact 241)⟩) (tb_cons (at_ga (P := fun C => ExcC _ C ∧ PySem.W.kitOne _ (.ref C) _ = some true) (Z.glo (Z.fact 15)) ⟨fExcC_ok (Z.fact 36), fKit_ok (Z.fact 240)⟩) (tb_cons (at_ga (P := fun C => ExcC _ C ∧ PySem.W.kitOne _ (.ref C) _ = some false) (Z.glo (Z.fact 14)) ⟨fExcC_ok (Z.fact 34), fKit_ok (Z.fact 239)⟩) (tb_cons (at_ga (P := fun C => ExcC _ C ∧ PySem.W.kitOne _ (.ref C) _ = some false) (Z.glo (Z.fact 13)) ⟨fExcC_ok (Z.fact 32), fKit_ok (Z.fact 238)⟩) (tb_cons (at_ga (P := fun C => ExcC _ C ∧ PySem.W.kitOne _ (.ref C) _ = some false) (Z.glo (Z.fact 12)) ⟨fExcC_ok (Z.fact 30), fKit_ok (Z.fact 237)⟩) (tb_cons (at_ga (P := fun C => ExcC _ C ∧ PySem.W.kitOne _ (.ref C) _ = some false) (Z.glo (Z.fact 20)) ⟨fExcC_ok (Z.fact 28), fKit_ok (Z.fact 236)⟩) (tb_cons (at_ga (P := fun C => ExcC _ C ∧ PySem.W.kitOne _ (.ref C) _ = some false) (Z.glo (Z.fact 19)) ⟨fExcC_ok (Z.fact 26), fKit_ok (Z.fact 235)⟩) (tb_cons (at_ga (P := fun C => ExcC _ C ∧ PySem.W.kitOne _ (.ref C) _ = some false) (Z.glo (Z.fact 18)) ⟨fExcC_ok (Z.fact 24), fKit_ok (Z.fact 234)⟩) (tb_cons (at_ga (P := fun C => ExcC _ C ∧ PySem.W.kitOne _ (.ref C) _ = some false) (Z.glo (Z.fact 17)) ⟨fExcC_ok (Z.fact 22), fKit_ok (Z.fact 233)⟩) (tb_nil))))))))))))))))))))) (Z.free (Z.fact 64)) (ce_var 0)) ca_nil))))))
  (css_cons (cs_set 1 hN (ce_op opAdd_ok (ce_var 1) (ce_lst (ca_cons (ce_isX tyFalse [] [("LaceError", false), ("InvalidLoad", false), ("InvalidBoxes", false), ("InvalidText", false), ("TooMany", false), ("OverBudget", false), ("InvalidWord", false), ("InvalidLayout", false), ("InvalidBits", false), ("InvalidCell", false), ("InvalidKey", false), ("InvalidBox", false), ("InvalidIndex", false), ("InvalidNumber", true), ("InvalidSize", false), ("InvalidBudget", false), ("UnlikeGrids", false), ("InvalidOperation", false), ("Nothing", false), ("InvalidCommand", false)] (.own _) (pe_glob (v := .ref _) rfl (Z.glo (Z.fact 14)) rfl (by decide)) (fIsG_ok (Z.fact 63)) (tyFalse_ok (fKitB_ok (Z.fact 358))) tb_nil (tb_cons (at_ga (P := fun C => ExcC _ C ∧ PySem.W.kitOne _ (.ref C) _ = some false) (Z.glo (Z.fact 60)) ⟨fExcC_ok (Z.fact 61), fKit_ok (Z.fact 357)⟩) (tb_cons (at_ga (P := fun C => ExcC _ C ∧ PySem.W.kitOne _ (.ref C) _ = some false) (Z.glo (Z.fact 6)) ⟨fExcC_ok (Z.fact 58), fKit_ok (Z.fact 356)⟩) (tb_cons (at_ga (P := fun C => ExcC _ C ∧ PySem.W.kitOne _ (.ref C) _ = some false) (Z.glo (Z.fact 5)) ⟨fExcC_ok (Z.fact 56), fKit_ok (Z.fact 355)⟩) (tb_cons (at_ga (P := fun C => ExcC _ C ∧ PySem.W.kitOne _ (.ref C) _ = some false) (Z.glo (Z.fact 4)) ⟨fExcC_ok (Z.fact 54), fKit_ok (Z.fact 354)⟩) (tb_cons (at_ga (P := fun C => ExcC _ C ∧ PySem.W.kitOne _ (.ref C) _ = some false) (Z.glo (Z.fact 3)) ⟨fExcC_ok (Z.fact 52), fKit_ok (Z.fact 353)⟩) (tb_cons (at_ga (P := fun C => ExcC _ C ∧ PySem.W.kitOne _ (.ref C) _ = some false) (Z.glo (Z.fact 2)) ⟨fExcC_ok (Z.fact 50), fKit_ok (Z.fact 352)⟩) (tb_cons (at_ga (P := fun C => ExcC _ C ∧ PySem.W.kitOne _ (.ref C) _ = some false) (Z.glo (Z.fact 11)) ⟨fExcC_ok (Z.fact 48), fKit_ok (Z.fact 351)⟩) (tb_cons (at_ga (P := fun C => ExcC _ C ∧ PySem.W.kitOne _ (.ref C) _ = some false) (Z.glo (Z.fact 10)) ⟨fExcC_ok (Z.fact 46), fKit_ok (Z.fact 350)⟩) (tb_cons (at_ga (P := fun C => ExcC _ C ∧ PySem.W.kitOne _ (.ref C) _ = some false) (Z.glo (Z.fact 9)) ⟨fExcC_ok (Z.fact 44), fKit_ok (Z.fact 349)⟩) (tb_cons (at_ga (P := fun C => ExcC _ C ∧ PySem.W.kitOne _ (.ref C) _ = some false) (Z.glo (Z.fact 8)) ⟨fExcC_ok (Z.fact 42), fKit_ok (Z.fact 348)⟩) (tb_cons (at_ga (P := fun C => ExcC _ C ∧ PySem.W.kitOne _ (.ref C) _ = some false) (Z.glo (Z.fact 7)) ⟨fExcC_ok (Z.fact 40), fKit_ok (Z.fact 347)⟩) (tb_cons (at_ga (P := fun C => ExcC _ C ∧ PySem.W.kitOne _ (.ref C) _ = some false) (Z.glo (Z.fact 16)) ⟨fExcC_ok (Z.fact 38), fKit_ok (Z.fact 346)⟩) (tb_cons (at_ga (P := fun C => ExcC _ C ∧ PySem.W.kitOne _ (.ref C) _ = some false) (Z.glo (Z.fact 15)) ⟨fExcC_ok (Z.fact 36), fKit_ok (Z.fact 345)⟩) (tb_cons (at_ga (P := fun C => ExcC _ C ∧ PySem.W.kitOne _ (.ref C) _ = some true) (Z.glo (Z.fact 14)) ⟨fExcC_ok (Z.fact 34), fKit_ok (Z.fact 344)⟩) (tb_cons (at_ga (P := fun C => ExcC _ C ∧ PySem.W.kitOne _ (.ref C) _ = some false) (Z.glo (Z.fact 13)) ⟨fExcC_ok (Z.fact 32), fKit_ok (Z.fact 343)⟩) (tb_cons (at_ga (P := fun C => ExcC _ C ∧ PySem.W.kitOne _ (.ref C) _ = some false) (Z.glo (Z.fact 12)) ⟨fExcC_ok (Z.fact 30), fKit_ok (Z.fact 342)⟩) (tb_cons (at_ga (P := fun C => ExcC _ C ∧ PySem.W.kitOne _ (.ref C) _ = some false) (Z.glo (Z.fact 20)) ⟨fExcC_ok (Z.fact 28), fKit_ok (Z.fact 341)⟩) (tb_cons (at_ga (P := fun C => ExcC _ C ∧ PySem.W.kitOne _ (.ref C) _ = some false) (Z.glo (Z.fact 19)) ⟨fExcC_ok (Z.fact 26), fKit_ok (Z.fact 340)⟩) (tb_cons (at_ga (P := fun C => ExcC _ C ∧ PySem.W.kitOne _ (.ref C) _ = some false) (Z.glo (Z.fact 18)) ⟨fExcC_ok (Z.fact 24), fKit_ok (Z.fact 339)⟩) (tb_cons (at_ga (P := fun C => ExcC _ C ∧ PySem.W.kitOne _ (.ref C) _ = some false) (Z.glo (Z.fact 17)) ⟨fExcC_ok (Z.fact 22), fKit_ok (Z.fact 338)⟩) (tb_nil))))))))))))))))))))) (Z.free (Z.fact 64)) (ce_var 0)) (ca_cons (ce_isX tyFalse [] [("LaceError", false), ("InvalidLoad", false), ("InvalidBoxes", false), ("InvalidText", false), ("TooMany", false), ("OverBudget", false), ("InvalidWord", false), ("InvalidLayout", false), ("InvalidBits", false), ("InvalidCell", false), ("InvalidKey", false), ("InvalidBox", false), ("InvalidIndex", false), ("InvalidNumber", false), ("InvalidSize", true), ("InvalidBudget", false), ("UnlikeGrids", false), ("InvalidOperation", false), ("Nothing", false), ("InvalidCommand", false)] (.own _) (pe_glob (v := .ref _) rfl (Z.glo (Z.fact 13)) rfl (by decide)) (fIsG_ok (Z.fact 63)) (tyFalse_ok (fKitB_ok (Z.fact 337))) tb_nil (tb_cons (at_ga (P := fun C => ExcC _ C ∧ PySem.W.kitOne _ (.ref C) _ = some false) (Z.glo (Z.fact 60)) ⟨fExcC_ok (Z.fact 61), fKit_ok (Z.fact 336)⟩) (tb_cons (at_ga (P := fun C => ExcC _ C ∧ PySem.W.kitOne _ (.ref C) _ = some false) (Z.glo (Z.fact 6)) ⟨fExcC_ok (Z.fact 58), fKit_ok (Z.fact 335)⟩) (tb_cons (at_ga (P := fun C => ExcC _ C ∧ PySem.W.kitOne _ (.ref C) _ = some false) (Z.glo (Z.fact 5)) ⟨fExcC_ok (Z.fact 56), fKit_ok (Z.fact 334)⟩) (tb_cons (at_ga (P := fun C => ExcC _ C ∧ PySem.W.kitOne _ (.ref C) _ = some false) (Z.glo (Z.fact 4)) ⟨fExcC_ok (Z.fact 54), fKit_ok (Z.fact 333)⟩) (tb_cons (at_ga (P := fun C => ExcC _ C ∧ PySem.W.kitOne _ (.ref C) _ = some false) (Z.glo (Z.fact 3)) ⟨fExcC_ok (Z.fact 52), fKit_ok (Z.fact 332)⟩) (tb_cons (at_ga (P := fun C => ExcC _ C ∧ PySem.W.kitOne _ (.ref C) _ = some false) (Z.glo (Z.fact 2)) ⟨fExcC_ok (Z.fact 50), fKit_ok (Z.fact 331)⟩) (tb_cons (at_ga (P := fun C => ExcC _ C ∧ PySem.W.kitOne _ (.ref C) _ = some false) (Z.glo (Z.fact 11)) ⟨fExcC_ok (Z.fact 48), fKit_ok (Z.fact 330)⟩) (tb_cons (at_ga (P := fun C => ExcC _ C ∧ PySem.W.kitOne _ (.ref C) _ = some false) (Z.glo (Z.fact 10)) ⟨fExcC_ok (Z.fact 46), fKit_ok (Z.fact 329)⟩) (tb_cons (at_ga (P := fun C => ExcC _ C ∧ PySem.W.kitOne _ (.ref C) _ = some false) (Z.glo (Z.fact 9)) ⟨fExcC_ok (Z.fact 44), fKit_ok (Z.fact 328)⟩) (tb_cons (at_ga (P := fun C => ExcC _ C ∧ PySem.W.kitOne _ (.ref C) _ = some false) (Z.glo (Z.fact 8)) ⟨fExcC_ok (Z.fact 42), fKit_ok (Z.fact 327)⟩) (tb_cons (at_ga (P := fun C => ExcC _ C ∧ PySem.W.kitOne _ (.ref C) _ = some false) (Z.glo (Z.fact 7)) ⟨fExcC_ok (Z.fact 40), fKit_ok (Z.fact 326)⟩) (tb_cons (at_ga (P := fun C => ExcC _ C ∧ PySem.W.kitOne _ (.ref C) _ = some false) (Z.glo (Z.fact 16)) ⟨fExcC_ok (Z.fact 38), fKit_ok (Z.fact 325)⟩) (tb_cons (at_ga (P := fun C => ExcC _ C ∧ PySem.W.kitOne _ (.ref C) _ = some false) (Z.glo (Z.fact 15)) ⟨fExcC_ok (Z.fact 36), fKit_ok (Z.fact 324)⟩) (tb_cons (at_ga (P := fun C => ExcC _ C ∧ PySem.W.kitOne _ (.ref C) _ = some false) (Z.glo (Z.fact 14)) ⟨fExcC_ok (Z.fact 34), fKit_ok (Z.fact 323)⟩) (tb_cons (at_ga (P := fun C => ExcC _ C ∧ PySem.W.kitOne _ (.ref C) _ = some true) (Z.glo (Z.fact 13)) ⟨fExcC_ok (Z.fact 32), fKit_ok (Z.fact 322)⟩) (tb_cons (at_ga (P := fun C => ExcC _ C ∧ PySem.W.kitOne _ (.ref C) _ = some false) (Z.glo (Z.fact 12)) ⟨fExcC_ok (Z.fact 30), fKit_ok (Z.fact 321)⟩) (tb_cons (at_ga (P := fun C => ExcC _ C ∧ PySem.W.kitOne _ (.ref C) _ = some false) (Z.glo (Z.fact 20)) ⟨fExcC_ok (Z.fact 28), fKit_ok (Z.fact 320)⟩) (tb_cons (at_ga (P := fun C => ExcC _ C ∧ PySem.W.kitOne _ (.ref C) _ = some false) (Z.glo (Z.fact 19)) ⟨fExcC_ok (Z.fact 26), fKit_ok (Z.fact 319)⟩) (tb_cons (at_ga (P := fun C => ExcC _ C ∧ PySem.W.kitOne _ (.ref C) _ = some false) (Z.glo (Z.fact 18)) ⟨fExcC_ok (Z.fact 24), fKit_ok (Z.fact 318)⟩) (tb_cons (at_ga (P := fun C => ExcC _ C ∧ PySem.W.kitOne _ (.ref C) _ = some false) (Z.glo (Z.fact 17)) ⟨fExcC_ok (Z.fact 22), fKit_ok (Z.fact 317)⟩) (tb_nil))))))))))))))))))))) (Z.free (Z.fact 64)) (ce_var 0)) (ca_cons (ce_isX tyFalse [] [("LaceError", false), ("InvalidLoad", false), ("InvalidBoxes", false), ("InvalidText", false), ("TooMany", false), ("OverBudget", false), ("InvalidWord", false), ("InvalidLayout", false), ("InvalidBits", false), ("InvalidCell", false), ("InvalidKey", false), ("InvalidBox", false), ("InvalidIndex", false), ("InvalidNumber", false), ("InvalidSize", false), ("InvalidBudget", true), ("UnlikeGrids", false), ("InvalidOperation", false), ("Nothing", false), ("InvalidCommand", false)] (.own _) (pe_glob (v := .ref _) rfl (Z.glo (Z.fact 12)) rfl (by decide)) (fIsG_ok (Z.fact 63)) (tyFalse_ok (fKitB_ok (Z.fact 316))) tb_nil (tb_cons (at_ga (P := fun C => ExcC _ C ∧ PySem.W.kitOne _ (.ref C) _ = some false) (Z.glo (Z.fact 60)) ⟨fExcC_ok (Z.fact 61), fKit_ok (Z.fact 315)⟩) (tb_cons (at_ga (P := fun C => ExcC _ C ∧ PySem.W.kitOne _ (.ref C) _ = some false) (Z.glo (Z.fact 6)) ⟨fExcC_ok (Z.fact 58), fKit_ok (Z.fact 314)⟩) (tb_cons (at_ga (P := fun C => ExcC _ C ∧ PySem.W.kitOne _ (.ref C) _ = some false) (Z.glo (Z.fact 5)) ⟨fExcC_ok (Z.fact 56), fKit_ok (Z.fact 313)⟩) (tb_cons (at_ga (P := fun C => ExcC _ C ∧ PySem.W.kitOne _ (.ref C) _ = some false) (Z.glo (Z.fact 4)) ⟨fExcC_ok (Z.fact 54), fKit_ok (Z.fact 312)⟩) (tb_cons (at_ga (P := fun C => ExcC _ C ∧ PySem.W.kitOne _ (.ref C) _ = some false) (Z.glo (Z.fact 3)) ⟨fExcC_ok (Z.fact 52), fKit_ok (Z.fact 311)⟩) (tb_cons (at_ga (P := fun C => ExcC _ C ∧ PySem.W.kitOne _ (.ref C) _ = some false) (Z.glo (Z.fact 2)) ⟨fExcC_ok (Z.fact 50), fKit_ok (Z.fact 310)⟩) (tb_cons (at_ga (P := fun C => ExcC _ C ∧ PySem.W.kitOne _ (.ref C) _ = some false) (Z.glo (Z.fact 11)) ⟨fExcC_ok (Z.fact 48), fKit_ok (Z.fact 309)⟩) (tb_cons (at_ga (P := fun C => ExcC _ C ∧ PySem.W.kitOne _ (.ref C) _ = some false) (Z.glo (Z.fact 10)) ⟨fExcC_ok (Z.fact 46), fKit_ok (Z.fact 308)⟩) (tb_cons (at_ga (P := fun C => ExcC _ C ∧ PySem.W.kitOne _ (.ref C) _ = some false) (Z.glo (Z.fact 9)) ⟨fExcC_ok (Z.fact 44), fKit_ok (Z.fact 307)⟩) (tb_cons (at_ga (P := fun C => ExcC _ C ∧ PySem.W.kitOne _ (.ref C) _ = some false) (Z.glo (Z.fact 8)) ⟨fExcC_ok (Z.fact 42), fKit_ok (Z.fact 306)⟩) (tb_cons (at_ga (P := fun C => ExcC _ C ∧ PySem.W.kitOne _ (.ref C) _ = some false) (Z.glo (Z.fact 7)) ⟨fExcC_ok (Z.fact 40), fKit_ok (Z.fact 305)⟩) (tb_cons (at_ga (P := fun C => ExcC _ C ∧ PySem.W.kitOne _ (.ref C) _ = some false) (Z.glo (Z.fact 16)) ⟨fExcC_ok (Z.fact 38), fKit_ok (Z.fact 304)⟩) (tb_cons (at_ga (P := fun C => ExcC _ C ∧ PySem.W.kitOne _ (.ref C) _ = some false) (Z.glo (Z.fact 15)) ⟨fExcC_ok (Z.fact 36), fKit_ok (Z.fact 303)⟩) (tb_cons (at_ga (P := fun C => ExcC _ C ∧ PySem.W.kitOne _ (.ref C) _ = some false) (Z.glo (Z.fact 14)) ⟨fExcC_ok (Z.fact 34), fKit_ok (Z.fact 302)⟩) (tb_cons (at_ga (P := fun C => ExcC _ C ∧ PySem.W.kitOne _ (.ref C) _ = some false) (Z.glo (Z.fact 13)) ⟨fExcC_ok (Z.fact 32), fKit_ok (Z.fact 301)⟩) (tb_cons (at_ga (P := fun C => ExcC _ C ∧ PySem.W.kitOne _ (.ref C) _ = some true) (Z.glo (Z.fact 12)) ⟨fExcC_ok (Z.fact 30), fKit_ok (Z.fact 300)⟩) (tb_cons (at_ga (P := fun C => ExcC _ C ∧ PySem.W.kitOne _ (.ref C) _ = some false) (Z.glo (Z.fact 20)) ⟨fExcC_ok (Z.fact 28), fKit_ok (Z.fact 299)⟩) (tb_cons (at_ga (P := fun C => ExcC _ C ∧ PySem.W.kitOne _ (.ref C) _ = some false) (Z.glo (Z.fact 19)) ⟨fExcC_ok (Z.fact 26), fKit_ok (Z.fact 298)⟩) (tb_cons (at_ga (P := fun C => ExcC _ C ∧ PySem.W.kitOne _ (.ref C) _ = some false) (Z.glo (Z.fact 18)) ⟨fExcC_ok (Z.fact 24), fKit_ok (Z.fact 297)⟩) (tb_cons (at_ga (P := fun C => ExcC _ C ∧ PySem.W.kitOne _ (.ref C) _ = some false) (Z.glo (Z.fact 17)) ⟨fExcC_ok (Z.fact 22), fKit_ok (Z.fact 296)⟩) (tb_nil))))))))))))))))))))) (Z.free (Z.fact 64)) (ce_var 0)) ca_nil))))))
  (css_cons (cs_set 1 hN (ce_op opAdd_ok (ce_var 1) (ce_lst (ca_cons (ce_isX tyFalse [] [("LaceError", false), ("InvalidLoad", false), ("InvalidBoxes", false), ("InvalidText", false), ("TooMany", false), ("OverBudget", false), ("InvalidWord", false), ("InvalidLayout", false), ("InvalidBits", false), ("InvalidCell", false), ("InvalidKey", false), ("InvalidBox", false), ("InvalidIndex", false), ("InvalidNumber", false), ("InvalidSize", false), ("InvalidBudget", false), ("UnlikeGrids", true), ("InvalidOperation", false), ("Nothing", false), ("InvalidCommand", false)] (.own _) (pe_glob (v := .ref _) rfl (Z.glo (Z.fact 20)) rfl (by decide)) (fIsG_ok (Z.fact 63)) (tyFalse_ok (fKitB_ok (Z.fact 421))) tb_nil (tb_cons (at_ga (P := fun C => ExcC _ C ∧ PySem.W.kitOne _ (.ref C) _ = some false) (Z.glo (Z.fact 60)) ⟨fExcC_ok (Z.fact 61), fKit_ok (Z.fact 420)⟩) (tb_cons (at_ga (P := fun C => ExcC _ C ∧ PySem.W.kitOne _ (.ref C) _ = some false) (Z.glo (Z.fact 6)) ⟨fExcC_ok (Z.fact 58), fKit_ok (Z.fact 419)⟩) (tb_cons (at_ga (P := fun C => ExcC _ C ∧ PySem.W.kitOne _ (.ref C) _ = some false) (Z.glo (Z.fact 5)) ⟨fExcC_ok (Z.fact 56), fKit_ok (Z.fact 418)⟩) (tb_cons (at_ga (P := fun C => ExcC _ C ∧ PySem.W.kitOne _ (.ref C) _ = some false) (Z.glo (Z.fact 4)) ⟨fExcC_ok (Z.fact 54), fKit_ok (Z.fact 417)⟩) (tb_cons (at_ga (P := fun C => ExcC _ C ∧ PySem.W.kitOne _ (.ref C) _ = some false) (Z.glo (Z.fact 3)) ⟨fExcC_ok (Z.fact 52), fKit_ok (Z.fact 416)⟩) (tb_cons (at_ga (P := fun C => ExcC _ C ∧ PySem.W.kitOne _ (.ref C) _ = some false) (Z.glo (Z.fact 2)) ⟨fExcC_ok (Z.fact 50), fKit_ok (Z.fact 415)⟩) (tb_cons (at_ga (P := fun C => ExcC _ C ∧ PySem.W.kitOne _ (.ref C) _ = some false) (Z.glo (Z.fact 11)) ⟨fExcC_ok (Z.fact 48), fKit_ok (Z.fact 414)⟩) (tb_cons (at_ga (P := fun C => ExcC _ C ∧ PySem.W.kitOne _ (.ref C) _ = some false) (Z.glo (Z.fact 10)) ⟨fExcC_ok (Z.fact 46), fKit_ok (Z.fact 413)⟩) (tb_cons (at_ga (P := fun C => ExcC _ C ∧ PySem.W.kitOne _ (.ref C) _ = some false) (Z.glo (Z.fact 9)) ⟨fExcC_ok (Z.fact 44), fKit_ok (Z.fact 412)⟩) (tb_cons (at_ga (P := fun C => ExcC _ C ∧ PySem.W.kitOne _ (.ref C) _ = some false) (Z.glo (Z.fact 8)) ⟨fExcC_ok (Z.fact 42), fKit_ok (Z.fact 411)⟩) (tb_cons (at_ga (P := fun C => ExcC _ C ∧ PySem.W.kitOne _ (.ref C) _ = some false) (Z.glo (Z.fact 7)) ⟨fExcC_ok (Z.fact 40), fKit_ok (Z.fact 410)⟩) (tb_cons (at_ga (P := fun C => ExcC _ C ∧ PySem.W.kitOne _ (.ref C) _ = some false) (Z.glo (Z.fact 16)) ⟨fExcC_ok (Z.fact 38), fKit_ok (Z.fact 409)⟩) (tb_cons (at_ga (P := fun C => ExcC _ C ∧ PySem.W.kitOne _ (.ref C) _ = some false) (Z.glo (Z.fact 15)) ⟨fExcC_ok (Z.fact 36), fKit_ok (Z.fact 408)⟩) (tb_cons (at_ga (P := fun C => ExcC _ C ∧ PySem.W.kitOne _ (.ref C) _ = some false) (Z.glo (Z.fact 14)) ⟨fExcC_ok (Z.fact 34), fKit_ok (Z.fact 407)⟩) (tb_cons (at_ga (P := fun C => ExcC _ C ∧ PySem.W.kitOne _ (.ref C) _ = some false) (Z.glo (Z.fact 13)) ⟨fExcC_ok (Z.fact 32), fKit_ok (Z.fact 406)⟩) (tb_cons (at_ga (P := fun C => ExcC _ C ∧ PySem.W.kitOne _ (.ref C) _ = some false) (Z.glo (Z.fact 12)) ⟨fExcC_ok (Z.fact 30), fKit_ok (Z.fact 405)⟩) (tb_cons (at_ga (P := fun C => ExcC _ C ∧ PySem.W.kitOne _ (.ref C) _ = some true) (Z.glo (Z.fact 20)) ⟨fExcC_ok (Z.fact 28), fKit_ok (Z.fact 404)⟩) (tb_cons (at_ga (P := fun C => ExcC _ C ∧ PySem.W.kitOne _ (.ref C) _ = some false) (Z.glo (Z.fact 19)) ⟨fExcC_ok (Z.fact 26), fKit_ok (Z.fact 403)⟩) (tb_cons (at_ga (P := fun C => ExcC _ C ∧ PySem.W.kitOne _ (.ref C) _ = some false) (Z.glo (Z.fact 18)) ⟨fExcC_ok (Z.fact 24), fKit_ok (Z.fact 402)⟩) (tb_cons (at_ga (P := fun C => ExcC _ C ∧ PySem.W.kitOne _ (.ref C) _ = some false) (Z.glo (Z.fact 17)) ⟨fExcC_ok (Z.fact 22), fKit_ok (Z.fact 401)⟩) (tb_nil))))))))))))))))))))) (Z.free (Z.fact 64)) (ce_var 0)) (ca_cons (ce_isX tyFalse [] [("LaceError", false), ("InvalidLoad", false), ("InvalidBoxes", false), ("InvalidText", false), ("TooMany", false), ("OverBudget", false), ("InvalidWord", false), ("InvalidLayout", false), ("InvalidBits", false), ("InvalidCell", false), ("InvalidKey", false), ("InvalidBox", false), ("InvalidIndex", false), ("InvalidNumber", false), ("InvalidSize", false), ("InvalidBudget", false), ("UnlikeGrids", false), ("InvalidOperation", true), ("Nothing", false), ("InvalidCommand", false)] (.own _) (pe_glob (v := .ref _) rfl (Z.glo (Z.fact 19)) rfl (by decide)) (fIsG_ok (Z.fact 63)) (tyFalse_ok (fKitB_ok (Z.fact 400))) tb_nil (tb_cons (at_ga (P := fun C => ExcC _ C ∧ PySem.W.kitOne _ (.ref C) _ = some false) (Z.glo (Z.fact 60)) ⟨fExcC_ok (Z.fact 61), fKit_ok (Z.fact 399)⟩) (tb_cons (at_ga (P := fun C => ExcC _ C ∧ PySem.W.kitOne _ (.ref C) _ = some false) (Z.glo (Z.fact 6)) ⟨fExcC_ok (Z.fact 58), fKit_ok (Z.fact 398)⟩) (tb_cons (at_ga (P := fun C => ExcC _ C ∧ PySem.W.kitOne _ (.ref C) _ = some false) (Z.glo (Z.fact 5)) ⟨fExcC_ok (Z.fact 56), fKit_ok (Z.fact 397)⟩) (tb_cons (at_ga (P := fun C => ExcC _ C ∧ PySem.W.kitOne _ (.ref C) _ = some false) (Z.glo (Z.fact 4)) ⟨fExcC_ok (Z.fact 54), fKit_ok (Z.fact 396)⟩) (tb_cons (at_ga (P := fun C => ExcC _ C ∧ PySem.W.kitOne _ (.ref C) _ = some false) (Z.glo (Z.fact 3)) ⟨fExcC_ok (Z.fact 52), fKit_ok (Z.fact 395)⟩) (tb_cons (at_ga (P := fun C => ExcC _ C ∧ PySem.W.kitOne _ (.ref C) _ = some false) (Z.glo (Z.fact 2)) ⟨fExcC_ok (Z.fact 50), fKit_ok (Z.fact 394)⟩) (tb_cons (at_ga (P := fun C => ExcC _ C ∧ PySem.W.kitOne _ (.ref C) _ = some false) (Z.glo (Z.fact 11)) ⟨fExcC_ok (Z.fact 48), fKit_ok (Z.fact 393)⟩) (tb_cons (at_ga (P := fun C => ExcC _ C ∧ PySem.W.kitOne _ (.ref C) _ = some false) (Z.glo (Z.fact 10)) ⟨fExcC_ok (Z.fact 46), fKit_ok (Z.fact 392)⟩) (tb_cons (at_ga (P := fun C => ExcC _ C ∧ PySem.W.kitOne _ (.ref C) _ = some false) (Z.glo (Z.fact 9)) ⟨fExcC_ok (Z.fact 44), fKit_ok (Z.fact 391)⟩) (tb_cons (at_ga (P := fun C => ExcC _ C ∧ PySem.W.kitOne _ (.ref C) _ = some false) (Z.glo (Z.fact 8)) ⟨fExcC_ok (Z.fact 42), fKit_ok (Z.fact 390)⟩) (tb_cons (at_ga (P := fun C => ExcC _ C ∧ PySem.W.kitOne _ (.ref C) _ = some false) (Z.glo (Z.fact 7)) ⟨fExcC_ok (Z.fact 40), fKit_ok (Z.fact 389)⟩) (tb_cons (at_ga (P := fun C => ExcC _ C ∧ PySem.W.kitOne _ (.ref C) _ = some false) (Z.glo (Z.fact 16)) ⟨fExcC_ok (Z.fact 38), fKit_ok (Z.fact 388)⟩) (tb_cons (at_ga (P := fun C => ExcC _ C ∧ PySem.W.kitOne _ (.ref C) _ = some false) (Z.glo (Z.fact 15)) ⟨fExcC_ok (Z.fact 36), fKit_ok (Z.fact 387)⟩) (tb_cons (at_ga (P := fun C => ExcC _ C ∧ PySem.W.kitOne _ (.ref C) _ = some false) (Z.glo (Z.fact 14)) ⟨fExcC_ok (Z.fact 34), fKit_ok (Z.fact 386)⟩) (tb_cons (at_ga (P := fun C => ExcC _ C ∧ PySem.W.kitOne _ (.ref C) _ = some false) (Z.glo (Z.fact 13)) ⟨fExcC_ok (Z.fact 32), fKit_ok (Z.fact 385)⟩) (tb_cons (at_ga (P := fun C => ExcC _ C ∧ PySem.W.kitOne _ (.ref C) _ = some false) (Z.glo (Z.fact 12)) ⟨fExcC_ok (Z.fact 30), fKit_ok (Z.fact 384)⟩) (tb_cons (at_ga (P := fun C => ExcC _ C ∧ PySem.W.kitOne _ (.ref C) _ = some false) (Z.glo (Z.fact 20)) ⟨fExcC_ok (Z.fact 28), fKit_ok (Z.fact 383)⟩) (tb_cons (at_ga (P := fun C => ExcC _ C ∧ PySem.W.kitOne _ (.ref C) _ = some true) (Z.glo (Z.fact 19)) ⟨fExcC_ok (Z.fact 26), fKit_ok (Z.fact 382)⟩) (tb_cons (at_ga (P := fun C => ExcC _ C ∧ PySem.W.kitOne _ (.ref C) _ = some false) (Z.glo (Z.fact 18)) ⟨fExcC_ok (Z.fact 24), fKit_ok (Z.fact 381)⟩) (tb_cons (at_ga (P := fun C => ExcC _ C ∧ PySem.W.kitOne _ (.ref C) _ = some false) (Z.glo (Z.fact 17)) ⟨fExcC_ok (Z.fact 22), fKit_ok (Z.fact 380)⟩) (tb_nil))))))))))))))))))))) (Z.free (Z.fact 64)) (ce_var 0)) (ca_cons (ce_isX tyFalse [] [("LaceError", false), ("InvalidLoad", false), ("InvalidBoxes", false), ("InvalidText", false), ("TooMany", false), ("OverBudget", false), ("InvalidWord", false), ("InvalidLayout", false), ("InvalidBits", false), ("InvalidCell", false), ("InvalidKey", false), ("InvalidBox", false), ("InvalidIndex", false), ("InvalidNumber", false), ("InvalidSize", false), ("InvalidBudget", false), ("UnlikeGrids", false), ("InvalidOperation", false), ("Nothing", true), ("InvalidCommand", false)] (.own _) (pe_glob (v := .ref _) rfl (Z.glo (Z.fact 18)) rfl (by decide)) (fIsG_ok (Z.fact 63)) (tyFalse_ok (fKitB_ok (Z.fact 379))) tb_nil (tb_cons (at_ga (P := fun C => ExcC _ C ∧ PySem.W.kitOne _ (.ref C) _ = some false) (Z.glo (Z.fact 60)) ⟨fExcC_ok (Z.fact 61), fKit_ok (Z.fact 378)⟩) (tb_cons (at_ga (P := fun C => ExcC _ C ∧ PySem.W.kitOne _ (.ref C) _ = some false) (Z.glo (Z.fact 6)) ⟨fExcC_ok (Z.fact 58), fKit_ok (Z.fact 377)⟩) (tb_cons (at_ga (P := fun C => ExcC _ C ∧ PySem.W.kitOne _ (.ref C) _ = some false) (Z.glo (Z.fact 5)) ⟨fExcC_ok (Z.fact 56), fKit_ok (Z.fact 376)⟩) (tb_cons (at_ga (P := fun C => ExcC _ C ∧ PySem.W.kitOne _ (.ref C) _ = some false) (Z.glo (Z.fact 4)) ⟨fExcC_ok (Z.fact 54), fKit_ok (Z.fact 375)⟩) (tb_cons (at_ga (P := fun C => ExcC _ C ∧ PySem.W.kitOne _ (.ref C) _ = some false) (Z.glo (Z.fact 3)) ⟨fExcC_ok (Z.fact 52), fKit_ok (Z.fact 374)⟩) (tb_cons (at_ga (P := fun C => ExcC _ C ∧ PySem.W.kitOne _ (.ref C) _ = some false) (Z.glo (Z.fact 2)) ⟨fExcC_ok (Z.fact 50), fKit_ok (Z.fact 373)⟩) (tb_cons (at_ga (P := fun C => ExcC _ C ∧ PySem.W.kitOne _ (.ref C) _ = some false) (Z.glo (Z.fact 11)) ⟨fExcC_ok (Z.fact 48), fKit_ok (Z.fact 372)⟩) (tb_cons (at_ga (P := fun C => ExcC _ C ∧ PySem.W.kitOne _ (.ref C) _ = some false) (Z.glo (Z.fact 10)) ⟨fExcC_ok (Z.fact 46), fKit_ok (Z.fact 371)⟩) (tb_cons (at_ga (P := fun C => ExcC _ C ∧ PySem.W.kitOne _ (.ref C) _ = some false) (Z.glo (Z.fact 9)) ⟨fExcC_ok (Z.fact 44), fKit_ok (Z.fact 370)⟩) (tb_cons (at_ga (P := fun C => ExcC _ C ∧ PySem.W.kitOne _ (.ref C) _ = some false) (Z.glo (Z.fact 8)) ⟨fExcC_ok (Z.fact 42), fKit_ok (Z.fact 369)⟩) (tb_cons (at_ga (P := fun C => ExcC _ C ∧ PySem.W.kitOne _ (.ref C) _ = some false) (Z.glo (Z.fact 7)) ⟨fExcC_ok (Z.fact 40), fKit_ok (Z.fact 368)⟩) (tb_cons (at_ga (P := fun C => ExcC _ C ∧ PySem.W.kitOne _ (.ref C) _ = some false) (Z.glo (Z.fact 16)) ⟨fExcC_ok (Z.fact 38), fKit_ok (Z.fact 367)⟩) (tb_cons (at_ga (P := fun C => ExcC _ C ∧ PySem.W.kitOne _ (.ref C) _ = some false) (Z.glo (Z.fact 15)) ⟨fExcC_ok (Z.fact 36), fKit_ok (Z.fact 366)⟩) (tb_cons (at_ga (P := fun C => ExcC _ C ∧ PySem.W.kitOne _ (.ref C) _ = some false) (Z.glo (Z.fact 14)) ⟨fExcC_ok (Z.fact 34), fKit_ok (Z.fact 365)⟩) (tb_cons (at_ga (P := fun C => ExcC _ C ∧ PySem.W.kitOne _ (.ref C) _ = some false) (Z.glo (Z.fact 13)) ⟨fExcC_ok (Z.fact 32), fKit_ok (Z.fact 364)⟩) (tb_cons (at_ga (P := fun C => ExcC _ C ∧ PySem.W.kitOne _ (.ref C) _ = some false) (Z.glo (Z.fact 12)) ⟨fExcC_ok (Z.fact 30), fKit_ok (Z.fact 363)⟩) (tb_cons (at_ga (P := fun C => ExcC _ C ∧ PySem.W.kitOne _ (.ref C) _ = some false) (Z.glo (Z.fact 20)) ⟨fExcC_ok (Z.fact 28), fKit_ok (Z.fact 362)⟩) (tb_cons (at_ga (P := fun C => ExcC _ C ∧ PySem.W.kitOne _ (.ref C) _ = some false) (Z.glo (Z.fact 19)) ⟨fExcC_ok (Z.fact 26), fKit_ok (Z.fact 361)⟩) (tb_cons (at_ga (P := fun C => ExcC _ C ∧ PySem.W.kitOne _ (.ref C) _ = some true) (Z.glo (Z.fact 18)) ⟨fExcC_ok (Z.fact 24), fKit_ok (Z.fact 360)⟩) (tb_cons (at_ga (P := fun C => ExcC _ C ∧ PySem.W.kitOne _ (.ref C) _ = some false) (Z.glo (Z.fact 17)) ⟨fExcC_ok (Z.fact 22), fKit_ok (Z.fact 359)⟩) (tb_nil))))))))))))))))))))) (Z.free (Z.fact 64)) (ce_var 0)) ca_nil))))))
  (css_one (cs_ret (ce_op opAdd_ok (ce_var 1) (ce_lst (ca_cons (ce_isX tyFalse [] [("LaceError", false), ("InvalidLoad", false), ("InvalidBoxes", false), ("InvalidText", false), ("TooMany", false), ("OverBudget", false), ("InvalidWord", false), ("InvalidLayout", false), ("InvalidBits", false), ("InvalidCell", false), ("InvalidKey", false), ("InvalidBox", false), ("InvalidIndex", false), ("InvalidNumber", false), ("InvalidSize", false), ("InvalidBudget", false), ("UnlikeGrids", false), ("InvalidOperation", false), ("Nothing", false), ("InvalidCommand", true)] (.own _) (pe_glob (v := .ref _) rfl (Z.glo (Z.fact 17)) rfl (by decide)) (fIsG_ok (Z.fact 63)) (tyFalse_ok (fKitB_ok (Z.fact 442))) tb_nil (tb_cons (at_ga (P := fun C => ExcC _ C ∧ PySem.W.kitOne _ (.ref C) _ = some false) (Z.glo (Z.fact 60)) ⟨fExcC_ok (Z.fact 61), fKit_ok (Z.fact 441)⟩) (tb_cons (at_ga (P := fun C => ExcC _ C ∧ PySem.W.kitOne _ (.ref C) _ = some false) (Z.glo (Z.fact 6)) ⟨fExcC_ok (Z.fact 58), fKit_ok (Z.fact 440)⟩) (tb_cons (at_ga (P := fun C => ExcC _ C ∧ PySem.W.kitOne _ (.ref C) _ = some false) (Z.glo (Z.fact 5)) ⟨fExcC_ok (Z.fact 56), fKit_ok (Z.fact 439)⟩) (tb_cons (at_ga (P := fun C => ExcC _ C ∧ PySem.W.kitOne _ (.ref C) _ = some false) (Z.glo (Z.fact 4)) ⟨fExcC_ok (Z.fact 54), fKit_ok (Z.fact 438)⟩) (tb_cons (at_ga (P := fun C => ExcC _ C ∧ PySem.W.kitOne _ (.ref C) _ = some false) (Z.glo (Z.fact 3)) ⟨fExcC_ok (Z.fact 52), fKit_ok (Z.fact 437)⟩) (tb_cons (at_ga (P := fun C => ExcC _ C ∧ PySem.W.kitOne _ (.ref C) _ = some false) (Z.glo (Z.fact 2)) ⟨fExcC_ok (Z.fact 50), fKit_ok (Z.fact 436)⟩) (tb_cons (at_ga (P := fun C => ExcC _ C ∧ PySem.W.kitOne _ (.ref C) _ = some false) (Z.glo (Z.fact 11)) ⟨fExcC_ok (Z.fact 48), fKit_ok (Z.fact 435)⟩) (tb_cons (at_ga (P := fun C => ExcC _ C ∧ PySem.W.kitOne _ (.ref C) _ = some false) (Z.glo (Z.fact 10)) ⟨fExcC_ok (Z.fact 46), fKit_ok (Z.fact 434)⟩) (tb_cons (at_ga (P := fun C => ExcC _ C ∧ PySem.W.kitOne _ (.ref C) _ = some false) (Z.glo (Z.fact 9)) ⟨fExcC_ok (Z.fact 44), fKit_ok (Z.fact 433)⟩) (tb_cons (at_ga (P := fun C => ExcC _ C ∧ PySem.W.kitOne _ (.ref C) _ = some false) (Z.glo (Z.fact 8)) ⟨fExcC_ok (Z.fact 42), fKit_ok (Z.fact 432)⟩) (tb_cons (at_ga (P := fun C => ExcC _ C ∧ PySem.W.kitOne _ (.ref C) _ = some false) (Z.glo (Z.fact 7)) ⟨fExcC_ok (Z.fact 40), fKit_ok (Z.fact 431)⟩) (tb_cons (at_ga (P := fun C => ExcC _ C ∧ PySem.W.kitOne _ (.ref C) _ = some false) (Z.glo (Z.fact 16)) ⟨fExcC_ok (Z.fact 38), fKit_ok (Z.fact 430)⟩) (tb_cons (at_ga (P := fun C => ExcC _ C ∧ PySem.W.kitOne _ (.ref C) _ = some false) (Z.glo (Z.fact 15)) ⟨fExcC_ok (Z.fact 36), fKit_ok (Z.fact 429)⟩) (tb_cons (at_ga (P := fun C => ExcC _ C ∧ PySem.W.kitOne _ (.ref C) _ = some false) (Z.glo (Z.fact 14)) ⟨fExcC_ok (Z.fact 34), fKit_ok (Z.fact 428)⟩) (tb_cons (at_ga (P := fun C => ExcC _ C ∧ PySem.W.kitOne _ (.ref C) _ = some false) (Z.glo (Z.fact 13)) ⟨fExcC_ok (Z.fact 32), fKit_ok (Z.fact 427)⟩) (tb_cons (at_ga (P := fun C => ExcC _ C ∧ PySem.W.kitOne _ (.ref C) _ = some false) (Z.glo (Z.fact 12)) ⟨fExcC_ok (Z.fact 30), fKit_ok (Z.fact 426)⟩) (tb_cons (at_ga (P := fun C => ExcC _ C ∧ PySem.W.kitOne _ (.ref C) _ = some false) (Z.glo (Z.fact 20)) ⟨fExcC_ok (Z.fact 28), fKit_ok (Z.fact 425)⟩) (tb_cons (at_ga (P := fun C => ExcC _ C ∧ PySem.W.kitOne _ (.ref C) _ = some false) (Z.glo (Z.fact 19)) ⟨fExcC_ok (Z.fact 26), fKit_ok (Z.fact 424)⟩) (tb_cons (at_ga (P := fun C => ExcC _ C ∧ PySem.W.kitOne _ (.ref C) _ = some false) (Z.glo (Z.fact 18)) ⟨fExcC_ok (Z.fact 24), fKit_ok (Z.fact 423)⟩) (tb_cons (at_ga (P := fun C => ExcC _ C ∧ PySem.W.kitOne _ (.ref C) _ = some true) (Z.glo (Z.fact 17)) ⟨fExcC_ok (Z.fact 22), fKit_ok (Z.fact 422)⟩) (tb_nil))))))))))))))))))))) (Z.free (Z.fact 64)) (ce_var 0)) ca_nil)))))))))))
theorem fd__law_classes {K : PySem.W.Frag} {mg : Str → Option Value} (Z : Hd K mg) : ∃ fd : FuncData, FunD K "_law_classes" "_law_classes" (defArgs s__law_classes) (defBody s__law_classes) (defScope s__law_classes) [] [] (adr K d__law_classes) fd := Z.def_ 3 (d := d__law_classes) rfl
theorem fn__law_classes {P : Program} {w : World} {K : PySem.W.Frag} {mg : Str → Option Value} {base : Heap} (Z : Hd K mg) : ∃ fd : FuncData, FnOk P w K mg base (L2.CX P w) 1 (adr K d__law_classes) fd ["one"] (spOf w mg 1 f__law_classes) ∧ Binds K fd ["one"] [] := by
  obtain ⟨fd, F⟩ := fd__law_classes Z
  exact ⟨fd, Lc.fn_ok (N := ["one", "found"]) (ps := ["one"]) (k := 0) m__law_classes F sc__law_classes (fun cdv A outer s H E hr => bd__law_classes Z cdv A outer s H E hr), F.bindsN fun _ _ _ _ _ _ us hl => match us, hl with | [_], _ => rfl⟩
theorem cl__law_classes {X : Cx} (Z : Hd X.K X.mg) (hr : Room 1 X.A) : CallOk X (.ref (He.ga X.K "_law_classes")) φ__law_classes := by
  obtain ⟨fd, F, b⟩ := fn__law_classes (P := X.prog) (w := X.w) (base := X.base) Z
  exact callOk_pure (callOk_fn (m := m__law_classes) F hr b)
theorem kp__law_classes {K : PySem.W.Frag} {mg : Str → Option Value} (Z : Hd K mg) : PySem.W.keepIn K (.ref (adr K d__law_classes)) = true := by
  obtain ⟨fd, F⟩ := fd__law_classes Z
  exact F.kp
/-! ### law -/
def b0_law : MS := (msSeq (msIf (mOrT (mNotT (mTest (mIsX tyFalse [] [("LaceError", true), ("InvalidLoad", true), ("InvalidBoxes", true), ("InvalidText", true), ("TooMany", true), ("OverBudget", true), ("InvalidWord", true), ("InvalidLayout", true), ("InvalidBits", true), ("InvalidCell", true), ("InvalidKey", true), ("InvalidBox", true), ("InvalidIndex", true), ("InvalidNumber", true), ("InvalidSize", true), ("InvalidBudget", true), ("UnlikeGrids", true), ("InvalidOperation", true), ("Nothing", true), ("InvalidCommand", true)] (mVar 6)))) (mNotT (mTest (mIsX tyFalse [] [("LaceError", true), ("InvalidLoad", true), ("InvalidBoxes", true), ("InvalidText", true), ("TooMany", true), ("OverBudget", true), ("InvalidWord", true), ("InvalidLayout", true), ("InvalidBits", true), ("InvalidCell", true), ("InvalidKey", true), ("InvalidBox", true), ("InvalidIndex", true), ("InvalidNumber", true), ("InvalidSize", true), ("InvalidBudget", true), ("UnlikeGrids", true), ("InvalidOperation", true), ("Nothing", true), ("InvalidCommand", true)] (mVar 6))))) (msRet (mC (.bl false))) msNil)
  (msIf (mTest (mBin opNe (mCall φ__law_classes (maCons (mVar 6) maNil)) (mLc [9] (miRng rng1 (maCons (mB bLen (maCons (mVar 4) maNil)) maNil)) (mgName 9) mtYes (mBin opEq (mVar 9) (mVar 5))))) (msRet (mC (.bl false))) msNil))
def b1_law : MS := (msSeq (msSet 3 (mCall φ__law_pick (maCons (mVar 1) (maCons (mBin opIx (mLst (maCons (mC (.int (9))) (maCons (mBin opPow (mC (.int (10))) (mC (.int (60)))) maNil))) (mBin opMod (mVar 2) (mC (.int (2))))) maNil))))
  (msSeq (msSet 4 (mCall φ__law_made (maCons (mVar 3) maNil)))
  (msSeq (msFor (miEnum (maCons (mVar 4) maNil)) (mgTup (mgCons (mgName 5) (mgCons (mgName 6) mgNil))) b0_law)
  (msIf (mTest (mBin opNe (mLst (maCons (mXfld "item" ["InvalidLoad", "InvalidBoxes"] (mBin opIx (mVar 4) (mC (.int (0))))) (maCons (mXfld "item" ["InvalidLoad", "InvalidBoxes"] (mBin opIx (mVar 4) (mC (.int (1))))) (maCons (mXfld "part" ["InvalidText"] (mBin opIx (mVar 4) (mC (.int (2))))) (maCons (mXfld "limit" ["TooMany"] (mBin opIx (mVar 4) (mC (.int (3))))) (maCons (mXfld "total" ["OverBudget"] (mBin opIx (mVar 4) (mC (.int (4))))) maNil)))))) (mBin opMul (mLst (maCons (mVar 3) maNil)) (mC (.int (5)))))) (msRet (mC (.bl false))) msNil))))
def m_law : MS := (msSeq (msSet 1 (mCall φ__law_bag (maCons (mBin opIx (mBin opAdd (mVar 0) (mLst (maCons (mC (.int (0))) maNil))) (mC (.int (0)))) maNil)))
  (msSeq (msFor (miRng rng1 (maCons (mC (.int (4))) maNil)) (mgName 2) b1_law)
  (msSeq (msSet 7 (mCall φ_LaceError (maCons (mC (.str "x")) maNil)))
  (msSeq (msSet 8 (mLst (maCons (mXfld "item" ["InvalidLoad", "InvalidBoxes"] (mCall φ_InvalidLoad (maCons (mC .non) maNil))) (maCons (mXfld "item" ["InvalidLoad", "InvalidBoxes"] (mCall φ_InvalidBoxes (maCons (mC .non) maNil))) (maCons (mXfld "part" ["InvalidText"] (mCall φ_InvalidText (maCons (mC .non) maNil))) maNil)))))
  (msRet (mAndV (mBin opEq (mVar 8) (mBin opMul (mLst (maCons (mC .non) maNil)) (mC (.int (3))))) (mAndV (mBin opNotIn (mC (.bl true)) (mCall φ__law_classes (maCons (mVar 7) maNil))) (mIsX tyFalse [] [("LaceError", true), ("InvalidLoad", true), ("InvalidBoxes", true), ("InvalidText", true), ("TooMany", true), ("OverBudget", true), ("InvalidWord", true), ("InvalidLayout", true), ("InvalidBits", true), ("InvalidCell", true), ("InvalidKey", true), ("InvalidBox", true), ("InvalidIndex", true), ("InvalidNumber", true), ("InvalidSize", true), ("InvalidBudget", true), ("UnlikeGrids", true), ("InvalidOperation", true), ("Nothing", true), ("InvalidCommand", true)] (mVar 7)))))))))
def f_law : Fn := mkFn 1 10 m_law
def φ_law : Fn := f_law
theorem sc_law : FnScope ["script", "bag", "turn", "number", "made", "k", "one", "base", "some", "j"] ["script"] (defScope s_law) := ⟨rfl, rfl, rfl, by decide +kernel, rfl, by decide +kernel, by decide +kernel⟩
theorem bd_law {P : Program} {w : World} {K : PySem.W.Frag} {mg : Str → Option Value} {base : Heap} {f : Addr} (Z : Hd K mg) (cdv : Value) (A : Around) (outer : List Env) (s : Shared) (H : Hp) (E : XK) (hr : Room 3 (A.deeper (envOfC "law" (defScope s_law) s.heap.objs.size f cdv))) : CSs (cxOf (L2.CX P w) P w K mg base ["script", "bag", "turn", "number", "made", "k", "one", "base", "some", "j"] "law" (defScope s_law) f cdv A outer s H E) (defBody s_law) m_law := by
  have hN := (sc_law).nd
  unfold m_law
  exact (css_cons (cs_set 1 hN (ce_call (cl__law_bag Z (hr.mono (by decide))) (Z.glo (Z.fact 443)) (kp__law_bag Z) (ca_cons (ce_ix opIx_ok (ce_op opAdd_ok (ce_var 0) (ce_lst (ca_cons ce_int ca_nil))) ce_int) ca_nil)))
  (css_cons (cs_for (passes_of rfl) rfl (ci_rng1 (Z.free (Z.fact 444)) (ca_cons ce_int ca_nil)) (cg_name 2 hN) (css_cons (cs_set 3 hN (ce_call (cl__law_pick Z (hr.mono (by decide))) (Z.glo (Z.fact 445)) (kp__law_pick Z) (ca_cons (ce_var 1) (ca_cons (ce_ix opIx_ok (ce_lst (ca_cons ce_int (ca_cons (ce_op opPow_ok ce_int ce_int) ca_nil))) (ce_op opMod_ok (ce_var 2) ce_int)) ca_nil))))
  (css_cons (cs_set 4 hN (ce_call (cl__law_made Z (hr.mono (by decide))) (Z.glo (Z.fact 446)) (kp__law_made Z) (ca_cons (ce_var 3) ca_nil)))
  (css_cons (cs_for (passes_of rfl) rfl (ci_enum (Z.free (Z.fact 447)) (ca_cons (ce_var 4) ca_nil)) (cg_tup rfl 2 (len_cons (len_cons len_nil)) (cgs_cons (cg_name 5 hN) (cgs_cons (cg_name 6 hN) cgs_nil))) (css_cons (cs_if (ct_w (cw_or (ct_not (ct_val (ce_isX tyFalse [] [("LaceError", true), ("InvalidLoad", true), ("InvalidBoxes", true), ("InvalidText", true), ("TooMany", true), ("OverBudget", true), ("InvalidWord", true), ("InvalidLayout", true), ("InvalidBits", true), ("InvalidCell", true), ("InvalidKey", true), ("InvalidBox", true), ("InvalidIndex", true), ("InvalidNumber", true), ("InvalidSize", true), ("InvalidBudget", true), ("UnlikeGrids", true), ("InvalidOperation", true), ("Nothing", true), ("InvalidCommand", true)] (.own _) (pe_glob (v := .ref _) rfl (Z.glo (Z.fact 60)) rfl (by decide)) (fIsG_ok (Z.fact 63)) (tyFalse_ok (fKitB_ok (Z.fact 468))) tb_nil (tb_cons (at_ga (P := fun C => ExcC _ C ∧ PySem.W.kitOne _ (.ref C) _ = some true) (Z.glo (Z.fact 60)) ⟨fExcC_ok (Z.fact 61), fKit_ok (Z.fact 467)⟩) (tb_cons (at_ga (P := fun C => ExcC _ C ∧ PySem.W.kitOne _ (.ref C) _ = some true) (Z.glo (Z.fact 6)) ⟨fExcC_ok (Z.fact 58), fKit_ok (Z.fact 466)⟩) (tb_cons (at_ga (P := fun C => ExcC _ C ∧ PySem.W.kitOne _ (.ref C) _ = some true) (Z.glo (Z.fact 5)) ⟨fExcC_ok (Z.fact 56), fKit_ok (Z.fact 465)⟩) (tb_cons (at_ga (P := fun C => ExcC _ C ∧ PySem.W.kitOne _ (.ref C) _ = some true) (Z.glo (Z.fact 4)) ⟨fExcC_ok (Z.fact 54), fKit_ok (Z.fact 464)⟩) (tb_cons (at_ga (P := fun C => ExcC _ C ∧ PySem.W.kitOne _ (.ref C) _ = some true) (Z.glo (Z.fact 3)) ⟨fExcC_ok (Z.fact 52), fKit_ok (Z.fact 463)⟩) (tb_cons (at_ga (P := fun C => ExcC _ C ∧ PySem.W.kitOne _ (.ref C) _ = some true) (Z.glo (Z.fact 2)) ⟨fExcC_ok (Z.fact 50), fKit_ok (Z.fact 462)⟩) (tb_cons (at_ga (P := fun C => ExcC _ C ∧ PySem.W.kitOne _ (.ref C) _ = some true) (Z.glo (Z.fact 11)) ⟨fExcC_ok (Z.fact 48), fKit_ok (Z.fact 461)⟩) (tb_cons (at_ga (P := fun C => ExcC _ C ∧ PySem.W.kitOne _ (.ref C) _ = some true) (Z.glo (Z.fact 10)) ⟨fExcC_ok (Z.fact 46), fKit_ok (Z.fact 460)⟩) (tb_cons (at_ga (P := fun C => ExcC _ C ∧ PySem.W.kitOne _ (.ref C) _ = some true) (Z.glo (Z.fact 9)) ⟨fExcC_ok (Z.fact 44), fKit_ok (Z.fact 459)⟩) (tb_cons (at_ga (P := fun C => ExcC _ C ∧ PySem.W.kitOne _ (.ref C) _ = some true) (Z.glo (Z.fact 8)) ⟨fExcC_ok (Z.fact 42), fKit_ok (Z.fact 458)⟩) (tb_cons (at_ga (P := fun C => ExcC _ C ∧ PySem.W.kitOne _ (.ref C) _ = some true) (Z.glo (Z.fact 7)) ⟨fExcC_ok (Z.fact 40), fKit_ok (Z.fact 457)⟩) (tb_cons (at_ga (P := fun C => ExcC _ C ∧ PySem.W.kitOne _ (.ref C) _ = some true) (Z.glo (Z.fact 16)) ⟨fExcC_ok (Z.fact 38), fKit_ok (Z.fact 456)⟩) (tb_cons (at_ga (P := fun C => ExcC _ C ∧ PySem.W.kitOne _ (.ref C) _ = some true) (Z.glo (Z.fact 15)) ⟨fExcC_ok (Z.fact 36), fKit_ok (Z.fact 455)⟩) (tb_cons (at_ga (P := fun C => ExcC _ C ∧ PySem.W.kitOne _ (.ref C) _ = some true) (Z.glo (Z.fact 14)) ⟨fExcC_ok (Z.fact 34), fKit_ok (Z.fact 454)⟩) (tb_cons (at_ga (P := fun C => ExcC _ C ∧ PySem.W.kitOne _ (.ref C) _ = some true) (Z.glo (Z.fact 13)) ⟨fExcC_ok (Z.fact 32), fKit_ok (Z.fact 453)⟩) (tb_cons (at_ga (P := fun C => ExcC _ C ∧ PySem.W.kitOne _ (.ref C) _ = some true) (Z.glo (Z.fact 12)) ⟨fExcC_ok (Z.fact 30), fKit_ok (Z.fact 452)⟩) (tb_cons (at_ga (P := fun C => ExcC _ C ∧ PySem.W.kitOne _ (.ref C) _ = some true) (Z.glo (Z.fact 20)) ⟨fExcC_ok (Z.fact 28), fKit_ok (Z.fact 451)⟩) (tb_cons (at_ga (P := fun C => ExcC _ C ∧ PySem.W.kitOne _ (.ref C) _ = some true) (Z.glo (Z.fact 19)) ⟨fExcC_ok (Z.fact 26), fKit_ok (Z.fact 450)⟩) (tb_cons (at_ga (P := fun C => ExcC _ C ∧ PySem.W.kitOne _ (.ref C) _ = some true) (Z.glo (Z.fact 18)) ⟨fExcC_ok (Z.fact 24), fKit_ok (Z.fact 449)⟩) (tb_cons (at_ga (P := fun C => ExcC _ C ∧ PySem.W.kitOne _ (.ref C) _ = some true) (Z.glo (Z.fact 17)) ⟨fExcC_ok (Z.fact 22), fKit_ok (Z.fact 448)⟩) (tb_nil))))))))))))))))))))) (Z.free (Z.fact 64)) (ce_var 6)))) (cw_or1 (ct_not (ct_val (ce_isX tyFalse [] [("LaceError", true), ("InvalidLoad", true), ("InvalidBoxes", true), ("InvalidText", true), ("TooMany", true), ("OverBudget", true), ("InvalidWord", true), ("InvalidLayout", true), ("InvalidBits", true), ("InvalidCell", true), ("InvalidKey", true), ("InvalidBox", true), ("InvalidIndex", true), ("InvalidNumber", true), ("InvalidSize", true), ("InvalidBudget", true), ("UnlikeGrids", true), ("InvalidOperation", true), ("Nothing", true), ("InvalidCommand", true)] (.ty "ValueError") (pe_bltn (v := .ty "ValueError") rfl (Z.free (Z.fact 490)) bo_ValueError rfl (by decide) (by decide)) (fIsG_ok (Z.fact 63)) (tyFalse_ok (fKitBV_ok (Z.fact 489))) tb_nil (tb_cons (at_ga (P := fun C => ExcC _ C ∧ PySem.W.kitOne _ (.ref C) _ = some true) (Z.glo (Z.fact 60)) ⟨fExcC_ok (Z.fact 61), fKitV_ok (Z.fact 488)⟩) (tb_cons (at_ga (P := fun C => ExcC _ C ∧ PySem.W.kitOne _ (.ref C) _ = some true) (Z.glo (Z.fact 6)) ⟨fExcC_ok (Z.fact 58), fKitV_ok (Z.fact 487)⟩) (tb_cons (at_ga (P := fun C => ExcC _ C ∧ PySem.W.kitOne _ (.ref C) _ = some true) (Z.glo (Z.fact 5)) ⟨fExcC_ok (Z.fact 56), fKitV_ok (Z.fact 486)⟩) (tb_cons (at_ga (P := fun C => ExcC _ C ∧ PySem.W.kitOne _ (.ref C) _ = some true) (Z.glo (Z.fact 4)) ⟨fExcC_ok (Z.fact 54), fKitV_ok (Z.fact 485)⟩) (tb_cons (at_ga (P := fun C => ExcC _ C ∧ PySem.W.kitOne _ (.ref C) _ = some true) (Z.glo (Z.fact 3)) ⟨fExcC_ok (Z.fact 52), fKitV_ok (Z.fact 484)⟩) (tb_cons (at_ga (P := fun C => ExcC _ C ∧ PySem.W.kitOne _ (.ref C) _ = some true) (Z.glo (Z.fact 2)) ⟨fExcC_ok (Z.fact 50), fKitV_ok (Z.fact 483)⟩) (tb_cons (at_ga (P := fun C => ExcC _ C ∧ PySem.W.kitOne _ (.ref C) _ = some true) (Z.glo (Z.fact 11)) ⟨fExcC_ok (Z.fact 48), fKitV_ok (Z.fact 482)⟩) (tb_cons (at_ga (P := fun C => ExcC _ C ∧ PySem.W.kitOne _ (.ref C) _ = some true) (Z.glo (Z.fact 10)) ⟨fExcC_ok (Z.fact 46), fKitV_ok (Z.fact 481)⟩) (tb_cons (at_ga (P := fun C => ExcC _ C ∧ PySem.W.kitOne _ (.ref C) _ = some true) (Z.glo (Z.fact 9)) ⟨fExcC_ok (Z.fact 44), fKitV_ok (Z.fact 480)⟩) (tb_cons (at_ga (P := fun C => ExcC _ C ∧ PySem.W.kitOne _ (.ref C) _ = some true) (Z.glo (Z.fact 8)) ⟨fExcC_ok (Z.fact 42), fKitV_ok (Z.fact 479)⟩) (tb_cons (at_ga (P := fun C => ExcC _ C ∧ PySem.W.kitOne _ (.ref C) _ = some true) (Z.glo (Z.fact 7)) ⟨fExcC_ok (Z.fact 40), fKitV_ok (Z.fact 478)⟩) (tb_cons (at_ga (P := fun C => ExcC _ C ∧ PySem.W.kitOne _ (.ref C) _ = some true) (Z.glo (Z.fact 16)) ⟨fExcC_ok (Z.fact 38), fKitV_ok (Z.fact 477)⟩) (tb_cons (at_ga (P := fun C => ExcC _ C ∧ PySem.W.kitOne _ (.ref C) _ = some true) (Z.glo (Z.fact 15)) ⟨fExcC_ok (Z.fact 36), fKitV_ok (Z.fact 476)⟩) (tb_cons (at_ga (P := fun C => ExcC _ C ∧ PySem.W.kitOne _ (.ref C) _ = some true) (Z.glo (Z.fact 14)) ⟨fExcC_ok (Z.fact 34), fKitV_ok (Z.fact 475)⟩) (tb_cons (at_ga (P := fun C => ExcC _ C ∧ PySem.W.kitOne _ (.ref C) _ = some true) (Z.glo (Z.fact 13)) ⟨fExcC_ok (Z.fact 32), fKitV_ok (Z.fact 474)⟩) (tb_cons (at_ga (P := fun C => ExcC _ C ∧ PySem.W.kitOne _ (.ref C) _ = some true) (Z.glo (Z.fact 12)) ⟨fExcC_ok (Z.fact 30), fKitV_ok (Z.fact 473)⟩) (tb_cons (at_ga (P := fun C => ExcC _ C ∧ PySem.W.kitOne _ (.ref C) _ = some true) (Z.glo (Z.fact 20)) ⟨fExcC_ok (Z.fact 28), fKitV_ok (Z.fact 472)⟩) (tb_cons (at_ga (P := fun C => ExcC _ C ∧ PySem.W.kitOne _ (.ref C) _ = some true) (Z.glo (Z.fact 19)) ⟨fExcC_ok (Z.fact 26), fKitV_ok (Z.fact 471)⟩) (tb_cons (at_ga (P := fun C => ExcC _ C ∧ PySem.W.kitOne _ (.ref C) _ = some true) (Z.glo (Z.fact 18)) ⟨fExcC_ok (Z.fact 24), fKitV_ok (Z.fact 470)⟩) (tb_cons (at_ga (P := fun C => ExcC _ C ∧ PySem.W.kitOne _ (.ref C) _ = some true) (Z.glo (Z.fact 17)) ⟨fExcC_ok (Z.fact 22), fKitV_ok (Z.fact 469)⟩) (tb_nil))))))))))))))))))))) (Z.free (Z.fact 64)) (ce_var 6))))))) (css_one (cs_ret ce_bl)) css_nil)
  (css_one (cs_if (ct_cmp (opNe_ok hr.units) (ce_call (cl__law_classes Z (hr.mono (by decide))) (Z.glo (Z.fact 491)) (kp__law_classes Z) (ca_cons (ce_var 6) ca_nil)) (ce_lc (own := [("j", 9)]) rfl hN (ci_rng1 (Z.free (Z.fact 444)) (ca_cons (ce_b bLen_ok (Z.free (Z.fact 492)) bo_len (ca_cons (ce_var 4) ca_nil)) ca_nil)) (blk_of (N := ["script", "bag", "turn", "number", "made", "k", "one", "base", "some", "j"]) (sc := defScope s_law) (by decide +kernel)) (fun _ _ _ _ _ => (cg_name 9 hN)) (fun _ _ _ _ _ => cts_nil) (fun _ _ _ _ _ => (ce_cmp (opEq_ok hr.units) (ce_var 9) (ce_var 5))) (by decide))) (css_one (cs_ret ce_bl)) css_nil))))
  (css_one (cs_if (ct_cmp (opNe_ok hr.units) (ce_lst (ca_cons (ce_xfld ["InvalidLoad", "InvalidBoxes"] (fun c hc => by
    simp only [List.mem_cons, List.mem_nil_iff, or_false] at hc
    rcases hc with rfl | rfl
    · exact at_ga (P := fun C => XfC _ C ∧ PySem.W.findIn _ (.ref C) "item" = some none) (Z.glo (Z.fact 6)) (fXf_ok (Z.fact 496))
    · exact at_ga (P := fun C => XfC _ C ∧ PySem.W.findIn _ (.ref C) "item" = some none) (Z.glo (Z.fact 5)) (fXf_ok (Z.fact 497))) (ce_ix opIx_ok (ce_var 4) ce_int)) (ca_cons (ce_xfld ["InvalidLoad", "InvalidBoxes"] (fun c hc => by
    simp only [List.mem_cons, List.mem_nil_iff, or_false] at hc
    rcases hc with rfl | rfl
    · exact at_ga (P := fun C => XfC _ C ∧ PySem.W.findIn _ (.ref C) "item" = some none) (Z.glo (Z.fact 6)) (fXf_ok (Z.fact 496))
    · exact at_ga (P := fun C => XfC _ C ∧ PySem.W.findIn _ (.ref C) "item" = some none) (Z.glo (Z.fact 5)) (fXf_ok (Z.fact 497))) (ce_ix opIx_ok (ce_var 4) ce_int)) (ca_cons (ce_xfld ["InvalidText"] (fun c hc => by
    simp only [List.mem_cons, List.mem_nil_iff, or_false] at hc
    subst hc
    · exact at_ga (P := fun C => XfC _ C ∧ PySem.W.findIn _ (.ref C) "part" = some none) (Z.glo (Z.fact 4)) (fXf_ok (Z.fact 495))) (ce_ix opIx_ok (ce_var 4) ce_int)) (ca_cons (ce_xfld ["TooMany"] (fun c hc => by
    simp only [List.mem_cons, List.mem_nil_iff, or_false] at hc
    subst hc
    · exact at_ga (P := fun C => XfC _ C ∧ PySem.W.findIn _ (.ref C) "limit" = some none) (Z.glo (Z.fact 3)) (fXf_ok (Z.fact 494))) (ce_ix opIx_ok (ce_var 4) ce_int)) (ca_cons (ce_xfld ["OverBudget"] (fun c hc => by
    simp only [List.mem_cons, List.mem_nil_iff, or_false] at hc
    subst hc
    · exact at_ga (P := fun C => XfC _ C ∧ PySem.W.findIn _ (.ref C) "total" = some none) (Z.glo (Z.fact 2)) (fXf_ok (Z.fact 493))) (ce_ix opIx_ok (ce_var 4) ce_int)) ca_nil)))))) (ce_op opMul_ok (ce_lst (ca_cons (ce_var 3) ca_nil)) ce_int)) (css_one (cs_ret ce_bl)) css_nil))))))
  (css_cons (cs_set 7 hN (ce_call (mk_LaceError Z (hr.mono (by decide))) (Z.glo (Z.fact 60)) (kp_LaceError Z) (ca_cons ce_str ca_nil)))
  (css_cons (cs_set 8 hN (ce_lst (ca_cons (ce_xfld ["InvalidLoad", "InvalidBoxes"] (fun c hc => by
    simp only [List.mem_cons, List.mem_nil_iff, or_false] at hc
    rcases hc with rfl | rfl
    · exact at_ga (P := fun C => XfC _ C ∧ PySem.W.findIn _ (.ref C) "item" = some none) (Z.glo (Z.fact 6)) (fXf_ok (Z.fact 496))
    · exact at_ga (P := fun C => XfC _ C ∧ PySem.W.findIn _ (.ref C) "item" = some none) (Z.glo (Z.fact 5)) (fXf_ok (Z.fact 497))) (ce_call (mk_InvalidLoad Z (hr.mono (by decide))) (Z.glo (Z.fact 6)) (kp_InvalidLoad Z) (ca_cons ce_non ca_nil))) (ca_cons (ce_xfld ["InvalidLoad", "InvalidBoxes"] (fun c hc => by
    simp only [List.mem_cons, List.mem_nil_iff, or_false] at hc
    rcases hc with rfl | rfl
    · exact at_ga (P := fun C => XfC _ C ∧ PySem.W.findIn _ (.ref C) "item" = some none) (Z.glo (Z.fact 6)) (fXf_ok (Z.fact 496))
    · exact at_ga (P := fun C => XfC _ C ∧ PySem.W.findIn _ (.ref C) "item" = some none) (Z.glo (Z.fact 5)) (fXf_ok (Z.fact 497))) (ce_call (mk_InvalidBoxes Z (hr.mono (by decide))) (Z.glo (Z.fact 5)) (kp_InvalidBoxes Z) (ca_cons ce_non ca_nil))) (ca_cons (ce_xfld ["InvalidText"] (fun c hc => by
    simp only [List.mem_cons, List.mem_nil_iff, or_false] at hc
    subst hc
    · exact at_ga (P := fun C => XfC _ C ∧ PySem.W.findIn _ (.ref C) "part" = some none) (Z.glo (Z.fact 4)) (fXf_ok (Z.fact 495))) (ce_call (mk_InvalidText Z (hr.mono (by decide))) (Z.glo (Z.fact 4)) (kp_InvalidText Z) (ca_cons ce_non ca_nil))) ca_nil)))))
  (css_one (cs_ret (ce_and (ce_cmp (opEq_ok hr.units) (ce_var 8) (ce_op opMul_ok (ce_lst (ca_cons ce_non ca_nil)) ce_int)) (ce_and (ce_cmp opNotIn_ok ce_bl (ce_call (cl__law_classes Z (hr.mono (by decide))) (Z.glo (Z.fact 491)) (kp__law_classes Z) (ca_cons (ce_var 7) ca_nil))) (ce_one (ce_isX tyFalse [] [("LaceError", true), ("InvalidLoad", true), ("InvalidBoxes", true), ("InvalidText", true), ("TooMany", true), ("OverBudget", true), ("InvalidWord", true), ("InvalidLayout", true), ("InvalidBits", true), ("InvalidCell", true), ("InvalidKey", true), ("InvalidBox", true), ("InvalidIndex", true), ("InvalidNumber", true), ("InvalidSize", true), ("InvalidBudget", true), ("UnlikeGrids", true), ("InvalidOperation", true), ("Nothing", true), ("InvalidCommand", true)] (.ty "ValueError") (pe_bltn (v := .ty "ValueError") rfl (Z.free (Z.fact 490)) bo_ValueError rfl (by decide) (by decide)) (fIsG_ok (Z.fact 63)) (tyFalse_ok (fKitBV_ok (Z.fact 489))) tb_nil (tb_cons (at_ga (P := fun C => ExcC _ C ∧ PySem.W.kitOne _ (.ref C) _ = some true) (Z.glo (Z.fact 60)) ⟨fExcC_ok (Z.fact 61), fKitV_ok (Z.fact 488)⟩) (tb_cons (at_ga (P := fun C => ExcC _ C ∧ PySem.W.kitOne _ (.ref C) _ = some true) (Z.glo (Z.fact 6)) ⟨fExcC_ok (Z.fact 58), fKitV_ok (Z.fact 487)⟩) (tb_cons (at_ga (P := fun C => ExcC _ C ∧ PySem.W.kitOne _ (.ref C) _ = some true) (Z.glo (Z.fact 5)) ⟨fExcC_ok (Z.fact 56), fKitV_ok (Z.fact 486)⟩) (tb_cons (at_ga (P := fun C => ExcC _ C ∧ PySem.W.kitOne _ (.ref C) _ = some true) (Z.glo (Z.fact 4)) ⟨fExcC_ok (Z.fact 54), fKitV_ok (Z.fact 485)⟩) (tb_cons (at_ga (P := fun C => ExcC _ C ∧ PySem.W.kitOne _ (.ref C) _ = some true) (Z.glo (Z.fact 3)) ⟨fExcC_ok (Z.fact 52), fKitV_ok (Z.fact 484)⟩) (tb_cons (at_ga (P := fun C => ExcC _ C ∧ PySem.W.kitOne _ (.ref C) _ = some true) (Z.glo (Z.fact 2)) ⟨fExcC_ok (Z.fact 50), fKitV_ok (Z.fact 483)⟩) (tb_cons (at_ga (P := fun C => ExcC _ C ∧ PySem.W.kitOne _ (.ref C) _ = some true) (Z.glo (Z.fact 11)) ⟨fExcC_ok (Z.fact 48), fKitV_ok (Z.fact 482)⟩) (tb_cons (at_ga (P := fun C => ExcC _ C ∧ PySem.W.kitOne _ (.ref C) _ = some true) (Z.glo (Z.fact 10)) ⟨fExcC_ok (Z.fact 46), fKitV_ok (Z.fact 481)⟩) (tb_cons (at_ga (P := fun C => ExcC _ C ∧ PySem.W.kitOne _ (.ref C) _ = some true) (Z.glo (Z.fact 9)) ⟨fExcC_ok (Z.fact 44), fKitV_ok (Z.fact 480)⟩) (tb_cons (at_ga (P := fun C => ExcC _ C ∧ PySem.W.kitOne _ (.ref C) _ = some true) (Z.glo (Z.fact 8)) ⟨fExcC_ok (Z.fact 42), fKitV_ok (Z.fact 479)⟩) (tb_cons (at_ga (P := fun C => ExcC _ C ∧ PySem.W.kitOne _ (.ref C) _ = some true) (Z.glo (Z.fact 7)) ⟨fExcC_ok (Z.fact 40), fKitV_ok (Z.fact 478)⟩) (tb_cons (at_ga (P := fun C => ExcC _ C ∧ PySem.W.kitOne _ (.ref C) _ = some true) (Z.glo (Z.fact 16)) ⟨fExcC_ok (Z.fact 38), fKitV_ok (Z.fact 477)⟩) (tb_cons (at_ga (P := fun C => ExcC _ C ∧ PySem.W.kitOne _ (.ref C) _ = some true) (Z.glo (Z.fact 15)) ⟨fExcC_ok (Z.fact 36), fKitV_ok (Z.fact 476)⟩) (tb_cons (at_ga (P := fun C => ExcC _ C ∧ PySem.W.kitOne _ (.ref C) _ = some true) (Z.glo (Z.fact 14)) ⟨fExcC_ok (Z.fact 34), fKitV_ok (Z.fact 475)⟩) (tb_cons (at_ga (P := fun C => ExcC _ C ∧ PySem.W.kitOne _ (.ref C) _ = some true) (Z.glo (Z.fact 13)) ⟨fExcC_ok (Z.fact 32), fKitV_ok (Z.fact 474)⟩) (tb_cons (at_ga (P := fun C => ExcC _ C ∧ PySem.W.kitOne _ (.ref C) _ = some true) (Z.glo (Z.fact 12)) ⟨fExcC_ok (Z.fact 30), fKitV_ok (Z.fact 473)⟩) (tb_cons (at_ga (P := fun C => ExcC _ C ∧ PySem.W.kitOne _ (.ref C) _ = some true) (Z.glo (Z.fact 20)) ⟨fExcC_ok (Z.fact 28), fKitV_ok (Z.fact 472)⟩) (tb_cons (at_ga (P := fun C => ExcC _ C ∧ PySem.W.kitOne _ (.ref C) _ = some true) (Z.glo (Z.fact 19)) ⟨fExcC_ok (Z.fact 26), fKitV_ok (Z.fact 471)⟩) (tb_cons (at_ga (P := fun C => ExcC _ C ∧ PySem.W.kitOne _ (.ref C) _ = some true) (Z.glo (Z.fact 18)) ⟨fExcC_ok (Z.fact 24), fKitV_ok (Z.fact 470)⟩) (tb_cons (at_ga (P := fun C => ExcC _ C ∧ PySem.W.kitOne _ (.ref C) _ = some true) (Z.glo (Z.fact 17)) ⟨fExcC_ok (Z.fact 22), fKitV_ok (Z.fact 469)⟩) (tb_nil))))))))))))))))))))) (Z.free (Z.fact 64)) (ce_var 7)))))))))))
theorem fd_law {K : PySem.W.Frag} {mg : Str → Option Value} (Z : Hd K mg) : ∃ fd : FuncData, FunD K "law" "law" (defArgs s_law) (defBody s_law) (defScope s_law) [] [] (adr K d_law) fd := Z.def_ 4 (d := d_law) rfl
theorem fn_law {P : Program} {w : World} {K : PySem.W.Frag} {mg : Str → Option Value} {base : Heap} (Z : Hd K mg) : ∃ fd : FuncData, FnOk P w K mg base (L2.CX P w) 4 (adr K d_law) fd ["script"] (spOf w mg 1 f_law) ∧ Binds K fd ["script"] [] := by
  obtain ⟨fd, F⟩ := fd_law Z
  exact ⟨fd, Lc.fn_ok (N := ["script", "bag", "turn", "number", "made", "k", "one", "base", "some", "j"]) (ps := ["script"]) (k := 3) m_law F sc_law (fun cdv A outer s H E hr => bd_law Z cdv A outer s H E hr), F.bindsN fun _ _ _ _ _ _ us hl => match us, hl with | [_], _ => rfl⟩
theorem cl_law {X : Cx} (Z : Hd X.K X.mg) (hr : Room 4 X.A) : CallOk X (.ref (He.ga X.K "law")) φ_law := by
  obtain ⟨fd, F, b⟩ := fn_law (P := X.prog) (w := X.w) (base := X.base) Z
  exact callOk_fn (m := m_law) F hr b
theorem kp_law {K : PySem.W.Frag} {mg : Str → Option Value} (Z : Hd K mg) : PySem.W.keepIn K (.ref (adr K d_law)) = true := by
  obtain ⟨fd, F⟩ := fd_law Z
  exact F.kp
theorem g_law {K : PySem.W.Frag} {mg : Str → Option Value} (Z : Hd K mg) : mg "law" = some (.ref (He.ga K "law")) := (Z.glo (Z.fact 518))
theorem fb_law {K : PySem.W.Frag} {fd : FuncData} (F : FunD K "law" "law" (defArgs s_law) (defBody s_law) (defScope s_law) [] [] (adr K d_law) fd) (s : Shared) (us : List Value) (hl : us.length = 1) : BindsTo s fd ⟨us, []⟩ ((["script"] : List Str).zip us) := FunD.bindsA (ps := ["script"]) F (fun _ _ _ _ _ _ us hl => match us, hl with | [_], _ => rfl) s us hl
theorem fo_law {P : Program} {w : World} {K : PySem.W.Frag} {mg : Str → Option Value} {base : Heap} {fd : FuncData} (Z : Hd K mg) (F : FunD K "law" "law" (defArgs s_law) (defBody s_law) (defScope s_law) [] [] (adr K d_law) fd) : FnOk P w K mg base (L2.CX P w) 4 (adr K d_law) fd ["script"] (spOf w mg 1 f_law) := Lc.fn_ok (N := ["script", "bag", "turn", "number", "made", "k", "one", "base", "some", "j"]) (ps := ["script"]) (k := 3) m_law F sc_law (fun cdv A outer s H E hr => bd_law Z cdv A outer s H E hr)
end Lw

set_option maxHeartbeats 2000000
namespace Lw
open PySem PySem.Spec PyProof.Rows L2 Lc
/-! ### the bag -/
def bagC (a b t : Int) : Cell := .live false (.lst [.int a, .int b, .int t])
theorem bag_ok (c : Int) (S : Store) : φ__law_bag [.d (.int c)] S = .ok (.ref S.length) (S ++ [bagC (if c - 1000000000000000000 > 0 then c - 1000000000000000000 else 0) c 0]) := by
  simp [φ__law_bag, f__law_bag, mkFn, m__law_bag, msRet, mLstM, maCons, maNil, mB, bMax, mC, mBin, opSub, op2I, opPow, mVar, R.bind, R.toO, okD, frzVs, frzV, bagC]
/-- a draw behind a used-up bag -/
def dr1 (b t : Int) : Int := (b % 2147483629 * 48271 + t * 69621 + 12345) % 2147483647
def dr2 (b t : Int) : Int := (dr1 b t * dr1 b t + t * 40692) % 2147483587
def dr3 (b t : Int) : Int := (dr1 b t * 2147483587 + dr2 b t) / 32
def drawB (b t many : Int) : Int := (if 1000000000000000 < many then dr3 b t ^ 8 + dr2 b t else dr3 b t) % many
def pickV (a b t many : Int) : Int := if 0 < a then a % many else drawB b (t + 1) many
def pickA (a many : Int) : Int := if 0 < a then a / many else a
section
variable {n : Nat} {S : Store} {a b t : Int}
theorem ix_bag (h : S[n]? = some (bagC a b t)) : seqA S (.ref n) = some [.int a, .int b, .int t] := by
  unfold bagC at h
  simp only [seqA, seqT, seqL, h]
theorem bag0 (h : S[n]? = some (bagC a b t)) : opIx S (.ref n) (.d (.int 0)) = some (.int a) := by
  show (match seqA S (.ref n) with | some xs => atI xs 0 | none => none) = _
  rw [ix_bag h]; rfl
theorem bag1 (h : S[n]? = some (bagC a b t)) : opIx S (.ref n) (.d (.int 1)) = some (.int b) := by
  show (match seqA S (.ref n) with | some xs => atI xs 1 | none => none) = _
  rw [ix_bag h]; rfl
theorem bag2 (h : S[n]? = some (bagC a b t)) : opIx S (.ref n) (.d (.int 2)) = some (.int t) := by
  show (match seqA S (.ref n) with | some xs => atI xs 2 | none => none) = _
  rw [ix_bag h]; rfl
theorem bagL (h : S[n]? = some (bagC a b t)) : liveL S n = some [.int a, .int b, .int t] := by
  unfold bagC at h
  simp only [liveL, h]
theorem bagS0 (h : S[n]? = some (bagC a b t)) (x : Int) : Lc.stI S (.ref n) (.d (.int 0)) (.d (.int x)) = some (S.set n (bagC x b t)) := by
  show (match liveL S n with | some xs => (match ixN xs.length 0 with | some j => some (S.set n (.live false (.lst (xs.set j (.int x))))) | none => none) | none => none) = _
  rw [bagL h]; rfl
theorem bagS2 (h : S[n]? = some (bagC a b t)) (x : Int) : Lc.stI S (.ref n) (.d (.int 2)) (.d (.int x)) = some (S.set n (bagC a b x)) := by
  show (match liveL S n with | some xs => (match ixN xs.length 2 with | some j => some (S.set n (.live false (.lst (xs.set j (.int x))))) | none => none) | none => none) = _
  rw [bagL h]; rfl
theorem div_ok {i j : Int} (h : 0 < j) (h2 : j.natAbs.log2 < 9000) : opDiv S (.d (.int i)) (.d (.int j)) = some (.int (i / j)) := if_pos ⟨h, h2⟩
theorem mod_ok {i j : Int} (h : 0 < j) : opMod S (.d (.int i)) (.d (.int j)) = some (.int (i % j)) := if_pos h
theorem mul_ok {i j : Int} (h : szOk i = true) (h2 : szOk j = true) : opMul S (.d (.int i)) (.d (.int j)) = some (.int (i * j)) := by
  show opMulI i j = _
  unfold opMulI
  rw [h, h2]; rfl
theorem sz_ok {i : Int} (h : i.natAbs < 2 ^ 500) : szOk i = true := szOk_of h (by decide) (by decide)
theorem pow_ok {i j : Int} (h : 0 ≤ j ∧ j ≤ 1000000 ∧ i.natAbs < 2 ^ 64) : opPow S (.d (.int i)) (.d (.int j)) = some (.int (i ^ j.toNat)) := if_pos h
theorem pick_raw {many : Int} (h : S[n]? = some (bagC a b t)) (hm : 0 < many) (hm2 : many.natAbs.log2 < 9000) (ht : 0 ≤ t) (ht2 : t < 2 ^ 60) :
    f__law_pick [.ref n, .d (.int many)] S = .ok (.d (.int (pickV a b t many))) (S.set n (bagC (pickA a many) b (t + 1))) := by
  have hl : n < S.length := (List.getElem?_eq_some_iff.mp h).1
  have h1 : (S.set n (bagC a b (t + 1)))[n]? = some (bagC a b (t + 1)) := List.getElem?_set_self hl
  refine x_fn rfl ?_
  refine x_seq (x_setI (x_bin (x_bin (x_var rfl) x_c (bag2 h)) x_c rfl) (x_var rfl) x_c (bagS2 h _)) ?_
  unfold pickV pickA
  by_cases ha : 0 < a
  · rw [if_pos ha, if_pos ha]
    refine x_seqR ?_
    refine x_sifT (x_test (x_bin (x_bin (x_var rfl) x_c (bag0 h1)) x_c (by show some (D.bl (decide (0 < a))) = some (D.bl true); rw [decide_eq_true ha]))) ?_
    refine x_seq (x_set (x_bin (x_b (x_cons (x_bin (x_var rfl) x_c (bag0 h1)) x_nil) rfl) (x_var rfl) (mod_ok hm))) ?_
    refine x_seq (x_setI (x_bin (x_b (x_cons (x_bin (x_var rfl) x_c (bag0 h1)) x_nil) rfl) (x_var rfl) (div_ok hm hm2)) (x_var rfl) x_c (bagS0 h1 _)) ?_
    rw [List.set_set]
    exact x_ret (x_var rfl)
  · rw [if_neg ha, if_neg ha]
    have b1 : 0 ≤ dr1 b (t + 1) ∧ dr1 b (t + 1) < 2147483647 := ⟨Int.emod_nonneg _ (by decide), Int.emod_lt_of_pos _ (by decide)⟩
    have b2 : 0 ≤ dr2 b (t + 1) ∧ dr2 b (t + 1) < 2147483587 := ⟨Int.emod_nonneg _ (by decide), Int.emod_lt_of_pos _ (by decide)⟩
    have b0 : 0 ≤ b % 2147483629 ∧ b % 2147483629 < 2147483629 := ⟨Int.emod_nonneg _ (by decide), Int.emod_lt_of_pos _ (by decide)⟩
    have b3 : 0 ≤ dr3 b (t + 1) ∧ dr3 b (t + 1) < 2 ^ 60 := by unfold dr3; omega
    refine x_seq (x_sifF (x_test (x_bin (x_bin (x_var rfl) x_c (bag0 h1)) x_c (by show some (D.bl (decide (0 < a))) = some (D.bl false); rw [decide_eq_false ha]))) x_nilS) ?_
    refine x_seq (x_par (x_cons (x_b (x_cons (x_bin (x_var rfl) x_c (bag1 h1)) x_nil) rfl) (x_cons (x_b (x_cons (x_bin (x_var rfl) x_c (bag2 h1)) x_nil) rfl) x_nil)) rfl) ?_
    refine x_seq (x_set (v := .d (.int (dr1 b (t + 1)))) (x_bin (x_b (x_cons (x_bin (x_bin (x_bin (x_bin (x_var rfl) x_c (mod_ok (by decide))) x_c (mul_ok (sz_ok (by omega)) (sz_ok (by decide)))) (x_bin (x_var rfl) x_c (mul_ok (sz_ok (by omega)) (sz_ok (by decide)))) rfl) x_c rfl) x_nil) rfl) x_c (mod_ok (by decide)))) ?_
    refine x_seq (x_set (v := .d (.int (dr2 b (t + 1)))) (x_bin (x_b (x_cons (x_bin (x_bin (x_var rfl) (x_var rfl) (mul_ok (sz_ok (by omega)) (sz_ok (by omega)))) (x_bin (x_var rfl) x_c (mul_ok (sz_ok (by omega)) (sz_ok (by decide)))) rfl) x_nil) rfl) x_c (mod_ok (by decide)))) ?_
    refine x_seq (x_set (v := .d (.int (dr3 b (t + 1)))) (x_bin (x_b (x_cons (x_bin (x_bin (x_var rfl) x_c (mul_ok (sz_ok (by omega)) (sz_ok (by decide)))) (x_var rfl) rfl) x_nil) rfl) x_c (div_ok (by decide) (by decide)))) ?_
    unfold drawB
    by_cases hb : 1000000000000000 < many
    · rw [if_pos hb]
      refine x_seq (x_sifT (x_test (x_bin (x_var rfl) (x_bin x_c x_c (pow_ok (by decide))) (by show some (D.bl (decide (1000000000000000 < many))) = some (D.bl true); rw [decide_eq_true hb]))) (x_set (x_bin (x_bin (x_var rfl) x_c (pow_ok (by omega))) (x_var rfl) rfl))) ?_
      exact x_ret (x_bin (x_b (x_cons (x_var rfl) x_nil) rfl) (x_var rfl) (mod_ok hm))
    · rw [if_neg hb]
      refine x_seq (x_sifF (x_test (x_bin (x_var rfl) (x_bin x_c x_c (pow_ok (by decide))) (by show some (D.bl (decide (1000000000000000 < many))) = some (D.bl false); rw [decide_eq_false hb]))) x_nilS) ?_
      exact x_ret (x_bin (x_b (x_cons (x_var rfl) x_nil) rfl) (x_var rfl) (mod_ok hm))
/-- cells that a call may leave as they are -/
def lows (S : Store) : Bool := S.all (lowC S.length)
theorem pick_ok {many : Int} (h : S[n]? = some (bagC a b t)) (hl : lows S = true) (hm : 0 < many) (hm2 : many.natAbs.log2 < 9000) (ht : 0 ≤ t) (ht2 : t < 2 ^ 60) :
    φ__law_pick [.ref n, .d (.int many)] S = .ok (.d (.int (pickV a b t many))) (S.set n (bagC (pickA a many) b (t + 1))) := by
  have q := x_trim (pick_raw h hm hm2 ht ht2) (u := .d (.int (pickV a b t many))) rfl (by
    rw [List.take_of_length_le (by simp)]
    refine List.all_eq_true.mpr fun c hc => ?_
    rcases List.mem_or_eq_of_mem_set hc with q | q
    · exact List.all_eq_true.mp hl c q
    · rw [q]; rfl)
  rwa [List.take_of_length_le (by simp)] at q
end
end Lw

set_option maxHeartbeats 2000000
namespace Lw
open PySem PySem.Spec PyProof.Rows L2 Lc
def madeL (v : D) : List D := [.exc "InvalidLoad" [("item", v)], .exc "InvalidBoxes" [("item", v)], .exc "InvalidText" [("part", v)], .exc "TooMany" [("limit", v)], .exc "OverBudget" [("total", v)],
  .exc "InvalidWord" [], .exc "InvalidLayout" [], .exc "InvalidBits" [], .exc "InvalidCell" [], .exc "InvalidKey" [], .exc "InvalidBox" [], .exc "InvalidIndex" [], .exc "InvalidNumber" [], .exc "InvalidSize" [], .exc "InvalidBudget" [], .exc "UnlikeGrids" [], .exc "InvalidOperation" [], .exc "Nothing" [], .exc "InvalidCommand" []]
theorem made_ok (v : D) (c : Cell) : φ__law_made [.d v] [c] = .ok (.d (.lst (madeL v))) [c] := by kernel_rfl
/-- the loop over the errors -/
theorem loop_ok (v : D) (a b t : Int) (x0 x1 x2 x5 x6 x7 x8 x9 : Option Val) : forL (mgTup (mgCons (mgName 5) (mgCons (mgName 6) mgNil))) b0_law (enumD (madeL v)) [x0, x1, x2, some (.d v), some (.d (.lst (madeL v))), x5, x6, x7, x8, x9] [bagC a b t] =
    .nx [x0, x1, x2, some (.d v), some (.d (.lst (madeL v))), some (.d (.int 18)), some (.d (.exc "InvalidCommand" [])), x7, x8, x9] [bagC a b t] := by kernel_rfl
theorem five (S : Store) (v : Int) : opNe S (.d (.lst [.int v, .int v, .int v, .int v, .int v])) (.d (.lst [.int v, .int v, .int v, .int v, .int v])) = some (.bl false) := by
  have e : PyData.eqv (.list [.int v, .int v, .int v, .int v, .int v]) (.list [.int v, .int v, .int v, .int v, .int v]) = true := SeqAt.eqv_refl _ rfl
  show (Option.map (fun k => D.bl (!k)) (if SeqAt.shaped (.list [.int v, .int v, .int v, .int v, .int v]) && SeqAt.shaped (.list [.int v, .int v, .int v, .int v, .int v]) then some (PyData.eqv (.list [.int v, .int v, .int v, .int v, .int v]) (.list [.int v, .int v, .int v, .int v, .int v])) else none)) = _
  rw [e]
  rfl
theorem body_ok (a b t t' i many : Int) (ht : 0 ≤ t) (ht2 : t < 1000) (et : t' = t + 1) (hm : many = 9 ∨ many = 10 ^ 60)
    (hi : ∀ (x0 x3 x4 x5 x6 x7 x8 x9 : Option Val), mBin opIx (mLst (maCons (mC (.int 9)) (maCons (mBin opPow (mC (.int 10)) (mC (.int 60))) maNil))) (mBin opMod (mVar 2) (mC (.int 2))) [x0, some (.ref 0), some (.d (.int i)), x3, x4, x5, x6, x7, x8, x9] [bagC a b t] = .ok (.d (.int many)) [bagC a b t]) :
    ∃ a' v, ∀ (x0 x3 x4 x5 x6 x7 x8 x9 : Option Val), b1_law [x0, some (.ref 0), some (.d (.int i)), x3, x4, x5, x6, x7, x8, x9] [bagC a b t] = .nx [x0, some (.ref 0), some (.d (.int i)), some (.d (.int v)), some (.d (.lst (madeL (.int v)))), some (.d (.int 18)), some (.d (.exc "InvalidCommand" [])), x7, x8, x9] [bagC a' b t'] := by
  subst et
  refine ⟨pickA a many, pickV a b t many, fun x0 x3 x4 x5 x6 x7 x8 x9 => ?_⟩
  have hp : 0 < many := by rcases hm with rfl | rfl <;> decide
  have hp2 : many.natAbs.log2 < 9000 := by rcases hm with rfl | rfl <;> decide +kernel
  have q := pick_ok (n := 0) (S := [bagC a b t]) (a := a) (b := b) (t := t) rfl rfl hp hp2 ht (by omega)
  refine x_seq (x_set (x_call (x_cons (x_var rfl) (x_cons (hi _ _ _ _ _ _ _ _) x_nil)) q)) ?_
  refine x_seq (x_set (x_call (x_cons (x_var rfl) x_nil) (made_ok _ _))) ?_
  refine x_seq (x_for (x_enum (x_cons (x_var rfl) x_nil) rfl) (loop_ok _ _ _ _ _ _ _ _ _ _ _ _)) ?_
  refine x_sifF (x_test (x_bin (d := .bl false) (x_lst (x_cons (x_xfld (x_bin (x_var rfl) x_c rfl) (by decide) rfl) (x_cons (x_xfld (x_bin (x_var rfl) x_c rfl) (by decide) rfl) (x_cons (x_xfld (x_bin (x_var rfl) x_c rfl) (by decide) rfl) (x_cons (x_xfld (x_bin (x_var rfl) x_c rfl) (by decide) rfl) (x_cons (x_xfld (x_bin (x_var rfl) x_c rfl) (by decide) rfl) x_nil))))) rfl (Nat.le_of_ble_eq_true rfl))
    (x_bin (d := .lst [.int _, .int _, .int _, .int _, .int _]) (x_lst (x_cons (x_var rfl) x_nil) rfl (Nat.le_of_ble_eq_true rfl)) x_c rfl) (five _ _))) x_nilS
theorem at0 {α : Type} (x : α) (xs : List α) : atI (x :: xs) 0 = some x := by
  unfold atI ixN
  rw [if_pos (by decide), if_pos (by rw [List.length_cons]; omega)]
  rfl
theorem add_lst {S : Store} {xs ys : List D} (h : xs.length + ys.length ≤ sizeLine) : opAdd S (.d (.lst xs)) (.d (.lst ys)) = some (.lst (xs ++ ys)) := if_pos h
theorem law_ok (ns : List Int) (hl : ns.length ≤ 63) : ∃ S', f_law [.d (.lst (ns.map .int))] [] = .ok (.d (.bl true)) S' := by
  obtain ⟨c, hc⟩ : ∃ c, atI (ns.map D.int ++ [D.int 0]) 0 = some (D.int c) := by
    cases ns with
    | nil => exact ⟨0, rfl⟩
    | cons n r => exact ⟨n, at0 _ _⟩
  have h1 := x_bin (ρ := [some (.d (.lst (ns.map .int))), none, none, none, none, none, none, none, none, none]) (S := []) (f := opIx) (d := .int c) (x_bin (f := opAdd) (x_var (i := 0) rfl) (x_lst (x_cons (x_c (d := .int 0)) x_nil) rfl (Nat.le_of_ble_eq_true rfl)) (add_lst (by
    rw [List.length_map, sizeLine_eq]
    show ns.length + 1 ≤ _
    omega))) (x_c (d := .int 0)) hc
  obtain ⟨a1, v1, e1⟩ := body_ok (if c - 1000000000000000000 > 0 then c - 1000000000000000000 else 0) c 0 1 0 9 (by decide) (by decide) (by decide) (.inl rfl) fun _ _ _ _ _ _ _ _ => rfl
  obtain ⟨a2, v2, e2⟩ := body_ok a1 c 1 2 1 (10 ^ 60) (by decide) (by decide) (by decide) (.inr rfl) fun _ _ _ _ _ _ _ _ => rfl
  obtain ⟨a3, v3, e3⟩ := body_ok a2 c 2 3 2 9 (by decide) (by decide) (by decide) (.inl rfl) fun _ _ _ _ _ _ _ _ => rfl
  obtain ⟨a4, v4, e4⟩ := body_ok a3 c 3 4 3 (10 ^ 60) (by decide) (by decide) (by decide) (.inr rfl) fun _ _ _ _ _ _ _ _ => rfl
  refine ⟨[bagC a4 c 4], x_fn rfl ?_⟩
  refine x_seq (x_set (x_call (x_cons h1 x_nil) (bag_ok c []))) ?_
  refine x_seq (x_for (x_rng (x_cons x_c x_nil) (show rng1 [.d (.int 4)] _ = .ok [.d (.int 0), .d (.int 1), .d (.int 2), .d (.int 3)] _ from rfl)) (x_forC rfl (e1 _ _ _ _ _ _ _ _) (x_forC rfl (e2 _ _ _ _ _ _ _ _) (x_forC rfl (e3 _ _ _ _ _ _ _ _) (x_forC rfl (e4 _ _ _ _ _ _ _ _) x_forN))))) ?_
  generalize bagC a4 c 4 = cc
  generalize (ns.map D.int) = l
  generalize D.int v4 = dv
  kernel_rfl
end Lw

set_option maxHeartbeats 0
namespace Lw
open PySem PySem.Spec PyProof.Rows L2 Lc
abbrev R : PySem.W.OpenRow := PySem.W.OpenLaw.row PySem.Challenge.rw_lacekeys_k51_errors_made
abbrev hk : PySem.W.Hook := hookC ex fn
def ob (s : PySem.W.SharedT) : AlC := obsCG ex fn (HandSHeadRun.getT s)
theorem ob_eq (s : PySem.W.SharedT) : ob s = hk.obs s.abs := obsCG_eq (HandSHeadRun.getT_eq s)
theorem run (w : World) : HandSHeadRun.RunEq R (PySem.W.view R.prog [26]) hk ob 20000 names w := by
  intro os
  kernel_rfl
end Lw
open PySem PySem.W PySem.Calls PyProof.Rows Lc
theorem Lw.holds_of (hφ : ∀ ns : List Int, ns.length ≤ 63 → ∃ S', Lw.f_law [.d (.lst (ns.map .int))] [] = .ok (.d (.bl true)) S') : PySem.Challenge.rw_lacekeys_k51_errors_made.Holds := by
  w_on; o_law
  refine HandSHeadRun.head_any (r := OpenLaw.row PySem.Challenge.rw_lacekeys_k51_errors_made) (q := view (OpenLaw.row PySem.Challenge.rw_lacekeys_k51_errors_made).prog [26]) (H := Lw.hk) (ob := Lw.ob) (M := 20000) (loose := Lw.names) (d := HandSHeadRun.topDef (OpenLaw.row PySem.Challenge.rw_lacekeys_k51_errors_made).prog 26) (kwd := []) Lw.ob_eq
    (by kernel_rfl) (fun s => by kernel_rfl) Lw.run (by kernel_rfl) (by kernel_rfl) (by kernel_rfl) (by rfl) (by first | assumption | decide +kernel) (by decide +kernel) ⟨rfl, rfl, rfl, rfl, rfl, by decide +kernel⟩ ?hw ?hc
  case hw => w_witness2
  case hc =>
    refine walk_ofC (l := PySem.Challenge.rw_lacekeys_k51_errors_made) (n := 63) (k := 4) (x := "script") rfl (by decide) (by kernel_rfl) ⟨rfl, by decide, by decide⟩ ?F
    intro w mg fa h Y G hmg0
    obtain ⟨K, KX, hNL, c⟩ := Y
    have hmg : mg ("law" : PySem.Str) = some (.ref fa) := by
      have e : (HandSHeadRun.topDef (OpenLaw.row PySem.Challenge.rw_lacekeys_k51_errors_made).prog 26).name = ("law" : PySem.Str) := by kernel_rfl
      rw [← e]
      exact hmg0
    have Z : Lw.Hd K mg := ⟨⟨h, KX, G⟩, c⟩
    have e : fa = He.ga K "law" := ref_inj (Lw.g_law Z) hmg
    subst e
    obtain ⟨fd, F⟩ := Lw.fd_law Z
    exact ⟨K, fd, Lw.f_law, KX, hNL, fun s v => Lw.fb_law F s [v] rfl, hφ, fun base _ _ => Lw.fo_law Z F⟩

theorem PySem.Challenge.cw_lacekeys_k51_errors_made_holds : PySem.Challenge.rw_lacekeys_k51_errors_made.Holds := by
  exact Lw.holds_of Lw.law_ok

