import PyProof.Rows.All
import Wide.All
import OpenK.AllK
import Wide.FinOn
import HandS.ForMost
import HandS.Style
import HandS.Wide
import HandS.Walk
import HandS.TupAny
import HandS.TupMul
import HandS.IsInst
import HandS.NoneIn
import HandS.WideBits
import HandS.Conv
import HandS.Zip
import HandS.Exc
import HandS.WordsExc
import HandS.RevRange
import KE.DatumOrd
import KE.GoesEnum
import HandS.More
import HandS.Words
import PySem.Challenge.RW_aboutface_k06_known_beats
set_option Elab.async false
set_option linter.all false
set_option maxRecDepth 100000
set_option maxHeartbeats 8000000
namespace Ab
open PySem PySem.Spec PyProof.Rows L2

/-! ### data, as values -/
inductive D where
  | non
  | bl (b : Bool)
  | int (i : Int)
  | str (x : Str)
  | seq (l : Bool) (xs : List D)
  | hnd (k : Nat)
  | scr (ns : List Int)
abbrev tupD (xs : List D) : D := .seq false xs
abbrev lstD (xs : List D) : D := .seq true xs

mutual
inductive Is (K : PySem.W.Frag) (F : Hp) (A : List Addr) : V → D → Prop
  | non : Is K F A .non .non
  | bl (b : Bool) : Is K F A (.bl b) (.bl b)
  | int (i : Int) : Is K F A (.int i) (.int i)
  | str (x : Str) : Is K F A (.str x) (.str x)
  | tup {a : Addr} {vs : List V} {ds : List D} : SqT K F a vs → Iss K F A vs ds → Is K F A (.ref a) (.seq false ds)
  | lst {a : Addr} {vs : List V} {ds : List D} : F a = some (.lst vs) → Iss K F A vs ds → Is K F A (.ref a) (.seq true ds)
  | hnd {a : Addr} {k : Nat} : A[k]? = some a → Is K F A (.ref a) (.hnd k)
  | scr {a : Addr} {ns : List Int} : SqL K F a (ns.map V.int) → Is K F A (.ref a) (.scr ns)
inductive Iss (K : PySem.W.Frag) (F : Hp) (A : List Addr) : List V → List D → Prop
  | nil : Iss K F A [] []
  | cons {v : V} {vs : List V} {d : D} {ds : List D} : Is K F A v d → Iss K F A vs ds → Iss K F A (v :: vs) (d :: ds)
end

section
variable {K : PySem.W.Frag} {F F' : Hp} {A A' : List Addr}
theorem same_tup (e : Same F F') {a : Addr} {xs : List V} (h : SqT K F a xs) : SqT K F' a xs := by
  rcases h with (h | ⟨o, h⟩) | h
  · exact .inl (.inl (e _ _ h))
  · exact .inl (.inr ⟨o, e _ _ h⟩)
  · exact .inr h
mutual
theorem Is.mono (e : Same F F') (ha : ∀ (k : Nat) a, A[k]? = some a → A'[k]? = some a) : ∀ {v : V} {d : D}, Is K F A v d → Is K F' A' v d
  | _, _, .non => .non
  | _, _, .bl b => .bl b
  | _, _, .int i => .int i
  | _, _, .str x => .str x
  | _, _, .tup h hs => .tup (same_tup e h) (Iss.mono e ha hs)
  | _, _, .lst h hs => .lst (e _ _ h) (Iss.mono e ha hs)
  | _, _, .hnd h => .hnd (ha _ _ h)
  | _, _, .scr h => .scr (e.seq h)
theorem Iss.mono (e : Same F F') (ha : ∀ (k : Nat) a, A[k]? = some a → A'[k]? = some a) : ∀ {vs : List V} {ds : List D}, Iss K F A vs ds → Iss K F' A' vs ds
  | _, _, .nil => .nil
  | _, _, .cons h hs => .cons (Is.mono e ha h) (Iss.mono e ha hs)
end
theorem Iss.length : ∀ {vs : List V} {ds : List D}, Iss K F A vs ds → vs.length = ds.length
  | _, _, .nil => rfl
  | _, _, .cons _ hs => by rw [List.length_cons, List.length_cons, hs.length]
theorem Iss.get : ∀ {vs : List V} {ds : List D} {i : Nat} {d : D}, Iss K F A vs ds → ds[i]? = some d → ∃ v, vs[i]? = some v ∧ Is K F A v d
  | _, _, _, _, .nil, e => by simp at e
  | _, _, 0, _, .cons h _, e => by simp at e; subst e; exact ⟨_, rfl, h⟩
  | _, _, i + 1, d, .cons _ hs, e => by
    obtain ⟨v, h1, h2⟩ := Iss.get (i := i) (d := d) hs (by simpa using e)
    exact ⟨v, by simpa using h1, h2⟩
theorem Iss.getV : ∀ {vs : List V} {ds : List D} {i : Nat} {v : V}, Iss K F A vs ds → vs[i]? = some v → ∃ d, ds[i]? = some d ∧ Is K F A v d
  | _, _, _, _, .nil, e => by simp at e
  | _, _, 0, _, .cons h _, e => by simp at e; subst e; exact ⟨_, rfl, h⟩
  | _, _, i + 1, v, .cons _ hs, e => by
    obtain ⟨d, h1, h2⟩ := Iss.getV (i := i) (v := v) hs (by simpa using e)
    exact ⟨d, by simpa using h1, h2⟩
theorem Iss.append : ∀ {vs ws : List V} {ds es : List D}, Iss K F A vs ds → Iss K F A ws es → Iss K F A (vs ++ ws) (ds ++ es)
  | _, _, _, _, .nil, s => s
  | _, _, _, _, .cons h hs, s => .cons h (Iss.append hs s)
theorem Iss.take : ∀ {vs : List V} {ds : List D} (n : Nat), Iss K F A vs ds → Iss K F A (vs.take n) (ds.take n)
  | _, _, 0, _ => .nil
  | _, _, _ + 1, .nil => .nil
  | _, _, n + 1, .cons h hs => .cons h (Iss.take n hs)
theorem Iss.drop : ∀ {vs : List V} {ds : List D} (n : Nat), Iss K F A vs ds → Iss K F A (vs.drop n) (ds.drop n)
  | _, _, 0, h => h
  | _, _, _ + 1, .nil => .nil
  | _, _, n + 1, .cons h hs => Iss.drop n hs
theorem Iss.set {v : V} {d : D} (h : Is K F A v d) : ∀ {vs : List V} {ds : List D} (i : Nat), Iss K F A vs ds → Iss K F A (vs.set i v) (ds.set i d)
  | _, _, _, .nil => .nil
  | _, _, 0, .cons _ t => .cons h t
  | _, _, i + 1, .cons q t => .cons q (Iss.set h i t)
theorem Iss.reverse {vs : List V} {ds : List D} (h : Iss K F A vs ds) : Iss K F A vs.reverse ds.reverse := by
  induction vs generalizing ds with
  | nil => cases h; exact .nil
  | cons v vs ih =>
    cases h with
    | cons h hs =>
      rw [List.reverse_cons, List.reverse_cons]
      exact (ih hs).append (.cons h .nil)
theorem Iss.ints : ∀ {ns : List Int} {vs : List V}, Iss K F A vs (ns.map D.int) → vs = ns.map V.int
  | [], _, .nil => rfl
  | n :: ns, _, .cons h hs => by
    cases h
    rw [List.map_cons, Iss.ints hs]
theorem Iss.of_ints : ∀ (ns : List Int), Iss K F A (ns.map V.int) (ns.map D.int)
  | [] => .nil
  | n :: ns => .cons (.int n) (Iss.of_ints ns)
theorem Iss.bls : ∀ {ns : List Bool} {vs : List V}, Iss K F A vs (ns.map D.bl) → vs = ns.map V.bl
  | [], _, .nil => rfl
  | n :: ns, _, .cons h hs => by
    cases h
    rw [List.map_cons, Iss.bls hs]
end

/-! ### data without lists and handles lean on tuples alone -/
mutual
def D.pure : D → Bool
  | .seq false xs => D.pures xs
  | .seq true _ => false
  | .scr _ => false
  | _ => true
def D.pures : List D → Bool
  | [] => true
  | d :: ds => d.pure && D.pures ds
end
section
variable {K : PySem.W.Frag} {F F' : Hp} {A : List Addr}
mutual
theorem Is.pure (e : ∀ a xs, SqT K F a xs → SqT K F' a xs) : ∀ {v : V} {d : D}, Is K F A v d → d.pure = true → Is K F' A v d
  | _, _, .non, _ => .non
  | _, _, .bl b, _ => .bl b
  | _, _, .int i, _ => .int i
  | _, _, .str x, _ => .str x
  | _, _, .tup h hs, p => .tup (e _ _ h) (Iss.pure e hs p)
  | _, _, .lst _ _, p => by cases p
  | _, _, .hnd h, _ => .hnd h
  | _, _, .scr _, p => by cases p
theorem Iss.pure (e : ∀ a xs, SqT K F a xs → SqT K F' a xs) : ∀ {vs : List V} {ds : List D}, Iss K F A vs ds → D.pures ds = true → Iss K F' A vs ds
  | _, _, .nil, _ => .nil
  | _, _, .cons (d := d) (ds := ds) h hs, p => by
    have p' : (d.pure && D.pures ds) = true := p
    rw [Bool.and_eq_true] at p'
    exact .cons (Is.pure e h p'.1) (Iss.pure e hs p'.2)
end
end

/-! ### the frozen part, what may be touched, the handles -/
structure Fz where
  F : Hp
  T : Addr → Prop
  A : List Addr
structure Fz.Le (z z' : Fz) (H H' : Hp) : Prop where
  fF : Same z.F z'.F
  nw : ∀ a o, z'.F a = some o → z.F a = some o ∨ H a = none
  kp : ∀ a o, H a = some o → ¬ z.T a → H' a = some o
  st : ∀ a, H' a = none → H a = none
  tw : ∀ a, z'.T a → z.T a ∨ H a = none
  aw : ∀ (k : Nat) a, z.A[k]? = some a → z'.A[k]? = some a
structure Fz.Ok (z : Fz) (H : Hp) : Prop where
  sub : Same z.F H
  dis : ∀ a, z.T a → z.F a = none
  thr : ∀ a, z.T a → H a ≠ none
theorem Fz.Le.refl (z : Fz) (H : Hp) : z.Le z H H := ⟨Same.refl _, fun _ _ h => .inl h, fun _ _ h _ => h, fun _ h => h, fun _ h => .inl h, fun _ _ h => h⟩
theorem Fz.Le.trans {z z1 z2 : Fz} {H H1 H2 : Hp} (a : z.Le z1 H H1) (b : z1.Le z2 H1 H2) : z.Le z2 H H2 where
  fF := a.fF.trans b.fF
  nw := fun p o h => by
    rcases b.nw p o h with h | h
    · exact a.nw p o h
    · exact .inr (a.st p h)
  kp := fun p o h n => by
    refine b.kp p o (a.kp p o h n) fun t => ?_
    rcases a.tw p t with t | t
    · exact n t
    · rw [h] at t; cases t
  st := fun p h => a.st p (b.st p h)
  tw := fun p t => by
    rcases b.tw p t with t | t
    · exact a.tw p t
    · exact .inr (a.st p t)
  aw := fun k p h => b.aw k p (a.aw k p h)
/-- a new object is laid: not frozen -/
theorem Fz.Le.new {z : Fz} {H : Hp} {p : Addr} {o : HO} (hp : H p = none) : z.Le z H (upd H p o) where
  fF := Same.refl _
  nw := fun _ _ h => .inl h
  kp := fun a u h _ => by rw [upd_ne (ne_of_none h hp)]; exact h
  st := fun a h => by
    by_cases e : a = p
    · subst e; exact hp
    · rw [upd_ne e] at h; exact h
  tw := fun _ h => .inl h
  aw := fun _ _ h => h
theorem Fz.Ok.new {z : Fz} {H : Hp} {p : Addr} {o : HO} (ok : z.Ok H) (hp : H p = none) : z.Ok (upd H p o) where
  sub := fun a u h => by
    have := ok.sub a u h
    rw [upd_ne (ne_of_none this hp)]; exact this
  dis := ok.dis
  thr := fun a t => by
    by_cases e : a = p
    · subst e; rw [upd_same]; exact fun z => nomatch z
    · rw [upd_ne e]; exact ok.thr a t
/-- an object that stands is frozen -/
def Fz.frz (z : Fz) (p : Addr) (o : HO) : Fz := ⟨upd z.F p o, z.T, z.A⟩
theorem Fz.Le.frz {z z1 : Fz} {H H' : Hp} {p : Addr} {o : HO} (le : z.Le z1 H H') (hp : H p = none) (n : z1.F p = none) : z.Le (z1.frz p o) H H' where
  fF := fun a u h => by
    have h1 := le.fF a u h
    show upd z1.F p o a = _
    rw [upd_ne (ne_of_none h1 n)]; exact h1
  nw := fun a u h => by
    by_cases e : a = p
    · subst e; exact .inr hp
    · have h : upd z1.F p o a = some u := h
      rw [upd_ne e] at h; exact le.nw a u h
  kp := le.kp
  st := le.st
  tw := le.tw
  aw := le.aw
theorem Fz.Ok.frz {z : Fz} {H : Hp} {p : Addr} {o : HO} (ok : z.Ok H) (hp : H p = some o) (nt : ¬ z.T p) : (z.frz p o).Ok H where
  sub := fun a u h => by
    by_cases e : a = p
    · subst e
      have h : upd z.F a o a = some u := h
      rw [upd_same] at h; cases h; exact hp
    · have h : upd z.F p o a = some u := h
      rw [upd_ne e] at h; exact ok.sub a u h
  dis := fun a t => by
    have e : a ≠ p := fun e => nt (e ▸ t)
    show upd z.F p o a = none
    rw [upd_ne e]; exact ok.dis a t
  thr := ok.thr
theorem Fz.Ok.frz' {z : Fz} {H : Hp} {p : Addr} {o : HO} (ok : z.Ok H) (hp : H p = none) : (z.frz p o).Ok (upd H p o) := by
  refine (ok.new hp).frz upd_same fun t => ?_
  exact ok.thr p t hp
theorem Fz.Ok.none {z : Fz} {H : Hp} {p : Addr} (ok : z.Ok H) (hp : H p = none) : z.F p = none := ok.sub.free hp

/-! ### the world: objects that change, known by handles -/
structure WM (K : PySem.W.Frag) where
  Wd : Type
  R : Fz → Hp → Wd → Prop
  mono : ∀ {z : Fz} {H H' : Hp} {w : Wd} {F' : Hp}, R z H w → (∀ a xs, SqT K z.F a xs → SqT K F' a xs) → (∀ a, z.T a → H' a = H a) → R ⟨F', z.T, z.A⟩ H' w
inductive Rs where
  | dat (d : D)
  | fresh (xs : List D)
def Rs.d : Rs → D
  | .dat d => d
  | .fresh xs => .seq true xs
/-- an exception: its class's name, its values -/
structure XD where
  cls : Str
  args : List D
abbrev Fn (Wd : Type) := List D → Wd → (Rs → Wd → Prop) → (XD → Wd → Prop) → Prop
/-- a new list at p, that nothing else knows -/
def NewL (K : PySem.W.Frag) (z : Fz) (H H' : Hp) (v : V) (ds : List D) : Prop :=
  ∃ p vs, v = .ref p ∧ H p = none ∧ z.F p = none ∧ ¬ z.T p ∧ H' p = some (.lst vs) ∧ Iss K z.F z.A vs ds
def RIs (K : PySem.W.Frag) (z : Fz) (H H' : Hp) (v : V) : Rs → Prop
  | .dat d => Is K z.F z.A v d
  | .fresh ds => NewL K z H H' v ds
section
variable {K : PySem.W.Frag} (M : WM K)
/-- all of a state: z, H, w -/
structure At (z : Fz) (H : Hp) (w : M.Wd) : Prop where
  ok : z.Ok H
  r : M.R z H w
end
section
variable {K : PySem.W.Frag} {M : WM K} {z : Fz} {H : Hp} {w : M.Wd} {p : Addr} {o : HO}
theorem At.new (a : At M z H w) (hp : H p = none) : At M z (upd H p o) w :=
  ⟨a.ok.new hp, M.mono (F' := z.F) a.r (fun _ _ h => h) fun b t => upd_ne fun e => a.ok.thr b t (e ▸ hp)⟩
theorem At.frz (a : At M z H w) (hp : H p = some o) (nt : ¬ z.T p) (n : z.F p = none) : At M (z.frz p o) H w :=
  ⟨a.ok.frz hp nt, M.mono (F' := upd z.F p o) a.r (fun _ _ h => same_tup (fun b u h => by rw [upd_ne (ne_of_none h n)]; exact h) h) fun _ _ => rfl⟩
theorem At.frzNew (a : At M z H w) (hp : H p = none) : At M (z.frz p o) (upd H p o) w :=
  (a.new (o := o) hp).frz upd_same (fun t => a.ok.thr p t hp) (a.ok.none hp)
end
/-- a def's contract, over the layer -/
def lift {K : PySem.W.Frag} (M : WM K) (XE : XD → XK → Hp → Prop) (φ : Fn M.Wd) : Sp := fun vs H Q E => ∃ z w ds, At M z H w ∧ Iss K z.F z.A vs ds ∧
  φ ds w (fun r w' => ∀ v z' H', At M z' H' w' → z.Le z' H H' → RIs K z' H H' v r → Q v H') (fun x w' => ∀ z' H', At M z' H' w' → z.Le z' H H' → XE x E H')
end Ab

namespace Ab
open PySem PySem.Spec PyProof.Rows L2

/-! ### the small language and what it means, over data -/
inductive Bop | add | sub | mul | fdiv | mod | pow
  deriving DecidableEq
inductive Cop | eq | ne | lt | le | gt | ge | is_ | isn | inn | nin
  deriving DecidableEq
inductive Blt | len | abs_ | int_ | tuple_ | list_ | sum_ | max_ | min_ | all_ | divmod_ | max2 | min2
  deriving DecidableEq
inductive Ty | int | bool | str | list | tuple
  deriving DecidableEq
inductive Tg | nm (i : Nat) | nil | cons (a b : Tg)
  deriving DecidableEq
inductive E
  | var (i : Nat) | int (i : Int) | str (x : Str) | bl (b : Bool) | non
  | bin (o : Bop) (a b : E) | neg (a : E)
  | cmp (o : Cop) (a b : E) | chain (o p : Cop) (a b c : E)
  | and_ (a b : E) | or_ (a b : E) | not_ (a : E) | ite (c a b : E)
  | tup (es : E) | lst (es : E) | nil | cons (a b : E)
  | idx (a i : E) | slc (a lo hi : E) | rev (a : E)
  | call (f : Nat) (es : E) | blt (b : Blt) (es : E) | isi (x : E) (ts : List Ty)
  | comp (t : Tg) (src elt : E) | compIf (t : Tg) (src c elt : E)
  | iseq (a : E) | irange (es : E) | trange (es : E) | oidx (i : Nat) (e : E) | izip (a b : E) | ienum (a : E) (k : Int) | lrange (es : E)
inductive S
  | skip | seq (a b : S)
  | asg (i : Nat) (e : E) | asgF (i : Nat) (e : E) | own (i : Nat) (e : E) | ownF (i : Nat) (e : E) | frz (i : Nat)
  | par (ks : List (Nat × Bool)) (es : E) | unp (t : Tg) (e : E)
  | app (i : Nat) (e : E) | appF (i : Nat) (e : E) | ins (i : Nat) (e : E)
  | seti (i : Nat) (a e : E) | augi (o : Bop) (i : Nat) (a e : E) | aug (o : Bop) (i : Nat) (e : E)
  | exp (e : E) | ret (e : E) | retO (i : Nat)
  | ite (c : E) (a b : S) | for_ (t : Tg) (src : E) (body : S) | while_ (c : E) (body : S)
  | never | brk | cnt

/-- a slot: nothing, a value, a list of one's own -/
inductive Sl | no | val (d : D) | own (xs : List D)
def Sl.mask : Sl → Sl
  | .own _ => .no
  | s => s
def Sl.full : Sl → Sl
  | .own xs => .val (.seq true xs)
  | s => s
abbrev Ev := List Sl
def getS : Ev → Nat → Sl
  | [], _ => .no
  | s :: _, 0 => s
  | _ :: r, i + 1 => getS r i

def itemsD : D → (List D → Prop) → Prop
  | .seq _ xs, Q => Q xs
  | _, _ => False
def rep (n : Nat) (xs : List D) : List D := (List.replicate n xs).flatten
def binD : Bop → D → D → (Rs → Prop) → Prop
  | .add, .int i, .int j, Q => Q (.dat (.int (i + j)))
  | .add, .str a, .str b, Q => a.length + b.length ≤ sizeLine ∧ Q (.dat (.str (a ++ b)))
  | .add, .seq false xs, .seq false ys, Q => xs.length + ys.length ≤ sizeLine ∧ Q (.dat (.seq false (xs ++ ys)))
  | .add, .seq true xs, .seq true ys, Q => xs.length + ys.length ≤ sizeLine ∧ Q (.fresh (xs ++ ys))
  | .sub, .int i, .int j, Q => Q (.dat (.int (i - j)))
  | .mul, .int i, .int j, Q => (CMul i j ∨ CMulW i j) ∧ Q (.dat (.int (i * j)))
  | .mul, .seq true xs, .int k, Q => (-(2 ^ 63) ≤ k ∧ k < 2 ^ 63 ∧ xs.length * k.toNat ≤ sizeLine) ∧ Q (.fresh (rep k.toNat xs))
  | .mul, .seq false xs, .int k, Q => (1 ≤ k ∧ k ≤ 1000 ∧ xs.length ≤ 1000 ∧ xs ≠ []) ∧ Q (.dat (.seq false (rep k.toNat xs)))
  | .fdiv, .int i, .int j, Q => (0 < j ∧ j.natAbs.log2 < 9000) ∧ Q (.dat (.int (i / j)))
  | .mod, .int i, .int j, Q => 0 < j ∧ Q (.dat (.int (i % j)))
  | .pow, .int i, .int j, Q => (0 ≤ j ∧ j ≤ 1000000 ∧ i.natAbs < 2 ^ 64) ∧ Q (.dat (.int (i ^ j.toNat)))
  | _, _, _, _ => False

def ibinD : Bop → D → D → (Rs → Prop) → Prop
  | .add, .int i, .int j, Q => Q (.dat (.int (i + j)))
  | .add, .str a, .str b, Q => a.length + b.length ≤ sizeLine ∧ Q (.dat (.str (a ++ b)))
  | .sub, .int i, .int j, Q => Q (.dat (.int (i - j)))
  | .mul, .int i, .int j, Q => (CMul i j ∨ CMulW i j) ∧ Q (.dat (.int (i * j)))
  | _, _, _, _ => False

mutual
def D.pd : D → PyData
  | .non => .none
  | .bl b => .bool b
  | .int i => .int i
  | .str x => .str x
  | .seq true xs => .list (D.pds xs)
  | .seq false xs => .tuple (D.pds xs)
  | _ => .none
def D.pds : List D → List PyData
  | [] => []
  | d :: ds => d.pd :: D.pds ds
end
mutual
/-- no handles within -/
def D.noH : D → Bool
  | .seq _ xs => D.noHs xs
  | .hnd _ => false
  | .scr _ => false
  | _ => true
def D.noHs : List D → Bool
  | [] => true
  | d :: ds => d.noH && D.noHs ds
end
/-- fit to be compared -/
def D.cq (d : D) : Bool := d.noH && SeqAt.shaped d.pd
def eqD (a b : D) : Bool := PyData.eqv a.pd b.pd
def D.isNon : D → Bool
  | .non => true
  | _ => false
def D.flat : D → Bool
  | .int _ => true
  | .str _ => true
  | .non => true
  | .bl _ => true
  | _ => false
def cmpD : Cop → D → D → (D → Prop) → Prop
  | .eq, .int i, .int j, Q => Q (.bl (decide (i = j)))
  | .ne, .int i, .int j, Q => Q (.bl (!decide (i = j)))
  | .eq, a, b, Q => (a.cq = true ∧ b.cq = true) ∧ Q (.bl (eqD a b))
  | .ne, a, b, Q => (a.cq = true ∧ b.cq = true) ∧ Q (.bl (!eqD a b))
  | .lt, .int i, .int j, Q => Q (.bl (decide (i < j)))
  | .le, .int i, .int j, Q => Q (.bl (decide (i ≤ j)))
  | .gt, .int i, .int j, Q => Q (.bl (decide (j < i)))
  | .ge, .int i, .int j, Q => Q (.bl (decide (j ≤ i)))
  | .is_, a, .non, Q => Q (.bl a.isNon)
  | .isn, a, .non, Q => Q (.bl (!a.isNon))
  | .is_, .bl a, .bl b, Q => Q (.bl (decide (a = b)))
  | .isn, .bl a, .bl b, Q => Q (.bl (!decide (a = b)))
  | .inn, a, .seq _ xs, Q => (a.flat = true ∧ xs.all D.flat = true) ∧ Q (.bl (xs.any fun x => eqD x a))
  | .nin, a, .seq _ xs, Q => (a.flat = true ∧ xs.all D.flat = true) ∧ Q (.bl (!(xs.any fun x => eqD x a)))
  | _, _, _, _ => False
def atN {α : Type} (xs : List α) (i : Int) : Option α := L2.atI xs i
def idxD : D → D → (D → Prop) → Prop
  | .scr ns, .int i, Q => ∃ k, L2.atI ns i = some k ∧ Q (.int k)
  | .seq _ xs, .int i, Q => ∃ d, L2.atI xs i = some d ∧ Q d
  | _, _, _ => False
def E.isNon : E → Bool
  | .non => true
  | _ => false
def partD (b : Bool) (d : D) (Q : Option Int → Prop) : Prop := match b, d with
  | true, _ => Q none
  | false, .int i => Q (some i)
  | _, _ => False
def cutD (xs : List D) (lo hi : Option Int) : List D := (xs.drop (HT.sIx xs.length 0 lo)).take (HT.sIx xs.length xs.length hi - HT.sIx xs.length 0 lo)
def slcD : D → Option Int → Option Int → (Rs → Prop) → Prop
  | .scr ns, lo, hi, Q => Q (.fresh (cutD (ns.map D.int) lo hi))
  | .seq true xs, lo, hi, Q => Q (.fresh (cutD xs lo hi))
  | .seq false xs, lo, hi, Q => Q (.dat (.seq false (cutD xs lo hi)))
  | _, _, _, _ => False
def revD : D → (Rs → Prop) → Prop
  | .seq true xs, Q => Q (.fresh xs.reverse)
  | _, _ => False
def intsOf : List D → Option (List Int)
  | [] => some []
  | .int i :: r => (intsOf r).map (i :: ·)
  | _ => none
def blsOf : List D → Option (List Bool)
  | [] => some []
  | .bl i :: r => (blsOf r).map (i :: ·)
  | _ => none
def maxI : List Int → Int
  | [] => 0
  | [a] => a
  | a :: r => if maxI r ≤ a then a else maxI r
def minI : List Int → Int
  | [] => 0
  | [a] => a
  | a :: r => if a ≤ minI r then a else minI r
def bltD : Blt → List D → (Rs → Prop) → Prop
  | .len, [.seq _ xs], Q => Q (.dat (.int xs.length))
  | .len, [.scr ns], Q => Q (.dat (.int ns.length))
  | .len, [.str x], Q => x.length ≤ sizeLine ∧ Q (.dat (.int x.length))
  | .abs_, [.int i], Q => Q (.dat (.int (if i < 0 then -i else i)))
  | .int_, [.int i], Q => Q (.dat (.int i))
  | .int_, [.bl b], Q => Q (.dat (.int (if b then 1 else 0)))
  | .tuple_, [.seq _ xs], Q => Q (.dat (.seq false xs))
  | .list_, [.seq _ xs], Q => Q (.fresh xs)
  | .sum_, [.seq true xs], Q => ∃ ns, intsOf xs = some ns ∧ Q (.dat (.int ns.sum))
  | .max_, [.seq _ xs], Q => ∃ ns, intsOf xs = some ns ∧ ns ≠ [] ∧ Q (.dat (.int (maxI ns)))
  | .min_, [.seq true xs], Q => ∃ ns, intsOf xs = some ns ∧ ns ≠ [] ∧ Q (.dat (.int (minI ns)))
  | .all_, [.seq true xs], Q => ∃ bs, blsOf xs = some bs ∧ Q (.dat (.bl (bs.all id)))
  | .divmod_, [.int i, .int j], Q => (0 < j ∧ j.natAbs.log2 < 9000) ∧ Q (.dat (.seq false [.int (i / j), .int (i % j)]))
  | .max2, [.int i, .int j], Q => Q (.dat (.int (if j > i then j else i)))
  | .min2, [.int i, .int j], Q => Q (.dat (.int (if j < i then j else i)))
  | _, _, _ => False
def isi1 : D → Ty → Bool
  | .bl _, .bool => true
  | .bl _, .int => true
  | .int _, .int => true
  | .str _, .str => true
  | .seq true _, .list => true
  | .seq false _, .tuple => true
  | _, _ => false
def D.isHnd : D → Bool
  | .hnd _ => true
  | .scr _ => true
  | _ => false
def isiD (d : D) (ts : List Ty) (Q : D → Prop) : Prop := d.isHnd = false ∧ Q (.bl (ts.any (isi1 d)))
def rgD (lo hi : Int) : List D := (List.range (hi - lo).toNat).map fun (i : Nat) => D.int (lo + i)
def rgN (lo hi : Int) : List D := (List.range (lo - hi).toNat).map fun (i : Nat) => D.int (lo - i)
def okR (i : Int) : Prop := -(2 ^ 62) ≤ i ∧ i < 2 ^ 62
def rangeD : List D → (List D → Prop) → Prop
  | [.int j], Q => okR j ∧ Q (rgD 0 j)
  | [.int i, .int j], Q => (okR i ∧ okR j) ∧ Q (rgD i j)
  | [.int i, .int j, .int (-1)], Q => (okR i ∧ okR j) ∧ Q (rgN i j)
  | _, _ => False
def zipD : List D → List D → List D
  | x :: xs, y :: ys => .seq false [x, y] :: zipD xs ys
  | _, _ => []
def enumD (k : Int) : List D → List D
  | [] => []
  | x :: xs => .seq false [.int k, x] :: enumD (k + 1) xs
def bindT : Tg → D → Ev → (Ev → Prop) → Prop
  | .nm i, d, ρ, Q => Q (ρ.set i (.val d))
  | .nil, .seq _ [], ρ, Q => Q ρ
  | .cons a b, .seq l (d :: ds), ρ, Q => bindT a d ρ fun ρ => bindT b (.seq l ds) ρ Q
  | _, _, _, _ => False
def Tg.slots : Tg → List Nat
  | .nm i => [i]
  | .nil => []
  | .cons a b => a.slots ++ b.slots
def clr (ρ : Ev) : List Nat → Ev
  | [] => ρ
  | i :: r => (clr ρ r).set i .no

section
variable {Wd : Type}
/-- a comprehension's turns -/
def compW (step : D → Wd → (Option D → Wd → Prop) → Prop) : List D → Wd → (List D → Wd → Prop) → Prop
  | [], w, Q => Q [] w
  | x :: xs, w, Q => step x w fun o w => compW step xs w fun ys w => Q (o.toList ++ ys) w
def evalE (Φ : Nat → Fn Wd) : E → (XD → Wd → Prop) → Ev → Wd → (Rs → Wd → Prop) → Prop
  | .var i, _, ρ, w, Q => match getS ρ i with
    | .val d => Q (.dat d) w
    | _ => False
  | .int i, _, _, w, Q => Q (.dat (.int i)) w
  | .str x, _, _, w, Q => Q (.dat (.str x)) w
  | .bl b, _, _, w, Q => Q (.dat (.bl b)) w
  | .non, _, _, w, Q => Q (.dat .non) w
  | .bin o a b, X, ρ, w, Q => evalE Φ a X ρ w fun x w => evalE Φ b X ρ w fun y w => binD o x.d y.d fun r => Q r w
  | .neg a, X, ρ, w, Q => evalE Φ a X ρ w fun x w => match x.d with
    | .int i => Q (.dat (.int (-i))) w
    | _ => False
  | .cmp o a b, X, ρ, w, Q => evalE Φ a X ρ w fun x w => evalE Φ b X ρ w fun y w => cmpD o x.d y.d fun d => Q (.dat d) w
  | .chain o p a b c, X, ρ, w, Q => evalE Φ a X ρ w fun x w => evalE Φ b X ρ w fun y w => cmpD o x.d y.d fun d => match d with
    | .bl true => evalE Φ c X ρ w fun u w => cmpD p y.d u.d fun d => Q (.dat d) w
    | .bl false => Q (.dat (.bl false)) w
    | _ => False
  | .and_ a b, X, ρ, w, Q => evalE Φ a X ρ w fun x w => match x.d with
    | .bl true => evalE Φ b X ρ w Q
    | .bl false => Q (.dat (.bl false)) w
    | _ => False
  | .or_ a b, X, ρ, w, Q => evalE Φ a X ρ w fun x w => match x.d with
    | .bl false => evalE Φ b X ρ w Q
    | .bl true => Q (.dat (.bl true)) w
    | _ => False
  | .not_ a, X, ρ, w, Q => evalE Φ a X ρ w fun x w => match x.d with
    | .bl b => Q (.dat (.bl (!b))) w
    | _ => False
  | .ite c a b, X, ρ, w, Q => evalE Φ c X ρ w fun x w => match x.d with
    | .bl true => evalE Φ a X ρ w Q
    | .bl false => evalE Φ b X ρ w Q
    | _ => False
  | .tup es, X, ρ, w, Q => evalE Φ es X ρ w fun r w => itemsD r.d fun ds => ds.length ≤ sizeLine ∧ Q (.dat (.seq false ds)) w
  | .lst es, X, ρ, w, Q => evalE Φ es X ρ w fun r w => itemsD r.d fun ds => ds.length ≤ sizeLine ∧ Q (.fresh ds) w
  | .nil, _, _, w, Q => Q (.dat (.seq true [])) w
  | .cons a b, X, ρ, w, Q => evalE Φ a X ρ w fun x w => evalE Φ b X ρ w fun r w => itemsD r.d fun ds => Q (.dat (.seq true (x.d :: ds))) w
  | .idx a i, X, ρ, w, Q => evalE Φ a X ρ w fun x w => evalE Φ i X ρ w fun y w => idxD x.d y.d fun d => Q (.dat d) w
  | .slc a lo hi, X, ρ, w, Q => evalE Φ a X ρ w fun x w => evalE Φ lo X ρ w fun l w => partD lo.isNon l.d fun l => evalE Φ hi X ρ w fun h w => partD hi.isNon h.d fun h => slcD x.d l h fun r => Q r w
  | .rev a, X, ρ, w, Q => evalE Φ a X ρ w fun x w => revD x.d fun r => Q r w
  | .call f es, X, ρ, w, Q => evalE Φ es X ρ w fun r w => itemsD r.d fun ds => Φ f ds w Q X
  | .blt b es, X, ρ, w, Q => evalE Φ es X ρ w fun r w => itemsD r.d fun ds => bltD b ds fun r => Q r w
  | .isi a ts, X, ρ, w, Q => evalE Φ a X ρ w fun x w => isiD x.d ts fun d => Q (.dat d) w
  | .comp t src elt, X, ρ, w, Q => evalE Φ src X ρ w fun r w => itemsD r.d fun xs => xs.length ≤ sizeLine ∧
      compW (fun d w k => bindT t d (clr ρ t.slots) fun ρ' => evalE Φ elt (fun _ _ => False) ρ' w fun y w => k (some y.d) w) xs w fun ys w => Q (.fresh ys) w
  | .compIf t src c elt, X, ρ, w, Q => evalE Φ src X ρ w fun r w => itemsD r.d fun xs => xs.length ≤ sizeLine ∧
      compW (fun d w k => bindT t d (clr ρ t.slots) fun ρ' => evalE Φ c (fun _ _ => False) ρ' w fun b w => match b.d with
        | .bl true => evalE Φ elt (fun _ _ => False) ρ' w fun y w => k (some y.d) w
        | .bl false => k none w
        | _ => False) xs w fun ys w => Q (.fresh ys) w
  | .iseq a, X, ρ, w, Q => evalE Φ a X ρ w fun x w => itemsD x.d fun xs => Q (.dat (.seq true xs)) w
  | .irange es, X, ρ, w, Q => evalE Φ es X ρ w fun r w => itemsD r.d fun ds => rangeD ds fun xs => Q (.dat (.seq true xs)) w
  | .lrange es, X, ρ, w, Q => evalE Φ es X ρ w fun r w => itemsD r.d fun ds => rangeD ds fun xs => xs.length ≤ 2 ^ 24 ∧ Q (.fresh xs) w
  | .trange es, X, ρ, w, Q => evalE Φ es X ρ w fun r w => itemsD r.d fun ds => rangeD ds fun xs => xs.length ≤ 2 ^ 24 ∧ Q (.dat (.seq false xs)) w
  | .oidx i e, X, ρ, w, Q => match getS ρ i with
    | .own xs => evalE Φ e X ρ w fun y w => match y.d with
      | .int k => ∃ d, L2.atI xs k = some d ∧ Q (.dat d) w
      | _ => False
    | _ => False
  | .izip a b, X, ρ, w, Q => evalE Φ a X ρ w fun x w => evalE Φ b X ρ w fun y w => itemsD x.d fun xs => itemsD y.d fun ys => Q (.dat (.seq true (zipD xs ys))) w
  | .ienum a k, X, ρ, w, Q => evalE Φ a X ρ w fun x w => itemsD x.d fun xs => Q (.dat (.seq true (enumD k xs))) w

structure DE (Wd : Type) where
  nx : Ev → Wd → Prop
  rt : Rs → Wd → Prop
  bk : Ev → Wd → Prop := fun _ _ => False
  ct : Ev → Wd → Prop := fun _ _ => False
  ex : XD → Wd → Prop := fun _ _ => False
def forW (t : Tg) (body : DE Wd → Ev → Wd → Prop) : List D → DE Wd → Ev → Wd → Prop
  | [], D, ρ, w => D.nx ρ w
  | x :: xs, D, ρ, w => bindT t x ρ fun ρ' => body { D with nx := forW t body xs D, ct := forW t body xs D, bk := D.nx } ρ' w
def whileW (test : Ev → Wd → (Bool → Wd → Prop) → Prop) (body : DE Wd → Ev → Wd → Prop) (D : DE Wd) (ρ : Ev) (w : Wd) : Prop :=
  ∃ I : Nat → Ev → Wd → Prop, (∃ m, I m ρ w) ∧ ∀ m ρ w, I m ρ w → test ρ w fun b w => if b = true then
    body { D with nx := fun ρ' w' => ∃ m', m' < m ∧ I m' ρ' w', ct := fun ρ' w' => ∃ m', m' < m ∧ I m' ρ' w', bk := D.nx } ρ w else D.nx ρ w
def mask (ρ : Ev) : Ev := ρ
def full (ρ : Ev) : Ev := ρ.map Sl.full
/-- what may be kept of an evaluation that saw the own lists -/
def Rs.pure : Rs → Bool
  | .dat d => d.pure
  | .fresh xs => D.pures xs
def storeAll : List (Nat × Bool) → List Rs → Ev → (Ev → Prop) → Prop
  | [], [], ρ, Q => Q ρ
  | (i, false) :: ks, .dat d :: rs, ρ, Q => storeAll ks rs (ρ.set i (.val d)) Q
  | (i, true) :: ks, .fresh xs :: rs, ρ, Q => storeAll ks rs (ρ.set i (.own xs)) Q
  | _, _, _, _ => False
def evalRs (Φ : Nat → Fn Wd) : E → (XD → Wd → Prop) → Ev → Wd → (List Rs → Wd → Prop) → Prop
  | .nil, _, _, w, Q => Q [] w
  | .cons a b, X, ρ, w, Q => evalE Φ a X ρ w fun x w => evalRs Φ b X ρ w fun rs w => Q (x :: rs) w
  | _, _, _, _, _ => False
def execS (Φ : Nat → Fn Wd) : S → DE Wd → Ev → Wd → Prop
  | .skip, D, ρ, w => D.nx ρ w
  | .seq a b, D, ρ, w => execS Φ a { D with nx := execS Φ b D } ρ w
  | .asg i e, D, ρ, w => evalE Φ e D.ex (mask ρ) w fun r w => D.nx (ρ.set i (.val r.d)) w
  | .asgF i e, D, ρ, w => evalE Φ e D.ex (full ρ) w fun r w => r.d.pure = true ∧ D.nx (ρ.set i (.val r.d)) w
  | .own i e, D, ρ, w => evalE Φ e D.ex (mask ρ) w fun r w => match r with
    | .fresh xs => D.nx (ρ.set i (.own xs)) w
    | _ => False
  | .ownF i e, D, ρ, w => evalE Φ e D.ex (full ρ) w fun r w => match r with
    | .fresh xs => Ab.D.pures xs = true ∧ D.nx (ρ.set i (.own xs)) w
    | _ => False
  | .frz i, D, ρ, w => match getS ρ i with
    | .own xs => D.nx (ρ.set i (.val (.seq true xs))) w
    | _ => False
  | .par ks es, D, ρ, w => evalRs Φ es D.ex (mask ρ) w fun rs w => storeAll ks rs ρ fun ρ => D.nx ρ w
  | .unp t e, D, ρ, w => evalE Φ e D.ex (mask ρ) w fun r w => bindT t r.d ρ fun ρ => D.nx ρ w
  | .app i e, D, ρ, w => match getS ρ i with
    | .own xs => evalE Φ e D.ex (mask ρ) w fun r w => xs.length < sizeLine ∧ D.nx (ρ.set i (.own (xs ++ [r.d]))) w
    | _ => False
  | .appF i e, D, ρ, w => match getS ρ i with
    | .own xs => evalE Φ e D.ex (full ρ) w fun r w => r.d.pure = true ∧ xs.length < sizeLine ∧ D.nx (ρ.set i (.own (xs ++ [r.d]))) w
    | _ => False
  | .ins i e, D, ρ, w => match getS ρ i with
    | .own xs => evalE Φ e D.ex (mask ρ) w fun r w => xs.length < sizeLine ∧ D.nx (ρ.set i (.own (r.d :: xs))) w
    | _ => False
  | .seti i a e, D, ρ, w => evalE Φ e D.ex (full ρ) w fun r w => r.d.pure = true ∧ match getS ρ i with
    | .own xs => evalE Φ a D.ex (full ρ) w fun k w => match k.d with
      | .int k => ∃ j, L2.ixN xs.length k = some j ∧ D.nx (ρ.set i (.own (xs.set j r.d))) w
      | _ => False
    | _ => False
  | .augi o i a e, D, ρ, w => match getS ρ i with
    | .own xs => evalE Φ a D.ex (full ρ) w fun k w => match k.d with
      | .int k => ∃ j d, L2.ixN xs.length k = some j ∧ xs[j]? = some d ∧ evalE Φ e D.ex (full ρ) w fun r w => ibinD o d r.d fun r => r.d.pure = true ∧ D.nx (ρ.set i (.own (xs.set j r.d))) w
      | _ => False
    | _ => False
  | .aug o i e, D, ρ, w => match getS ρ i with
    | .val d => evalE Φ e D.ex (full ρ) w fun r w => ibinD o d r.d fun r => r.d.pure = true ∧ D.nx (ρ.set i (.val r.d)) w
    | _ => False
  | .exp e, D, ρ, w => evalE Φ e D.ex (mask ρ) w fun _ w => D.nx ρ w
  | .ret e, D, ρ, w => evalE Φ e D.ex (full ρ) w D.rt
  | .retO i, D, ρ, w => match getS ρ i with
    | .own xs => D.rt (.fresh xs) w
    | _ => False
  | .ite c a b, D, ρ, w => evalE Φ c D.ex (full ρ) w fun r w => match r.d with
    | .bl true => execS Φ a D ρ w
    | .bl false => execS Φ b D ρ w
    | _ => False
  | .for_ t src body, D, ρ, w => evalE Φ src D.ex (mask ρ) w fun r w => itemsD r.d fun xs => forW t (execS Φ body) xs D ρ w
  | .while_ c body, D, ρ, w => whileW (fun ρ w k => evalE Φ c D.ex (full ρ) w fun r w => match r.d with
      | .bl b => k b w
      | _ => False) (execS Φ body) D ρ w
  | .never, _, _, _ => False
  | .brk, D, ρ, w => D.bk ρ w
  | .cnt, D, ρ, w => D.ct ρ w
end
end Ab

namespace Ab
open PySem PySem.Spec PyProof.Rows L2

/-! ### the operations by data -/
section
variable {K : PySem.W.Frag} {M : WM K} {X : Cx} {z z1 z2 : Fz} {H H1 H2 : Hp} {w : M.Wd}

def Fin (M : WM K) (z : Fz) (H : Hp) (w : M.Wd) (Q : Rs → Prop) (Qv : VK) : Prop :=
  ∀ v z' H' r, At M z' H' w → z.Le z' H H' → RIs K z' H H' v r → Q r → Qv v H'
theorem Fin.dat {Q : Rs → Prop} {Qv : VK} (f : Fin M z H w Q Qv) (a : At M z H w) {v : V} {d : D} (h : Is K z.F z.A v d) (q : Q (.dat d)) : Qv v H :=
  f v z H (.dat d) a (Fz.Le.refl z H) h q
theorem Fin.tup {Q : Rs → Prop} {Qv : VK} (f : Fin M z H w Q Qv) (a : At M z H w) {vs : List V} {ds : List D} (h : Iss K z.F z.A vs ds) (q : Q (.dat (.seq false ds))) {p : Addr} (hp : H p = none) :
    Qv (.ref p) (upd H p (.tup vs)) := by
  have le : z.Le (z.frz p (.tup vs)) H (upd H p (.tup vs)) := Fz.Le.frz (Fz.Le.new hp) hp (a.ok.none hp)
  exact f _ _ _ (.dat (.seq false ds)) (a.frzNew hp) le (.tup (SqT.of upd_same) (h.mono le.fF fun _ _ e => e)) q
theorem Fin.lst {Q : Rs → Prop} {Qv : VK} (f : Fin M z H w Q Qv) (a : At M z H w) {vs : List V} {ds : List D} (h : Iss K z.F z.A vs ds) (q : Q (.fresh ds)) {p : Addr} (hp : H p = none) :
    Qv (.ref p) (upd H p (.lst vs)) :=
  f _ z _ (.fresh ds) (a.new hp) (Fz.Le.new hp) ⟨p, vs, rfl, hp, a.ok.none hp, fun t => a.ok.thr p t hp, upd_same, h⟩ q
theorem At.sqT (a : At M z H w) {p : Addr} {vs : List V} (h : SqT K z.F p vs) : SqT K H p vs := same_tup a.ok.sub h
theorem At.sqL (a : At M z H w) {p : Addr} {vs : List V} (h : SqL K z.F p vs) : SqL K H p vs := a.ok.sub.seq h

/-- a binary operation, by data -/
def OpD (M : WM K) (X : Cx) (f : Value → Value → Sem Value) (rel : D → D → (Rs → Prop) → Prop) : Prop :=
  ∃ r : R2, OpR X f r ∧ ∀ {z : Fz} {H : Hp} {w : M.Wd} {dx dy : D} {vx vy : V} {Q : Rs → Prop} {Qv : VK}, At M z H w → Is K z.F z.A vx dx → Is K z.F z.A vy dy → rel dx dy Q → Fin M z H w Q Qv → r vx vy H Qv

theorem op_repT1 : OpR X (binaryOp .Mult) (fun x y H Q => ∃ l xs, x = .ref l ∧ y = .int 1 ∧ SqT X.K H l xs ∧ Q (.ref l) H) := by
  intro pins s σ H x y v u Q I rx ry h
  obtain ⟨l, xs, rfl, rfl, hT, q⟩ := h
  cases rx
  obtain ⟨t, rfl⟩ := ry
  obtain ⟨its, r, ⟨⟨cls, dd, data, sl⟩, ho, hc, n, hd⟩, hs⟩ := I.tuple hT
  simp only at hc hd
  subst hc hd
  have m1 : Meets (Builtin.«tuple.__mul__» ⟨[.ref l, .int 1 t], []⟩) (fun _ R s => s.heap.get? l = some { cls := .type "tuple", dict := dd, data := .seq its.toArray n, slots := sl } ∧ R (.ok (.ret (Value.ref l))) s) :=
    .of_wp fun prog w A R s h => by
      obtain ⟨hp, g, d, tk, os⟩ := s
      obtain ⟨hl, h⟩ := h
      have f1 := AutoSeq1.idx_int
      wp_walk using wpAny_loadPart' hl
      repeat (first
        | (refine wpAny_ite_false (decide_eq_false (by decide)) ?_; wp_walk using wpAny_loadPart' hl)
        | (refine wpAny_ite_true (decide_eq_true (by simp)) ?_; wp_walk using wpAny_loadPart' hl))
      exact ⟨_, rfl, h⟩
  exact wpAny_binaryOp_repeat_ref (T := "tuple") (U := "int") (by decide) ⟨_, ho, rfl⟩ (fun s' => typeIs_int s' 1 t) noFill_tuple_mul F.fills_int_mul F.slot_int_rmul repeat_tuple F.slot_int_index.lookup
    (call_meets F.slot_int_rmul (typeIs_int s 1 t) F.entry_int_rmul (F.args_int_rmul_2 _ _) (int_rmul_tuple 1 t l its.toArray n dd sl)
      ⟨ho, rfl, ⟨_, ho, rfl⟩, call_meets F.slot_tuple_mul ⟨_, ho, rfl⟩ F.entry_tuple_mul (F.args_tuple_mul_2 _ _) m1 ⟨ho, ⟨.ref l, H, I, rfl, q⟩⟩⟩)

theorem rep_iss {A : List Addr} {F : Hp} {vs : List V} {ds : List D} (h : Iss K F A vs ds) : ∀ n : Nat, Iss K F A (List.replicate n vs).flatten (List.replicate n ds).flatten
  | 0 => by simpa using (Iss.nil : Iss K F A [] [])
  | n + 1 => by
    rw [List.replicate_succ, List.replicate_succ, List.flatten_cons, List.flatten_cons]
    exact h.append (rep_iss h n)
theorem Iss.nil_iff {A : List Addr} {F : Hp} {vs : List V} {ds : List D} (h : Iss K F A vs ds) : vs = [] ↔ ds = [] := by
  cases h <;> simp
theorem opD_add (hK : X.K = K) : OpD M X (binaryOp .Add) (binD .add) := by
  refine ⟨_, op_add.or (op_add_str.or ((hK ▸ op_catA : OpR X _ (rCatA K)).or op_cat)), fun {z H w dx dy vx vy Q Qv} a ix iy h f => ?_⟩
  cases ix with
  | int i => cases iy with
    | int j => exact .inl ⟨i, j, rfl, rfl, f.dat a (.int _) h⟩
    | _ => exact h.elim
  | str i => cases iy with
    | str j => exact .inr (.inl ⟨i, j, rfl, rfl, h.1, f.dat a (.str _) h.2⟩)
    | _ => exact h.elim
  | @tup p vs ds hp hs => cases iy with
    | @tup p2 vs2 ds2 hp2 hs2 =>
      have h : ds.length + ds2.length ≤ sizeLine ∧ Q (.dat (.seq false (ds ++ ds2))) := h
      refine .inr (.inr (.inl ⟨p, p2, vs, vs2, rfl, rfl, a.sqT hp, a.sqT hp2, by rw [hs.length, hs2.length]; exact h.1, fun e => ?_, fun _ e => ?_, fun _ _ q hq => ?_⟩))
      · have e2 := (hs.nil_iff).mp e
        subst e2
        exact f.dat a (.tup hp2 hs2) h.2
      · have e2 := (hs2.nil_iff).mp e
        subst e2
        exact f.dat a (.tup hp hs) (by have := h.2; rwa [List.append_nil] at this)
      · exact f.tup a (hs.append hs2) h.2 hq
    | _ => exact h.elim
  | @lst p vs ds hp hs => cases iy with
    | @lst p2 vs2 ds2 hp2 hs2 =>
      have h : ds.length + ds2.length ≤ sizeLine ∧ Q (.fresh (ds ++ ds2)) := h
      exact .inr (.inr (.inr ⟨p, p2, vs, vs2, rfl, rfl, a.ok.sub _ _ hp, a.ok.sub _ _ hp2, by rw [hs.length, hs2.length]; exact h.1, fun q hq => f.lst a (hs.append hs2) h.2 hq⟩))
    | _ => exact h.elim
  | _ => cases iy <;> exact h.elim
theorem opD_sub : OpD M X (binaryOp .Sub) (binD .sub) := by
  refine ⟨_, op_sub, fun {z H w dx dy vx vy Q Qv} a ix iy h f => ?_⟩
  cases ix with
  | int i => cases iy with
    | int j => exact ⟨i, j, rfl, rfl, f.dat a (.int _) h⟩
    | _ => exact h.elim
  | _ => cases iy <;> exact h.elim
theorem opD_mul (hK : X.K = K) : OpD M X (binaryOp .Mult) (binD .mul) := by
  refine ⟨_, op_mul.or (op_mulW.or (op_rep.or ((hK ▸ op_repT : OpR X _ (rRepT K)).or (hK ▸ op_repT1 : OpR X _ (fun x y H Q => ∃ l xs, x = .ref l ∧ y = .int 1 ∧ SqT K H l xs ∧ Q (.ref l) H))))), fun {z H w dx dy vx vy Q Qv} a ix iy h f => ?_⟩
  cases ix with
  | int i => cases iy with
    | int j =>
      have h : (CMul i j ∨ CMulW i j) ∧ Q (.dat (.int (i * j))) := h
      rcases h.1 with c | c
      · exact .inl ⟨i, j, rfl, rfl, c, f.dat a (.int _) h.2⟩
      · exact .inr (.inl ⟨i, j, rfl, rfl, c, f.dat a (.int _) h.2⟩)
    | _ => exact h.elim
  | @tup p vs ds hp hs => cases iy with
    | int k =>
      have h : (1 ≤ k ∧ k ≤ 1000 ∧ ds.length ≤ 1000 ∧ ds ≠ []) ∧ Q (.dat (.seq false (rep k.toNat ds))) := h
      obtain ⟨⟨h1, h2, h3, h4⟩, q⟩ := h
      by_cases e : k = 1
      · subst e
        refine .inr (.inr (.inr (.inr ⟨p, vs, rfl, rfl, a.sqT hp, f.dat a (.tup hp hs) ?_⟩)))
        have e : rep (1 : Int).toNat ds = ds := by simp [rep]
        rwa [e] at q
      · exact .inr (.inr (.inr (.inl ⟨p, k, vs, rfl, rfl, a.sqT hp, fun e => h4 (hs.nil_iff.mp e), by omega, h2, by rw [hs.length]; exact h3, fun r hr => f.tup a (rep_iss hs _) q hr⟩)))
    | _ => exact h.elim
  | @lst p vs ds hp hs => cases iy with
    | int k =>
      have h : (-(2 ^ 63) ≤ k ∧ k < 2 ^ 63 ∧ ds.length * k.toNat ≤ sizeLine) ∧ Q (.fresh (rep k.toNat ds)) := h
      obtain ⟨⟨h1, h2, h3⟩, q⟩ := h
      exact .inr (.inr (.inl ⟨p, k, vs, rfl, rfl, a.ok.sub _ _ hp, h1, h2, by rw [hs.length]; exact h3, fun r hr => f.lst a (rep_iss hs _) q hr⟩))
    | _ => exact h.elim
  | _ => cases iy <;> exact h.elim
theorem opD_fdiv : OpD M X (binaryOp .FloorDiv) (binD .fdiv) := by
  refine ⟨_, op_fdivW, fun {z H w dx dy vx vy Q Qv} a ix iy h f => ?_⟩
  cases ix with
  | int i => cases iy with
    | int j => exact ⟨i, j, rfl, rfl, h.1, f.dat a (.int _) h.2⟩
    | _ => exact h.elim
  | _ => cases iy <;> exact h.elim
theorem opD_mod : OpD M X (binaryOp .Mod) (binD .mod) := by
  refine ⟨_, op_mod, fun {z H w dx dy vx vy Q Qv} a ix iy h f => ?_⟩
  cases ix with
  | int i => cases iy with
    | int j => exact ⟨i, j, rfl, rfl, h.1, f.dat a (.int _) h.2⟩
    | _ => exact h.elim
  | _ => cases iy <;> exact h.elim
theorem opD_pow : OpD M X (binaryOp .Pow) (binD .pow) := by
  refine ⟨_, op_pow, fun {z H w dx dy vx vy Q Qv} a ix iy h f => ?_⟩
  cases ix with
  | int i => cases iy with
    | int j => exact ⟨i, j, rfl, rfl, h.1, f.dat a (.int _) h.2⟩
    | _ => exact h.elim
  | _ => cases iy <;> exact h.elim
def bopOf : Bop → Operator
  | .add => .Add
  | .sub => .Sub
  | .mul => .Mult
  | .fdiv => .FloorDiv
  | .mod => .Mod
  | .pow => .Pow
theorem opD_bin (hK : X.K = K) : ∀ o : Bop, OpD M X (binaryOp (bopOf o)) (binD o)
  | .add => opD_add hK
  | .sub => opD_sub
  | .mul => opD_mul hK
  | .fdiv => opD_fdiv
  | .mod => opD_mod
  | .pow => opD_pow
/-! in place -/
theorem iop_mulW : OpR X (inplaceOp .Mult) (rI CMulW fun i j => .int (i * j)) := opI fun _ _ _ _ _ _ _ hc q => imul_int q hc.ok
theorem opD_ibin : ∀ o : Bop, OpD M X (inplaceOp (bopOf o)) (ibinD o)
  | .add => by
    refine ⟨_, iop_add.or iop_add_str, fun {z H w dx dy vx vy Q Qv} a ix iy h f => ?_⟩
    cases ix with
    | int i => cases iy with
      | int j => exact .inl ⟨i, j, rfl, rfl, f.dat a (.int _) h⟩
      | _ => exact h.elim
    | str i => cases iy with
      | str j => exact .inr ⟨i, j, rfl, rfl, h.1, f.dat a (.str _) h.2⟩
      | _ => exact h.elim
    | _ => cases iy <;> exact h.elim
  | .sub => by
    refine ⟨_, iop_sub, fun {z H w dx dy vx vy Q Qv} a ix iy h f => ?_⟩
    cases ix with
    | int i => cases iy with
      | int j => exact ⟨i, j, rfl, rfl, f.dat a (.int _) h⟩
      | _ => exact h.elim
    | _ => cases iy <;> exact h.elim
  | .mul => by
    refine ⟨_, iop_mul.or iop_mulW, fun {z H w dx dy vx vy Q Qv} a ix iy h f => ?_⟩
    cases ix with
    | int i => cases iy with
      | int j =>
        have h : (CMul i j ∨ CMulW i j) ∧ Q (.dat (.int (i * j))) := h
        rcases h.1 with c | c
        · exact .inl ⟨i, j, rfl, rfl, c, f.dat a (.int _) h.2⟩
        · exact .inr ⟨i, j, rfl, rfl, c, f.dat a (.int _) h.2⟩
      | _ => exact h.elim
    | _ => cases iy <;> exact h.elim
  | .fdiv => ⟨fun _ _ _ _ => False, fun _ _ _ _ _ _ _ _ _ _ _ _ h => h.elim, fun {z H w dx dy vx vy Q Qv} a ix iy h f => by cases dx <;> cases dy <;> exact h⟩
  | .mod => ⟨fun _ _ _ _ => False, fun _ _ _ _ _ _ _ _ _ _ _ _ h => h.elim, fun {z H w dx dy vx vy Q Qv} a ix iy h f => by cases dx <;> cases dy <;> exact h⟩
  | .pow => ⟨fun _ _ _ _ => False, fun _ _ _ _ _ _ _ _ _ _ _ _ h => h.elim, fun {z H w dx dy vx vy Q Qv} a ix iy h f => by cases dx <;> cases dy <;> exact h⟩

/-! comparisons -/
mutual
theorem Is.dp {F : Hp} {A : List Addr} : ∀ {v : V} {d : D}, Is K F A v d → d.noH = true → Dp K F v d.pd
  | _, _, .non, _ => .non
  | _, _, .bl b, _ => .bl b
  | _, _, .int i, _ => .int i
  | _, _, .str x, _ => .str x
  | _, _, .tup h hs, p => .tup h (Iss.dp hs p)
  | _, _, .lst h hs, p => .lst (SqL.of h) (Iss.dp hs p)
  | _, _, .hnd _, p => by cases p
  | _, _, .scr _, p => by cases p
theorem Iss.dp {F : Hp} {A : List Addr} : ∀ {vs : List V} {ds : List D}, Iss K F A vs ds → D.noHs ds = true → DpAll K F vs (D.pds ds)
  | _, _, .nil, _ => .nil
  | _, _, .cons (d := d) (ds := ds) h hs, p => by
    have p' : (d.noH && D.noHs ds) = true := p
    rw [Bool.and_eq_true] at p'
    exact .cons (Is.dp h p'.1) (Iss.dp hs p'.2)
end
theorem D.cq_noH {d : D} (h : d.cq = true) : d.noH = true := (Bool.and_eq_true_iff.mp h).1
theorem D.cq_sh {d : D} (h : d.cq = true) : SeqAt.shaped d.pd = true := (Bool.and_eq_true_iff.mp h).2
theorem eqv_dec {i j : Int} : decide (V.int i = V.int j) = decide (i = j) := by simp
/-- the result of a comparison -/
theorem Is.non_iff {F : Hp} {A : List Addr} {v : V} {d : D} (h : Is K F A v d) : decide (v = .non) = d.isNon := by
  cases h <;> simp [D.isNon]
theorem Is.flat {F : Hp} {A : List Addr} {v : V} {d : D} (h : Is K F A v d) (f : d.flat = true) : flatV v = true := by
  cases h <;> first | rfl | cases f
theorem Iss.flat {F : Hp} {A : List Addr} : ∀ {vs : List V} {ds : List D}, Iss K F A vs ds → ds.all D.flat = true → vs.all flatV = true
  | _, _, .nil, _ => rfl
  | _, _, .cons (d := d) (ds := ds) h hs, p => by
    rw [List.all_cons, Bool.and_eq_true] at p ⊢
    exact ⟨h.flat p.1, hs.flat p.2⟩
theorem eqV_eqD {F : Hp} {A : List Addr} {u v : V} {a b : D} (h1 : Is K F A u a) (h2 : Is K F A v b) (f1 : a.flat = true) (f2 : b.flat = true) : eqV u v = eqD a b := by
  cases h1 <;> first
    | (cases f1; done)
    | (cases h2 <;> first
        | (cases f2; done)
        | (simp [eqV, eqD, D.pd, PyData.eqv]; done)
        | (simp [eqV, eqD, D.pd, PyData.eqv]; exact Bool.beq_comm)
        | (rename_i p q; simp [eqV, eqD, D.pd, PyData.eqv]))
theorem any_eqD {F : Hp} {A : List Addr} {v : V} {b : D} (h : Is K F A v b) (fb : b.flat = true) : ∀ {vs : List V} {ds : List D}, Iss K F A vs ds → ds.all D.flat = true → inV v vs = ds.any fun x => eqD x b
  | _, _, .nil, _ => rfl
  | _, _, .cons (d := d) (ds := ds) h1 hs, p => by
    rw [List.all_cons, Bool.and_eq_true] at p
    have ih := any_eqD h fb hs p.2
    unfold inV at ih ⊢
    rw [List.any_cons, List.any_cons, ih, eqV_eqD h1 h p.1 fb]

def copOf : Cop → CmpOp
  | .eq => .Eq
  | .ne => .NotEq
  | .lt => .Lt
  | .le => .LtE
  | .gt => .Gt
  | .ge => .GtE
  | .is_ => .Is
  | .isn => .IsNot
  | .inn => .In
  | .nin => .NotIn
def crel (o : Cop) : D → D → (Rs → Prop) → Prop := fun x y Q => cmpD o x y fun d => Q (.dat d)
theorem dp_at (a : At M z H w) {v : V} {d : D} (h : Is K z.F z.A v d) (c : d.cq = true) : Dp K H v d.pd :=
  ((h.mono (F' := H) (A' := z.A) a.ok.sub fun _ _ e => e)).dp (D.cq_noH c)
theorem opC_eq (hK : X.K = K) (hu : X.A.units + 64 < cLine) : OpD M X (compareOp .Eq) (crel .eq) := by
  refine ⟨_, op_eq.or (hK ▸ op_eqD hu : OpR X _ (rEqD K)), fun {z H w dx dy vx vy Q Qv} a ix iy h f => ?_⟩
  by_cases hi : ∃ i j, dx = .int i ∧ dy = .int j
  · obtain ⟨i, j, rfl, rfl⟩ := hi
    cases ix
    cases iy
    refine .inl ⟨rfl, ?_⟩
    rw [eqv_dec]
    exact f.dat a (.bl _) h
  · have h : (dx.cq = true ∧ dy.cq = true) ∧ Q (.dat (.bl (eqD dx dy))) := by
      cases dx <;> cases dy <;> first
        | exact absurd ⟨_, _, rfl, rfl⟩ hi
        | exact h
    exact .inr ⟨_, _, dp_at a ix h.1.1, dp_at a iy h.1.2, D.cq_sh h.1.1, D.cq_sh h.1.2, f.dat a (.bl _) h.2⟩
theorem opC_ne (hK : X.K = K) (hu : X.A.units + 64 < cLine) : OpD M X (compareOp .NotEq) (crel .ne) := by
  refine ⟨_, op_ne.or (hK ▸ op_neD hu : OpR X _ (rNeD K)), fun {z H w dx dy vx vy Q Qv} a ix iy h f => ?_⟩
  by_cases hi : ∃ i j, dx = .int i ∧ dy = .int j
  · obtain ⟨i, j, rfl, rfl⟩ := hi
    cases ix
    cases iy
    refine .inl ⟨rfl, ?_⟩
    rw [eqv_dec]
    exact f.dat a (.bl _) h
  · have h : (dx.cq = true ∧ dy.cq = true) ∧ Q (.dat (.bl (!eqD dx dy))) := by
      cases dx <;> cases dy <;> first
        | exact absurd ⟨_, _, rfl, rfl⟩ hi
        | exact h
    exact .inr ⟨_, _, dp_at a ix h.1.1, dp_at a iy h.1.2, D.cq_sh h.1.1, D.cq_sh h.1.2, f.dat a (.bl _) h.2⟩
theorem opC_int {op : CmpOp} {o : Cop} {g : Int → Int → Bool} (ho : OpR X (compareOp op) (rI0 fun i j => .bl (g i j)))
    (hrel : ∀ dx dy Q, cmpD o dx dy Q → ∃ i j, dx = .int i ∧ dy = .int j ∧ Q (.bl (g i j))) : OpD M X (compareOp op) (crel o) := by
  refine ⟨_, ho, fun {z H w dx dy vx vy Q Qv} a ix iy h f => ?_⟩
  obtain ⟨i, j, rfl, rfl, q⟩ := hrel _ _ _ h
  cases ix
  cases iy
  exact ⟨i, j, rfl, rfl, f.dat a (.bl _) q⟩
theorem opC_is : OpD M X (compareOp .Is) (crel .is_) := by
  refine ⟨_, op_isN.or op_isBl, fun {z H w dx dy vx vy Q Qv} a ix iy h f => ?_⟩
  cases iy with
  | non => exact .inl ⟨rfl, by rw [ix.non_iff]; exact f.dat a (.bl _) (by cases dx <;> exact h)⟩
  | bl j => cases ix with
    | bl i => exact .inr ⟨i, j, rfl, rfl, f.dat a (.bl _) h⟩
    | _ => exact h.elim
  | _ => cases dx <;> exact h.elim
theorem opC_isn : OpD M X (compareOp .IsNot) (crel .isn) := by
  refine ⟨_, op_notN.or op_notBl, fun {z H w dx dy vx vy Q Qv} a ix iy h f => ?_⟩
  cases iy with
  | non => exact .inl ⟨rfl, by rw [ix.non_iff]; exact f.dat a (.bl _) (by cases dx <;> exact h)⟩
  | bl j => cases ix with
    | bl i => exact .inr ⟨i, j, rfl, rfl, f.dat a (.bl _) h⟩
    | _ => exact h.elim
  | _ => cases dx <;> exact h.elim
theorem in_data {neg : Bool} (a : At M z H w) {dx dy : D} {vx vy : V} {Q : Rs → Prop} {Qv : VK} (ix : Is K z.F z.A vx dx) (iy : Is K z.F z.A vy dy) {l : Bool} {xs : List D} (e : dy = .seq l xs) (h1 : dx.flat = true) (h2 : xs.all D.flat = true)
    (q : Q (.dat (.bl (if neg then !(xs.any fun x => eqD x dx) else xs.any fun x => eqD x dx)))) (f : Fin M z H w Q Qv) : rIn K neg vx vy H Qv := by
  subst e
  cases iy with
  | @tup p vs _ hp hs => exact ⟨p, vs, rfl, .inr (a.sqT hp), ix.flat h1, hs.flat h2, by rw [any_eqD ix h1 hs h2]; exact f.dat a (.bl _) q⟩
  | @lst p vs _ hp hs => exact ⟨p, vs, rfl, .inl (SqL.of (a.ok.sub _ _ hp)), ix.flat h1, hs.flat h2, by rw [any_eqD ix h1 hs h2]; exact f.dat a (.bl _) q⟩
theorem opC_in (hK : X.K = K) : OpD M X (compareOp .In) (crel .inn) := by
  refine ⟨_, (hK ▸ op_in_seq : OpR X _ (rIn K false)), fun {z H w dx dy vx vy Q Qv} a ix iy h f => ?_⟩
  have h : ∃ l xs, dy = .seq l xs ∧ (dx.flat = true ∧ xs.all D.flat = true) ∧ Q (.dat (.bl (xs.any fun x => eqD x dx))) := by
    cases dy with
    | seq l xs => exact ⟨l, xs, rfl, by cases dx <;> exact h⟩
    | _ => cases dx <;> exact h.elim
  obtain ⟨l, xs, e, ⟨h1, h2⟩, q⟩ := h
  exact in_data a ix iy e h1 h2 q f
theorem opC_nin (hK : X.K = K) : OpD M X (compareOp .NotIn) (crel .nin) := by
  refine ⟨_, (hK ▸ op_notIn_seq : OpR X _ (rIn K true)), fun {z H w dx dy vx vy Q Qv} a ix iy h f => ?_⟩
  have h : ∃ l xs, dy = .seq l xs ∧ (dx.flat = true ∧ xs.all D.flat = true) ∧ Q (.dat (.bl (!(xs.any fun x => eqD x dx)))) := by
    cases dy with
    | seq l xs => exact ⟨l, xs, rfl, by cases dx <;> exact h⟩
    | _ => cases dx <;> exact h.elim
  obtain ⟨l, xs, e, ⟨h1, h2⟩, q⟩ := h
  exact in_data a ix iy e h1 h2 q f
theorem opC (hK : X.K = K) (hu : X.A.units + 64 < cLine) : ∀ o : Cop, OpD M X (compareOp (copOf o)) (crel o)
  | .eq => opC_eq hK hu
  | .ne => opC_ne hK hu
  | .lt => opC_int op_lt fun dx dy Q h => by cases dx <;> cases dy <;> first | exact ⟨_, _, rfl, rfl, h⟩ | exact h.elim
  | .le => opC_int op_le fun dx dy Q h => by cases dx <;> cases dy <;> first | exact ⟨_, _, rfl, rfl, h⟩ | exact h.elim
  | .gt => opC_int op_gt fun dx dy Q h => by cases dx <;> cases dy <;> first | exact ⟨_, _, rfl, rfl, h⟩ | exact h.elim
  | .ge => opC_int op_ge fun dx dy Q h => by cases dx <;> cases dy <;> first | exact ⟨_, _, rfl, rfl, h⟩ | exact h.elim
  | .is_ => opC_is
  | .isn => opC_isn
  | .inn => opC_in hK
  | .nin => opC_nin hK
end
end Ab

namespace Ab
open PySem PySem.Spec PyProof.Rows L2

section
variable {K : PySem.W.Frag} {M : WM K} {X : Cx} {z z1 z2 : Fz} {H H1 H2 : Hp} {w : M.Wd}

/-! ### subscripts, slices -/
theorem atI_iss {F : Hp} {A : List Addr} {vs : List V} {ds : List D} (h : Iss K F A vs ds) {i : Int} {d : D} (e : L2.atI ds i = some d) : ∃ v, L2.atI vs i = some v ∧ Is K F A v d := by
  unfold L2.atI at e ⊢
  rw [← h.length] at e
  cases q : ixN vs.length i with
  | none => rw [q] at e; cases e
  | some j =>
    rw [q] at e
    exact h.get (i := j) e
theorem atI_map {α β : Type} {f : α → β} {xs : List α} {i : Int} {k : α} (e : L2.atI xs i = some k) : L2.atI (xs.map f) i = some (f k) := by
  unfold L2.atI at e ⊢
  rw [List.length_map]
  cases q : ixN xs.length i with
  | none => rw [q] at e; cases e
  | some j =>
    rw [q] at e
    have e : xs[j]? = some k := e
    show (xs.map f)[j]? = some (f k)
    rw [List.getElem?_map, e]; rfl
theorem idx_ok (hK : X.K = K) : ∃ r : R2, IxR X r ∧ ∀ {z : Fz} {H : Hp} {w : M.Wd} {dx dy : D} {vx vy : V} {Q : Rs → Prop} {Qv : VK}, At M z H w → Is K z.F z.A vx dx → Is K z.F z.A vy dy → idxD dx dy (fun d => Q (.dat d)) → Fin M z H w Q Qv → r vx vy H Qv := by
  refine ⟨_, (hK ▸ ix_seq : IxR X (rIx K)), fun {z H w dx dy vx vy Q Qv} a ix iy h f => ?_⟩
  cases ix with
  | @tup p vs ds hp hs => cases iy with
    | int i =>
      obtain ⟨d, e, q⟩ : ∃ d, L2.atI ds i = some d ∧ Q (.dat d) := h
      obtain ⟨v, e2, hv⟩ := atI_iss hs e
      exact .inr (.inl ⟨p, vs, i, v, rfl, rfl, a.sqT hp, e2, f.dat a hv q⟩)
    | _ => exact h.elim
  | @lst p vs ds hp hs => cases iy with
    | int i =>
      obtain ⟨d, e, q⟩ : ∃ d, L2.atI ds i = some d ∧ Q (.dat d) := h
      obtain ⟨v, e2, hv⟩ := atI_iss hs e
      exact .inl ⟨p, vs, i, v, rfl, rfl, SqL.of (a.ok.sub _ _ hp), e2, f.dat a hv q⟩
    | _ => exact h.elim
  | @scr p ns hp => cases iy with
    | int i =>
      obtain ⟨k, e, q⟩ : ∃ k, L2.atI ns i = some k ∧ Q (.dat (.int k)) := h
      exact .inl ⟨p, _, i, .int k, rfl, rfl, a.sqL hp, atI_map e, f.dat a (.int k) q⟩
    | _ => exact h.elim
  | _ => cases dy <;> exact h.elim
theorem cut_len {α β : Type} {xs : List α} {ys : List β} (e : xs.length = ys.length) (d : Nat) (o : Option Int) : HT.sIx xs.length d o = HT.sIx ys.length d o := by rw [e]
theorem cutD_iss {F : Hp} {A : List Addr} {vs : List V} {ds : List D} (h : Iss K F A vs ds) (lo hi : Option Int) : Iss K F A (cutV vs lo hi) (cutD ds lo hi) := by
  unfold cutV cutD
  rw [h.length]
  exact (h.drop _).take _
theorem slc_ok (hK : X.K = K) : ∃ r, SlR X r ∧ ∀ {z : Fz} {H : Hp} {w : M.Wd} {dx : D} {vx : V} {lo hi : Option Int} {Q : Rs → Prop} {Qv : VK}, At M z H w → Is K z.F z.A vx dx → slcD dx lo hi Q → Fin M z H w Q Qv → r vx lo hi H Qv := by
  refine ⟨_, ((hK ▸ sl_list : SlR X (rSlL K))).or (hK ▸ sl_tupA : SlR X (rSlA K)), fun {z H w dx vx lo hi Q Qv} a ix h f => ?_⟩
  cases ix with
  | @tup p vs ds hp hs =>
    have h : Q (.dat (.seq false (cutD ds lo hi))) := h
    refine .inr ⟨p, vs, rfl, a.sqT hp, fun e => ?_, fun _ q hq => f.tup a (cutD_iss hs lo hi) h hq⟩
    have e2 : cutD ds lo hi = ds := by
      unfold cutD
      rw [← hs.length, e.1, e.2, List.drop_zero, Nat.sub_zero, hs.length, List.take_length]
    rw [e2] at h
    exact f.dat a (.tup hp hs) h
  | @lst p vs ds hp hs => exact .inl ⟨p, vs, rfl, SqL.of (a.ok.sub _ _ hp), fun q hq => f.lst a (cutD_iss hs lo hi) h hq⟩
  | @scr p ns hp => exact .inl ⟨p, _, rfl, a.sqL hp, fun q hq => f.lst a (cutD_iss (Iss.of_ints ns) lo hi) h hq⟩
  | _ => exact h.elim

/-! ### built-ins -/
def maxU (ns : List Int) (m : Int) : Prop := m ∈ ns ∧ ∀ y, y ∈ ns → y ≤ m
theorem maxI_spec : ∀ (ns : List Int), ns ≠ [] → maxI ns ∈ ns ∧ ∀ y, y ∈ ns → y ≤ maxI ns
  | [], h => absurd rfl h
  | [a], _ => ⟨List.mem_cons_self, fun y hy => by simp at hy; subst hy; exact Int.le_refl _⟩
  | a :: b :: r, _ => by
    have ih := maxI_spec (b :: r) (by simp)
    have e : maxI (a :: b :: r) = if maxI (b :: r) ≤ a then a else maxI (b :: r) := rfl
    rw [e]
    split
    · refine ⟨List.mem_cons_self, fun y hy => ?_⟩
      rcases List.mem_cons.mp hy with rfl | hy
      · exact Int.le_refl _
      · have := ih.2 y hy; omega
    · refine ⟨List.mem_cons_of_mem _ ih.1, fun y hy => ?_⟩
      rcases List.mem_cons.mp hy with rfl | hy
      · omega
      · exact ih.2 y hy
theorem minI_spec : ∀ (ns : List Int), ns ≠ [] → minI ns ∈ ns ∧ ∀ y, y ∈ ns → minI ns ≤ y
  | [], h => absurd rfl h
  | [a], _ => ⟨List.mem_cons_self, fun y hy => by simp at hy; subst hy; exact Int.le_refl _⟩
  | a :: b :: r, _ => by
    have ih := minI_spec (b :: r) (by simp)
    have e : minI (a :: b :: r) = if a ≤ minI (b :: r) then a else minI (b :: r) := rfl
    rw [e]
    split
    · refine ⟨List.mem_cons_self, fun y hy => ?_⟩
      rcases List.mem_cons.mp hy with rfl | hy
      · exact Int.le_refl _
      · have := ih.2 y hy; omega
    · refine ⟨List.mem_cons_of_mem _ ih.1, fun y hy => ?_⟩
      rcases List.mem_cons.mp hy with rfl | hy
      · omega
      · exact ih.2 y hy
theorem max_uniq {ns : List Int} {m m' : Int} (h1 : m ∈ ns) (h2 : ∀ y, y ∈ ns → y ≤ m) (h1' : m' ∈ ns) (h2' : ∀ y, y ∈ ns → y ≤ m') : m = m' := by
  have a := h2 _ h1'
  have b := h2' _ h1
  omega
theorem min_uniq {ns : List Int} {m m' : Int} (h1 : m ∈ ns) (h2 : ∀ y, y ∈ ns → m ≤ y) (h1' : m' ∈ ns) (h2' : ∀ y, y ∈ ns → m' ≤ y) : m = m' := by
  have a := h2 _ h1'
  have b := h2' _ h1
  omega
theorem intsOf_eq : ∀ {xs : List D} {ns : List Int}, intsOf xs = some ns → xs = ns.map D.int
  | [], ns, h => by cases h; rfl
  | .int i :: r, ns, h => by
    have h : (intsOf r).map (i :: ·) = some ns := h
    cases e : intsOf r with
    | none => rw [e] at h; cases h
    | some m =>
      rw [e] at h
      cases h
      rw [List.map_cons, intsOf_eq e]
  | .non :: r, ns, h => by cases h
  | .bl _ :: r, ns, h => by cases h
  | .str _ :: r, ns, h => by cases h
  | .seq _ _ :: r, ns, h => by cases h
  | .hnd _ :: r, ns, h => by cases h
  | .scr _ :: r, ns, h => by cases h
theorem intsOf_map : ∀ (ns : List Int), intsOf (ns.map D.int) = some ns
  | [] => rfl
  | n :: ns => by
    show (intsOf (ns.map D.int)).map (n :: ·) = _
    rw [intsOf_map ns]; rfl
theorem blsOf_eq : ∀ {xs : List D} {ns : List Bool}, blsOf xs = some ns → xs = ns.map D.bl
  | [], ns, h => by cases h; rfl
  | .bl i :: r, ns, h => by
    have h : (blsOf r).map (i :: ·) = some ns := h
    cases e : blsOf r with
    | none => rw [e] at h; cases h
    | some m =>
      rw [e] at h
      cases h
      rw [List.map_cons, blsOf_eq e]
  | .non :: r, ns, h => by cases h
  | .int _ :: r, ns, h => by cases h
  | .str _ :: r, ns, h => by cases h
  | .seq _ _ :: r, ns, h => by cases h
  | .hnd _ :: r, ns, h => by cases h
  | .scr _ :: r, ns, h => by cases h
theorem blsOf_map : ∀ (ns : List Bool), blsOf (ns.map D.bl) = some ns
  | [] => rfl
  | n :: ns => by
    show (blsOf (ns.map D.bl)).map (n :: ·) = _
    rw [blsOf_map ns]; rfl

theorem reads_ints {h : Heap} : ∀ {its : List Value} {ns : List Int}, IntsAre its ns → ∃ as, ReadsAll h its (ns.map PyData.int) as
  | _, _, .nil => ⟨_, ReadsAll.nil⟩
  | _, _, .cons n t r => by
    obtain ⟨as, q⟩ := reads_ints (h := h) r
    exact ⟨_, ReadsAll.cons (Reads.int n t) q⟩
theorem maxOf_eq : ∀ (x : Int) (xs : List Int), PySem.W.maxOf x xs = maxI (x :: xs) := by
  have key : ∀ (xs : List Int) (x : Int), (PySem.W.maxOf x xs ∈ x :: xs) ∧ ∀ y, y ∈ x :: xs → y ≤ PySem.W.maxOf x xs := by
    intro xs
    induction xs with
    | nil => intro x; exact ⟨List.mem_cons_self, fun y hy => by simp at hy; subst hy; exact Int.le_refl _⟩
    | cons b r ih =>
      intro x
      have e : PySem.W.maxOf x (b :: r) = PySem.W.maxOf (if x < b then b else x) r := by
        unfold PySem.W.maxOf
        rw [List.foldl_cons]
        show List.foldl _ (if (decide (x < b)) = true then b else x) r = _
        simp only [decide_eq_true_eq]
      rw [e]
      have h := ih (if x < b then b else x)
      refine ⟨?_, fun y hy => ?_⟩
      · rcases List.mem_cons.mp h.1 with q | q
        · rw [q]
          split
          · exact List.mem_cons_of_mem _ List.mem_cons_self
          · exact List.mem_cons_self
        · exact List.mem_cons_of_mem _ (List.mem_cons_of_mem _ q)
      · have h0 := h.2 _ List.mem_cons_self
        generalize PySem.W.maxOf (if x < b then b else x) r = mm at h0 h
        rcases List.mem_cons.mp hy with rfl | hy
        · split at h0 <;> omega
        · rcases List.mem_cons.mp hy with rfl | hy
          · split at h0 <;> omega
          · exact h.2 y (List.mem_cons_of_mem _ hy)
  intro x xs
  have a := key xs x
  have b := maxI_spec (x :: xs) (by simp)
  exact max_uniq a.1 a.2 b.1 b.2
theorem cr_maxT (hc : X.calm = true) (hu : X.A.units + 2 < cLine) : CallR X (.builtin "max") (fun vs H Q => ∃ (a : Addr) (ns : List Int), vs = [V.ref a] ∧ SqT X.K H a (ns.map V.int) ∧ ns ≠ [] ∧ Q (.int (maxI ns)) H) := by
  intro pins s σ H vs us Q I r h
  obtain ⟨a, ns, rfl, hs, hne, q⟩ := h
  obtain ⟨its, rv, hl, _⟩ := I.tuple hs
  rw [Vals.ref1 r]
  cases ns with
  | nil => exact absurd rfl hne
  | cons x xs =>
    have hi : IntsAre its (x :: xs) := rv.ints
    obtain ⟨as, hr⟩ := reads_ints (h := s.heap) hi
    have e : ∀ l : List Int, l.map PyData.int = l.map PySem.W.Datum.toD := fun l => rfl
    rw [e] at hr
    refine PySem.W.max_tuple_datum (α := Int) (I.ok.hd hc) (show s.heap.IsTuple a its.toArray from hl) (x := x) (xs := xs) ⟨as, by simpa using hr⟩ (by show X.A.units + 1 + 0 < cLine; omega) fun i v h' tk hv hh hk => ?_
    obtain ⟨bs, hb⟩ := hh
    have hm : PySem.W.maxOf x xs = maxI (x :: xs) := maxOf_eq x xs
    rw [hm] at hb
    have hb : Reads h' v (.int (maxI (x :: xs))) bs := hb
    cases hb with
    | int i t => exact ⟨.int _, H, I.kept hk, ⟨_, rfl⟩, q⟩

def bltV : Blt → Value
  | .len => .builtin "len"
  | .abs_ => .builtin "abs"
  | .int_ => .type "int"
  | .tuple_ => .type "tuple"
  | .list_ => .type "list"
  | .sum_ => .builtin "sum"
  | .max_ => .builtin "max"
  | .min_ => .builtin "min"
  | .all_ => .builtin "all"
  | .divmod_ => .builtin "divmod"
  | .max2 => .builtin "max"
  | .min2 => .builtin "min"
def bltN : Blt → Str
  | .len => "len"
  | .abs_ => "abs"
  | .int_ => "int"
  | .tuple_ => "tuple"
  | .list_ => "list"
  | .sum_ => "sum"
  | .max_ => "max"
  | .min_ => "min"
  | .all_ => "all"
  | .divmod_ => "divmod"
  | .max2 => "max"
  | .min2 => "min"
theorem bltN_boot : ∀ b : Blt, bootBuiltins (bltN b) = some (bltV b) := by
  intro b; cases b <;> decide +kernel
/-- a built-in's call, by data -/
def CallD (M : WM K) (X : Cx) (f : Value) (rel : List D → (Rs → Prop) → Prop) : Prop :=
  ∃ r, CallR X f r ∧ ∀ {z : Fz} {H : Hp} {w : M.Wd} {ds : List D} {vs : List V} {Q : Rs → Prop} {Qv : VK}, At M z H w → Iss K z.F z.A vs ds → rel ds Q → Fin M z H w Q Qv → r vs H Qv
theorem one_d {F : Hp} {A : List Addr} {vs : List V} {d : D} (h : Iss K F A vs [d]) : ∃ v, vs = [v] ∧ Is K F A v d := by
  cases h with
  | cons h t => cases t; exact ⟨_, rfl, h⟩
theorem two_d {F : Hp} {A : List Addr} {vs : List V} {d e : D} (h : Iss K F A vs [d, e]) : ∃ v u, vs = [v, u] ∧ Is K F A v d ∧ Is K F A u e := by
  cases h with
  | cons h t =>
    obtain ⟨u, rfl, h2⟩ := one_d t
    exact ⟨_, _, rfl, h, h2⟩
theorem bD_len (hK : X.K = K) : CallD M X (.builtin "len") (bltD .len) := by
  refine ⟨_, ((hK ▸ call_len_seq : CallR X (.builtin "len") (fun xs H Q => ∃ p ys, xs = [.ref p] ∧ (SqL K H p ys ∨ SqT K H p ys) ∧ Q (.int ys.length) H))).or call_len_str, fun {z H w ds vs Q Qv} a ix h f => ?_⟩
  match ds, h, ix with
  | [.seq l xs], h, ix =>
    obtain ⟨v, rfl, hv⟩ := one_d ix
    cases hv with
    | tup hp hs => exact .inl ⟨_, _, rfl, .inr (a.sqT hp), by rw [hs.length]; exact f.dat a (.int _) h⟩
    | lst hp hs => exact .inl ⟨_, _, rfl, .inl (SqL.of (a.ok.sub _ _ hp)), by rw [hs.length]; exact f.dat a (.int _) h⟩
  | [.scr ns], h, ix =>
    obtain ⟨v, rfl, hv⟩ := one_d ix
    cases hv with
    | scr hp => exact .inl ⟨_, _, rfl, .inl (a.sqL hp), by rw [List.length_map]; exact f.dat a (.int _) h⟩
  | [.str x], h, ix =>
    obtain ⟨v, rfl, hv⟩ := one_d ix
    cases hv
    exact .inr ⟨_, rfl, h.1, f.dat a (.int _) h.2⟩
theorem bD_abs : CallD M X (.builtin "abs") (bltD .abs_) := by
  refine ⟨_, call_abs, fun {z H w ds vs Q Qv} a ix h f => ?_⟩
  match ds, h, ix with
  | [.int i], h, ix =>
    obtain ⟨v, rfl, hv⟩ := one_d ix
    cases hv
    exact ⟨i, rfl, f.dat a (.int _) h⟩
theorem bD_int : CallD M X (.type "int") (bltD .int_) := by
  refine ⟨_, call_int1, fun {z H w ds vs Q Qv} a ix h f => ?_⟩
  match ds, h, ix with
  | [.int i], h, ix =>
    obtain ⟨v, rfl, hv⟩ := one_d ix
    cases hv
    exact .inl ⟨i, rfl, f.dat a (.int _) h⟩
  | [.bl i], h, ix =>
    obtain ⟨v, rfl, hv⟩ := one_d ix
    cases hv
    exact .inr ⟨i, rfl, f.dat a (.int _) h⟩
theorem bD_tuple (hK : X.K = K) : CallD M X (.type "tuple") (bltD .tuple_) := by
  refine ⟨_, (hK ▸ call_tuple_of : CallR X (.type "tuple") (fun xs H Q => ∃ p ys, xs = [.ref p] ∧ ((SqL K H p ys ∧ ∀ l, H l = none → Q (.ref l) (upd H l (.tup ys))) ∨ (SqT K H p ys ∧ Q (.ref p) H)))), fun {z H w ds vs Q Qv} a ix h f => ?_⟩
  match ds, h, ix with
  | [.seq l xs], h, ix =>
    obtain ⟨v, rfl, hv⟩ := one_d ix
    cases hv with
    | tup hp hs => exact ⟨_, _, rfl, .inr ⟨a.sqT hp, f.dat a (.tup hp hs) h⟩⟩
    | lst hp hs => exact ⟨_, _, rfl, .inl ⟨SqL.of (a.ok.sub _ _ hp), fun q hq => f.tup a hs h hq⟩⟩
theorem bD_list (hK : X.K = K) : CallD M X (.type "list") (bltD .list_) := by
  refine ⟨_, (hK ▸ call_list_of : CallR X (.type "list") (fun xs H Q => ∃ p ys, xs = [.ref p] ∧ (SqL K H p ys ∨ SqT K H p ys) ∧ ∀ l, H l = none → Q (.ref l) (upd H l (.lst ys)))), fun {z H w ds vs Q Qv} a ix h f => ?_⟩
  match ds, h, ix with
  | [.seq l xs], h, ix =>
    obtain ⟨v, rfl, hv⟩ := one_d ix
    cases hv with
    | tup hp hs => exact ⟨_, _, rfl, .inr (a.sqT hp), fun q hq => f.lst a hs h hq⟩
    | lst hp hs => exact ⟨_, _, rfl, .inl (SqL.of (a.ok.sub _ _ hp)), fun q hq => f.lst a hs h hq⟩
theorem bD_sum (hK : X.K = K) (hc : X.calm = true) : CallD M X (.builtin "sum") (bltD .sum_) := by
  refine ⟨_, (hK ▸ cr_sum hc : CallR X (.builtin "sum") (rSum K)), fun {z H w ds vs Q Qv} a ix h f => ?_⟩
  match ds, h, ix with
  | [.seq true xs], h, ix =>
    obtain ⟨v, rfl, hv⟩ := one_d ix
    obtain ⟨ns, e, q⟩ : ∃ ns, intsOf xs = some ns ∧ Q (.dat (.int ns.sum)) := h
    cases hv with
    | lst hp hs =>
      rw [intsOf_eq e] at hs
      rw [hs.ints] at hp
      exact ⟨_, ns, rfl, SqL.of (a.ok.sub _ _ hp), f.dat a (.int _) q⟩
theorem bD_max (hK : X.K = K) (hc : X.calm = true) (hu : X.A.units + 64 < cLine) : CallD M X (.builtin "max") (bltD .max_) := by
  refine ⟨_, ((hK ▸ cr_max hc : CallR X (.builtin "max") (rMax K))).or (hK ▸ cr_maxT hc (by omega) : CallR X (.builtin "max") (fun vs H Q => ∃ (a : Addr) (ns : List Int), vs = [V.ref a] ∧ SqT K H a (ns.map V.int) ∧ ns ≠ [] ∧ Q (.int (maxI ns)) H)), fun {z H w ds vs Q Qv} a ix h f => ?_⟩
  match ds, h, ix with
  | [.seq l xs], h, ix =>
    obtain ⟨v, rfl, hv⟩ := one_d ix
    obtain ⟨ns, e, hne, q⟩ : ∃ ns, intsOf xs = some ns ∧ ns ≠ [] ∧ Q (.dat (.int (maxI ns))) := h
    cases hv with
    | lst hp hs =>
      rw [intsOf_eq e] at hs
      rw [hs.ints] at hp
      refine .inl ⟨_, ns, rfl, SqL.of (a.ok.sub _ _ hp), List.length_pos_iff.mpr hne, fun m h1 h2 => ?_⟩
      have sp := maxI_spec ns hne
      rw [max_uniq h1 h2 sp.1 sp.2]
      exact f.dat a (.int _) q
    | tup hp hs =>
      rw [intsOf_eq e] at hs
      rw [hs.ints] at hp
      exact .inr ⟨_, ns, rfl, a.sqT hp, hne, f.dat a (.int _) q⟩
theorem bD_min (hK : X.K = K) (hc : X.calm = true) : CallD M X (.builtin "min") (bltD .min_) := by
  refine ⟨_, (hK ▸ cr_min hc : CallR X (.builtin "min") (rMin K)), fun {z H w ds vs Q Qv} a ix h f => ?_⟩
  match ds, h, ix with
  | [.seq true xs], h, ix =>
    obtain ⟨v, rfl, hv⟩ := one_d ix
    obtain ⟨ns, e, hne, q⟩ : ∃ ns, intsOf xs = some ns ∧ ns ≠ [] ∧ Q (.dat (.int (minI ns))) := h
    cases hv with
    | lst hp hs =>
      rw [intsOf_eq e] at hs
      rw [hs.ints] at hp
      refine ⟨_, ns, rfl, SqL.of (a.ok.sub _ _ hp), List.length_pos_iff.mpr hne, fun m h1 h2 => ?_⟩
      have sp := minI_spec ns hne
      rw [min_uniq h1 h2 sp.1 sp.2]
      exact f.dat a (.int _) q
theorem bD_all (hK : X.K = K) (hc : X.calm = true) : CallD M X (.builtin "all") (bltD .all_) := by
  refine ⟨_, (hK ▸ cr_all hc : CallR X (.builtin "all") (rAll K)), fun {z H w ds vs Q Qv} a ix h f => ?_⟩
  match ds, h, ix with
  | [.seq true xs], h, ix =>
    obtain ⟨v, rfl, hv⟩ := one_d ix
    obtain ⟨ns, e, q⟩ : ∃ ns, blsOf xs = some ns ∧ Q (.dat (.bl (ns.all id))) := h
    cases hv with
    | lst hp hs =>
      rw [blsOf_eq e] at hs
      rw [hs.bls] at hp
      exact ⟨_, ns, rfl, SqL.of (a.ok.sub _ _ hp), f.dat a (.bl _) q⟩
theorem bD_divmod : CallD M X (.builtin "divmod") (bltD .divmod_) := by
  refine ⟨_, call_divmodW, fun {z H w ds vs Q Qv} a ix h f => ?_⟩
  match ds, h, ix with
  | [.int i, .int j], h, ix =>
    obtain ⟨v, u, rfl, hv, hu⟩ := two_d ix
    cases hv
    cases hu
    obtain ⟨⟨h1, h2⟩, q⟩ : (0 < j ∧ j.natAbs.log2 < 9000) ∧ Q (.dat (.seq false [.int (i / j), .int (i % j)])) := h
    exact ⟨i, j, rfl, ⟨h1, PyProof.noPylong_of_log2 h2⟩, fun p hp => f.tup a (.cons (.int _) (.cons (.int _) .nil)) q hp⟩
theorem bD_max2 (hc : X.calm = true) : CallD M X (.builtin "max") (bltD .max2) := by
  refine ⟨_, call_max2 hc, fun {z H w ds vs Q Qv} a ix h f => ?_⟩
  match ds, h, ix with
  | [.int i, .int j], h, ix =>
    obtain ⟨v, u, rfl, hv, hu⟩ := two_d ix
    cases hv
    cases hu
    exact ⟨i, j, rfl, f.dat a (.int _) h⟩
theorem bD_min2 (hc : X.calm = true) : CallD M X (.builtin "min") (bltD .min2) := by
  refine ⟨_, call_min2 hc, fun {z H w ds vs Q Qv} a ix h f => ?_⟩
  match ds, h, ix with
  | [.int i, .int j], h, ix =>
    obtain ⟨v, u, rfl, hv, hu⟩ := two_d ix
    cases hv
    cases hu
    exact ⟨i, j, rfl, f.dat a (.int _) h⟩
theorem blt_ok (hK : X.K = K) (hc : X.calm = true) (hu : X.A.units + 64 < cLine) : ∀ b : Blt, CallD M X (bltV b) (bltD b)
  | .len => bD_len hK
  | .abs_ => bD_abs
  | .int_ => bD_int
  | .tuple_ => bD_tuple hK
  | .list_ => bD_list hK
  | .sum_ => bD_sum hK hc
  | .max_ => bD_max hK hc hu
  | .min_ => bD_min hK hc
  | .all_ => bD_all hK hc
  | .divmod_ => bD_divmod
  | .max2 => bD_max2 hc
  | .min2 => bD_min2 hc
end
end Ab

namespace Ab
open PySem PySem.Spec PyProof.Rows L2

section
theorem meets_enum1 {v : Value} {o : Obj} {H : Heap → Prop} (B : Begins v o H) :
    Meets (Builtin.«enumerate.__new__» ⟨[.type "enumerate", v], []⟩) (fun _ R s => H s.heap ∧
      R (.ok (.ret (.ref (s.heap.push o).objs.size))) { s with heap := (s.heap.push o).push { cls := .type "enumerate", data := .fields #[.none, .bool false, .ref s.heap.objs.size, rawInt 0, .none, .none] } }) :=
  .of_wp fun prog w A R s h => by
    obtain ⟨hp, g, d, tk, os⟩ := s; obtain ⟨h1, h⟩ := h
    have hsub := sub_enumerate
    have q1 : ∀ {A' : Around} {E : Value → Shared → Prop} {Q : Value → Shared → Prop}, Q (.ref hp.objs.size) ⟨hp.push o, g, d, tk, os⟩ → wpAny (model prog w) A' (pyIter v) Q E ⟨hp, g, d, tk, os⟩ :=
      fun q => B.iter prog w _ _ ⟨hp, g, d, tk, os⟩ _ h1 q
    wp_walk using q1
    refine wpAny_stack_any fun st => wpAny_pure ?_
    split
    · rename_i c _ _ _ _ _
      cases (c == Value.type "enumerate")
      · wp_walk using q1
        exact ⟨_, rfl, h⟩
      · wp_walk using q1
        exact ⟨_, rfl, h⟩
    · wp_walk using q1
      exact ⟨_, rfl, h⟩
end

section
variable {prog : Program} {w : World} {A : Around} {E : Value → Shared → Prop} {s : Shared}
theorem enum_begins1 {v : Value} {o : Obj} {H : Heap → Prop} {Q : Value → Shared → Prop} (B : Begins v o H) (h1 : H s.heap)
    (h : ∀ h', IsEnum h' (s.heap.objs.size + 1) s.heap.objs.size 0 .none → h'.get? s.heap.objs.size = some o → h'.objs.size = s.heap.objs.size + 2 →
      (∀ b o, s.heap.get? b = some o → h'.get? b = some o) → Q (.ref (s.heap.objs.size + 1)) { s with heap := h' }) :
    wpAny (model prog w) A (call (.type "enumerate") [v]) Q E s := by
  refine callType_new F.called_enumerate (by decide) (F.typeCall_enumerate_1 _) (F.newCall_enumerate_1 _) (fun obj => F.args_object_init_2 obj _) F.entry_enumerate_new
    (meets_enum1 B) ⟨h1, ?_⟩
  have hz : (s.heap.push o).objs.size = s.heap.objs.size + 1 := Heap.size_push ..
  show _ ∧ _
  rw [hz]
  have he : IsEnum ((s.heap.push o).push { cls := .type "enumerate", data := .fields #[.none, .bool false, .ref s.heap.objs.size, rawInt 0, .none, .none] }) (s.heap.objs.size + 1) s.heap.objs.size 0 .none := by
    have := Heap.get?_push_size (s.heap.push o) (o := { cls := .type "enumerate", data := .fields #[.none, .bool false, .ref s.heap.objs.size, rawInt 0, .none, .none] }) rfl
    rw [hz] at this; exact this
  refine ⟨⟨_, he, rfl⟩, h _ he (Heap.get?_push_of_some _ (Heap.get?_push_size _ B.free)) (by rw [Heap.size_push, hz]) fun b o x => Heap.get?_push_of_some _ (Heap.get?_push_of_some _ x)⟩
end

/-! ### a list or a tuple, walked -/
def Sq (K : PySem.W.Frag) (l : Bool) (H : Hp) (a : Addr) (xs : List V) : Prop := match l with
  | true => SqL K H a xs
  | false => SqT K H a xs
def ItAt (l : Bool) (h : Heap) (it a : Addr) (i : Nat) : Prop := match l with
  | true => h.IsListIter it a i
  | false => h.IsTupleIter it a i
def IsSq (l : Bool) (h : Heap) (a : Addr) (its : Array Value) : Prop := match l with
  | true => h.IsList a its
  | false => h.IsTuple a its
def itObj (l : Bool) (a : Addr) : Obj := match l with
  | true => { cls := .type "list_iterator", data := .fields #[.ref a, .int 0 0] }
  | false => { cls := .type "tuple_iterator", data := .fields #[.ref a, .int 0 0] }
section
variable {X : Cx} {pins : List (Addr × Obj)} {σ : L2.St} {H : Hp} {s : Shared} {a : Addr} {xs ys : List V} {l : Bool}
theorem sq_at (I : Inv X pins σ H s) (h : Sq X.K l H a xs) : ∃ its : List Value, Vals xs its ∧ IsSq l s.heap a its.toArray := by
  cases l with
  | true =>
    obtain ⟨its, r, p, _⟩ := I.list h
    exact ⟨its, r, p.isList⟩
  | false =>
    obtain ⟨its, r, p, _⟩ := I.tuple h
    exact ⟨its, r, p⟩
theorem sq_inj (I : Inv X pins σ H s) (h : Sq X.K l H a xs) (h' : Sq X.K l H a ys) : xs = ys := by
  cases l with
  | true => exact I.list_inj h h'
  | false => exact I.tuple_inj h h'
theorem IsSq.lt {h : Heap} {its : Array Value} (x : IsSq l h a its) : a < h.objs.size := by
  cases l with
  | true =>
    obtain ⟨o, e, _⟩ := x
    exact Heap.lt_size e
  | false =>
    obtain ⟨o, e, _⟩ := x
    exact Heap.lt_size e
theorem ItAt.obj {h : Heap} {it : Addr} {i : Nat} (x : ItAt l h it a i) : ∃ o, h.get? it = some o ∧ ∀ v, o.data ≠ .cell v := by
  cases l with
  | true =>
    obtain ⟨o, e, c, d⟩ := x
    exact ⟨o, e, fun v q => by rw [d] at q; cases q⟩
  | false =>
    obtain ⟨o, e, c, d⟩ := x
    exact ⟨o, e, fun v q => by rw [d] at q; cases q⟩
theorem ItAt.at {h h' : Heap} {it : Addr} {i : Nat} (x : ItAt l h it a i) (k : ∀ o, h.get? it = some o → h'.get? it = some o) : ItAt l h' it a i := by
  cases l with
  | true => exact Heap.IsListIter.at x fun o q => k o q
  | false =>
    obtain ⟨o, e, c, d⟩ := x
    exact ⟨o, k o e, c, d⟩
theorem draws (prog : Program) (w : World) {A : Around} (hh : A.handled = none) (it : Addr) (hne : a ≠ it) (items : Array Value) :
    Draws prog w A it [it, a] items.size (fun i v => items[i]? = some v) (fun i h => ItAt l h it a i ∧ IsSq l h a items) := by
  cases l with
  | true => exact Draws.list hh it a hne items
  | false => exact Draws.tuple hh it a hne items
theorem begins (l : Bool) (a : Addr) (items : Array Value) : Begins (.ref a) (itObj l a) fun h => IsSq l h a items := by
  cases l with
  | true => exact begins_list a items
  | false => exact begins_tuple a items
theorem itAt_0 {h : Heap} {it : Addr} (e : h.get? it = some (itObj l a)) : ItAt l h it a 0 := by
  cases l with
  | true => exact ⟨_, e, rfl, rfl⟩
  | false => exact ⟨_, e, rfl, rfl⟩
theorem sq_keep {h h' : Heap} {its : Array Value} (x : IsSq l h a its) (k : ∀ o, h.get? a = some o → h'.get? a = some o) : IsSq l h' a its := by
  cases l with
  | true => exact Heap.IsList.at x fun o q => k o q
  | false =>
    obtain ⟨o, e, c⟩ := x
    exact ⟨o, k o e, c⟩
end

/-- enumerate from k -/
def Itn (K : PySem.W.Frag) (l : Bool) (k : Int) (a : Addr) : It :=
  ⟨fun i H => ∃ (xs : List V) (x : V), Sq K l H a xs ∧ xs[i]? = some x, fun i H v H' => ∃ T x, v = .ref T ∧ H T = none ∧ H' = upd H T (.tup [.int (k + (i : Nat)), x]) ∧ ∀ xs, Sq K l H a xs → xs[i]? = some x,
    fun i H => ∃ xs : List V, Sq K l H a xs ∧ xs.length = i⟩
theorem turn_enumK {P : Program} {w : World} {K : PySem.W.Frag} {elts : List Expr} {kk : Nat} {tpos : Pos} (l : Bool) (k : Int) (a e it : Addr) :
    Turn P w K (.Tuple elts kk tpos) (Itn K l k a) [e, it] e (fun i h => (∃ old, IsEnum h e it (k + (i : Nat)) old) ∧ ItAt l h it a i ∧ e ≠ it ∧ a ≠ it ∧ e ≠ a) where
  mem := by simp
  obj := fun i h st b hb => by
    obtain ⟨⟨old, he⟩, hi, _⟩ := st
    have e' : b = e ∨ b = it := by simpa using hb
    rcases e' with z | z
    · rw [z]; exact ⟨_, he, fun v q => nomatch q⟩
    · rw [z]; exact hi.obj
  keep := fun i h h' st kp => let ⟨⟨old, he⟩, hi, hne⟩ := st; ⟨⟨old, kp e (by simp) _ he⟩, hi.at fun o q => kp it (by simp) o q, hne⟩
  item := by
    intro X hP hw hK hc i pins s σ H E I hf st hg
    subst hP hw hK
    obtain ⟨⟨old, he⟩, hit, hne, ha, hea⟩ := st
    obtain ⟨xs, x, hq, hx⟩ := hg
    obtain ⟨its, rv, p⟩ := sq_at I hq
    obtain ⟨u, hu, ru⟩ := rv.get hx
    have hel : e < s.heap.objs.size := Heap.lt_size he
    have hil : it < s.heap.objs.size := by obtain ⟨o, q, _⟩ := hit.obj; exact Heap.lt_size q
    have DD := draws (l := l) X.prog X.w (A := X.A.in1) (I.ok.hd hc) it ha its.toArray
    have W := WalksT.enumFrom (prog := X.prog) (w := X.w) (A := X.A) k DD e hne (by simp [hne, hea]) (by simp)
    have hilt : i < its.toArray.size := by
      have := (List.getElem?_eq_some_iff.mp hu).1
      simpa using this
    refine W.item i s _ _ hilt ⟨⟨old, he⟩, hit, p⟩ fun T vals h' tk ⟨t, u', hu', ev⟩ hT1 hT2 mid keep => ?_
    have eu : u' = u := by
      have hu2 : its.toArray[i]? = some u := by simpa using hu
      rw [hu2] at hu'
      exact (Option.some.inj hu').symm
    subst eu ev
    refine ⟨_, rfl, W.go elts kk tpos i T { s with heap := h', toks := tk } _ _ mid fun h'' st' keep2 => ?_⟩
    obtain ⟨oT, hoT, cT, nT, dT⟩ := hT2
    have nTw : T ∉ [e, it] := W.apart i T _ mid
    have new : ObjOk X.prog X.w (upd H T (.tup [.int (k + (i : Nat)), x])) h'' T (.tup [.int (k + (i : Nat)), x]) :=
      ⟨by show 2 ≤ sizeLine; decide, [.int (k + (i : Nat)) t, u'], .cons ⟨_, rfl⟩ (.cons ru .nil), ⟨oT, keep2 T oT nTw hoT, cT, nT, dT⟩⟩
    have I1 : Inv X pins σ (upd H T (.tup [.int (k + (i : Nat)), x])) { s with heap := h'', toks := tk } :=
      I.turnedNew (ch := [e, it]) (fun b ob hb q => keep2 b ob hb (keep b ob hb q)) hf hT1 new
    refine ⟨.ref T, _, I1, rfl, ⟨_, x, rfl, I.hok.fresh hT1, rfl, fun ys hy => by rw [sq_inj I hy hq]; exact hx⟩, ⟨st'.1, st'.2.1, hne, ha, hea⟩, fun b hb => ?_⟩
    have hb' : b < s.heap.objs.size := by
      have e' : b = e ∨ b = it := by simpa using hb
      rcases e' with z | z
      · rw [z]; exact hel
      · rw [z]; exact hil
    rw [upd_ne (Nat.ne_of_lt (Nat.lt_of_lt_of_le hb' hT1))]
    exact (hf b hb).1
  done := by
    intro X hP hw hK hc i pins s σ H E I hf st hg
    subst hP hw hK
    obtain ⟨⟨old, he⟩, hit, hne, ha, hea⟩ := st
    obtain ⟨xs, hq, hx⟩ := hg
    obtain ⟨its, rv, p⟩ := sq_at I hq
    have DD := draws (l := l) X.prog X.w (A := X.A.in1) (I.ok.hd hc) it ha its.toArray
    have W := WalksT.enumFrom (prog := X.prog) (w := X.w) (A := X.A) k DD e hne (by simp [hne, hea]) (by simp)
    have hsz : its.toArray.size = i := by rw [List.size_toArray, ← rv.length, hx]
    refine W.done s _ _ ⟨⟨old, by rw [hsz]; exact he⟩, by rw [hsz]; exact hit, p⟩ fun h' tk keep => ⟨rfl, I.turnedL (ch := [e, it]) (fun b o hb q => keep b o hb q) hf⟩
  self := fun A i s Q E st h => let ⟨⟨_, he⟩, _⟩ := st; wpAny_pyIter_enum he h

/-- zip of two, lists or tuples -/
def Itp (K : PySem.W.Frag) (l1 l2 : Bool) (a b : Addr) : It :=
  ⟨fun i H => ∃ (xs ys : List V) (x y : V), Sq K l1 H a xs ∧ Sq K l2 H b ys ∧ xs[i]? = some x ∧ ys[i]? = some y,
    fun i H v H' => ∃ T x y, v = .ref T ∧ H T = none ∧ H' = upd H T (.tup [x, y]) ∧ (∀ xs, Sq K l1 H a xs → xs[i]? = some x) ∧ ∀ ys, Sq K l2 H b ys → ys[i]? = some y,
    fun i H => ∃ xs ys : List V, Sq K l1 H a xs ∧ Sq K l2 H b ys ∧ min xs.length ys.length = i⟩
theorem turn_zipG {P : Program} {w : World} {K : PySem.W.Frag} {elts : List Expr} {kk : Nat} {tpos : Pos} {l1 l2 : Bool} {a b z TI TO i1 i2 : Addr} (S : ZipSep2 z TI TO i1 i2 [i1, a] [i2, b]) (ha : a ≠ i1) (hb : b ≠ i2) :
    Turn P w K (.Tuple elts kk tpos) (Itp K l1 l2 a b) [z, TI, TO, i1, i2] z (fun i h => IsZip h z TI TO .none ∧ IsTupOf2 h TI (.ref i1) (.ref i2) ∧ (∃ x y, IsTupOf2 h TO x y) ∧ ItAt l1 h i1 a i ∧ ItAt l2 h i2 b i) where
  mem := by simp
  obj := fun i h st c hc => by
    obtain ⟨hz, hTI, ⟨x, y, hTO⟩, h1, h2⟩ := st
    have e' : c = z ∨ c = TI ∨ c = TO ∨ c = i1 ∨ c = i2 := by simpa using hc
    rcases e' with q | q | q | q | q
    · rw [q]; exact ⟨_, hz, fun v q => nomatch q⟩
    · rw [q]; exact ⟨_, hTI, fun v q => nomatch q⟩
    · rw [q]; exact ⟨_, hTO, fun v q => nomatch q⟩
    · rw [q]; exact h1.obj
    · rw [q]; exact h2.obj
  keep := fun i h h' st k => by
    obtain ⟨hz, hTI, ⟨x, y, hTO⟩, h1, h2⟩ := st
    exact ⟨k z (by simp) _ hz, k TI (by simp) _ hTI, ⟨x, y, k TO (by simp) _ hTO⟩, h1.at fun o q => k i1 (by simp) o q, h2.at fun o q => k i2 (by simp) o q⟩
  item := by
    intro X hP hw hK hc i pins s σ H E I hf st hg
    subst hP hw hK
    obtain ⟨hz, hTI, hTO, h1, h2⟩ := st
    obtain ⟨xs, ys, x, y, hqx, hqy, hx, hy⟩ := hg
    obtain ⟨its, rv, p⟩ := sq_at I hqx
    obtain ⟨its2, rv2, p2⟩ := sq_at I hqy
    obtain ⟨u, hu, ru⟩ := rv.get hx
    obtain ⟨u2, hu2, ru2⟩ := rv2.get hy
    have D1 := draws (l := l1) X.prog X.w (A := X.A.in1) (I.ok.hd hc) i1 ha its.toArray
    have D2 := draws (l := l2) X.prog X.w (A := X.A.in1) (I.ok.hd hc) i2 hb its2.toArray
    have W := WalksT.zipD2 (A := X.A) S D1 D2
    have hilt : i < min its.toArray.size its2.toArray.size := by
      have q1 := (List.getElem?_eq_some_iff.mp hu).1
      have q2 := (List.getElem?_eq_some_iff.mp hu2).1
      simp only [List.size_toArray]
      omega
    refine W.item i s _ _ hilt ⟨hz, hTI, hTO, ⟨h1, p⟩, ⟨h2, p2⟩⟩ fun T vals h' tk ⟨v1, v2, hv1, hv2, ev⟩ hT1 hT2 mid keep => ?_
    have eu : v1 = u := by
      have q : its.toArray[i]? = some u := by simpa using hu
      rw [q] at hv1
      exact (Option.some.inj hv1).symm
    have eu2 : v2 = u2 := by
      have q : its2.toArray[i]? = some u2 := by simpa using hu2
      rw [q] at hv2
      exact (Option.some.inj hv2).symm
    subst eu eu2 ev
    refine ⟨_, rfl, W.go elts kk tpos i T { s with heap := h', toks := tk } _ _ mid fun h'' st' keep2 => ?_⟩
    obtain ⟨oT, hoT, cT, nT, dT⟩ := hT2
    have nTw : T ∉ [z, TO, i1, i2] := W.apart i T _ mid
    have new : ObjOk X.prog X.w (upd H T (.tup [x, y])) h'' T (.tup [x, y]) :=
      ⟨by show 2 ≤ sizeLine; decide, [v1, v2], .cons ru (.cons ru2 .nil), ⟨oT, keep2 T oT nTw hoT, cT, nT, dT⟩⟩
    have sub : ∀ c, c ∈ [z, TO, i1, i2] → c ∈ [z, TI, TO, i1, i2] := fun c hc => by
      have : c = z ∨ c = TO ∨ c = i1 ∨ c = i2 := by simpa using hc
      rcases this with q | q | q | q <;> rw [q] <;> simp
    have I1 : Inv X pins σ (upd H T (.tup [x, y])) { s with heap := h'', toks := tk } :=
      I.turnedNew (ch := [z, TO, i1, i2]) (fun c o hb q => keep2 c o hb (keep c o hb q)) (fun c hc => hf c (sub c hc)) hT1 new
    refine ⟨.ref T, _, I1, rfl, ⟨_, x, y, rfl, I.hok.fresh hT1, rfl, fun q hl => by rw [sq_inj I hl hqx]; exact hx, fun q hl => by rw [sq_inj I hl hqy]; exact hy⟩, ⟨st'.1, st'.2.1, st'.2.2.1, st'.2.2.2.1.1, st'.2.2.2.2.1⟩, fun c hcm => ?_⟩
    have hlt : c < s.heap.objs.size := by
      have e' : c = z ∨ c = TI ∨ c = TO ∨ c = i1 ∨ c = i2 := by simpa using hcm
      rcases e' with q | q | q | q | q
      · rw [q]; exact Heap.lt_size hz
      · rw [q]; exact Heap.lt_size hTI
      · rw [q]; obtain ⟨_, _, e⟩ := hTO; exact Heap.lt_size e
      · rw [q]; obtain ⟨o, e, _⟩ := h1.obj; exact Heap.lt_size e
      · rw [q]; obtain ⟨o, e, _⟩ := h2.obj; exact Heap.lt_size e
    rw [upd_ne (Nat.ne_of_lt (Nat.lt_of_lt_of_le hlt hT1))]
    exact (hf c hcm).1
  done := by
    intro X hP hw hK hc i pins s σ H E I hf st hg
    subst hP hw hK
    obtain ⟨hz, hTI, hTO, h1, h2⟩ := st
    obtain ⟨xs, ys, hqx, hqy, hend⟩ := hg
    obtain ⟨its, rv, p⟩ := sq_at I hqx
    obtain ⟨its2, rv2, p2⟩ := sq_at I hqy
    have D1 := draws (l := l1) X.prog X.w (A := X.A.in1) (I.ok.hd hc) i1 ha its.toArray
    have D2 := draws (l := l2) X.prog X.w (A := X.A.in1) (I.ok.hd hc) i2 hb its2.toArray
    have W := WalksT.zipD2 (A := X.A) S D1 D2
    have hsz : min its.toArray.size its2.toArray.size = i := by rw [List.size_toArray, List.size_toArray, ← rv.length, ← rv2.length, hend]
    have sub : ∀ c, c ∈ [z, TO, i1, i2] → c ∈ [z, TI, TO, i1, i2] := fun c hc => by
      have : c = z ∨ c = TO ∨ c = i1 ∨ c = i2 := by simpa using hc
      rcases this with q | q | q | q <;> rw [q] <;> simp
    exact W.done s _ _ (by rw [hsz]; exact ⟨hz, hTI, hTO, ⟨h1, p⟩, ⟨h2, p2⟩⟩) fun h' tk keep => ⟨rfl, I.turnedL (ch := [z, TO, i1, i2]) (fun b o hb q => keep b o hb q) fun c hc => hf c (sub c hc)⟩
  self := fun A i s Q E st h => wpAny_pyIter_zip st.1 h
end Ab

namespace Ab
open PySem PySem.Spec PyProof.Rows L2

/-! ### from the text to the small language: a check -/
structure Tab where
  N : List Str
  consts : List (Str × Int)
  conss : List (Str × Str)
  funs : List (Str × Nat × Nat)      -- name, id, how many parameters
inductive X3
  | e (x : Expr) | es (xs : List Expr) | it (tg x : Expr)
def visB (sc : Scope) (x : Str) : Bool := match sc.names.lookup x with
  | some .local => true
  | some .cell => true
  | some .free => true
  | _ => false
def locB (sc : Scope) (fn : Str → Bool) (x : Str) : Bool := match sc.names.lookup x with
  | some .local => true
  | some .cell => fn x
  | _ => false
def glB (sc : Scope) (x : Str) : Bool := match sc.names.lookup x with
  | some .globalImplicit => true
  | _ => false
def okB (x : Str) : Bool := !(x == ("__debug__" : Str)) && !(x == ("__classdict__" : Str)) && !(x == ("__name__" : Str))
def bopB : Bop → Operator → Bool
  | .add, .Add => true
  | .sub, .Sub => true
  | .mul, .Mult => true
  | .fdiv, .FloorDiv => true
  | .mod, .Mod => true
  | .pow, .Pow => true
  | _, _ => false
def copB : Cop → CmpOp → Bool
  | .eq, .Eq => true
  | .ne, .NotEq => true
  | .lt, .Lt => true
  | .le, .LtE => true
  | .gt, .Gt => true
  | .ge, .GtE => true
  | .is_, .Is => true
  | .isn, .IsNot => true
  | .inn, .In => true
  | .nin, .NotIn => true
  | _, _ => false
/-- not a starred thing, a slice, a set -/
def plainB : Expr → Bool
  | .Starred _ _ => false
  | .Slice _ _ _ _ => false
  | .Set _ _ _ => false
  | .SetComp _ _ _ _ => false
  | .DictComp _ _ _ _ _ => false
  | .NamedExpr _ _ _ => false
  | .GeneratorExp _ _ _ _ => false
  | _ => true
def tyN : Ty → Str
  | .int => "int"
  | .bool => "bool"
  | .str => "str"
  | .list => "list"
  | .tuple => "tuple"
def tyS : Ty → String
  | .int => "int"
  | .bool => "bool"
  | .str => "str"
  | .list => "list"
  | .tuple => "tuple"
def tysB (sc : Scope) : List Ty → List Expr → Bool
  | [], [] => true
  | t :: ts, .Name y _ :: xs => decide (y = tyN t) && glB sc y && tysB sc ts xs
  | _, _ => false
def chkT (N : List Str) (sc : Scope) (fn : Str → Bool) : Tg → Expr ⊕ List Expr → Bool
  | .nm i, .inl (.Name x _) => decide (N[i]? = some x) && locB sc fn x
  | .nil, .inl (.Tuple [] _ _) => true
  | .cons a b, .inl (.Tuple (x :: xs) _ _) => plainB x && chkT N sc fn a (.inl x) && chkT N sc fn b (.inr xs)
  | .nil, .inr [] => true
  | .cons a b, .inr (x :: xs) => plainB x && chkT N sc fn a (.inl x) && chkT N sc fn b (.inr xs)
  | _, _ => false
def ownOf (N : List Str) (t : Tg) : List (Str × Nat) := t.slots.map fun i => (N.getD i "", i)
def boolB (a b : Bool) : Bool := match a, b with
  | true, true => true
  | false, false => true
  | _, _ => false
def nonB (o : Option Expr) (e : E) : Bool := match o with
  | none => e.isNon
  | some _ => !e.isNon
def cellFn (scope : Scope) : Str → Bool := fun x => scope.names.lookup x == some .cell
def chk (T : Tab) : E → Scope → (Str → Bool) → X3 → Bool
  | .var i, sc, _, .e (.Name x _) => decide (T.N[i]? = some x) && visB sc x && okB x
  | .int i, _, _, .e (.Constant (.int j) _ _) => decide (i = j)
  | .int i, sc, _, .e (.Name x _) => glB sc x && okB x && decide (T.consts.lookup x = some i)
  | .str i, _, _, .e (.Constant (.str j) _ _) => decide (i = j)
  | .str i, sc, _, .e (.Name x _) => glB sc x && okB x && decide (T.conss.lookup x = some i)
  | .bl i, _, _, .e (.Constant (.bool j) _ _) => boolB i j
  | .non, _, _, .e (.Constant .none _ _) => true
  | .bin o a b, sc, fn, .e (.BinOp l op r _) => bopB o op && chk T a sc fn (.e l) && chk T b sc fn (.e r)
  | .neg a, sc, fn, .e (.UnaryOp .USub x _) => chk T a sc fn (.e x)
  | .cmp o a b, sc, fn, .e (.Compare l [op] [r] _) => copB o op && plainB r && chk T a sc fn (.e l) && chk T b sc fn (.e r)
  | .chain o p a b c, sc, fn, .e (.Compare l [op, op'] [r, r'] _) => copB o op && copB p op' && plainB r && plainB r' && chk T a sc fn (.e l) && chk T b sc fn (.e r) && chk T c sc fn (.e r')
  | .and_ a b, sc, fn, .e (.BoolOp .And (x :: y :: rest) pos) => chk T a sc fn (.e x) && (match rest with
    | [] => chk T b sc fn (.e y)
    | _ => chk T b sc fn (.e (.BoolOp .And (y :: rest) pos)))
  | .or_ a b, sc, fn, .e (.BoolOp .Or (x :: y :: rest) pos) => chk T a sc fn (.e x) && (match rest with
    | [] => chk T b sc fn (.e y)
    | _ => chk T b sc fn (.e (.BoolOp .Or (y :: rest) pos)))
  | .not_ a, sc, fn, .e (.UnaryOp .Not x _) => chk T a sc fn (.e x)
  | .ite c a b, sc, fn, .e (.IfExp t x y _) => chk T c sc fn (.e t) && chk T a sc fn (.e x) && chk T b sc fn (.e y)
  | .tup es, sc, fn, .e (.Tuple xs _ _) => chk T es sc fn (.es xs)
  | .lst es, sc, fn, .e (.List xs _) => chk T es sc fn (.es xs)
  | .nil, _, _, .es [] => true
  | .cons a b, sc, fn, .es (x :: xs) => plainB x && chk T a sc fn (.e x) && chk T b sc fn (.es xs)
  | .idx a i, sc, fn, .e (.Subscript x y _) => plainB y && chk T a sc fn (.e x) && chk T i sc fn (.e y)
  | .slc a lo hi, sc, fn, .e (.Subscript x (.Slice l h none _) _) => chk T a sc fn (.e x) && nonB l lo && nonB h hi && (match l with
    | none => true
    | some y => chk T lo sc fn (.e y)) && (match h with
    | none => true
    | some y => chk T hi sc fn (.e y))
  | .rev a, sc, fn, .e (.Subscript x (.Slice none none (some (.UnaryOp .USub (.Constant (.int 1) _ _) _)) _) _) => chk T a sc fn (.e x)
  | .call f es, sc, fn, .e (.Call (.Name y _) (x :: xs) [] _) => glB sc y && okB y && decide (T.funs.lookup y = some (f, xs.length + 1)) && chk T es sc fn (.es (x :: xs))
  | .blt b es, sc, fn, .e (.Call (.Name y _) (x :: xs) [] _) => decide (y = bltN b) && glB sc y && chk T es sc fn (.es (x :: xs))
  | .isi a ts, sc, fn, .e (.Call (.Name y _) [x, t] [] _) => decide (y = "isinstance") && glB sc y && plainB x && chk T a sc fn (.e x) && (match t with
    | .Name _ _ => tysB sc ts [t] 
    | .Tuple xs _ _ => decide (ts.length ≤ 100) && tysB sc ts xs
    | _ => false)
  | .comp t src elt, sc, fn, .e (.ListComp x [⟨tg, it, [], 0⟩] scope _) => blkC T.N sc scope (ownOf T.N t) && chkT T.N (relS scope sc) (cellFn scope) t (.inl tg) && plainB it && chk T src sc fn (.it tg it) && chk T elt (relS scope sc) (cellFn scope) (.e x)
  | .compIf t src c elt, sc, fn, .e (.ListComp x [⟨tg, it, [y], 0⟩] scope _) => blkC T.N sc scope (ownOf T.N t) && chkT T.N (relS scope sc) (cellFn scope) t (.inl tg) && plainB it && chk T src sc fn (.it tg it) && chk T c (relS scope sc) (cellFn scope) (.e y) && chk T elt (relS scope sc) (cellFn scope) (.e x)
  | .iseq a, sc, fn, .it _ x => plainB x && chk T a sc fn (.e x)
  | .irange es, sc, fn, .it _ (.Call (.Name y _) xs [] _) => decide (y = "range") && glB sc y && decide (1 ≤ xs.length ∧ xs.length ≤ 3) && chk T es sc fn (.es xs)
  | .lrange es, sc, fn, .e (.Call (.Name u _) [.Call (.Name y _) xs [] _] [] _) => decide (u = "list") && glB sc u && decide (y = "range") && glB sc y && decide (1 ≤ xs.length ∧ xs.length ≤ 2) && chk T es sc fn (.es xs)
  | .trange es, sc, fn, .e (.Call (.Name u _) [.Call (.Name y _) xs [] _] [] _) => decide (u = "tuple") && glB sc u && decide (y = "range") && glB sc y && decide (1 ≤ xs.length ∧ xs.length ≤ 2) && chk T es sc fn (.es xs)
  | .oidx i e, sc, fn, .e (.Subscript (.Name x _) y _) => decide (T.N[i]? = some x) && visB sc x && okB x && plainB y && chk T e sc fn (.e y)
  | .call f es, sc, fn, .e (.Call (.Name y _) [] [] _) => glB sc y && okB y && decide (T.funs.lookup y = some (f, 0)) && chk T es sc fn (.es [])
  | .izip a b, sc, fn, .it (.Tuple _ _ _) (.Call (.Name y _) [x1, x2] [] _) => decide (y = "zip") && glB sc y && plainB x1 && plainB x2 && chk T a sc fn (.e x1) && chk T b sc fn (.e x2)
  | .ienum a k, sc, fn, .it (.Tuple _ _ _) (.Call (.Name y _) [x] [] _) => decide (k = 0) && decide (y = "enumerate") && glB sc y && plainB x && chk T a sc fn (.e x)
  | .ienum a k, sc, fn, .it (.Tuple _ _ _) (.Call (.Name y _) [x, .Constant (.int j) _ _] [] _) => decide (k = j) && decide (0 ≤ k ∧ k < 1000) && decide (y = "enumerate") && glB sc y && plainB x && chk T a sc fn (.e x)
  | _, _, _, _ => false

/-- an own object is kept -/
theorem Le.own {z z1 : Fz} {H H1 : Hp} {p : Addr} {o : HO} (le : z.Le z1 H H1) (h : H p = some o) (n : z.F p = none) (t : ¬ z.T p) : H1 p = some o ∧ z1.F p = none ∧ ¬ z1.T p := by
  refine ⟨le.kp p o h t, ?_, fun q => ?_⟩
  · cases e : z1.F p with
    | none => rfl
    | some u =>
      rcases le.nw p u e with q | q
      · rw [n] at q; cases q
      · rw [h] at q; cases q
  · rcases le.tw p q with q | q
    · exact t q
    · rw [h] at q; cases q
/-! ### the context in which a text is read -/
section
variable {K : PySem.W.Frag} (M : WM K) (T : Tab) (Φ : Nat → Fn M.Wd) (XE : XD → XK → Hp → Prop)
structure Hy (X : Cx) (sc : Scope) (fn : Str → Bool) (Ex : XK) : Prop where
  hK : X.K = K
  hN : X.N = T.N
  hsc : X.env.scope = sc
  hfn : X.fn = fn
  nd : T.N.Nodup
  calm : X.calm = true
  hu : X.A.units + 64 < cLine
  blt : ∀ n : Str, n ∈ (["len", "abs", "int", "bool", "str", "tuple", "list", "sum", "max", "min", "all", "divmod", "range", "zip", "enumerate", "isinstance"] : List Str) → X.mg n = none
  cst : ∀ (x : Str) (i : Int), T.consts.lookup x = some i → ∃ t, X.mg x = some (.int i t)
  css : ∀ (x i : Str), T.conss.lookup x = some i → ∃ t, X.mg x = some (.str i t)
  fns : ∀ (x : Str) (id n : Nat), T.funs.lookup x = some (id, n) → ∃ (f : Addr) (fd : FuncData) (ps : List Str) (k : Nat), ps.length = n ∧ X.mg x = some (.ref f) ∧ PySem.W.keepIn X.K (.ref f) = true ∧ Binds X.K fd ps [] ∧
    FnOk X.prog X.w X.K X.mg X.base (L2.CX X.prog X.w) k f fd ps (lift M XE (Φ id)) ∧ Room k X.A
  pass : Passes (L2.CX X.prog X.w) X Ex
structure EnvV (K : PySem.W.Frag) (z : Fz) (H : Hp) (σ : L2.St) (ρ : Ev) : Prop where
  get : ∀ i d, getS ρ i = .val d → ∃ v, σ[i]? = some (some v) ∧ Is K z.F z.A v d
  own : ∀ i xs, getS ρ i = .own xs → ∃ p vs, σ[i]? = some (some (V.ref p)) ∧ H p = some (.lst vs) ∧ z.F p = none ∧ ¬ z.T p ∧ Iss K z.F z.A vs xs
/-- what is wanted of an exception -/
def Xok (z : Fz) (H : Hp) (XP : XD → M.Wd → Prop) (Ex : XK) : Prop := ∀ x z' H' w', At M z' H' w' → z.Le z' H H' → XP x w' → XE x Ex H'
def tE (e : E) (Ex : XK) : TE := fun σ H Qv => ∃ (z : Fz) (w : M.Wd) (ρ : Ev) (XP : XD → M.Wd → Prop) (Q : Rs → M.Wd → Prop), At M z H w ∧ EnvV K z H σ ρ ∧ Xok M XE z H XP Ex ∧ evalE Φ e XP ρ w Q ∧
  ∀ v z' H' w' r, At M z' H' w' → z.Le z' H H' → RIs K z' H H' v r → Q r w' → Qv v H'
def tA (e : E) (Ex : XK) : TA := fun σ H Qv => ∃ (z : Fz) (w : M.Wd) (ρ : Ev) (XP : XD → M.Wd → Prop) (Q : Rs → M.Wd → Prop), At M z H w ∧ EnvV K z H σ ρ ∧ Xok M XE z H XP Ex ∧ evalE Φ e XP ρ w Q ∧
  ∀ vs z' H' w' ds, At M z' H' w' → z.Le z' H H' → Iss K z'.F z'.A vs ds → Q (.dat (.seq true ds)) w' → Qv vs H'
/-- a walk that yields the items -/
structure WalkD (J : It) (z0 : Fz) (xs : List D) : Prop where
  w : Walk J xs.length (fun H => Same z0.F H) (fun i H v H' => ∀ (z : Fz) (w : M.Wd), At M z H w → Same z0.F z.F → (∀ (k : Nat) a, z0.A[k]? = some a → z.A[k]? = some a) →
    ∃ z' d, At M z' H' w ∧ z.Le z' H H' ∧ xs[i]? = some d ∧ Is K z'.F z'.A v d)
def tI (e : E) (Ex : XK) : TI := fun σ H R => ∃ (z : Fz) (w : M.Wd) (ρ : Ev) (XP : XD → M.Wd → Prop) (Q : Rs → M.Wd → Prop), At M z H w ∧ EnvV K z H σ ρ ∧ Xok M XE z H XP Ex ∧ evalE Φ e XP ρ w Q ∧
  ∀ J z' H' w' xs, At M z' H' w' → z.Le z' H H' → WalkD M J z' xs → Q (.dat (.seq true xs)) w' → R J H'
end
section
variable {K : PySem.W.Frag} {M : WM K} {T : Tab} {Φ : Nat → Fn M.Wd} {XE : XD → XK → Hp → Prop} {X : Cx} {sc : Scope} {fn : Str → Bool} {Ex : XK} {z z1 z2 : Fz} {H H1 H2 : Hp} {w : M.Wd}
theorem PE.imp {e : Expr} {t t' : TE} (h : PE X e t) (i : ∀ σ H Q, t' σ H Q → t σ H Q) : PE X e t' := ⟨fun pins s σ H Q I q => h.run pins s σ H Q I (i σ H Q q)⟩
theorem PT.imp {e : Expr} {t t' : TT} (h : PT X e t) (i : ∀ σ H Q, t' σ H Q → t σ H Q) : PT X e t' := ⟨fun pins s σ H Q I q => h.run pins s σ H Q I (i σ H Q q)⟩
theorem PA.imp {es : List Expr} {t t' : TA} (h : PA X es t) (i : ∀ σ H Q, t' σ H Q → t σ H Q) : PA X es t' := ⟨fun pos pins s σ H Q I q => h.run pos pins s σ H Q I (i σ H Q q)⟩
theorem PI.imp {tg e : Expr} {t t' : TI} (h : PI X tg e t) (i : ∀ σ H Q, t' σ H Q → t σ H Q) : PI X tg e t' := ⟨fun pins s σ H Q I q => h.run pins s σ H Q I (i σ H Q q)⟩
theorem PS.imp {st : Stmt} {t t' : TS} (h : PS X st t) (i : ∀ D σ H, t' D σ H → t D σ H) : PS X st t' := ⟨fun pins s σ H D I q => h.run pins s σ H D I (i D σ H q)⟩
theorem EnvV.mono {σ : L2.St} {ρ : Ev} (v : EnvV K z H σ ρ) (le : z.Le z1 H H1) : EnvV K z1 H1 σ ρ :=
  ⟨fun i d e => let ⟨x, h1, h2⟩ := v.get i d e; ⟨x, h1, h2.mono le.fF le.aw⟩, fun i xs e => by
    obtain ⟨p, vs, h1, h2, h3, h4, h5⟩ := v.own i xs e
    obtain ⟨o1, o2, o3⟩ := Le.own le h2 h3 h4
    exact ⟨p, vs, h1, o1, o2, o3, h5.mono le.fF le.aw⟩⟩
theorem Xok.mono {XP : XD → M.Wd → Prop} (x : Xok M XE z H XP Ex) (le : z.Le z1 H H1) : Xok M XE z1 H1 XP Ex :=
  fun y z' H' w' a l p => x y z' H' w' a (le.trans l) p
theorem RIs.fz {v : V} {r : Rs} (a : At M z1 H1 w) (le : z.Le z1 H H1) (h : RIs K z1 H H1 v r) : ∃ z2, At M z2 H1 w ∧ z.Le z2 H H1 ∧ Is K z2.F z2.A v r.d := by
  cases r with
  | dat d => exact ⟨z1, a, le, h⟩
  | fresh ds =>
    obtain ⟨p, vs, rfl, hp, hF, hT, hH, hs⟩ := h
    exact ⟨z1.frz p (.lst vs), a.frz hH hT hF, le.frz hp hF, .lst upd_same (hs.mono (fun b u q => by show upd z1.F p (.lst vs) b = _; rw [upd_ne (ne_of_none q hF)]; exact q) fun _ _ e => e)⟩
theorem RIs.back {v : V} {r : Rs} (st : ∀ a, H1 a = none → H a = none) (h : RIs K z2 H1 H2 v r) : RIs K z2 H H2 v r := by
  cases r with
  | dat d => exact h
  | fresh ds =>
    obtain ⟨p, vs, e, hp, hF, hT, hH, hs⟩ := h
    exact ⟨p, vs, e, st p hp, hF, hT, hH, hs⟩
/-- the step: an expression's end, used -/
theorem tE_use {e : E} {σ : L2.St} {ρ : Ev} {XP : XD → M.Wd → Prop} {Q : Rs → M.Wd → Prop} {Qv : VK} (a : At M z H w) (v : EnvV K z H σ ρ) (x : Xok M XE z H XP Ex) (h : evalE Φ e XP ρ w Q)
    (k : ∀ u z' H' w' r, At M z' H' w' → z.Le z' H H' → Is K z'.F z'.A u r.d → Q r w' → Qv u H') : tE M Φ XE e Ex σ H Qv :=
  ⟨z, w, ρ, XP, Q, a, v, x, h, fun u z' H' w' r a' le i q => let ⟨z2, a2, le2, i2⟩ := i.fz a' le; k u z2 H' w' r a2 le2 i2 q⟩
theorem tE_useR {e : E} {σ : L2.St} {ρ : Ev} {XP : XD → M.Wd → Prop} {Q : Rs → M.Wd → Prop} {Qv : VK} (a : At M z H w) (v : EnvV K z H σ ρ) (x : Xok M XE z H XP Ex) (h : evalE Φ e XP ρ w Q)
    (k : ∀ u z' H' w' r, At M z' H' w' → z.Le z' H H' → RIs K z' H H' u r → Q r w' → Qv u H') : tE M Φ XE e Ex σ H Qv :=
  ⟨z, w, ρ, XP, Q, a, v, x, h, k⟩
theorem tA_use {e : E} {σ : L2.St} {ρ : Ev} {XP : XD → M.Wd → Prop} {Q : Rs → M.Wd → Prop} {Qv : List V → Hp → Prop} (a : At M z H w) (v : EnvV K z H σ ρ) (x : Xok M XE z H XP Ex) (h : evalE Φ e XP ρ w Q)
    (k : ∀ us z' H' w' ds, At M z' H' w' → z.Le z' H H' → Iss K z'.F z'.A us ds → Q (.dat (.seq true ds)) w' → Qv us H') : tA M Φ XE e Ex σ H Qv :=
  ⟨z, w, ρ, XP, Q, a, v, x, h, k⟩
/-- the end of an operation, from the end of the whole -/
theorem Fin.of {Q : Rs → M.Wd → Prop} {Qv : VK} (le : z.Le z1 H H1) (k : ∀ v z' H' w' r, At M z' H' w' → z.Le z' H H' → RIs K z' H H' v r → Q r w' → Qv v H') : Fin M z1 H1 w (fun r => Q r w) Qv :=
  fun v z' H' r a l i q => k v z' H' w r a (le.trans l) (i.back le.st) q
end
end Ab

namespace Ab
open PySem PySem.Spec PyProof.Rows L2
section
variable {K : PySem.W.Frag} {M : WM K} {T : Tab} {Φ : Nat → Fn M.Wd} {XE : XD → XK → Hp → Prop} {X : Cx} {sc : Scope} {fn : Str → Bool} {Ex : XK} {z z1 z2 : Fz} {H H1 H2 : Hp} {w : M.Wd} {pos : Pos}
  {a b c es : E} {l r x y : Expr} {xs : List Expr}
theorem okB_d {x : Str} (h : okB x = true) : (x == ("__debug__" : Str)) = false ∧ (x == ("__classdict__" : Str)) = false ∧ x ≠ "__name__" := by
  unfold okB at h
  simp only [Bool.and_eq_true, Bool.not_eq_true'] at h
  exact ⟨h.1.1, h.1.2, fun e => by rw [e] at h; simp at h⟩
theorem visB_d {x : Str} (h : visB sc x = true) : Vis sc x := by
  unfold visB at h
  unfold Vis
  split at h <;> first
    | (rename_i e; rw [e]; simp; done)
    | cases h
theorem glB_d {x : Str} (hy : Hy M T Φ XE X sc fn Ex) (h : glB sc x = true) : Gl X x := by
  unfold glB at h
  show X.env.scope.names.lookup x = _
  rw [hy.hsc]
  split at h
  · rename_i e; exact e
  · cases h
theorem sE_var {i : Nat} {x : Str} (hy : Hy M T Φ XE X sc fn Ex) (h1 : T.N[i]? = some x) (h2 : visB sc x = true) (h3 : okB x = true) : PE X (.Name x pos) (tE M Φ XE (.var i) Ex) := by
  obtain ⟨d1, d2, _⟩ := okB_d h3
  refine PE.imp (pe_var (i := i) (by rw [hy.hN]; exact h1) (by rw [hy.hsc]; exact visB_d h2) d1 d2) fun σ H Qv ⟨z, w, ρ, XP, Q, a, v, xo, h, k⟩ => ?_
  simp only [evalE] at h
  split at h
  · rename_i d e
    obtain ⟨u, hu, iu⟩ := v.get i d e
    exact ⟨u, hu, k u z H w (.dat d) a (Fz.Le.refl _ _) iu h⟩
  · exact h.elim
theorem sE_const {e : E} {v : V} {d : D} (he : ∀ {XP : XD → M.Wd → Prop} {ρ : Ev} {w : M.Wd} {Q : Rs → M.Wd → Prop}, evalE Φ e XP ρ w Q → Q (.dat d) w) (hv : ∀ {F A}, Is K F A v d) (hp : PE X x (tC v)) : PE X x (tE M Φ XE e Ex) :=
  PE.imp hp fun σ H Qv ⟨z, w, ρ, XP, Q, a, vv, xo, h, k⟩ => k v z H w (.dat d) a (Fz.Le.refl _ _) hv (he h)
theorem sE_bin {o : Bop} {op : Operator} (hy : Hy M T Φ XE X sc fn Ex) (ho : bopB o op = true) (ha : PE X l (tE M Φ XE a Ex)) (hb : PE X r (tE M Φ XE b Ex)) : PE X (.BinOp l op r pos) (tE M Φ XE (.bin o a b) Ex) := by
  obtain ⟨rr, hr, hd⟩ := opD_bin (M := M) hy.hK o
  have eo : op = bopOf o := by cases o <;> cases op <;> first | rfl | cases ho
  subst eo
  refine PE.imp (pe_op hr ha hb) fun σ H Qv ⟨z, w, ρ, XP, Q, at_, v, xo, h, k⟩ => ?_
  simp only [evalE] at h
  refine tE_use at_ v xo h fun u z1 H1 w1 r1 a1 l1 i1 q1 => ?_
  refine tE_use a1 (v.mono l1) (xo.mono l1) q1 fun u2 z2 H2 w2 r2 a2 l2 i2 q2 => ?_
  exact hd a2 (i1.mono l2.fF l2.aw) i2 q2 (Fin.of (l1.trans l2) k)
theorem sE_neg (ha : PE X x (tE M Φ XE a Ex)) : PE X (.UnaryOp .USub x pos) (tE M Φ XE (.neg a) Ex) := by
  refine PE.imp (pe_un un_neg ha) fun σ H Qv ⟨z, w, ρ, XP, Q, at_, v, xo, h, k⟩ => ?_
  simp only [evalE] at h
  refine tE_use at_ v xo h fun u z1 H1 w1 r1 a1 l1 i1 q1 => ?_
  generalize r1.d = d at i1 q1
  cases i1 with
  | int i => exact ⟨i, rfl, k _ z1 H1 w1 (.dat (.int (-i))) a1 l1 (.int _) q1⟩
  | _ => exact q1.elim
theorem plain_nm {e : Expr} (h : plainB e = true) (op : CmpOp) : behindInMarks op e = false := by
  cases e <;> first | rfl | cases h
theorem plain_lm {e e' : Expr} (h : plainB e' = true) (op op' : CmpOp) : lastMarks [op, op'] [e, e'] = false := by
  show lastMarks [op'] [e'] = false
  exact plain_nm h op'
theorem sE_cmp {o : Cop} {op : CmpOp} (hy : Hy M T Φ XE X sc fn Ex) (ho : copB o op = true) (hp : plainB r = true) (ha : PE X l (tE M Φ XE a Ex)) (hb : PE X r (tE M Φ XE b Ex)) : PE X (.Compare l [op] [r] pos) (tE M Φ XE (.cmp o a b) Ex) := by
  obtain ⟨rr, hr, hd⟩ := opC (M := M) hy.hK hy.hu o
  have eo : op = copOf o := by cases o <;> cases op <;> first | rfl | cases ho
  subst eo
  refine PE.imp (pe_cmpR hr ha hb (plain_nm hp _)) fun σ H Qv ⟨z, w, ρ, XP, Q, at_, v, xo, h, k⟩ => ?_
  simp only [evalE] at h
  refine tE_use at_ v xo h fun u z1 H1 w1 r1 a1 l1 i1 q1 => ?_
  refine tE_use a1 (v.mono l1) (xo.mono l1) q1 fun u2 z2 H2 w2 r2 a2 l2 i2 q2 => ?_
  exact hd (Q := fun r => Q r w2) a2 (i1.mono l2.fF l2.aw) i2 q2 (Fin.of (l1.trans l2) k)
theorem cmp_imp {o : Cop} {x y : D} {Q Q' : D → Prop} (i : ∀ d, Q d → Q' d) (h : cmpD o x y Q) : cmpD o x y Q' := by
  unfold cmpD at h ⊢
  split at h <;> first
    | exact i _ h
    | exact ⟨h.1, i _ h.2⟩
    | exact h.elim
theorem cmp_bl {o : Cop} {x y : D} {Q : D → Prop} (h : cmpD o x y Q) : cmpD o x y fun d => ∃ b, d = .bl b ∧ Q (.bl b) := by
  unfold cmpD at h ⊢
  split at h <;> first
    | exact ⟨_, rfl, h⟩
    | exact ⟨h.1, _, rfl, h.2⟩
    | exact h.elim
theorem sE_chain {o p : Cop} {op op' : CmpOp} {r' : Expr} (hy : Hy M T Φ XE X sc fn Ex) (ho : copB o op = true) (ho' : copB p op' = true) (hp' : plainB r' = true) (ha : PE X l (tE M Φ XE a Ex)) (hb : PE X r (tE M Φ XE b Ex)) (hc : PE X r' (tE M Φ XE c Ex)) :
    PE X (.Compare l [op, op'] [r, r'] pos) (tE M Φ XE (.chain o p a b c) Ex) := by
  obtain ⟨rr, hr, hd⟩ := opC (M := M) hy.hK hy.hu o
  obtain ⟨rr', hr', hd'⟩ := opC (M := M) hy.hK hy.hu p
  have eo : op = copOf o := by cases o <;> cases op <;> first | rfl | cases ho
  have eo' : op' = copOf p := by cases p <;> cases op' <;> first | rfl | cases ho'
  subst eo eo'
  refine PE.imp (pe_chain hr hr' ha hb hc (plain_lm hp' _ _)) fun σ H Qv ⟨z, w, ρ, XP, Q, at_, v, xo, h, k⟩ => ?_
  simp only [evalE] at h
  refine tE_use at_ v xo h fun u z1 H1 w1 r1 a1 l1 i1 q1 => ?_
  refine tE_use a1 (v.mono l1) (xo.mono l1) q1 fun u2 z2 H2 w2 r2 a2 l2 i2 q2 => ?_
  refine hd (Q := fun rs => ∃ t, rs = .dat (.bl t) ∧ (if t = true then evalE Φ c XP ρ w2 fun u w => cmpD p r2.d u.d fun d => Q (.dat d) w else Q (.dat (.bl false)) w2)) a2 (i1.mono l2.fF l2.aw) i2 (cmp_imp (fun d hd => ?_) (cmp_bl q2)) fun v3 z3 H3 rs a3 l3 ir q3 => ?_
  · obtain ⟨t, e, q⟩ := hd
    subst e
    cases t with
    | true => exact ⟨true, rfl, q⟩
    | false => exact ⟨false, rfl, q⟩
  · obtain ⟨t, e, q⟩ := q3
    subst e
    have ir : Is K z3.F z3.A v3 (.bl t) := ir
    cases ir
    refine ⟨t, rfl, ?_⟩
    cases t with
    | true =>
      rw [if_pos rfl] at q ⊢
      refine tE_use a3 (v.mono ((l1.trans l2).trans l3)) (xo.mono ((l1.trans l2).trans l3)) q fun u4 z4 H4 w4 r4 a4 l4 i4 q4 => ?_
      exact hd' (Q := fun r => Q r w4) a4 (i2.mono (l3.trans l4).fF (l3.trans l4).aw) i4 q4 (Fin.of (((l1.trans l2).trans l3).trans l4) k)
    | false =>
      rw [if_neg Bool.false_ne_true] at q ⊢
      exact k _ z3 H3 w2 (.dat (.bl false)) a3 ((l1.trans l2).trans l3) (.bl false) q
theorem sE_and {rest : List Expr} (ha : PE X x (tE M Φ XE a Ex)) (hb : PE X (.BoolOp .And (y :: rest) pos) (tE M Φ XE b Ex)) : PE X (.BoolOp .And (x :: y :: rest) pos) (tE M Φ XE (.and_ a b) Ex) := by
  refine PE.imp (pe_and ha hb) fun σ H Qv ⟨z, w, ρ, XP, Q, at_, v, xo, h, k⟩ => ?_
  simp only [evalE] at h
  refine tE_use at_ v xo h fun u z1 H1 w1 r1 a1 l1 i1 q1 => ?_
  generalize r1.d = d at i1 q1
  cases i1 with
  | bl t =>
    refine ⟨t, rfl, ?_⟩
    cases t with
    | true =>
      rw [if_pos rfl]
      exact tE_useR a1 (v.mono l1) (xo.mono l1) q1 fun u2 z2 H2 w2 r2 a2 l2 i2 q2 => k u2 z2 H2 w2 r2 a2 (l1.trans l2) (i2.back l1.st) q2
    | false =>
      rw [if_neg Bool.false_ne_true]
      exact k _ z1 H1 w1 (.dat (.bl false)) a1 l1 (.bl false) q1
  | _ => exact q1.elim
theorem sE_or {rest : List Expr} (ha : PE X x (tE M Φ XE a Ex)) (hb : PE X (.BoolOp .Or (y :: rest) pos) (tE M Φ XE b Ex)) : PE X (.BoolOp .Or (x :: y :: rest) pos) (tE M Φ XE (.or_ a b) Ex) := by
  refine PE.imp (pe_or ha hb) fun σ H Qv ⟨z, w, ρ, XP, Q, at_, v, xo, h, k⟩ => ?_
  simp only [evalE] at h
  refine tE_use at_ v xo h fun u z1 H1 w1 r1 a1 l1 i1 q1 => ?_
  generalize r1.d = d at i1 q1
  cases i1 with
  | bl t =>
    refine ⟨t, rfl, ?_⟩
    cases t with
    | false =>
      rw [if_neg Bool.false_ne_true]
      exact tE_useR a1 (v.mono l1) (xo.mono l1) q1 fun u2 z2 H2 w2 r2 a2 l2 i2 q2 => k u2 z2 H2 w2 r2 a2 (l1.trans l2) (i2.back l1.st) q2
    | true =>
      rw [if_pos rfl]
      exact k _ z1 H1 w1 (.dat (.bl true)) a1 l1 (.bl true) q1
  | _ => exact q1.elim
theorem sE_not (ha : PE X x (tE M Φ XE a Ex)) : PE X (.UnaryOp .Not x pos) (tE M Φ XE (.not_ a) Ex) := by
  refine PE.imp (pe_not ha) fun σ H Qv ⟨z, w, ρ, XP, Q, at_, v, xo, h, k⟩ => ?_
  simp only [evalE] at h
  refine tE_use at_ v xo h fun u z1 H1 w1 r1 a1 l1 i1 q1 => ?_
  generalize r1.d = d at i1 q1
  cases i1 with
  | bl t => exact ⟨t, rfl, k _ z1 H1 w1 (.dat (.bl (!t))) a1 l1 (.bl _) q1⟩
  | _ => exact q1.elim
/-! tests -/
def tT (M : WM K) (Φ : Nat → Fn M.Wd) (XE : XD → XK → Hp → Prop) (e : E) (Ex : XK) : TT := fun σ H Qv => ∃ (z : Fz) (w : M.Wd) (ρ : Ev) (XP : XD → M.Wd → Prop) (Q : Rs → M.Wd → Prop), At M z H w ∧ EnvV K z H σ ρ ∧ Xok M XE z H XP Ex ∧ evalE Φ e XP ρ w Q ∧
  (∀ r w', Q r w' → ∃ b, r.d = .bl b) ∧ ∀ b z' H' w' r, At M z' H' w' → z.Le z' H H' → r.d = .bl b → Q r w' → Qv b H'
theorem tT_use {e : E} {σ : L2.St} {ρ : Ev} {XP : XD → M.Wd → Prop} {Q : Rs → M.Wd → Prop} {Qv : Bool → Hp → Prop} (a : At M z H w) (v : EnvV K z H σ ρ) (x : Xok M XE z H XP Ex) (h : evalE Φ e XP ρ w Q) (hb : ∀ r w', Q r w' → ∃ b, r.d = .bl b)
    (k : ∀ b z' H' w' r, At M z' H' w' → z.Le z' H H' → r.d = .bl b → Q r w' → Qv b H') : tT M Φ XE e Ex σ H Qv := ⟨z, w, ρ, XP, Q, a, v, x, h, hb, k⟩
theorem sT_val (ha : PE X x (tE M Φ XE a Ex)) (he : ∀ whole, isTrue x X.env whole = (do let v ← whole; standAt x.pos; holding [v] (truthy v))) : PT X x (tT M Φ XE a Ex) := by
  refine PT.imp (pt_val ha he) fun σ H Qv ⟨z, w, ρ, XP, Q, at_, v, xo, h, hb, k⟩ => ?_
  refine tE_use at_ v xo h fun u z1 H1 w1 r1 a1 l1 i1 q1 => ?_
  obtain ⟨t, e⟩ := hb r1 w1 q1
  rw [e] at i1
  cases i1
  exact ⟨t, rfl, k t z1 H1 w1 r1 a1 l1 e q1⟩
theorem sE_ite {t : Expr} (hc : PT X t (tT M Φ XE c Ex)) (ha : PE X x (tE M Φ XE a Ex)) (hb : PE X y (tE M Φ XE b Ex)) : PE X (.IfExp t x y pos) (tE M Φ XE (.ite c a b) Ex) := by
  refine PE.imp (pe_ifExp hc ha hb) fun σ H Qv ⟨z, w, ρ, XP, Q, at_, v, xo, h, k⟩ => ?_
  simp only [evalE] at h
  refine tT_use at_ v xo h (fun r w' q => ?_) fun t z1 H1 w1 r1 a1 l1 e1 q1 => ?_
  · generalize r.d = d at q
    cases d with
    | bl b => exact ⟨b, rfl⟩
    | _ => exact q.elim
  · rw [e1] at q1
    cases t with
    | true =>
      rw [if_pos rfl]
      exact tE_useR a1 (v.mono l1) (xo.mono l1) q1 fun u2 z2 H2 w2 r2 a2 l2 i2 q2 => k u2 z2 H2 w2 r2 a2 (l1.trans l2) (i2.back l1.st) q2
    | false =>
      rw [if_neg Bool.false_ne_true]
      exact tE_useR a1 (v.mono l1) (xo.mono l1) q1 fun u2 z2 H2 w2 r2 a2 l2 i2 q2 => k u2 z2 H2 w2 r2 a2 (l1.trans l2) (i2.back l1.st) q2
/-! lists of arguments -/
theorem plain_star {e : Expr} (h : plainB e = true) (es : List Expr) (env : Env) : starEach (e :: es) env = (false, eval e env) :: starEach es env := by
  cases e <;> first | rfl | cases h
theorem sA_nil : PA X [] (tA M Φ XE .nil Ex) := by
  refine PA.imp pa_nil fun σ H Qv ⟨z, w, ρ, XP, Q, at_, v, xo, h, k⟩ => ?_
  exact k [] z H w [] at_ (Fz.Le.refl _ _) .nil h
theorem sA_cons (hp : plainB x = true) (ha : PE X x (tE M Φ XE a Ex)) (hb : PA X xs (tA M Φ XE b Ex)) : PA X (x :: xs) (tA M Φ XE (.cons a b) Ex) := by
  refine PA.imp (pa_cons ha hb (plain_star hp _ _)) fun σ H Qv ⟨z, w, ρ, XP, Q, at_, v, xo, h, k⟩ => ?_
  simp only [evalE] at h
  refine tE_use at_ v xo h fun u z1 H1 w1 r1 a1 l1 i1 q1 => ?_
  refine tA_use a1 (v.mono l1) (xo.mono l1) q1 fun us z2 H2 w2 ds a2 l2 i2 q2 => ?_
  exact k (u :: us) z2 H2 w2 (r1.d :: ds) a2 (l1.trans l2) (.cons (i1.mono l2.fF l2.aw) i2) q2
theorem sE_tup {k : Nat} (h : PA X xs (tA M Φ XE es Ex)) : PE X (.Tuple xs k pos) (tE M Φ XE (.tup es) Ex) := by
  refine PE.imp (pe_tup h) fun σ H Qv ⟨z, w, ρ, XP, Q, at_, v, xo, h, k⟩ => ?_
  simp only [evalE] at h
  refine tA_use at_ v xo h fun us z1 H1 w1 ds a1 l1 i1 q1 => ?_
  obtain ⟨hz, q⟩ : ds.length ≤ sizeLine ∧ Q (.dat (.seq false ds)) w1 := q1
  exact ⟨by rw [i1.length]; exact hz, fun p hp => (Fin.of l1 k).tup a1 i1 q hp⟩
theorem sE_lst (h : PA X xs (tA M Φ XE es Ex)) : PE X (.List xs pos) (tE M Φ XE (.lst es) Ex) := by
  refine PE.imp (pe_lst h) fun σ H Qv ⟨z, w, ρ, XP, Q, at_, v, xo, h, k⟩ => ?_
  simp only [evalE] at h
  refine tA_use at_ v xo h fun us z1 H1 w1 ds a1 l1 i1 q1 => ?_
  obtain ⟨hz, q⟩ : ds.length ≤ sizeLine ∧ Q (.fresh ds) w1 := q1
  exact ⟨by rw [i1.length]; exact hz, fun p hp => (Fin.of l1 k).lst a1 i1 q hp⟩
theorem sE_idx (hy : Hy M T Φ XE X sc fn Ex) (hp : plainB y = true) (ha : PE X x (tE M Φ XE a Ex)) (hb : PE X y (tE M Φ XE b Ex)) : PE X (.Subscript x y pos) (tE M Φ XE (.idx a b) Ex) := by
  obtain ⟨rr, hr, hd⟩ := idx_ok (M := M) hy.hK
  refine PE.imp (pe_ix hr ha hb (fun o i => by cases y <;> first | rfl | cases hp)) fun σ H Qv ⟨z, w, ρ, XP, Q, at_, v, xo, h, k⟩ => ?_
  simp only [evalE] at h
  refine tE_use at_ v xo h fun u z1 H1 w1 r1 a1 l1 i1 q1 => ?_
  refine tE_use a1 (v.mono l1) (xo.mono l1) q1 fun u2 z2 H2 w2 r2 a2 l2 i2 q2 => ?_
  exact hd a2 (i1.mono l2.fF l2.aw) i2 q2 (Fin.of (l1.trans l2) k)
theorem sE_oidx {i : Nat} {u : Str} {p : Pos} (hy : Hy M T Φ XE X sc fn Ex) (h1 : T.N[i]? = some u) (h2 : visB sc u = true) (h3 : okB u = true) (hp : plainB y = true) (hb : PE X y (tE M Φ XE b Ex)) : PE X (.Subscript (.Name u p) y pos) (tE M Φ XE (.oidx i b) Ex) := by
  obtain ⟨d1, d2, _⟩ := okB_d h3
  have hr : IxR X (rIxL K) := hy.hK ▸ ix_list
  refine PE.imp (pe_ix hr (pe_var (i := i) (by rw [hy.hN]; exact h1) (by rw [hy.hsc]; exact visB_d h2) d1 d2) hb (fun o i => by cases y <;> first | rfl | cases hp)) fun σ H Qv ⟨z, w, ρ, XP, Q, at_, v, xo, h, k⟩ => ?_
  simp only [evalE] at h
  split at h
  · rename_i xs q
    obtain ⟨p, vs, g1, g2, g3, g4, g5⟩ := v.own i xs q
    refine ⟨.ref p, g1, ?_⟩
    refine tE_use at_ v xo h fun u z1 H1 w1 r1 a1 l1 i1 q1 => ?_
    obtain ⟨o1, o2, o3⟩ := Le.own l1 g2 g3 g4
    generalize r1.d = d at i1 q1
    cases i1 with
    | int n =>
      obtain ⟨d, e, q⟩ : ∃ d, L2.atI xs n = some d ∧ Q (.dat d) w1 := q1
      obtain ⟨v2, e2, hv⟩ := atI_iss g5 e
      exact ⟨p, vs, n, v2, rfl, rfl, SqL.of o1, e2, (Fin.of l1 k).dat a1 (hv.mono l1.fF l1.aw) q⟩
    | _ => exact q1.elim
  · exact h.elim
/-- a slice's part -/
def tO (M : WM K) (Φ : Nat → Fn M.Wd) (XE : XD → XK → Hp → Prop) (e : E) (Ex : XK) : TO := fun σ H Qv => ∃ (z : Fz) (w : M.Wd) (ρ : Ev) (XP : XD → M.Wd → Prop) (Q : Option Int → M.Wd → Prop), At M z H w ∧ EnvV K z H σ ρ ∧ Xok M XE z H XP Ex ∧ evalE Φ e XP ρ w (fun r w => partD e.isNon r.d fun o => Q o w) ∧
  ∀ o z' H' w', At M z' H' w' → z.Le z' H H' → Q o w' → Qv o H'
theorem PO.imp {e : Option Expr} {t t' : TO} (h : PO X e t) (i : ∀ σ H Q, t' σ H Q → t σ H Q) : PO X e t' := ⟨fun pins s σ H Q I q => h.run pins s σ H Q I (i σ H Q q)⟩
theorem sO_none (he : a.isNon = true) : PO X none (tO M Φ XE a Ex) := by
  refine PO.imp po_none fun σ H Qv ⟨z, w, ρ, XP, Q, at_, v, xo, h, k⟩ => ?_
  cases a with
  | non => exact k none z H w at_ (Fz.Le.refl _ _) h
  | _ => cases he
theorem sO_some (he : a.isNon = false) (ha : PE X x (tE M Φ XE a Ex)) : PO X (some x) (tO M Φ XE a Ex) := by
  refine PO.imp (po_some ha) fun σ H Qv ⟨z, w, ρ, XP, Q, at_, v, xo, h, k⟩ => ?_
  rw [he] at h
  refine tE_use at_ v xo h fun u z1 H1 w1 r1 a1 l1 i1 q1 => ?_
  generalize r1.d = d at i1 q1
  cases i1 with
  | int i => exact ⟨i, rfl, k (some i) z1 H1 w1 a1 l1 q1⟩
  | _ => exact q1.elim
theorem sE_slc {lo hi : E} {lx hx : Option Expr} {p2 : Pos} (hy : Hy M T Φ XE X sc fn Ex) (ha : PE X x (tE M Φ XE a Ex)) (hl : PO X lx (tO M Φ XE lo Ex)) (hh : PO X hx (tO M Φ XE hi Ex)) : PE X (.Subscript x (.Slice lx hx none p2) pos) (tE M Φ XE (.slc a lo hi) Ex) := by
  obtain ⟨rr, hr, hd⟩ := slc_ok (M := M) hy.hK
  refine PE.imp (pe_slice hr ha hl hh) fun σ H Qv ⟨z, w, ρ, XP, Q, at_, v, xo, h, k⟩ => ?_
  simp only [evalE] at h
  refine tE_use at_ v xo h fun u z1 H1 w1 r1 a1 l1 i1 q1 => ?_
  refine ⟨z1, w1, ρ, XP, _, a1, v.mono l1, xo.mono l1, q1, fun o z2 H2 w2 a2 l2 q2 => ?_⟩
  have l12 := l1.trans l2
  refine ⟨z2, w2, ρ, XP, _, a2, v.mono l12, xo.mono l12, q2, fun o' z3 H3 w3 a3 l3 q3 => ?_⟩
  exact hd a3 (i1.mono (l2.trans l3).fF (l2.trans l3).aw) q3 (Fin.of (l12.trans l3) k)
theorem sE_rev {kk : Nat} {p1 p2 p3 : Pos} (hy : Hy M T Φ XE X sc fn Ex) (ha : PE X x (tE M Φ XE a Ex)) : PE X (.Subscript x (.Slice none none (some (.UnaryOp .USub (.Constant (.int 1) kk p1) p2)) p3) pos) (tE M Φ XE (.rev a) Ex) := by
  refine PE.imp (pe_revL ha) fun σ H Qv ⟨z, w, ρ, XP, Q, at_, v, xo, h, k⟩ => ?_
  simp only [evalE] at h
  refine tE_use at_ v xo h fun u z1 H1 w1 r1 a1 l1 i1 q1 => ?_
  generalize r1.d = d at i1 q1
  cases i1 with
  | @lst p vs ds hp hs => exact ⟨p, vs, rfl, SqL.of (a1.ok.sub _ _ hp), fun q hq => (Fin.of l1 k).lst a1 hs.reverse q1 hq⟩
  | _ => exact q1.elim
/-! calls -/
theorem plain_any {x : Expr} {xs : List Expr} {env : Env} : (∀ e ∈ xs, plainB e = true) → (backTo pos (starEach xs env)).any (·.1) = false := by
  intro h
  induction xs with
  | nil => rfl
  | cons e es ih =>
    rw [plain_star (h e List.mem_cons_self)]
    show (false || (backTo pos (starEach es env)).any (·.1)) = false
    rw [ih fun e he => h e (List.mem_cons_of_mem _ he)]
    rfl
theorem sE_blt {bb : Blt} {y : Str} {p : Pos} (hy : Hy M T Φ XE X sc fn Ex) (h1 : y = bltN bb) (h2 : glB sc y = true) (hp : plainB x = true) (hps : ∀ e ∈ xs, plainB e = true) (h : PA X (x :: xs) (tA M Φ XE es Ex)) :
    PE X (.Call (.Name y p) (x :: xs) [] pos) (tE M Φ XE (.blt bb es) Ex) := by
  obtain ⟨rr, hr, hd⟩ := blt_ok (M := M) hy.hK hy.calm hy.hu bb
  have hm : X.mg y = none := hy.blt y (by rw [h1]; cases bb <;> decide +kernel)
  have hv : bootBuiltins y = some (bltV bb) := by rw [h1]; exact bltN_boot bb
  have hn : y ≠ "__name__" := by rw [h1]; cases bb <;> decide +kernel
  have hdb : (y == ("__debug__" : Str)) = false := by rw [h1]; cases bb <;> decide +kernel
  have key : ∀ σ H Qv, tE M Φ XE (.blt bb es) Ex σ H Qv → tCB rr (tA M Φ XE es Ex) σ H Qv := fun σ H Qv ⟨z, w, ρ, XP, Q, at_, v, xo, h, k⟩ => by
    simp only [evalE] at h
    refine tA_use at_ v xo h fun us z1 H1 w1 ds a1 l1 i1 q1 => ?_
    exact hd a1 i1 q1 (Fin.of l1 k)
  have g := glB_d hy h2
  cases bb <;> first
    | exact PE.imp (pe_callB hr g hm hv h hn hdb (plain_star hp _ _) (plain_any (x := x) hps)) key
    | exact PE.imp (pe_callTy hr g hm hv h hn hdb (plain_star hp _ _) (plain_any (x := x) hps)) key
theorem sE_call {f : Nat} {y : Str} {p : Pos} (mono : ∀ f ds w (Q Q' : Rs → M.Wd → Prop) (P P' : XD → M.Wd → Prop), (∀ r w, Q r w → Q' r w) → (∀ r w, P r w → P' r w) → Φ f ds w Q P → Φ f ds w Q' P') (hy : Hy M T Φ XE X sc fn Ex) (h2 : glB sc y = true) (h3 : okB y = true) (hf : T.funs.lookup y = some (f, xs.length + 1)) (hp : plainB x = true) (hps : ∀ e ∈ xs, plainB e = true) (h : PA X (x :: xs) (tA M Φ XE es Ex)) :
    PE X (.Call (.Name y p) (x :: xs) [] pos) (tE M Φ XE (.call f es) Ex) := by
  obtain ⟨fa, fd, ps, k, hl, hm, hk, hb, hF, hr⟩ := hy.fns y f _ hf
  obtain ⟨d1, _, _⟩ := okB_d h3
  refine PE.imp (pe_call hF hr (glB_d hy h2) hm hk hb .nil hy.pass h d1 (plain_star hp _ _) (plain_any (x := x) hps)) fun σ H Qv ⟨z, w, ρ, XP, Q, at_, v, xo, h, k⟩ => ?_
  simp only [evalE] at h
  refine tA_use at_ v xo h fun us z1 H1 w1 ds a1 l1 i1 q1 => ?_
  refine ⟨z1, w1, ds, a1, by rw [List.append_nil]; exact i1, mono _ _ _ _ _ _ _ (fun r w' q => ?_) (fun y w' q => ?_) q1⟩
  · exact fun v z' H' a' l' i' => k v z' H' w' r a' (l1.trans l') (i'.back l1.st) q
  · exact fun z' H' a' l' => xo y z' H' w' a' (l1.trans l') q
theorem sE_call0 {f : Nat} {y : Str} {p : Pos} (mono : ∀ f ds w (Q Q' : Rs → M.Wd → Prop) (P P' : XD → M.Wd → Prop), (∀ r w, Q r w → Q' r w) → (∀ r w, P r w → P' r w) → Φ f ds w Q P → Φ f ds w Q' P') (hy : Hy M T Φ XE X sc fn Ex) (h2 : glB sc y = true) (h3 : okB y = true) (hf : T.funs.lookup y = some (f, 0)) :
    PE X (.Call (.Name y p) [] [] pos) (tE M Φ XE (.call f .nil) Ex) := by
  obtain ⟨fa, fd, ps, k, hl, hm, hk, hb, hF, hr⟩ := hy.fns y f _ hf
  obtain ⟨d1, _, _⟩ := okB_d h3
  refine PE.imp (pe_call0 hF hr (glB_d hy h2) hm hk hb .nil hy.pass d1) fun σ H Qv ⟨z, w, ρ, XP, Q, at_, v, xo, h, k⟩ => ?_
  simp only [evalE] at h
  have h : Φ f [] w Q XP := h
  refine ⟨z, w, [], at_, .nil, mono _ _ _ _ _ _ _ (fun r w' q => ?_) (fun y w' q => ?_) h⟩
  · exact fun v z' H' a' l' i' => k v z' H' w' r a' l' i' q
  · exact fun z' H' a' l' => xo y z' H' w' a' l' q
end
end Ab

namespace Ab
open PySem PySem.Spec PyProof.Rows L2
section
variable {K : PySem.W.Frag} {M : WM K} {T : Tab} {Φ : Nat → Fn M.Wd} {XE : XD → XK → Hp → Prop} {X : Cx} {sc : Scope} {fn : Str → Bool} {Ex : XK} {z z1 z2 : Fz} {H H1 H2 : Hp} {w : M.Wd} {pos : Pos}
  {a b c es : E} {l r x y : Expr} {xs : List Expr}
/-! ### isinstance -/
def tyOfD : D → String
  | .non => "NoneType"
  | .bl _ => "bool"
  | .int _ => "int"
  | .str _ => "str"
  | .seq true _ => "list"
  | .seq false _ => "tuple"
  | _ => ""
theorem kt_NoneType_int : kitB "NoneType" "int" = some false := by decide +kernel
theorem kt_NoneType_bool : kitB "NoneType" "bool" = some false := by decide +kernel
theorem kt_NoneType_str : kitB "NoneType" "str" = some false := by decide +kernel
theorem kt_NoneType_list : kitB "NoneType" "list" = some false := by decide +kernel
theorem kt_NoneType_tuple : kitB "NoneType" "tuple" = some false := by decide +kernel
theorem kt_bool_int : kitB "bool" "int" = some true := by decide +kernel
theorem kt_bool_bool : kitB "bool" "bool" = some true := by decide +kernel
theorem kt_bool_str : kitB "bool" "str" = some false := by decide +kernel
theorem kt_bool_list : kitB "bool" "list" = some false := by decide +kernel
theorem kt_bool_tuple : kitB "bool" "tuple" = some false := by decide +kernel
theorem kt_int_int : kitB "int" "int" = some true := by decide +kernel
theorem kt_int_bool : kitB "int" "bool" = some false := by decide +kernel
theorem kt_int_str : kitB "int" "str" = some false := by decide +kernel
theorem kt_int_list : kitB "int" "list" = some false := by decide +kernel
theorem kt_int_tuple : kitB "int" "tuple" = some false := by decide +kernel
theorem kt_str_int : kitB "str" "int" = some false := by decide +kernel
theorem kt_str_bool : kitB "str" "bool" = some false := by decide +kernel
theorem kt_str_str : kitB "str" "str" = some true := by decide +kernel
theorem kt_str_list : kitB "str" "list" = some false := by decide +kernel
theorem kt_str_tuple : kitB "str" "tuple" = some false := by decide +kernel
theorem kt_tuple_int : kitB "tuple" "int" = some false := by decide +kernel
theorem kt_tuple_bool : kitB "tuple" "bool" = some false := by decide +kernel
theorem kt_tuple_str : kitB "tuple" "str" = some false := by decide +kernel
theorem kt_tuple_list : kitB "tuple" "list" = some false := by decide +kernel
theorem kt_tuple_tuple : kitB "tuple" "tuple" = some true := by decide +kernel
theorem kt_list_int : kitB "list" "int" = some false := by decide +kernel
theorem kt_list_bool : kitB "list" "bool" = some false := by decide +kernel
theorem kt_list_str : kitB "list" "str" = some false := by decide +kernel
theorem kt_list_list : kitB "list" "list" = some true := by decide +kernel
theorem kt_list_tuple : kitB "list" "tuple" = some false := by decide +kernel
theorem kit_tab (d : D) (h : d.isHnd = false) (t : Ty) : kitB (tyOfD d) (tyS t) = some (isi1 d t) := by
  cases d with
  | non => cases t <;> first | exact kt_NoneType_int | exact kt_NoneType_bool | exact kt_NoneType_str | exact kt_NoneType_list | exact kt_NoneType_tuple
  | bl b => cases t <;> first | exact kt_bool_int | exact kt_bool_bool | exact kt_bool_str | exact kt_bool_list | exact kt_bool_tuple
  | int b => cases t <;> first | exact kt_int_int | exact kt_int_bool | exact kt_int_str | exact kt_int_list | exact kt_int_tuple
  | str b => cases t <;> first | exact kt_str_int | exact kt_str_bool | exact kt_str_str | exact kt_str_list | exact kt_str_tuple
  | seq l b =>
    cases l
    · cases t <;> first | exact kt_tuple_int | exact kt_tuple_bool | exact kt_tuple_str | exact kt_tuple_list | exact kt_tuple_tuple
    · cases t <;> first | exact kt_list_int | exact kt_list_bool | exact kt_list_str | exact kt_list_list | exact kt_list_tuple
  | hnd b => cases h
  | scr b => cases h
theorem kitAny_tab (d : D) (h : d.isHnd = false) : ∀ ts : List Ty, PySem.W.kitAny K (.type (tyOfD d)) (ts.map fun t => Value.type (tyS t)) = some (ts.any (isi1 d))
  | [] => kitAny_nil
  | t :: ts => kitAny_cons (b := isi1 d t) (kit_ty (kit_tab d h t)) (fun e => by
      rw [List.any_cons, e, Bool.false_or]
      exact kitAny_tab d h ts) (fun e => by rw [List.any_cons, e, Bool.true_or])
theorem tyX_of (a : At M z H w) {v : V} {d : D} (h : Is K z.F z.A v d) (hd : d.isHnd = false) : TyX K H v (.type (tyOfD d)) := by
  cases h with
  | non => exact .base .non
  | bl b => exact .base (.bl b)
  | int b => exact .base (.int b)
  | str b => exact .base (.str b)
  | tup h hs =>
    rcases h with (h | ⟨o, h⟩) | ⟨o, its, n, hk, hc, _⟩
    · exact .base (.tup (a.ok.sub _ _ h))
    · exact .fTuple (a.ok.sub _ _ h)
    · exact .kTuple hk hc
  | lst h hs => exact .base (.lst (a.ok.sub _ _ h))
  | hnd => cases hd
  | scr => cases hd
theorem tyN_boot : ∀ t : Ty, bootBuiltins (tyN t) = some (.type (tyS t)) := by
  intro t; cases t <;> decide +kernel
theorem sE_tyname {t : Ty} {y : Str} (hy : Hy M T Φ XE X sc fn Ex) (h1 : y = tyN t) (h2 : glB sc y = true) : PE X (.Name y pos) (tC (.ty (tyS t))) := by
  refine pe_bltn (glB_d hy h2) (hy.blt y (by rw [h1]; cases t <;> decide +kernel)) (by rw [h1]; exact tyN_boot t) rfl (by rw [h1]; cases t <;> decide +kernel) (by rw [h1]; cases t <;> decide +kernel)
def tTys (ts : List Ty) : TA := fun σ H Q => Q (ts.map fun t => V.ty (tyS t)) H
theorem sA_tys (hy : Hy M T Φ XE X sc fn Ex) : ∀ {ts : List Ty} {xs : List Expr}, tysB sc ts xs = true → PA X xs (tTys ts)
  | [], [], _ => pa_nil
  | t :: ts, .Name y p :: xs, h => by
    have h : (decide (y = tyN t) && glB sc y && tysB sc ts xs) = true := h
    simp only [Bool.and_eq_true, decide_eq_true_eq] at h
    exact PA.imp (pa_cons (sE_tyname hy h.1.1 h.1.2) (sA_tys hy h.2)) fun σ H Q q => q
  | [], _ :: _, h => by cases h
  | t :: ts, [], h => by cases h
  | t :: ts, .BoolOp .. :: xs, h => by cases h
  | t :: ts, .NamedExpr .. :: xs, h => by cases h
  | t :: ts, .BinOp .. :: xs, h => by cases h
  | t :: ts, .UnaryOp .. :: xs, h => by cases h
  | t :: ts, .Lambda .. :: xs, h => by cases h
  | t :: ts, .IfExp .. :: xs, h => by cases h
  | t :: ts, .Dict .. :: xs, h => by cases h
  | t :: ts, .Set .. :: xs, h => by cases h
  | t :: ts, .ListComp .. :: xs, h => by cases h
  | t :: ts, .SetComp .. :: xs, h => by cases h
  | t :: ts, .DictComp .. :: xs, h => by cases h
  | t :: ts, .GeneratorExp .. :: xs, h => by cases h
  | t :: ts, .Await .. :: xs, h => by cases h
  | t :: ts, .Yield .. :: xs, h => by cases h
  | t :: ts, .YieldFrom .. :: xs, h => by cases h
  | t :: ts, .Compare .. :: xs, h => by cases h
  | t :: ts, .Call .. :: xs, h => by cases h
  | t :: ts, .FormattedValue .. :: xs, h => by cases h
  | t :: ts, .JoinedStr .. :: xs, h => by cases h
  | t :: ts, .Constant .. :: xs, h => by cases h
  | t :: ts, .Attribute .. :: xs, h => by cases h
  | t :: ts, .Subscript .. :: xs, h => by cases h
  | t :: ts, .Starred .. :: xs, h => by cases h
  | t :: ts, .List .. :: xs, h => by cases h
  | t :: ts, .Tuple .. :: xs, h => by cases h
  | t :: ts, .Slice .. :: xs, h => by cases h
theorem cls_all : ∀ ts : List Ty, Paired ClsV (ts.map fun t => V.ty (tyS t)) (ts.map fun t => Value.type (tyS t))
  | [] => .nil
  | t :: ts => .cons (.ty _) (cls_all ts)
theorem sE_isi {ts : List Ty} {y : Str} {t : Expr} {p : Pos} (hy : Hy M T Φ XE X sc fn Ex) (h1 : y = "isinstance") (h2 : glB sc y = true) (hp : plainB x = true) (ha : PE X x (tE M Φ XE a Ex))
    (ht : (match t with | .Name _ _ => tysB sc ts [t] | .Tuple xs _ _ => decide (ts.length ≤ 100) && tysB sc ts xs | _ => false) = true) : PE X (.Call (.Name y p) [x, t] [] pos) (tE M Φ XE (.isi a ts) Ex) := by
  have hm : X.mg y = none := hy.blt y (by rw [h1]; decide +kernel)
  have hv : bootBuiltins y = some (.builtin "isinstance") := by rw [h1]; decide +kernel
  have hn : y ≠ "__name__" := by rw [h1]; decide +kernel
  have hdb : (y == ("__debug__" : Str)) = false := by rw [h1]; decide +kernel
  have g := glB_d hy h2
  cases t with
  | Name u q =>
    have ht : tysB sc ts [.Name u q] = true := ht
    cases ts with
    | nil => cases ht
    | cons t ts =>
      have ht : (decide (u = tyN t) && glB sc u && tysB sc ts []) = true := ht
      simp only [Bool.and_eq_true, decide_eq_true_eq] at ht
      have e : ts = [] := by
        cases ts with
        | nil => rfl
        | cons _ _ => exact absurd ht.2 (by simp [tysB])
      subst e
      refine PE.imp (pe_callB (hy.hK ▸ call_isi : CallR X (.builtin "isinstance") (rIsi K)) g hm hv (pa_cons ha (pa_cons (sE_tyname hy ht.1.1 ht.1.2) pa_nil rfl) (plain_star hp _ _)) hn hdb (plain_star hp _ _) rfl) fun σ H Qv ⟨z, w, ρ, XP, Q, at_, v, xo, h, k⟩ => ?_
      simp only [evalE] at h
      refine tE_use at_ v xo h fun u z1 H1 w1 r1 a1 l1 i1 q1 => ?_
      obtain ⟨hh, q⟩ : r1.d.isHnd = false ∧ Q (.dat (.bl ([t].any (isi1 r1.d)))) w1 := q1
      refine ⟨u, .ty (tyS t), _, _, isi1 r1.d t, rfl, .ty _, tyX_of a1 i1 hh, kit_ty (kit_tab _ hh t), ?_⟩
      have e : [t].any (isi1 r1.d) = isi1 r1.d t := by simp
      rw [e] at q
      exact k _ z1 H1 w1 (.dat (.bl _)) a1 l1 (.bl _) q
  | Tuple es kk q =>
    have ht : (decide (ts.length ≤ 100) && tysB sc ts es) = true := ht
    rw [Bool.and_eq_true, decide_eq_true_eq] at ht
    obtain ⟨hl, ht⟩ := ht
    refine PE.imp (pe_callB (hy.hK ▸ call_isiT : CallR X (.builtin "isinstance") (rIsiT K)) g hm hv (pa_cons ha (pa_cons (pe_tup (sA_tys hy ht)) pa_nil rfl) (plain_star hp _ _)) hn hdb (plain_star hp _ _) rfl) fun σ H Qv ⟨z, w, ρ, XP, Q, at_, v, xo, h, k⟩ => ?_
    simp only [evalE] at h
    refine tE_use at_ v xo h fun u z1 H1 w1 r1 a1 l1 i1 q1 => ?_
    obtain ⟨hh, q⟩ : r1.d.isHnd = false ∧ Q (.dat (.bl (ts.any (isi1 r1.d)))) w1 := q1
    refine ⟨by rw [List.length_map, sizeLine_eq]; omega, fun p hp => ?_⟩
    have a2 : At M z1 (upd H1 p (.tup (ts.map fun t => V.ty (tyS t)))) w1 := a1.new hp
    refine ⟨u, p, _, _, _, ts.any (isi1 r1.d), rfl, upd_same, cls_all ts, tyX_of a2 i1 hh, kitAny_tab _ hh ts, ?_⟩
    exact k _ z1 _ w1 (.dat (.bl _)) a2 (l1.trans (Fz.Le.new hp)) (.bl _) q
  | _ => cases ht
end
end Ab

namespace Ab
open PySem PySem.Spec PyProof.Rows L2
section
variable {X : Cx} {e e2 : Expr} {ta : TA} {p pos tpos : Pos} {elts : List Expr} {kk : Nat}
def iZipG (K : PySem.W.Frag) (ta : TA) : TI := fun σ H R => ta σ H fun vs H1 => ∃ l1 l2 a b xs ys, vs = [.ref a, .ref b] ∧ Sq K l1 H1 a xs ∧ Sq K l2 H1 b ys ∧ R (Itp K l1 l2 a b) H1
theorem pi_zipG (hg : Gl X "zip") (hm : X.mg "zip" = none) (ha : PA X [e, e2] ta)
    (hs : starEach [e, e2] X.env = (false, eval e X.env) :: starEach [e2] X.env) (hpl : (backTo pos (starEach [e2] X.env)).any (·.1) = false) :
    PI X (.Tuple elts kk tpos) (.Call (.Name "zip" p) [e, e2] [] pos) (iZipG X.K ta) := by
  refine ⟨fun pins s σ H R I h => ?_⟩
  refine Call_ (ld_blt I hg hm PyProof.Rows.boot_zip (PyProof.Rows.callWith_type1 (thn (ha.run pos pins s σ H _ I h) fun us s1 ⟨vs, H1, I1, r1, q1⟩ => ?_) hs hpl))
  obtain ⟨l1, l2, a, b, xs, ys, ex, hqx, hqy, q⟩ := q1
  subst ex
  cases r1 with
  | cons r rr =>
    cases rr with
    | cons r' rr =>
      cases rr
      cases r
      cases r'
      obtain ⟨its, rv, p1⟩ := sq_at I1 hqx
      obtain ⟨its2, rv2, p2⟩ := sq_at I1 hqy
      refine zip_begins2 (begins l1 a its.toArray) (begins l2 b its2.toArray) p1 p2 fun h' hz hTI hTO h1 h2 hsz hk => wpAny_pyIter_zip hz ?_
      have I2 : Inv X pins σ H1 { s1 with heap := h' } := I1.kept (t' := s1.toks) hk
      have la := p1.lt
      have lb := p2.lt
      refine ⟨s1.heap.objs.size + 4, [s1.heap.objs.size + 4, s1.heap.objs.size + 2, s1.heap.objs.size + 3, s1.heap.objs.size, s1.heap.objs.size + 1], _, _, H1, rfl, I2,
        turn_zipG (l1 := l1) (l2 := l2) (a := a) (b := b) (zip_sep2 (fp1 := [a]) (fp2 := [b]) (fun c hc => by rw [List.mem_singleton.mp hc]; exact la) (fun c hc => by rw [List.mem_singleton.mp hc]; exact lb)) (Nat.ne_of_lt la) (Nat.ne_of_lt (Nat.lt_succ_of_lt lb)),
        ⟨hz, hTI, ⟨_, _, hTO⟩, itAt_0 h1, itAt_0 h2⟩, fun c hcm => ?_, q⟩
      have e' : c = s1.heap.objs.size + 4 ∨ c = s1.heap.objs.size + 2 ∨ c = s1.heap.objs.size + 3 ∨ c = s1.heap.objs.size ∨ c = s1.heap.objs.size + 1 := by simpa using hcm
      have hle : s1.heap.objs.size ≤ c := by
        rcases e' with z | z | z | z | z
        · rw [z]; exact Nat.le_add_right _ _
        · rw [z]; exact Nat.le_add_right _ _
        · rw [z]; exact Nat.le_add_right _ _
        · rw [z]; exact Nat.le_refl _
        · rw [z]; exact Nat.le_add_right _ _
      exact I1.fpOk hle (I1.hok.fresh hle)
def iEnumG (K : PySem.W.Frag) (k : Int) (ta : TA) : TI := fun σ H R => ta σ H fun vs H1 => ∃ l a xs, vs = [.ref a] ∧ Sq K l H1 a xs ∧ R (Itn K l k a) H1
theorem enum_end {pins : List (Addr × Obj)} {σ : L2.St} {H1 : Hp} {s1 : Shared} {R : It → Hp → Prop} {E : Value → Shared → Prop} {l : Bool} {a : Addr} {xs : List V} {k : Int} {h' : Heap} (I1 : Inv X pins σ H1 s1) (hq : Sq X.K l H1 a xs) (q : R (Itn X.K l k a) H1)
    (he : IsEnum h' (s1.heap.objs.size + 1) s1.heap.objs.size k .none) (hit : h'.get? s1.heap.objs.size = some (itObj l a)) (hk : ∀ b o, s1.heap.get? b = some o → h'.get? b = some o) :
    wpAny (model X.prog X.w) X.A (pyIter (.ref (s1.heap.objs.size + 1))) (PIE X pins σ (.Tuple elts kk tpos) R) E { s1 with heap := h' } := by
  obtain ⟨its, rv, p'⟩ := sq_at I1 hq
  have la := p'.lt
  refine wpAny_pyIter_enum he ?_
  have I2 : Inv X pins σ H1 { s1 with heap := h' } := I1.kept (t' := s1.toks) hk
  refine ⟨s1.heap.objs.size + 1, [s1.heap.objs.size + 1, s1.heap.objs.size], _, _, H1, rfl, I2, turn_enumK l k a (s1.heap.objs.size + 1) s1.heap.objs.size,
    ⟨⟨.none, by simpa using he⟩, itAt_0 hit, Nat.succ_ne_self _, Nat.ne_of_lt la, Nat.ne_of_gt (Nat.lt_succ_of_lt la)⟩, fun b hb => ?_, q⟩
  have e' : b = s1.heap.objs.size + 1 ∨ b = s1.heap.objs.size := by simpa using hb
  have hle : s1.heap.objs.size ≤ b := by
    rcases e' with z | z
    · rw [z]; exact Nat.le_add_right _ _
    · rw [z]; exact Nat.le_refl _
  exact I1.fpOk hle (I1.hok.fresh hle)
theorem pi_enumG (hg : Gl X "enumerate") (hm : X.mg "enumerate" = none) (ha : PA X [e] ta) (hs : starEach [e] X.env = [(false, eval e X.env)]) :
    PI X (.Tuple elts kk tpos) (.Call (.Name "enumerate" p) [e] [] pos) (iEnumG X.K 0 ta) := by
  refine ⟨fun pins s σ H R I h => ?_⟩
  refine Call_ (ld_blt I hg hm boot_enumerate (PyProof.Rows.callWith_type1 (thn (ha.run pos pins s σ H _ I h) fun us s1 ⟨vs, H1, I1, r1, q1⟩ => ?_) hs rfl))
  obtain ⟨l, a, xs, ex, hq, q⟩ := q1
  subst ex
  cases r1 with
  | cons r rr =>
    cases rr
    cases r
    obtain ⟨its, rv, p'⟩ := sq_at I1 hq
    exact enum_begins1 (begins l a its.toArray) p' fun h' he hit hsz hk => enum_end I1 hq q he hit hk
def iEnumK (K : PySem.W.Frag) (ta : TA) : TI := fun σ H R => ta σ H fun vs H1 => ∃ l a xs k, vs = [.ref a, .int k] ∧ (-(2 ^ 63) ≤ k ∧ k < 2 ^ 63) ∧ Sq K l H1 a xs ∧ R (Itn K l k a) H1
theorem pi_enumK (hg : Gl X "enumerate") (hm : X.mg "enumerate" = none) (ha : PA X [e, e2] ta) (hs : starEach [e, e2] X.env = (false, eval e X.env) :: starEach [e2] X.env) (hpl : (backTo pos (starEach [e2] X.env)).any (·.1) = false) :
    PI X (.Tuple elts kk tpos) (.Call (.Name "enumerate" p) [e, e2] [] pos) (iEnumK X.K ta) := by
  refine ⟨fun pins s σ H R I h => ?_⟩
  refine Call_ (ld_blt I hg hm boot_enumerate (PyProof.Rows.callWith_type1 (thn (ha.run pos pins s σ H _ I h) fun us s1 ⟨vs, H1, I1, r1, q1⟩ => ?_) hs hpl))
  obtain ⟨l, a, xs, k, ex, ⟨hk0, hk1⟩, hq, q⟩ := q1
  subst ex
  cases r1 with
  | cons r rr =>
    cases rr with
    | cons r' rr =>
      cases rr
      cases r
      obtain ⟨t, rfl⟩ := r'
      obtain ⟨its, rv, p'⟩ := sq_at I1 hq
      exact enum_begins (begins l a its.toArray) p' hk0 hk1 fun h' he hit hsz hk => enum_end I1 hq q he hit hk
/-- a list or a tuple -/
def iSeq (K : PySem.W.Frag) (tl : TE) : TI := fun σ H R => tl σ H fun x H1 => (∃ a xs, x = .ref a ∧ SqL K H1 a xs ∧ R (Itl K a) H1) ∨ (∃ a xs, x = .ref a ∧ SqT K H1 a xs ∧ R (Itt K a) H1)
theorem pi_seq {l : Expr} {tg : Expr} {tl : TE} (hl : PE X l tl) : PI X tg l (iSeq X.K tl) := by
  refine ⟨fun pins s σ H R I h => ?_⟩
  refine thn (hl.run pins s σ H _ I h) fun v s1 ⟨x, H1, I1, r1, q1⟩ => ?_
  rcases q1 with ⟨a, xs, e, hq, q⟩ | ⟨a, xs, e, hq, q⟩
  · subst e
    cases r1
    obtain ⟨its, rv, p, hz⟩ := I1.list hq
    refine wpAny_pyIter_list p.isList ?_
    refine ⟨s1.heap.objs.size, [s1.heap.objs.size], _, _, H1, rfl, I1.kept (t' := s1.toks) fun b o e => Heap.get?_push_of_some _ e, turn_list a _, ⟨_, Heap.get?_push_size _ rfl, rfl, rfl⟩, fun b hb => ?_, q⟩
    have e : b = s1.heap.objs.size := by simpa using hb
    subst e
    exact I1.fpOk (Nat.le_refl _) (I1.hok.fresh (Nat.le_refl _))
  · subst e
    cases r1
    obtain ⟨its, rv, p, hz⟩ := I1.tuple hq
    refine wpAny_pyIter_tuple (show s1.heap.IsTuple a its.toArray from p) ?_
    refine ⟨s1.heap.objs.size, [s1.heap.objs.size], _, _, H1, rfl, I1.kept (t' := s1.toks) fun b o e => Heap.get?_push_of_some _ e, turn_tuple a _, ⟨_, Heap.get?_push_size _ rfl, rfl, rfl⟩, fun b hb => ?_, q⟩
    have e : b = s1.heap.objs.size := by simpa using hb
    subst e
    exact I1.fpOk (Nat.le_refl _) (I1.hok.fresh (Nat.le_refl _))
end

section
variable {K : PySem.W.Frag} {M : WM K} {T : Tab} {Φ : Nat → Fn M.Wd} {XE : XD → XK → Hp → Prop} {X : Cx} {sc : Scope} {fn : Str → Bool} {Ex : XK} {z z1 z2 : Fz} {H H1 H2 : Hp} {w : M.Wd} {pos : Pos}
  {a b c es : E} {l r x y tg : Expr} {xs : List Expr}
theorem walkD_list {p : Addr} {vs : List V} {ds : List D} (hp : z.F p = some (.lst vs)) (hs : Iss K z.F z.A vs ds) : WalkD M (Itl K p) z ds := by
  refine ⟨?_⟩
  rw [← hs.length]
  refine (walk_list (K := K) (a := p) (xs := vs)).mono (fun H h => SqL.of (h p _ hp)) fun i H v H' hi hG y z2 w a e ea => ?_
  obtain ⟨e1, hx⟩ := y
  subst e1
  obtain ⟨d, hd, iv⟩ := hs.getV hx
  exact ⟨z2, d, a, Fz.Le.refl _ _, hd, iv.mono e ea⟩
theorem walkD_tup {p : Addr} {vs : List V} {ds : List D} (hp : SqT K z.F p vs) (hs : Iss K z.F z.A vs ds) : WalkD M (Itt K p) z ds := by
  refine ⟨?_⟩
  rw [← hs.length]
  refine (walk_tup (K := K) (a := p) (xs := vs)).mono (fun H h => same_tup h hp) fun i H v H' hi hG y z2 w a e ea => ?_
  obtain ⟨e1, hx⟩ := y
  subst e1
  obtain ⟨d, hd, iv⟩ := hs.getV hx
  exact ⟨z2, d, a, Fz.Le.refl _ _, hd, iv.mono e ea⟩
theorem walkD_rg {lo hi : Int} : WalkD M (Itr lo (hi - lo).toNat) z (rgD lo hi) := by
  refine ⟨?_⟩
  have e : (rgD lo hi).length = (hi - lo).toNat := by unfold rgD; rw [List.length_map, List.length_range]
  rw [e]
  refine (walk_range (lo := lo) (n := (hi - lo).toNat)).mono (fun H h => trivial) fun i H v H' hi' hG y z2 w a e ea => ?_
  obtain ⟨e1, hx⟩ := y
  subst e1 hx
  refine ⟨z2, .int (lo + i), a, Fz.Le.refl _ _, ?_, .int _⟩
  unfold rgD
  rw [List.getElem?_map, List.getElem?_range hi']; rfl
theorem walkD_rgN {lo hi : Int} : WalkD M (Itc lo (-1) (lo - hi).toNat) z (rgN lo hi) := by
  refine ⟨?_⟩
  have e : (rgN lo hi).length = (lo - hi).toNat := by unfold rgN; rw [List.length_map, List.length_range]
  rw [e]
  refine (walk_rangeC (lo := lo) (c := -1) (n := (lo - hi).toNat)).mono (fun H h => trivial) fun i H v H' hi' hG y z2 w a e ea => ?_
  obtain ⟨e1, hx⟩ := y
  subst e1 hx
  refine ⟨z2, .int (lo - i), a, Fz.Le.refl _ _, ?_, ?_⟩
  · unfold rgN
    rw [List.getElem?_map, List.getElem?_range hi']; rfl
  · show Is K z2.F z2.A (V.int (lo + (i : Int) * -1)) (.int (lo - i))
    have e : lo + (i : Int) * -1 = lo - i := by omega
    rw [e]; exact .int _
theorem sqH (e : Same z.F H) {l : Bool} {p : Addr} {vs : List V} (h : Sq K l z.F p vs) : Sq K l H p vs := by
  cases l with
  | true => exact e.seq h
  | false => exact same_tup e h
theorem zipD_get : ∀ {xs ys : List D} {i : Nat} {d e : D}, xs[i]? = some d → ys[i]? = some e → (zipD xs ys)[i]? = some (.seq false [d, e])
  | x :: xs, y :: ys, 0, d, e, h1, h2 => by simp at h1 h2; subst h1 h2; rfl
  | x :: xs, y :: ys, i + 1, d, e, h1, h2 => by
    show (zipD xs ys)[i]? = _
    exact zipD_get (by simpa using h1) (by simpa using h2)
  | [], _, _, _, _, h1, _ => by simp at h1
  | _ :: _, [], _, _, _, _, h2 => by simp at h2
theorem zipD_len : ∀ (xs ys : List D), (zipD xs ys).length = min xs.length ys.length
  | x :: xs, y :: ys => by
    show (zipD xs ys).length + 1 = _
    rw [zipD_len xs ys, List.length_cons, List.length_cons]; omega
  | [], _ => by simp [zipD]
  | _ :: _, [] => by simp [zipD]
theorem enumD_get : ∀ {xs : List D} {k : Int} {i : Nat} {d : D}, xs[i]? = some d → (enumD k xs)[i]? = some (.seq false [.int (k + i), d])
  | x :: xs, k, 0, d, h1 => by simp at h1; subst h1; simp [enumD]
  | x :: xs, k, i + 1, d, h1 => by
    show (enumD (k + 1) xs)[i]? = _
    rw [enumD_get (by simpa using h1)]
    have e : k + 1 + (i : Int) = k + ((i + 1 : Nat) : Int) := by omega
    rw [e]
  | [], _, _, _, h1 => by simp at h1
theorem enumD_len : ∀ (xs : List D) (k : Int), (enumD k xs).length = xs.length
  | x :: xs, k => by
    show (enumD (k + 1) xs).length + 1 = _
    rw [enumD_len xs, List.length_cons]
  | [], _ => rfl
theorem walkD_zip {l1 l2 : Bool} {p q : Addr} {vs us : List V} {ds es : List D} (hp : Sq K l1 z.F p vs) (hq : Sq K l2 z.F q us) (hs : Iss K z.F z.A vs ds) (hu : Iss K z.F z.A us es) : WalkD M (Itp K l1 l2 p q) z (zipD ds es) := by
  refine ⟨?_⟩
  rw [zipD_len]
  refine ⟨fun i H hi e => ?_, fun H e => ?_, fun i H v H' hi e y z2 w a e2 ea => ?_⟩
  · have h1 : i < vs.length := by rw [hs.length]; omega
    have h2 : i < us.length := by rw [hu.length]; omega
    exact ⟨vs, us, vs[i], us[i], sqH e hp, sqH e hq, by simp [h1], by simp [h2]⟩
  · exact ⟨vs, us, sqH e hp, sqH e hq, by rw [hs.length, hu.length]⟩
  · obtain ⟨t, x, y, rfl, ht, rfl, hx, hy⟩ := y
    obtain ⟨d, hd, iv⟩ := hs.getV (hx vs (sqH e hp))
    obtain ⟨d2, hd2, iv2⟩ := hu.getV (hy us (sqH e hq))
    have le : z2.Le (z2.frz t (.tup [x, y])) H (upd H t (.tup [x, y])) := Fz.Le.frz (Fz.Le.new ht) ht (a.ok.none ht)
    exact ⟨_, _, a.frzNew ht, le, zipD_get hd hd2, .tup (SqT.of upd_same) (.cons (iv.mono (e2.trans le.fF) ea) (.cons (iv2.mono (e2.trans le.fF) ea) .nil))⟩
theorem walkD_enum {l1 : Bool} {p : Addr} {vs : List V} {ds : List D} {k : Int} (hp : Sq K l1 z.F p vs) (hs : Iss K z.F z.A vs ds) : WalkD M (Itn K l1 k p) z (enumD k ds) := by
  refine ⟨?_⟩
  rw [enumD_len]
  refine ⟨fun i H hi e => ?_, fun H e => ?_, fun i H v H' hi e y z2 w a e2 ea => ?_⟩
  · have h1 : i < vs.length := by rw [hs.length]; omega
    exact ⟨vs, vs[i], sqH e hp, by simp [h1]⟩
  · exact ⟨vs, sqH e hp, hs.length⟩
  · obtain ⟨t, x, rfl, ht, rfl, hx⟩ := y
    obtain ⟨d, hd, iv⟩ := hs.getV (hx vs (sqH e hp))
    have le : z2.Le (z2.frz t (.tup [.int (k + (i : Nat)), x])) H (upd H t (.tup [.int (k + (i : Nat)), x])) := Fz.Le.frz (Fz.Le.new ht) ht (a.ok.none ht)
    exact ⟨_, _, a.frzNew ht, le, enumD_get hd, .tup (SqT.of upd_same) (.cons (.int _) (.cons (iv.mono (e2.trans le.fF) ea) .nil))⟩
theorem is_sq {v : V} {l : Bool} {ds : List D} (h : Is K z.F z.A v (.seq l ds)) : ∃ p vs, v = .ref p ∧ Sq K l z.F p vs ∧ Iss K z.F z.A vs ds := by
  cases h with
  | tup h hs => exact ⟨_, _, rfl, h, hs⟩
  | lst h hs => exact ⟨_, _, rfl, SqL.of h, hs⟩
/-! the iterators, read -/
theorem sI_seq (hy : Hy M T Φ XE X sc fn Ex) (ha : PE X x (tE M Φ XE a Ex)) : PI X tg x (tI M Φ XE (.iseq a) Ex) := by
  refine PI.imp (hy.hK ▸ pi_seq ha : PI X tg x (iSeq K _)) fun σ H R ⟨z, w, ρ, XP, Q, at_, v, xo, h, k⟩ => ?_
  simp only [evalE] at h
  refine tE_use at_ v xo h fun u z1 H1 w1 r1 a1 l1 i1 q1 => ?_
  generalize r1.d = d at i1 q1
  cases i1 with
  | @lst p vs ds hp hs => exact .inl ⟨p, vs, rfl, SqL.of (a1.ok.sub _ _ hp), k _ z1 H1 w1 ds a1 l1 (walkD_list hp hs) q1⟩
  | @tup p vs ds hp hs => exact .inr ⟨p, vs, rfl, a1.sqT hp, k _ z1 H1 w1 ds a1 l1 (walkD_tup hp hs) q1⟩
  | _ => exact q1.elim
theorem sI_range1 {u : Str} {p : Pos} (hy : Hy M T Φ XE X sc fn Ex) (h1 : u = "range") (h2 : glB sc u = true) (hp : plainB x = true) (ha : PE X x (tE M Φ XE a Ex)) : PI X tg (.Call (.Name u p) [x] [] pos) (tI M Φ XE (.irange (.cons a .nil)) Ex) := by
  subst h1
  refine PI.imp (pi_range1 (glB_d hy h2) (hy.blt _ (by decide +kernel)) (pa_cons ha pa_nil (plain_star hp _ _)) (plain_star hp _ _)) fun σ H R ⟨z, w, ρ, XP, Q, at_, v, xo, h, k⟩ => ?_
  simp only [evalE] at h
  refine tE_use at_ v xo h fun u z1 H1 w1 r1 a1 l1 i1 q1 => ?_
  have q1 : rangeD [r1.d] fun xs => Q (.dat (.seq true xs)) w1 := q1
  generalize r1.d = d at i1 q1
  cases i1 with
  | int j =>
    obtain ⟨⟨o1, o2⟩, q⟩ : okR j ∧ Q (.dat (.seq true (rgD 0 j))) w1 := q1
    refine ⟨j, rfl, o1, o2, ?_⟩
    have := k _ z1 H1 w1 _ a1 l1 (walkD_rg (M := M) (z := z1) (lo := 0) (hi := j)) q
    rwa [Int.sub_zero] at this
  | _ => exact q1.elim
theorem sI_range2 {u : Str} {p : Pos} (hy : Hy M T Φ XE X sc fn Ex) (h1 : u = "range") (h2 : glB sc u = true) (hp : plainB x = true) (hp2 : plainB y = true) (ha : PE X x (tE M Φ XE a Ex)) (hb : PE X y (tE M Φ XE b Ex)) : PI X tg (.Call (.Name u p) [x, y] [] pos) (tI M Φ XE (.irange (.cons a (.cons b .nil))) Ex) := by
  subst h1
  refine PI.imp (pi_range2 (glB_d hy h2) (hy.blt _ (by decide +kernel)) (pa_cons ha (pa_cons hb pa_nil (plain_star hp2 _ _)) (plain_star hp _ _)) (by rw [plain_star hp, plain_star hp2]; rfl) (plain_star hp2 _ _)) fun σ H R ⟨z, w, ρ, XP, Q, at_, v, xo, h, k⟩ => ?_
  simp only [evalE] at h
  refine tE_use at_ v xo h fun u z1 H1 w1 r1 a1 l1 i1 q1 => ?_
  refine tE_use a1 (v.mono l1) (xo.mono l1) q1 fun u2 z2 H2 w2 r2 a2 l2 i2 q2 => ?_
  have q2 : rangeD [r1.d, r2.d] fun xs => Q (.dat (.seq true xs)) w2 := q2
  generalize r1.d = d at i1 q1 q2
  generalize r2.d = d2 at i2 q2
  cases i1 with
  | int i => cases i2 with
    | int j =>
      obtain ⟨⟨⟨o1, o2⟩, o3, o4⟩, q⟩ : (okR i ∧ okR j) ∧ Q (.dat (.seq true (rgD i j))) w2 := q2
      exact ⟨i, j, rfl, ⟨o1, o2, o3, o4⟩, k _ z2 H2 w2 _ a2 (l1.trans l2) (walkD_rg (M := M) (z := z2) (lo := i) (hi := j)) q⟩
    | _ => exact q2.elim
  | _ => cases d2 <;> exact q2.elim
theorem sI_range3 {u : Str} {p : Pos} {y2 : Expr} (hy : Hy M T Φ XE X sc fn Ex) (h1 : u = "range") (h2 : glB sc u = true) (hp : plainB x = true) (hp2 : plainB y = true) (hp3 : plainB y2 = true) (ha : PE X x (tE M Φ XE a Ex)) (hb : PE X y (tE M Φ XE b Ex)) (hc : PE X y2 (tE M Φ XE c Ex)) :
    PI X tg (.Call (.Name u p) [x, y, y2] [] pos) (tI M Φ XE (.irange (.cons a (.cons b (.cons c .nil)))) Ex) := by
  subst h1
  refine PI.imp (pi_range3 (glB_d hy h2) (hy.blt _ (by decide +kernel)) (pa_cons ha (pa_cons hb (pa_cons hc pa_nil (plain_star hp3 _ _)) (plain_star hp2 _ _)) (plain_star hp _ _)) (by rw [plain_star hp]) (by rw [plain_star hp2, plain_star hp3]; rfl)) fun σ H R ⟨z, w, ρ, XP, Q, at_, v, xo, h, k⟩ => ?_
  simp only [evalE] at h
  refine tE_use at_ v xo h fun u z1 H1 w1 r1 a1 l1 i1 q1 => ?_
  refine tE_use a1 (v.mono l1) (xo.mono l1) q1 fun u2 z2 H2 w2 r2 a2 l2 i2 q2 => ?_
  have l12 := l1.trans l2
  refine tE_use a2 (v.mono l12) (xo.mono l12) q2 fun u3 z3 H3 w3 r3 a3 l3 i3 q3 => ?_
  have q3 : rangeD [r1.d, r2.d, r3.d] fun xs => Q (.dat (.seq true xs)) w3 := q3
  generalize r1.d = d1 at i1 q3
  generalize r2.d = d2 at i2 q3
  generalize r3.d = d3 at i3 q3
  have g : ∃ i j, d1 = .int i ∧ d2 = .int j ∧ d3 = .int (-1) ∧ (okR i ∧ okR j) ∧ Q (.dat (.seq true (rgN i j))) w3 := by
    unfold rangeD at q3
    split at q3
    · rename_i e; cases e
    · rename_i e; cases e
    · rename_i e
      injection e with e1 e
      injection e with e2 e
      injection e with e3 e
      exact ⟨_, _, e1, e2, e3, q3⟩
    · exact q3.elim
  obtain ⟨i, j, rfl, rfl, rfl, ⟨⟨o1, o2⟩, o3, o4⟩, q⟩ := g
  cases i1
  cases i2
  cases i3
  exact ⟨i, j, -1, (i - j).toNat, rfl, RgC.neg o1 o2 o3 o4, k _ z3 H3 w3 _ a3 (l12.trans l3) (walkD_rgN (M := M) (z := z3) (lo := i) (hi := j)) q⟩
theorem sI_zip {elts : List Expr} {kk : Nat} {tpos : Pos} {u : Str} {p : Pos} (hy : Hy M T Φ XE X sc fn Ex) (h1 : u = "zip") (h2 : glB sc u = true) (hp : plainB x = true) (hp2 : plainB y = true) (ha : PE X x (tE M Φ XE a Ex)) (hb : PE X y (tE M Φ XE b Ex)) :
    PI X (.Tuple elts kk tpos) (.Call (.Name u p) [x, y] [] pos) (tI M Φ XE (.izip a b) Ex) := by
  subst h1
  refine PI.imp (hy.hK ▸ pi_zipG (glB_d hy h2) (hy.blt _ (by decide +kernel)) (pa_cons ha (pa_cons hb pa_nil (plain_star hp2 _ _)) (plain_star hp _ _)) (plain_star hp _ _) (by rw [plain_star hp2]; rfl) : PI X (.Tuple elts kk tpos) (.Call (.Name "zip" p) [x, y] [] pos) (iZipG K _)) fun σ H R ⟨z, w, ρ, XP, Q, at_, v, xo, h, k⟩ => ?_
  simp only [evalE] at h
  refine tE_use at_ v xo h fun u z1 H1 w1 r1 a1 l1 i1 q1 => ?_
  refine tE_use a1 (v.mono l1) (xo.mono l1) q1 fun u2 z2 H2 w2 r2 a2 l2 i2 q2 => ?_
  generalize r1.d = d at i1 q1 q2
  generalize r2.d = d2 at i2 q2
  cases d with
  | seq f1 ds => cases d2 with
    | seq f2 es =>
      obtain ⟨p1, vs, rfl, s1, j1⟩ := is_sq (i1.mono l2.fF l2.aw)
      obtain ⟨p2, us, rfl, s2, j2⟩ := is_sq i2
      exact ⟨f1, f2, p1, p2, vs, us, rfl, sqH a2.ok.sub s1, sqH a2.ok.sub s2, k _ z2 H2 w2 _ a2 (l1.trans l2) (walkD_zip s1 s2 j1 j2) q2⟩
    | _ => exact q2.elim
  | _ => exact q2.elim
theorem sI_enum {elts : List Expr} {kk : Nat} {tpos : Pos} {u : Str} {p : Pos} (hy : Hy M T Φ XE X sc fn Ex) (h1 : u = "enumerate") (h2 : glB sc u = true) (hp : plainB x = true) (ha : PE X x (tE M Φ XE a Ex)) :
    PI X (.Tuple elts kk tpos) (.Call (.Name u p) [x] [] pos) (tI M Φ XE (.ienum a 0) Ex) := by
  subst h1
  refine PI.imp (hy.hK ▸ pi_enumG (glB_d hy h2) (hy.blt _ (by decide +kernel)) (pa_cons ha pa_nil (plain_star hp _ _)) (plain_star hp _ _) : PI X (.Tuple elts kk tpos) (.Call (.Name "enumerate" p) [x] [] pos) (iEnumG K 0 _)) fun σ H R ⟨z, w, ρ, XP, Q, at_, v, xo, h, k⟩ => ?_
  simp only [evalE] at h
  refine tE_use at_ v xo h fun u z1 H1 w1 r1 a1 l1 i1 q1 => ?_
  generalize r1.d = d at i1 q1
  cases d with
  | seq f1 ds =>
    obtain ⟨p1, vs, rfl, s1, j1⟩ := is_sq i1
    exact ⟨f1, p1, vs, rfl, sqH a1.ok.sub s1, k _ z1 H1 w1 _ a1 l1 (walkD_enum s1 j1) q1⟩
  | _ => exact q1.elim
theorem sI_enumK {elts : List Expr} {kk ck : Nat} {tpos cpos : Pos} {u : Str} {p : Pos} {n : Int} (hn : 0 ≤ n ∧ n < 1000) (hy : Hy M T Φ XE X sc fn Ex) (h1 : u = "enumerate") (h2 : glB sc u = true) (hp : plainB x = true) (ha : PE X x (tE M Φ XE a Ex)) :
    PI X (.Tuple elts kk tpos) (.Call (.Name u p) [x, .Constant (.int n) ck cpos] [] pos) (tI M Φ XE (.ienum a n) Ex) := by
  subst h1
  refine PI.imp (hy.hK ▸ pi_enumK (glB_d hy h2) (hy.blt _ (by decide +kernel)) (pa_cons ha (pa_cons pe_int pa_nil rfl) (plain_star hp _ _)) (plain_star hp _ _) rfl : PI X (.Tuple elts kk tpos) (.Call (.Name "enumerate" p) [x, .Constant (.int n) ck cpos] [] pos) (iEnumK K _)) fun σ H R ⟨z, w, ρ, XP, Q, at_, v, xo, h, k⟩ => ?_
  simp only [evalE] at h
  refine tE_use at_ v xo h fun u z1 H1 w1 r1 a1 l1 i1 q1 => ?_
  generalize r1.d = d at i1 q1
  cases d with
  | seq f1 ds =>
    obtain ⟨p1, vs, rfl, s1, j1⟩ := is_sq i1
    exact ⟨f1, p1, vs, n, rfl, ⟨by omega, by omega⟩, sqH a1.ok.sub s1, k _ z1 H1 w1 _ a1 l1 (walkD_enum s1 j1) q1⟩
  | _ => exact q1.elim
end
end Ab

namespace Ab
open PySem PySem.Spec PyProof.Rows L2
/-! ### slots -/
theorem getS_set : ∀ (ρ : Ev) (i j : Nat) (s : Sl), getS (ρ.set i s) j = if j = i ∧ i < ρ.length then s else getS ρ j
  | [], i, j, s => by simp [getS]
  | a :: r, 0, 0, s => by simp [getS]
  | a :: r, 0, j + 1, s => by simp [getS]
  | a :: r, i + 1, 0, s => by simp [getS]
  | a :: r, i + 1, j + 1, s => by
    show getS (r.set i s) j = _
    rw [getS_set r i j s]
    have e : (j + 1 = i + 1 ∧ i + 1 < (a :: r).length) ↔ (j = i ∧ i < r.length) := by
      rw [List.length_cons]; omega
    by_cases h : j = i ∧ i < r.length
    · rw [if_pos h, if_pos (e.mpr h)]
    · rw [if_neg h, if_neg fun q => h (e.mp q)]; rfl
theorem getS_clr : ∀ (vs : List Nat) (ρ : Ev) (j : Nat) (d : Sl), d ≠ .no → getS (clr ρ vs) j = d → j ∉ vs ∧ getS ρ j = d
  | [], ρ, j, d, _, h => ⟨by simp, h⟩
  | i :: vs, ρ, j, d, dn, h => by
    have h' : getS ((clr ρ vs).set i .no) j = d := h
    rw [getS_set] at h'
    split at h'
    · exact absurd h'.symm dn
    · rename_i n
      clear h
      obtain ⟨h1, h2⟩ := getS_clr vs ρ j d dn h'
      refine ⟨?_, h2⟩
      intro hm
      rcases List.mem_cons.mp hm with e | e
      · subst e
        refine n ⟨rfl, ?_⟩
        have : j < (clr ρ vs).length := by
          by_cases q : j < (clr ρ vs).length
          · exact q
          · exfalso
            have : ∀ (l : Ev) (k : Nat), ¬ k < l.length → getS l k = .no := by
              intro l
              induction l with
              | nil => intro k _; rfl
              | cons a r ih =>
                intro k hk
                cases k with
                | zero => simp at hk
                | succ k => exact ih k (by simpa using hk)
            rw [this _ _ q] at h'
            exact absurd h'.symm dn
        exact this
      · exact h1 e
section
variable {K : PySem.W.Frag} {M : WM K} {T : Tab} {Φ : Nat → Fn M.Wd} {XE : XD → XK → Hp → Prop} {X : Cx} {sc : Scope} {fn : Str → Bool} {Ex : XK} {z z1 z2 : Fz} {H H1 H2 : Hp} {w : M.Wd} {pos : Pos}
  {a b c es : E} {l r x y tg : Expr} {xs : List Expr}
theorem EnvV.clr {σ : L2.St} {ρ : Ev} (v : EnvV K z H σ ρ) (vs : List Nat) : EnvV K z H (wipe σ vs) (clr ρ vs) :=
  ⟨fun i d e => by
    obtain ⟨h1, h2⟩ := getS_clr vs ρ i (.val d) (fun e => nomatch e) e
    obtain ⟨x, h3, h4⟩ := v.get i d h2
    exact ⟨x, by rw [wipe_out h1]; exact h3, h4⟩, fun i xs e => by
    obtain ⟨h1, h2⟩ := getS_clr vs ρ i (.own xs) (fun e => nomatch e) e
    obtain ⟨p, us, h3, h4⟩ := v.own i xs h2
    exact ⟨p, us, by rw [wipe_out h1]; exact h3, h4⟩⟩
theorem EnvV.set {σ : L2.St} {ρ : Ev} (v : EnvV K z H σ ρ) {i : Nat} {x : V} {d : D} (hi : i < σ.length) (h : Is K z.F z.A x d) : EnvV K z H (σ.set i (some x)) (ρ.set i (.val d)) :=
  ⟨fun j e q => by
    rw [getS_set] at q
    split at q
    · rename_i c
      cases q
      rw [c.1]
      exact ⟨x, List.getElem?_set_self hi, h⟩
    · rename_i c
      obtain ⟨y, h1, h2⟩ := v.get j e q
      by_cases ji : j = i
      · subst ji
        exfalso
        have hr : ¬ j < ρ.length := fun t => c ⟨rfl, t⟩
        have : ∀ (l : Ev) (k : Nat), ¬ k < l.length → getS l k = .no := by
          intro l
          induction l with
          | nil => intro k _; rfl
          | cons a r ih =>
            intro k hk
            cases k with
            | zero => simp at hk
            | succ k => exact ih k (by simpa using hk)
        rw [this _ _ hr] at q
        cases q
      · exact ⟨y, by rw [List.getElem?_set_ne (Ne.symm ji)]; exact h1, h2⟩, fun j xs q => by
    rw [getS_set] at q
    split at q
    · cases q
    · rename_i c
      obtain ⟨p, us, h1, h2⟩ := v.own j xs q
      by_cases ji : j = i
      · subst ji
        exfalso
        have hr : ¬ j < ρ.length := fun t => c ⟨rfl, t⟩
        have : ∀ (l : Ev) (k : Nat), ¬ k < l.length → getS l k = .no := by
          intro l
          induction l with
          | nil => intro k _; rfl
          | cons a r ih =>
            intro k hk
            cases k with
            | zero => simp at hk
            | succ k => exact ih k (by simpa using hk)
        rw [this _ _ hr] at q
        cases q
      · exact ⟨p, us, by rw [List.getElem?_set_ne (Ne.symm ji)]; exact h1, h2⟩⟩
/-! ### targets -/
/-- an environment's form that bears stores -/
structure PV (K : PySem.W.Frag) (P : Fz → Hp → L2.St → Ev → Prop) : Prop where
  set : ∀ {z H σ ρ i v d}, P z H σ ρ → i < σ.length → Is K z.F z.A v d → P z H (σ.set i (some v)) (ρ.set i (.val d))
abbrev EV (K : PySem.W.Frag) : Fz → Hp → L2.St → Ev → Prop := fun z H σ ρ => EnvV K z H σ ρ
theorem pv_ev : PV K (EV K) := ⟨fun h hi i => h.set hi i⟩
def tG (M : WM K) (P : Fz → Hp → L2.St → Ev → Prop) (t : Tg) : TG := fun v σ H Qv => ∃ (z : Fz) (w : M.Wd) (d : D) (ρ : Ev) (Q : Ev → Prop), At M z H w ∧ P z H σ ρ ∧ Is K z.F z.A v d ∧ bindT t d ρ Q ∧
  ∀ σ' ρ', P z H σ' ρ' → σ'.length = σ.length → (∀ vs : List Nat, (∀ i ∈ t.slots, i ∈ vs) → wipe σ' vs = wipe σ vs) → Q ρ' → Qv σ' H
def tGs (M : WM K) (P : Fz → Hp → L2.St → Ev → Prop) (t : Tg) : TGs := fun us σ H Qv => ∃ (z : Fz) (w : M.Wd) (l : Bool) (ds : List D) (ρ : Ev) (Q : Ev → Prop), At M z H w ∧ P z H σ ρ ∧ Iss K z.F z.A us ds ∧ bindT t (.seq l ds) ρ Q ∧
  ∀ σ' ρ', P z H σ' ρ' → σ'.length = σ.length → (∀ vs : List Nat, (∀ i ∈ t.slots, i ∈ vs) → wipe σ' vs = wipe σ vs) → Q ρ' → Qv σ' H
theorem PG.impL {e : Expr} {g g' : TG} (h : PG X e g) (i : ∀ v σ H Q, σ.length = X.N.length → g' v σ H Q → g v σ H Q) : PG X e g' :=
  ⟨fun pins s σ H v u Q I r q => h.run pins s σ H v u Q I r (i v σ H Q I.len q)⟩
theorem PGs.impL {e : List Expr} {g g' : TGs} (h : PGs X e g) (i : ∀ v σ H Q, σ.length = X.N.length → g' v σ H Q → g v σ H Q) : PGs X e g' :=
  ⟨fun pins s σ H v u Q I r q => h.run pins s σ H v u Q I r (i v σ H Q I.len q)⟩
theorem PG.or {e : Expr} {g g' : TG} (h : PG X e g) (h' : PG X e g') : PG X e (fun v σ H Q => g v σ H Q ∨ g' v σ H Q) :=
  ⟨fun pins s σ H v u Q I r q => q.elim (h.run pins s σ H v u Q I r) (h'.run pins s σ H v u Q I r)⟩
theorem wipe_set : ∀ (vs : List Nat) (σ : L2.St) (i : Nat) (v : Option V), i ∈ vs → wipe (σ.set i v) vs = wipe σ vs
  | [], _, _, _, h => by simp at h
  | j :: vs, σ, i, v, h => by
    show (wipe (σ.set i v) vs).set j none = (wipe σ vs).set j none
    by_cases hm : i ∈ vs
    · rw [wipe_set vs σ i v hm]
    · have e : i = j := by
        rcases List.mem_cons.mp h with q | q
        · exact q
        · exact absurd q hm
      subst e
      have : ∀ (us : List Nat) (τ : L2.St), i ∉ us → wipe (τ.set i v) us = (wipe τ us).set i v := by
        intro us
        induction us with
        | nil => intro τ _; rfl
        | cons k us ih =>
          intro τ hk
          show (wipe (τ.set i v) us).set k none = ((wipe τ us).set k none).set i v
          rw [ih τ fun q => hk (List.mem_cons_of_mem _ q), List.set_comm _ _ (fun q => hk (by rw [q]; exact List.mem_cons_self))]
      rw [this vs σ hm, List.set_set]
theorem bindT_ex : ∀ (t : Tg) (d : D) (ρ : Ev) (Q : Ev → Prop), bindT t d ρ Q → ∃ ρ', Q ρ'
  | .nm i, d, ρ, Q, h => ⟨_, h⟩
  | .nil, .seq l [], ρ, Q, h => ⟨_, h⟩
  | .cons a b, .seq l (d :: ds), ρ, Q, h => by
    have h : bindT a d ρ fun ρ => bindT b (.seq l ds) ρ Q := h
    obtain ⟨ρ1, h1⟩ := bindT_ex a d ρ _ h
    exact bindT_ex b _ ρ1 Q h1
def Tg.len : Tg → Nat
  | .cons _ b => b.len + 1
  | _ => 0
def Tg.isL : Tg → Bool
  | .nm _ => false
  | .nil => true
  | .cons _ b => b.isL
theorem bindT_len : ∀ (t : Tg) (l : Bool) (ds : List D) (ρ : Ev) (Q : Ev → Prop), t.isL = true → bindT t (.seq l ds) ρ Q → ds.length = t.len
  | .nil, l, [], ρ, Q, _, h => rfl
  | .cons a b, l, d :: ds, ρ, Q, hl, h => by
    have h : bindT a d ρ fun ρ => bindT b (.seq l ds) ρ Q := h
    obtain ⟨ρ1, h1⟩ := bindT_ex a d ρ _ h
    show ds.length + 1 = b.len + 1
    rw [bindT_len b l ds ρ1 Q hl h1]
  | .nm i, _, _, _, _, hl, _ => by cases hl
theorem chkT_isL {N : List Str} : ∀ (t : Tg) (es : List Expr), chkT N sc fn t (.inr es) = true → t.isL = true ∧ t.len = es.length ∧ ∀ e ∈ es, plainB e = true
  | .nil, [], _ => ⟨rfl, rfl, by simp⟩
  | .cons a b, x :: xs, h => by
    have h : (plainB x && chkT N sc fn a (.inl x) && chkT N sc fn b (.inr xs)) = true := h
    simp only [Bool.and_eq_true] at h
    obtain ⟨h1, h2, h3⟩ := chkT_isL b xs h.2
    refine ⟨h1, by show b.len + 1 = xs.length + 1; rw [h2], fun e he => ?_⟩
    rcases List.mem_cons.mp he with q | q
    · rw [q]; exact h.1.1
    · exact h3 e q
  | .nm i, _, h => by cases h
  | .nil, _ :: _, h => by cases h
  | .cons a b, [], h => by cases h
theorem plain_asg {e : Expr} (h : plainB e = true) (es : List Expr) (env : Env) : assignEach (e :: es) env = (false, assign e env) :: assignEach es env := by
  cases e <;> first | rfl | cases h
theorem asg_len {env : Env} : ∀ (es : List Expr), (∀ e ∈ es, plainB e = true) → (assignEach es env).length = es.length ∧ (assignEach es env).findIdx? (·.1) = none
  | [], _ => ⟨rfl, rfl⟩
  | e :: es, h => by
    obtain ⟨h1, h2⟩ := asg_len (env := env) es fun x hx => h x (List.mem_cons_of_mem _ hx)
    rw [plain_asg (h e List.mem_cons_self)]
    refine ⟨by rw [List.length_cons, h1, List.length_cons], ?_⟩
    rw [List.findIdx?_cons]
    simp [h2]
theorem pg_tupK {es : List Expr} {k : Nat} {t : TGs} {n : Nat} (hK : X.K = K) (hc : X.calm = true) (h : PGs X es t) (hn : (assignEach es X.env).length = n) (hst : (assignEach es X.env).findIdx? (·.1) = none) : PG X (.Tuple es k pos) (gTup K n t) := by
  rw [← hK]; exact pg_tup hc h hn hst
theorem pg_unlK {es : List Expr} {k : Nat} {t : TGs} {n : Nat} (hK : X.K = K) (hc : X.calm = true) (h : PGs X es t) (hn : (assignEach es X.env).length = n) (hst : (assignEach es X.env).findIdx? (·.1) = none) : PG X (.Tuple es k pos) (gUnl K n t) := by
  rw [← hK]; exact pg_unl hc h hn hst
mutual
theorem sG {P : Fz → Hp → L2.St → Ev → Prop} (hP : PV K P) (hK : X.K = K) (hN : X.N = T.N) (nd : T.N.Nodup) (hsc : X.env.scope = sc) (hfn : X.fn = fn) (hc : X.calm = true) : ∀ (t : Tg) (e : Expr), chkT T.N sc fn t (.inl e) = true → PG X e (tG M P t)
  | .nm i, e, h => by
    cases e with
    | Name x p =>
      have h : (decide (T.N[i]? = some x) && locB sc fn x) = true := h
      simp only [Bool.and_eq_true, decide_eq_true_eq] at h
      have hl : L2.Loc X.env.scope x ∧ (X.fn x = true ∨ X.env.scope.names.lookup x = some .local) := by
        have q := h.2
        unfold locB at q
        rw [hsc, hfn]
        unfold L2.Loc
        split at q
        · rename_i e; exact ⟨.inl e, .inr e⟩
        · rename_i e; exact ⟨.inr e, .inl q⟩
        · cases q
      refine PG.impL (pg_name (i := i) (by rw [hN]; exact nd) (by rw [hN]; exact h.1) hl.1 hl.2) fun v σ H Qv len ⟨z, w, d, ρ, Q, a, p, iv, hb, k⟩ => ?_
      have hi : i < σ.length := by
        rw [len, hN]
        exact (List.getElem?_eq_some_iff.mp h.1).1
      exact k _ _ (hP.set p hi iv) (List.length_set) (fun vs hv => wipe_set vs σ i _ (hv i (List.mem_singleton.mpr rfl))) hb
    | _ => cases h
  | .nil, e, h => by
    cases e with
    | Tuple es k p =>
      cases es with
      | nil =>
        refine PG.impL (PG.or (pg_tupK (n := 0) hK hc pgs_nil rfl rfl) (pg_unlK (n := 0) hK hc pgs_nil rfl rfl)) fun v σ H Qv len ⟨z, w, d, ρ, Q, a, p, iv, hb, k⟩ => ?_
        cases d with
        | seq f ds =>
          cases ds with
          | nil =>
            have fin : Qv σ H := k σ ρ p rfl (fun _ _ => rfl) hb
            cases iv with
            | tup hp hs => cases hs; exact .inl ⟨_, _, rfl, a.sqT hp, rfl, rfl, fin⟩
            | lst hp hs => cases hs; exact .inr ⟨_, _, rfl, SqL.of (a.ok.sub _ _ hp), rfl, rfl, fin⟩
          | cons _ _ => exact hb.elim
        | _ => exact hb.elim
      | cons _ _ => cases h
    | _ => cases h
  | .cons ta tb, e, h => by
    cases e with
    | Tuple es kk p =>
      cases es with
      | nil => cases h
      | cons x xs =>
        have h : (plainB x && chkT T.N sc fn ta (.inl x) && chkT T.N sc fn tb (.inr xs)) = true := h
        have h' : chkT T.N sc fn (.cons ta tb) (.inr (x :: xs)) = true := h
        obtain ⟨hl, hlen, hpl⟩ := chkT_isL _ _ h'
        obtain ⟨al, af⟩ := asg_len (env := X.env) (x :: xs) hpl
        simp only [Bool.and_eq_true] at h
        have g1 := sG hP hK hN nd hsc hfn hc ta x h.1.2
        have g2 := sGs hP hK hN nd hsc hfn hc tb xs h.2
        have gs : PGs X (x :: xs) (gCons (tG M P ta) (tGs M P tb)) := pgs_cons g1 g2 (by rw [plain_asg h.1.1]; rfl)
        refine PG.impL (PG.or (pg_tupK hK hc gs al af) (pg_unlK hK hc gs al af)) fun v σ H Qv len ⟨z, w, d, ρ, Q, a, p, iv, hb, k⟩ => ?_
        cases d with
        | seq f ds =>
          have hds := bindT_len _ _ _ _ _ hl hb
          cases ds with
          | nil => exact hb.elim
          | cons d1 ds =>
            have hb : bindT ta d1 ρ fun ρ => bindT tb (.seq f ds) ρ Q := hb
            have fin : ∀ {v1 : V} {us : List V}, Is K z.F z.A v1 d1 → Iss K z.F z.A us ds → gCons (tG M P ta) (tGs M P tb) (v1 :: us) σ H Qv := fun {v1 us} j1 j2 => by
              refine ⟨v1, us, rfl, z, w, d1, ρ, _, a, p, j1, hb, fun σ' ρ' p' len' wq q => ?_⟩
              refine ⟨z, w, f, ds, ρ', Q, a, p', j2, q, fun σ2 ρ2 p2 len2 wq2 q2 => ?_⟩
              refine k σ2 ρ2 p2 (len2.trans len') (fun vs hv => ?_) q2
              rw [wq2 vs fun i hi => hv i (List.mem_append_right _ hi), wq vs fun i hi => hv i (List.mem_append_left _ hi)]
            cases iv with
            | @tup pp vs _ hp hs =>
              have hvs : vs.length = (x :: xs).length := by rw [hs.length, hds, hlen]
              cases hs with
              | cons j1 j2 => exact .inl ⟨_, _, rfl, a.sqT hp, hvs, fin j1 j2⟩
            | @lst pp vs _ hp hs =>
              have hvs : vs.length = (x :: xs).length := by rw [hs.length, hds, hlen]
              cases hs with
              | cons j1 j2 => exact .inr ⟨_, _, rfl, SqL.of (a.ok.sub _ _ hp), hvs, fin j1 j2⟩
        | _ => exact hb.elim
    | _ => cases h
theorem sGs {P : Fz → Hp → L2.St → Ev → Prop} (hP : PV K P) (hK : X.K = K) (hN : X.N = T.N) (nd : T.N.Nodup) (hsc : X.env.scope = sc) (hfn : X.fn = fn) (hc : X.calm = true) : ∀ (t : Tg) (es : List Expr), chkT T.N sc fn t (.inr es) = true → PGs X es (tGs M P t)
  | .nil, [], h => PGs.impL pgs_nil fun us σ H Qv len ⟨z, w, l, ds, ρ, Q, a, p, iv, hb, k⟩ => by
      cases iv with
      | nil => exact ⟨rfl, k σ ρ p rfl (fun _ _ => rfl) hb⟩
      | cons _ _ => exact hb.elim
  | .cons ta tb, x :: xs, h => by
    have h : (plainB x && chkT T.N sc fn ta (.inl x) && chkT T.N sc fn tb (.inr xs)) = true := h
    simp only [Bool.and_eq_true] at h
    have g1 := sG hP hK hN nd hsc hfn hc ta x h.1.2
    have g2 := sGs hP hK hN nd hsc hfn hc tb xs h.2
    refine PGs.impL (pgs_cons g1 g2 (by rw [plain_asg h.1.1]; rfl)) fun us σ H Qv len ⟨z, w, f, ds, ρ, Q, a, p, iv, hb, k⟩ => ?_
    cases iv with
    | nil => exact hb.elim
    | @cons v1 us d1 ds j1 j2 =>
      have hb : bindT ta d1 ρ fun ρ => bindT tb (.seq f ds) ρ Q := hb
      refine ⟨v1, us, rfl, z, w, d1, ρ, _, a, p, j1, hb, fun σ' ρ' p' len' wq q => ?_⟩
      refine ⟨z, w, f, ds, ρ', Q, a, p', j2, q, fun σ2 ρ2 p2 len2 wq2 q2 => ?_⟩
      refine k σ2 ρ2 p2 (len2.trans len') (fun vs hv => ?_) q2
      rw [wq2 vs fun i hi => hv i (List.mem_append_right _ hi), wq vs fun i hi => hv i (List.mem_append_left _ hi)]
  | .nm i, _, h => by cases h
  | .nil, _ :: _, h => by cases h
  | .cons ta tb, [], h => by cases h
end
end
end Ab

namespace Ab
open PySem PySem.Spec PyProof.Rows L2
section
variable {K : PySem.W.Frag} {M : WM K} {T : Tab} {Φ : Nat → Fn M.Wd} {XE : XD → XK → Hp → Prop} {X : Cx} {sc : Scope} {fn : Str → Bool} {Ex : XK} {z z1 z2 : Fz} {H H1 H2 : Hp} {w : M.Wd} {pos : Pos}
  {a b c es : E} {l r x y tg : Expr} {xs : List Expr}
theorem At.updOwn {p : Addr} {o : HO} (a : At M z H w) (n : z.F p = none) (t : ¬ z.T p) : At M z (upd H p o) w := by
  refine ⟨⟨fun q u h => ?_, a.ok.dis, fun q hq => ?_⟩, M.mono (F' := z.F) a.r (fun _ _ h => h) fun q hq => upd_ne fun e => t (e ▸ hq)⟩
  · rw [upd_ne (ne_of_none h n)]
    exact a.ok.sub q u h
  · by_cases e : q = p
    · subst e; exact absurd hq t
    · rw [upd_ne e]; exact a.ok.thr q hq
theorem Le.updOwn {p : Addr} {o : HO} (le : z.Le z1 H H1) (hp : H p = none) : z.Le z1 H (upd H1 p o) where
  fF := le.fF
  nw := le.nw
  kp := fun q u h t => by
    rw [upd_ne (ne_of_none h hp)]
    exact le.kp q u h t
  st := fun q h => by
    by_cases e : q = p
    · subst e; exact hp
    · rw [upd_ne e] at h; exact le.st q h
  tw := le.tw
  aw := le.aw
theorem wipe_wipe (σ : L2.St) (vs : List Nat) : wipe (wipe σ vs) vs = wipe σ vs := by
  have key : ∀ (us : List Nat) (τ : L2.St), (∀ i ∈ us, ∀ j, j = i → τ[j]? = some none ∨ τ[j]? = none) → wipe τ us = τ := by
    intro us
    induction us with
    | nil => intro τ _; rfl
    | cons i us ih =>
      intro τ ht
      show (wipe τ us).set i none = τ
      rw [ih τ fun j hj => ht j (List.mem_cons_of_mem _ hj)]
      rcases ht i List.mem_cons_self i rfl with e | e
      · obtain ⟨h1, h2⟩ := List.getElem?_eq_some_iff.mp e
        apply List.ext_getElem?
        intro j
        by_cases ji : i = j
        · subst ji; rw [List.getElem?_set_self h1, e]
        · rw [List.getElem?_set_ne ji]
      · have : τ.length ≤ i := List.getElem?_eq_none_iff.mp e
        exact List.set_eq_of_length_le this
  refine key vs _ fun i hi j e => ?_
  subst e
  cases q : (wipe σ vs)[j]? with
  | none => exact .inr rfl
  | some o =>
    cases o with
    | none => exact .inl rfl
    | some u => exact absurd hi (wipe_some q).2
abbrev stepC (Φ : Nat → Fn M.Wd) (t : Tg) (elt : E) (ρ : Ev) : Ab.D → M.Wd → (Option Ab.D → M.Wd → Prop) → Prop := fun d w k => bindT t d (clr ρ t.slots) fun ρ' => evalE Φ elt (fun _ _ => False) ρ' w fun y w => k (some y.d) w
abbrev stepI (Φ : Nat → Fn M.Wd) (t : Tg) (c elt : E) (ρ : Ev) : Ab.D → M.Wd → (Option Ab.D → M.Wd → Prop) → Prop := fun d w k => bindT t d (clr ρ t.slots) fun ρ' => evalE Φ c (fun _ _ => False) ρ' w fun b w => match b.d with
  | .bl true => evalE Φ elt (fun _ _ => False) ρ' w fun y w => k (some y.d) w
  | .bl false => k none w
  | _ => False
/-- what stands between two turns of a comprehension -/
def LcP (M : WM K) (z1 : Fz) (H1 : Hp) (D : Addr) (step : Ab.D → M.Wd → (Option Ab.D → M.Wd → Prop) → Prop) (xs : List Ab.D) (Q : Rs → M.Wd → Prop) (i : Nat) (H' : Hp) : Prop :=
  ∃ (z' : Fz) (w' : M.Wd) (ys : List Ab.D) (vs : List V), At M z' H' w' ∧ z1.Le z' H1 H' ∧ H' D = some (.lst vs) ∧ z'.F D = none ∧ ¬ z'.T D ∧ Iss K z'.F z'.A vs ys ∧ ys.length ≤ i ∧ compW step (xs.drop i) w' (fun zs w => Q (.fresh (ys ++ zs)) w)
theorem lcP_turn {D : Addr} {step : Ab.D → M.Wd → (Option Ab.D → M.Wd → Prop) → Prop} {xs : List Ab.D} {Q : Rs → M.Wd → Prop} {i : Nat} {z' : Fz} {H' : Hp} {w' : M.Wd} {ys zs : List Ab.D} {vs us : List V} (h1 : H1 D = none) (a : At M z' H' w') (le : z1.Le z' H1 H') (hD : H' D = some (.lst vs))
    (n : z'.F D = none) (t : ¬ z'.T D) (hs : Iss K z'.F z'.A (vs ++ us) (ys ++ zs)) (hl : (ys ++ zs).length ≤ i + 1) (q : compW step (xs.drop (i + 1)) w' (fun rs w => Q (.fresh (ys ++ (zs ++ rs))) w)) :
    LcP M z1 H1 D step xs Q (i + 1) (upd H' D (.lst (vs ++ us))) :=
  ⟨z', w', ys ++ zs, vs ++ us, a.updOwn n t, Le.updOwn le h1, upd_same, n, t, hs, hl, by simpa only [List.append_assoc] using q⟩
abbrev gE (M : WM K) (t : Tg) : TG := tG M (EV K) t
theorem lc_imp {t : Tg} {src elt : E} {own : List (Str × Nat)} (ho : own.map (·.2) = t.slots) {σ : L2.St} {Qv : VK} (h : tE M Φ XE (.comp t src elt) Ex σ H Qv) :
    tLc (tI M Φ XE src Ex) (gE M t) tYes (tE M Φ XE elt E0) (own.map (·.2)) σ H Qv := by
  obtain ⟨z, w, ρ, XP, Q, at_, v, xo, h, k⟩ := h
  simp only [evalE] at h
  refine ⟨z, w, ρ, XP, _, at_, v, xo, h, fun J z1 H1 w1 xs a1 l1 wd q1 => ?_⟩
  obtain ⟨hz, q1⟩ : xs.length ≤ sizeLine ∧ compW (stepC Φ t elt ρ) xs w1 fun ys w => Q (.fresh ys) w := q1
  intro D hD
  rw [ho]
  refine lc_it wd.w (LcP M z1 H1 D (stepC Φ t elt ρ) xs Q) ⟨z1, w1, [], [], a1.new hD, Fz.Le.new hD, upd_same, a1.ok.none hD, fun t => a1.ok.thr D t hD, .nil, Nat.le_refl _, by simpa using q1⟩ (fun i H' _ ⟨z', w', ys, vs, a, le, _⟩ b u e => a.ok.sub _ _ (le.fF b u e)) ?_ ?_
  · rintro i x H' H2 hi ⟨z', w', ys, vs, a, le, hv, n, nt, hs, hl, q⟩ hy
    obtain ⟨z2, d, a2, l2, hd, iv⟩ := hy z' w' a le.fF le.aw
    have hi2 : i < xs.length := hi
    have ed : xs[i] = d := by
      rw [List.getElem?_eq_getElem hi2] at hd
      exact Option.some.inj hd
    rw [List.drop_eq_getElem_cons hi2, ed] at q
    have q : bindT t d (clr ρ t.slots) fun ρ' => evalE Φ elt (fun _ _ => False) ρ' w' fun y w => compW (stepC Φ t elt ρ) (xs.drop (i + 1)) w fun rs w => Q (.fresh (ys ++ (([y.d] : List Ab.D) ++ rs))) w := q
    have le2 := le.trans l2
    refine ⟨z2, w', d, clr ρ t.slots, _, a2, ((v.mono l1).mono le2).clr _, iv, q, fun σ' ρ' p' len' wq q2 => ⟨(wq t.slots fun _ h => h).trans ?_, ?_⟩⟩
    · exact wipe_wipe σ t.slots
    · unfold tYes
      dsimp only
      rw [if_pos rfl]
      have q2 : evalE Φ elt (fun _ _ => False) ρ' w' fun y w => compW (stepC Φ t elt ρ) (xs.drop (i + 1)) w fun rs w => Q (.fresh (ys ++ (([y.d] : List Ab.D) ++ rs))) w := q2
      refine tE_use (XP := fun _ _ => False) a2 p' (fun x z' H' w' _ _ f => f.elim) q2 fun u z3 H3 w3 r3 a3 l3 i3 q3 => ?_
      obtain ⟨o2, n2, t2⟩ := Le.own l2 hv n nt
      obtain ⟨o3, n3, t3⟩ := Le.own l3 o2 n2 t2
      have hvl : vs.length < sizeLine := by rw [hs.length]; omega
      refine ⟨vs, o3, hvl, ?_⟩
      refine lcP_turn hD a3 (le2.trans l3) o3 n3 t3 ((hs.mono (l2.trans l3).fF (l2.trans l3).aw).append (.cons i3 .nil)) (by simp; omega) q3
  · rintro H' ⟨z', w', ys, vs, a, le, hv, n, nt, hs, hl, q⟩
    rw [List.drop_length] at q
    have q : Q (.fresh (ys ++ [])) w' := q
    rw [List.append_nil] at q
    exact k (.ref D) z' H' w' (.fresh ys) a (l1.trans le) ⟨D, vs, rfl, l1.st D hD, n, nt, hv, hs⟩ q
theorem lc_impIf {t : Tg} {src c elt : E} {own : List (Str × Nat)} (ho : own.map (·.2) = t.slots) {σ : L2.St} {Qv : VK} (h : tE M Φ XE (.compIf t src c elt) Ex σ H Qv) :
    tLc (tI M Φ XE src Ex) (gE M t) (tT M Φ XE c E0) (tE M Φ XE elt E0) (own.map (·.2)) σ H Qv := by
  obtain ⟨z, w, ρ, XP, Q, at_, v, xo, h, k⟩ := h
  simp only [evalE] at h
  refine ⟨z, w, ρ, XP, _, at_, v, xo, h, fun J z1 H1 w1 xs a1 l1 wd q1 => ?_⟩
  obtain ⟨hz, q1⟩ : xs.length ≤ sizeLine ∧ compW (stepI Φ t c elt ρ) xs w1 fun ys w => Q (.fresh ys) w := q1
  intro D hD
  rw [ho]
  refine lc_it wd.w (LcP M z1 H1 D (stepI Φ t c elt ρ) xs Q) ⟨z1, w1, [], [], a1.new hD, Fz.Le.new hD, upd_same, a1.ok.none hD, fun t => a1.ok.thr D t hD, .nil, Nat.le_refl _, by simpa using q1⟩ (fun i H' _ ⟨z', w', ys, vs, a, le, _⟩ b u e => a.ok.sub _ _ (le.fF b u e)) ?_ ?_
  · rintro i x H' H2 hi ⟨z', w', ys, vs, a, le, hv, n, nt, hs, hl, q⟩ hy
    obtain ⟨z2, d, a2, l2, hd, iv⟩ := hy z' w' a le.fF le.aw
    have hi2 : i < xs.length := hi
    have ed : xs[i] = d := by
      rw [List.getElem?_eq_getElem hi2] at hd
      exact Option.some.inj hd
    rw [List.drop_eq_getElem_cons hi2, ed] at q
    have q : bindT t d (clr ρ t.slots) fun ρ' => evalE Φ c (fun _ _ => False) ρ' w' fun b w => match b.d with
        | .bl true => evalE Φ elt (fun _ _ => False) ρ' w fun y w => compW (stepI Φ t c elt ρ) (xs.drop (i + 1)) w fun rs w => Q (.fresh (ys ++ (([y.d] : List Ab.D) ++ rs))) w
        | .bl false => compW (stepI Φ t c elt ρ) (xs.drop (i + 1)) w fun rs w => Q (.fresh (ys ++ (([] : List Ab.D) ++ rs))) w
        | _ => False := q
    have le2 := le.trans l2
    refine ⟨z2, w', d, clr ρ t.slots, _, a2, ((v.mono l1).mono le2).clr _, iv, q, fun σ' ρ' p' len' wq q2 => ⟨(wq t.slots fun _ h => h).trans (wipe_wipe σ t.slots), ?_⟩⟩
    have q2 : evalE Φ c (fun _ _ => False) ρ' w' fun b w => match b.d with
        | .bl true => evalE Φ elt (fun _ _ => False) ρ' w fun y w => compW (stepI Φ t c elt ρ) (xs.drop (i + 1)) w fun rs w => Q (.fresh (ys ++ (([y.d] : List Ab.D) ++ rs))) w
        | .bl false => compW (stepI Φ t c elt ρ) (xs.drop (i + 1)) w fun rs w => Q (.fresh (ys ++ (([] : List Ab.D) ++ rs))) w
        | _ => False := q2
    refine tT_use (XP := fun _ _ => False) a2 p' (fun x z' H' w' _ _ f => f.elim) q2 (fun r w' q => ?_) fun bb z3 H3 w3 r3 a3 l3 e3 q3 => ?_
    · generalize r.d = d at q
      cases d with
      | bl b => exact ⟨b, rfl⟩
      | _ => exact q.elim
    · rw [e3] at q3
      obtain ⟨o2, n2, t2⟩ := Le.own l2 hv n nt
      obtain ⟨o3, n3, t3⟩ := Le.own l3 o2 n2 t2
      cases bb with
      | true =>
        rw [if_pos rfl]
        refine tE_use (XP := fun _ _ => False) a3 (p'.mono l3) (fun x z' H' w' _ _ f => f.elim) q3 fun u z4 H4 w4 r4 a4 l4 i4 q4 => ?_
        obtain ⟨o4, n4, t4⟩ := Le.own l4 o3 n3 t3
        have hvl : vs.length < sizeLine := by rw [hs.length]; omega
        refine ⟨vs, o4, hvl, ?_⟩
        have l24 := (l2.trans l3).trans l4
        exact lcP_turn hD a4 (le.trans l24) o4 n4 t4 ((hs.mono l24.fF l24.aw).append (.cons i4 .nil)) (by simp; omega) q4
      | false =>
        rw [if_neg Bool.false_ne_true]
        have l23 := l2.trans l3
        refine ⟨z3, w3, ys, vs, a3, le.trans l23, o3, n3, t3, hs.mono l23.fF l23.aw, by omega, ?_⟩
        have q3 : compW (stepI Φ t c elt ρ) (xs.drop (i + 1)) w3 fun rs w => Q (.fresh (ys ++ (([] : List Ab.D) ++ rs))) w := q3
        simpa only [List.nil_append] using q3
  · rintro H' ⟨z', w', ys, vs, a, le, hv, n, nt, hs, hl, q⟩
    rw [List.drop_length] at q
    have q : Q (.fresh (ys ++ [])) w' := q
    rw [List.append_nil] at q
    exact k (.ref D) z' H' w' (.fresh ys) a (l1.trans le) ⟨D, vs, rfl, l1.st D hD, n, nt, hv, hs⟩ q
theorem Hy.blk (hy : Hy M T Φ XE X sc fn Ex) (s : Shared) (H : Hp) (scope : Scope) (C : Addr) (cl : List (Str × Addr)) (fp : List Addr) :
    Hy M T Φ XE (X.blk s H scope (compEnvC scope cl C X.env) fp) (relS scope sc) (cellFn scope) E0 :=
  ⟨hy.hK, hy.hN, by show relS scope X.env.scope = _; rw [hy.hsc], rfl, hy.nd, hy.calm, hy.hu, hy.blt, hy.cst, hy.css, hy.fns, passL⟩
theorem ownOf_slots (N : List Str) (t : Tg) : (ownOf N t).map (·.2) = t.slots := by
  unfold ownOf
  rw [List.map_map]
  have : ((fun x : Str × Nat => x.2) ∘ fun i => (N.getD i "", i)) = id := rfl
  rw [this, List.map_id]
theorem plain_fold {e : Expr} (h : plainB e = true) (env : Env) : ∀ x, foldedSetIterable e env x = pure x := by
  intro x
  cases e <;> first | rfl | cases h
/-! list(range(..)) -/
theorem prg_imp {t : Expr} {f : L2.St → Hp → (Int → Int → Hp → Prop) → Prop} (h : PRg X t f) : PRg X t f := h
theorem rg_iss {F : Hp} {A : List Addr} (i j : Int) : Iss K F A (rgV i j) (rgD i j) := by
  have e1 : rgV i j = ((List.range (j - i).toNat).map fun (n : Nat) => i + (n : Int)).map V.int := by
    unfold rgV; rw [List.map_map]; rfl
  have e2 : rgD i j = ((List.range (j - i).toNat).map fun (n : Nat) => i + (n : Int)).map Ab.D.int := by
    unfold rgD; rw [List.map_map]; rfl
  rw [e1, e2]
  exact Iss.of_ints _
theorem sE_lrange1 {u u2 : Str} {p p2 pos2 : Pos} (hy : Hy M T Φ XE X sc fn Ex) (hu : u = "list") (hu2 : glB sc u = true) (h1 : u2 = "range") (h2 : glB sc u2 = true) (hp : plainB x = true) (ha : PE X x (tE M Φ XE a Ex)) :
    PE X (.Call (.Name u p) [.Call (.Name u2 p2) [x] [] pos2] [] pos) (tE M Φ XE (.lrange (.cons a .nil)) Ex) := by
  subst hu h1
  refine PE.imp (pe_listRg hy.calm (glB_d hy hu2) (hy.blt _ (by decide +kernel)) (prg_1 (glB_d hy h2) (hy.blt _ (by decide +kernel)) ha (plain_star hp _ _))) fun σ H Qv ⟨z, w, ρ, XP, Q, at_, v, xo, h, k⟩ => ?_
  simp only [evalE] at h
  refine tE_use at_ v xo h fun u z1 H1 w1 r1 a1 l1 i1 q1 => ?_
  have q1 : rangeD [r1.d] fun xs => xs.length ≤ 2 ^ 24 ∧ Q (.fresh xs) w1 := q1
  generalize r1.d = d at i1 q1
  cases i1 with
  | int j =>
    obtain ⟨⟨o1, o2⟩, hz, q⟩ : okR j ∧ (rgD 0 j).length ≤ 2 ^ 24 ∧ Q (.fresh (rgD 0 j)) w1 := q1
    refine ⟨j, rfl, ⟨by omega, by omega, o1, o2, ?_⟩, fun q' hq' => (Fin.of l1 k).lst a1 (rg_iss 0 j) q hq'⟩
    unfold rgD at hz
    rw [List.length_map, List.length_range] at hz
    exact hz
  | _ => exact q1.elim
theorem sE_lrange2 {u u2 : Str} {p p2 pos2 : Pos} (hy : Hy M T Φ XE X sc fn Ex) (hu : u = "list") (hu2 : glB sc u = true) (h1 : u2 = "range") (h2 : glB sc u2 = true) (hp : plainB x = true) (hp2 : plainB y = true) (ha : PE X x (tE M Φ XE a Ex)) (hb : PE X y (tE M Φ XE b Ex)) :
    PE X (.Call (.Name u p) [.Call (.Name u2 p2) [x, y] [] pos2] [] pos) (tE M Φ XE (.lrange (.cons a (.cons b .nil))) Ex) := by
  subst hu h1
  refine PE.imp (pe_listRg hy.calm (glB_d hy hu2) (hy.blt _ (by decide +kernel)) (prg_2 (glB_d hy h2) (hy.blt _ (by decide +kernel)) ha hb (plain_star hp _ _) (plain_star hp2 _ _) (by rw [plain_star hp2]; rfl))) fun σ H Qv ⟨z, w, ρ, XP, Q, at_, v, xo, h, k⟩ => ?_
  simp only [evalE] at h
  refine tE_use at_ v xo h fun u z1 H1 w1 r1 a1 l1 i1 q1 => ?_
  refine tE_use a1 (v.mono l1) (xo.mono l1) q1 fun u2 z2 H2 w2 r2 a2 l2 i2 q2 => ?_
  have q2 : rangeD [r1.d, r2.d] fun xs => xs.length ≤ 2 ^ 24 ∧ Q (.fresh xs) w2 := q2
  generalize r1.d = d at i1 q1 q2
  generalize r2.d = d2 at i2 q2
  cases i1 with
  | int i => cases i2 with
    | int j =>
      obtain ⟨⟨⟨o1, o2⟩, o3, o4⟩, hz, q⟩ : (okR i ∧ okR j) ∧ (rgD i j).length ≤ 2 ^ 24 ∧ Q (.fresh (rgD i j)) w2 := q2
      refine ⟨i, j, rfl, rfl, ⟨o1, o2, o3, o4, ?_⟩, fun q' hq' => (Fin.of (l1.trans l2) k).lst a2 (rg_iss i j) q hq'⟩
      unfold rgD at hz
      rw [List.length_map, List.length_range] at hz
      exact hz
    | _ => exact q2.elim
  | _ => cases d2 <;> exact q2.elim
theorem sE_trange1 {u u2 : Str} {p p2 pos2 : Pos} (hy : Hy M T Φ XE X sc fn Ex) (hu : u = "tuple") (hu2 : glB sc u = true) (h1 : u2 = "range") (h2 : glB sc u2 = true) (hp : plainB x = true) (ha : PE X x (tE M Φ XE a Ex)) :
    PE X (.Call (.Name u p) [.Call (.Name u2 p2) [x] [] pos2] [] pos) (tE M Φ XE (.trange (.cons a .nil)) Ex) := by
  subst hu h1
  refine PE.imp (pe_tupRg hy.calm (glB_d hy hu2) (hy.blt _ (by decide +kernel)) (prg_1 (glB_d hy h2) (hy.blt _ (by decide +kernel)) ha (plain_star hp _ _))) fun σ H Qv ⟨z, w, ρ, XP, Q, at_, v, xo, h, k⟩ => ?_
  simp only [evalE] at h
  refine tE_use at_ v xo h fun u z1 H1 w1 r1 a1 l1 i1 q1 => ?_
  have q1 : rangeD [r1.d] fun xs => xs.length ≤ 2 ^ 24 ∧ Q (.dat (.seq false xs)) w1 := q1
  generalize r1.d = d at i1 q1
  cases i1 with
  | int j =>
    obtain ⟨⟨o1, o2⟩, hz, q⟩ : okR j ∧ (rgD 0 j).length ≤ 2 ^ 24 ∧ Q (.dat (.seq false (rgD 0 j))) w1 := q1
    refine ⟨j, rfl, ⟨by omega, by omega, o1, o2, ?_⟩, fun q' hq' => (Fin.of l1 k).tup a1 (rg_iss 0 j) q hq'⟩
    unfold rgD at hz
    rw [List.length_map, List.length_range] at hz
    exact hz
  | _ => exact q1.elim
theorem sE_trange2 {u u2 : Str} {p p2 pos2 : Pos} (hy : Hy M T Φ XE X sc fn Ex) (hu : u = "tuple") (hu2 : glB sc u = true) (h1 : u2 = "range") (h2 : glB sc u2 = true) (hp : plainB x = true) (hp2 : plainB y = true) (ha : PE X x (tE M Φ XE a Ex)) (hb : PE X y (tE M Φ XE b Ex)) :
    PE X (.Call (.Name u p) [.Call (.Name u2 p2) [x, y] [] pos2] [] pos) (tE M Φ XE (.trange (.cons a (.cons b .nil))) Ex) := by
  subst hu h1
  refine PE.imp (pe_tupRg hy.calm (glB_d hy hu2) (hy.blt _ (by decide +kernel)) (prg_2 (glB_d hy h2) (hy.blt _ (by decide +kernel)) ha hb (plain_star hp _ _) (plain_star hp2 _ _) (by rw [plain_star hp2]; rfl))) fun σ H Qv ⟨z, w, ρ, XP, Q, at_, v, xo, h, k⟩ => ?_
  simp only [evalE] at h
  refine tE_use at_ v xo h fun u z1 H1 w1 r1 a1 l1 i1 q1 => ?_
  refine tE_use a1 (v.mono l1) (xo.mono l1) q1 fun u2 z2 H2 w2 r2 a2 l2 i2 q2 => ?_
  have q2 : rangeD [r1.d, r2.d] fun xs => xs.length ≤ 2 ^ 24 ∧ Q (.dat (.seq false xs)) w2 := q2
  generalize r1.d = d at i1 q1 q2
  generalize r2.d = d2 at i2 q2
  cases i1 with
  | int i => cases i2 with
    | int j =>
      obtain ⟨⟨⟨o1, o2⟩, o3, o4⟩, hz, q⟩ : (okR i ∧ okR j) ∧ (rgD i j).length ≤ 2 ^ 24 ∧ Q (.dat (.seq false (rgD i j))) w2 := q2
      refine ⟨i, j, rfl, rfl, ⟨o1, o2, o3, o4, ?_⟩, fun q' hq' => (Fin.of (l1.trans l2) k).tup a2 (rg_iss i j) q hq'⟩
      unfold rgD at hz
      rw [List.length_map, List.length_range] at hz
      exact hz
    | _ => exact q2.elim
  | _ => cases d2 <;> exact q2.elim
end
end Ab

namespace Ab
open PySem PySem.Spec PyProof.Rows L2
section
variable {K : PySem.W.Frag} {M : WM K} {T : Tab} {Φ : Nat → Fn M.Wd} {XE : XD → XK → Hp → Prop} {X : Cx} {sc : Scope} {fn : Str → Bool} {Ex : XK} {z z1 z2 : Fz} {H H1 H2 : Hp} {w : M.Wd} {pos : Pos}
  {a b c es : E} {l r x y tg : Expr} {xs : List Expr}
def MonoF {Wd : Type} (Φ : Nat → Fn Wd) : Prop := ∀ f ds w (Q Q' : Rs → Wd → Prop) (P P' : XD → Wd → Prop), (∀ r w, Q r w → Q' r w) → (∀ r w, P r w → P' r w) → Φ f ds w Q P → Φ f ds w Q' P'
/-- what the check gives of a piece -/
structure Snd (M : WM K) (T : Tab) (Φ : Nat → Fn M.Wd) (XE : XD → XK → Hp → Prop) (e : E) : Prop where
  pe : ∀ {X sc fn Ex x}, Hy M T Φ XE X sc fn Ex → chk T e sc fn (.e x) = true → PE X x (tE M Φ XE e Ex)
  pt : ∀ {X sc fn Ex x}, Hy M T Φ XE X sc fn Ex → chk T e sc fn (.e x) = true → PT X x (tT M Φ XE e Ex)
  pw : ∀ {X sc fn Ex op ys pos}, Hy M T Φ XE X sc fn Ex → chk T e sc fn (.e (.BoolOp op ys pos)) = true → PW X (.BoolOp op ys pos) (tT M Φ XE e Ex)
  pa : ∀ {X sc fn Ex xs}, Hy M T Φ XE X sc fn Ex → chk T e sc fn (.es xs) = true → PA X xs (tA M Φ XE e Ex)
  pl : ∀ {sc fn xs}, chk T e sc fn (.es xs) = true → ∀ x ∈ xs, plainB x = true
  pi : ∀ {X sc fn Ex tg x}, Hy M T Φ XE X sc fn Ex → chk T e sc fn (.it tg x) = true → PI X tg x (tI M Φ XE e Ex)
  nl : ∀ {sc fn}, chk T e sc fn (.es []) = true → e = .nil
theorem tT_and (hq : ∀ r : Rs, True) {σ : L2.St} {Qv : Bool → Hp → Prop} (h : tT M Φ XE (.and_ a b) Ex σ H Qv) : tAnd (tT M Φ XE a Ex) (tT M Φ XE b Ex) σ H Qv := by
  obtain ⟨z, w, ρ, XP, Q, at_, v, xo, h, hb, k⟩ := h
  simp only [evalE] at h
  refine tT_use at_ v xo h (fun r w' q => ?_) fun t z1 H1 w1 r1 a1 l1 e1 q1 => ?_
  · generalize r.d = d at q
    cases d with
    | bl b => exact ⟨b, rfl⟩
    | _ => exact q.elim
  · rw [e1] at q1
    cases t with
    | true =>
      rw [if_pos rfl]
      exact tT_use a1 (v.mono l1) (xo.mono l1) q1 hb fun t2 z2 H2 w2 r2 a2 l2 e2 q2 => k t2 z2 H2 w2 r2 a2 (l1.trans l2) e2 q2
    | false =>
      rw [if_neg Bool.false_ne_true]
      exact k false z1 H1 w1 (.dat (.bl false)) a1 l1 rfl q1
theorem tT_or (hq : ∀ r : Rs, True) {σ : L2.St} {Qv : Bool → Hp → Prop} (h : tT M Φ XE (.or_ a b) Ex σ H Qv) : tOr (tT M Φ XE a Ex) (tT M Φ XE b Ex) σ H Qv := by
  obtain ⟨z, w, ρ, XP, Q, at_, v, xo, h, hb, k⟩ := h
  simp only [evalE] at h
  refine tT_use at_ v xo h (fun r w' q => ?_) fun t z1 H1 w1 r1 a1 l1 e1 q1 => ?_
  · generalize r.d = d at q
    cases d with
    | bl b => exact ⟨b, rfl⟩
    | _ => exact q.elim
  · rw [e1] at q1
    cases t with
    | false =>
      rw [if_neg Bool.false_ne_true]
      exact tT_use a1 (v.mono l1) (xo.mono l1) q1 hb fun t2 z2 H2 w2 r2 a2 l2 e2 q2 => k t2 z2 H2 w2 r2 a2 (l1.trans l2) e2 q2
    | true =>
      rw [if_pos rfl]
      exact k true z1 H1 w1 (.dat (.bl true)) a1 l1 rfl q1
theorem tT_not {σ : L2.St} {Qv : Bool → Hp → Prop} (h : tT M Φ XE (.not_ a) Ex σ H Qv) : tNot (tT M Φ XE a Ex) σ H Qv := by
  obtain ⟨z, w, ρ, XP, Q, at_, v, xo, h, hb, k⟩ := h
  simp only [evalE] at h
  refine tT_use at_ v xo h (fun r w' q => ?_) fun t z1 H1 w1 r1 a1 l1 e1 q1 => ?_
  · generalize r.d = d at q
    cases d with
    | bl b => exact ⟨b, rfl⟩
    | _ => exact q.elim
  · rw [e1] at q1
    exact k _ z1 H1 w1 (.dat (.bl (!t))) a1 l1 rfl q1
def tIfT (t u v : TT) : TT := fun σ H Q => t σ H fun c H1 => if c = true then u σ H1 Q else v σ H1 Q
theorem pt_ifExp {t u v : Expr} {tc ta tb : TT} (hc : PT X t tc) (ha : PT X u ta) (hb : PT X v tb) : PT X (.IfExp t u v pos) (tIfT tc ta tb) := by
  refine ⟨fun pins s σ H Q I h => ?_⟩
  refine isTrue_IfExp (thn (hc.run pins s σ H _ I h) fun d s1 ⟨H1, I1, q1⟩ => ?_)
  cases d with
  | true => exact ha.run pins s1 σ H1 Q I1 q1
  | false => exact hb.run pins s1 σ H1 Q I1 q1
theorem sT_ite {t u v : Expr} (hc : PT X t (tT M Φ XE c Ex)) (ha : PT X u (tT M Φ XE a Ex)) (hb : PT X v (tT M Φ XE b Ex)) : PT X (.IfExp t u v pos) (tT M Φ XE (.ite c a b) Ex) := by
  refine PT.imp (pt_ifExp hc ha hb) fun σ H Qv ⟨z, w, ρ, XP, Q, at_, v, xo, h, hbl, k⟩ => ?_
  simp only [evalE] at h
  refine tT_use at_ v xo h (fun r w' q => ?_) fun t z1 H1 w1 r1 a1 l1 e1 q1 => ?_
  · generalize r.d = d at q
    cases d with
    | bl b => exact ⟨b, rfl⟩
    | _ => exact q.elim
  · rw [e1] at q1
    cases t with
    | true =>
      rw [if_pos rfl]
      exact tT_use a1 (v.mono l1) (xo.mono l1) q1 hbl fun t2 z2 H2 w2 r2 a2 l2 e2 q2 => k t2 z2 H2 w2 r2 a2 (l1.trans l2) e2 q2
    | false =>
      rw [if_neg Bool.false_ne_true]
      exact tT_use a1 (v.mono l1) (xo.mono l1) q1 hbl fun t2 z2 H2 w2 r2 a2 l2 e2 q2 => k t2 z2 H2 w2 r2 a2 (l1.trans l2) e2 q2
theorem PW.imp {e : Expr} {t t' : TT} (h : PW X e t) (i : ∀ σ H Q, t' σ H Q → t σ H Q) : PW X e t' := ⟨fun wh pins s σ H Q I q => h.run wh pins s σ H Q I (i σ H Q q)⟩
theorem sT_cmp {o : Cop} {op : CmpOp} (hy : Hy M T Φ XE X sc fn Ex) (ho : copB o op = true) (hp : plainB r = true) (ha : PE X l (tE M Φ XE a Ex)) (hb : PE X r (tE M Φ XE b Ex)) : PT X (.Compare l [op] [r] pos) (tT M Φ XE (.cmp o a b) Ex) := by
  obtain ⟨rr, hr, hd⟩ := opC (M := M) hy.hK hy.hu o
  have eo : op = copOf o := by cases o <;> cases op <;> first | rfl | cases ho
  subst eo
  refine PT.imp (pt_cmpR hr ha hb (plain_nm hp _)) fun σ H Qv ⟨z, w, ρ, XP, Q, at_, v, xo, h, hbl, k⟩ => ?_
  simp only [evalE] at h
  refine tE_use at_ v xo h fun u z1 H1 w1 r1 a1 l1 i1 q1 => ?_
  refine tE_use a1 (v.mono l1) (xo.mono l1) q1 fun u2 z2 H2 w2 r2 a2 l2 i2 q2 => ?_
  refine hd (Q := fun r => Q r w2) a2 (i1.mono l2.fF l2.aw) i2 q2 fun v3 z3 H3 r3 a3 l3 i3 q3 => ?_
  obtain ⟨t, e⟩ := hbl _ _ q3
  obtain ⟨z4, a4, l4, i4⟩ := i3.fz a3 l3
  rw [e] at i4
  cases i4
  exact ⟨t, rfl, k t z4 H3 w2 r3 a4 ((l1.trans l2).trans l4) e q3⟩
theorem sT_chain {o p : Cop} {op op' : CmpOp} {r' : Expr} (hy : Hy M T Φ XE X sc fn Ex) (ho : copB o op = true) (ho' : copB p op' = true) (hp' : plainB r' = true) (ha : PE X l (tE M Φ XE a Ex)) (hb : PE X r (tE M Φ XE b Ex)) (hc : PE X r' (tE M Φ XE c Ex)) :
    PT X (.Compare l [op, op'] [r, r'] pos) (tT M Φ XE (.chain o p a b c) Ex) := by
  obtain ⟨rr, hr, hd⟩ := opC (M := M) hy.hK hy.hu o
  obtain ⟨rr', hr', hd'⟩ := opC (M := M) hy.hK hy.hu p
  have eo : op = copOf o := by cases o <;> cases op <;> first | rfl | cases ho
  have eo' : op' = copOf p := by cases p <;> cases op' <;> first | rfl | cases ho'
  subst eo eo'
  refine PT.imp (pt_chain hr hr' ha hb hc (plain_lm hp' _ _)) fun σ H Qv ⟨z, w, ρ, XP, Q, at_, v, xo, h, hbl, k⟩ => ?_
  simp only [evalE] at h
  refine tE_use at_ v xo h fun u z1 H1 w1 r1 a1 l1 i1 q1 => ?_
  refine tE_use a1 (v.mono l1) (xo.mono l1) q1 fun u2 z2 H2 w2 r2 a2 l2 i2 q2 => ?_
  refine hd (Q := fun rs => ∃ t, rs = .dat (.bl t) ∧ (if t = true then evalE Φ c XP ρ w2 fun u w => cmpD p r2.d u.d fun d => Q (.dat d) w else Q (.dat (.bl false)) w2)) a2 (i1.mono l2.fF l2.aw) i2 (cmp_imp (fun d hd => ?_) (cmp_bl q2)) fun v3 z3 H3 rs a3 l3 ir q3 => ?_
  · obtain ⟨t, e, q⟩ := hd
    subst e
    cases t with
    | true => exact ⟨true, rfl, q⟩
    | false => exact ⟨false, rfl, q⟩
  · obtain ⟨t, e, q⟩ := q3
    subst e
    have ir : Is K z3.F z3.A v3 (.bl t) := ir
    cases ir
    refine ⟨t, rfl, ?_⟩
    cases t with
    | true =>
      rw [if_pos rfl] at q ⊢
      refine tE_use a3 (v.mono ((l1.trans l2).trans l3)) (xo.mono ((l1.trans l2).trans l3)) q fun u4 z4 H4 w4 r4 a4 l4 i4 q4 => ?_
      refine hd' (Q := fun r => Q r w4) a4 (i2.mono (l3.trans l4).fF (l3.trans l4).aw) i4 q4 fun v5 z5 H5 r5 a5 l5 i5 q5 => ?_
      obtain ⟨t, e⟩ := hbl _ _ q5
      obtain ⟨z6, a6, l6, i6⟩ := i5.fz a5 l5
      rw [e] at i6
      cases i6
      exact ⟨t, rfl, k t z6 H5 w4 r5 a6 ((((l1.trans l2).trans l3).trans l4).trans l6) e q5⟩
    | false =>
      rw [if_neg Bool.false_ne_true] at q ⊢
      exact ⟨false, rfl, k false z3 H3 w2 (.dat (.bl false)) a3 ((l1.trans l2).trans l3) rfl q⟩

theorem snd_var {i : Nat}  : Snd M T Φ XE (.var i) := by
  have pe : ∀ {X sc fn Ex x}, Hy M T Φ XE X sc fn Ex → chk T (.var i) sc fn (.e x) = true → PE X x (tE M Φ XE (.var i) Ex) := by
    intro X sc fn Ex x hy h
    cases x with
    | Name u p =>
      have h : (decide (T.N[i]? = some u) && visB sc u && okB u) = true := h
      simp only [Bool.and_eq_true, decide_eq_true_eq] at h
      exact sE_var hy h.1.1 h.1.2 h.2
    | _ => cases h
  refine ⟨pe, ?_, ?_, ?_, ?_, ?_, ?_⟩
  · intro X sc fn Ex x hy h
    have q := pe hy h
    cases x with
    | Name u p => exact sT_val q fun _ => rfl
    | _ => cases h
  · intro X sc fn Ex op ys pos hy h
    cases h
  · intro X sc fn Ex xs hy h
    cases h
  · intro sc fn xs h
    cases h
  · intro X sc fn Ex tg x hy h
    cases h
  · intro sc fn h
    cases h
theorem snd_int {i : Int}  : Snd M T Φ XE (.int i) := by
  have pe : ∀ {X sc fn Ex x}, Hy M T Φ XE X sc fn Ex → chk T (.int i) sc fn (.e x) = true → PE X x (tE M Φ XE (.int i) Ex) := by
    intro X sc fn Ex x hy h
    cases x with
    | Constant cst kk p =>
      cases cst with
      | int j =>
        have h : decide (i = j) = true := h
        have e := of_decide_eq_true h
        subst e
        exact sE_const (fun h => h) (.int _) pe_int
      | _ => cases h
    | Name u p =>
      have h : (glB sc u && okB u && decide (T.consts.lookup u = some i)) = true := h
      simp only [Bool.and_eq_true, decide_eq_true_eq] at h
      obtain ⟨t, ht⟩ := hy.cst u i h.2
      exact sE_const (fun h => h) (.int _) (pe_glob (glB_d hy h.1.1) ht ⟨t, rfl⟩ (okB_d h.1.2).1)
    | _ => cases h
  refine ⟨pe, ?_, ?_, ?_, ?_, ?_, ?_⟩
  · intro X sc fn Ex x hy h
    have q := pe hy h
    cases x with
    | Constant cst kk p => exact sT_val q fun _ => rfl
    | Name u p => exact sT_val q fun _ => rfl
    | _ => cases h
  · intro X sc fn Ex op ys pos hy h
    cases h
  · intro X sc fn Ex xs hy h
    cases h
  · intro sc fn xs h
    cases h
  · intro X sc fn Ex tg x hy h
    cases h
  · intro sc fn h
    cases h
theorem snd_str {i : Str}  : Snd M T Φ XE (.str i) := by
  have pe : ∀ {X sc fn Ex x}, Hy M T Φ XE X sc fn Ex → chk T (.str i) sc fn (.e x) = true → PE X x (tE M Φ XE (.str i) Ex) := by
    intro X sc fn Ex x hy h
    cases x with
    | Constant cst kk p =>
      cases cst with
      | str j =>
        have h : decide (i = j) = true := h
        have e := of_decide_eq_true h
        subst e
        exact sE_const (fun h => h) (.str _) pe_str
      | _ => cases h
    | Name u p =>
      have h : (glB sc u && okB u && decide (T.conss.lookup u = some i)) = true := h
      simp only [Bool.and_eq_true, decide_eq_true_eq] at h
      obtain ⟨t, ht⟩ := hy.css u i h.2
      exact sE_const (fun h => h) (.str _) (pe_glob (glB_d hy h.1.1) ht ⟨t, rfl⟩ (okB_d h.1.2).1)
    | _ => cases h
  refine ⟨pe, ?_, ?_, ?_, ?_, ?_, ?_⟩
  · intro X sc fn Ex x hy h
    have q := pe hy h
    cases x with
    | Constant cst kk p => exact sT_val q fun _ => rfl
    | Name u p => exact sT_val q fun _ => rfl
    | _ => cases h
  · intro X sc fn Ex op ys pos hy h
    cases h
  · intro X sc fn Ex xs hy h
    cases h
  · intro sc fn xs h
    cases h
  · intro X sc fn Ex tg x hy h
    cases h
  · intro sc fn h
    cases h
theorem snd_bl {i : Bool}  : Snd M T Φ XE (.bl i) := by
  have pe : ∀ {X sc fn Ex x}, Hy M T Φ XE X sc fn Ex → chk T (.bl i) sc fn (.e x) = true → PE X x (tE M Φ XE (.bl i) Ex) := by
    intro X sc fn Ex x hy h
    cases x with
    | Constant cst kk p =>
      cases cst with
      | bool j =>
        have h : boolB i j = true := h
        have e : i = j := by cases i <;> cases j <;> first | rfl | cases h
        subst e
        exact sE_const (fun h => h) (.bl _) pe_bl
      | _ => cases h
    | _ => cases h
  refine ⟨pe, ?_, ?_, ?_, ?_, ?_, ?_⟩
  · intro X sc fn Ex x hy h
    have q := pe hy h
    cases x with
    | Constant cst kk p => exact sT_val q fun _ => rfl
    | _ => cases h
  · intro X sc fn Ex op ys pos hy h
    cases h
  · intro X sc fn Ex xs hy h
    cases h
  · intro sc fn xs h
    cases h
  · intro X sc fn Ex tg x hy h
    cases h
  · intro sc fn h
    cases h
theorem snd_non   : Snd M T Φ XE (.non) := by
  have pe : ∀ {X sc fn Ex x}, Hy M T Φ XE X sc fn Ex → chk T (.non) sc fn (.e x) = true → PE X x (tE M Φ XE (.non) Ex) := by
    intro X sc fn Ex x hy h
    cases x with
    | Constant cst kk p =>
      cases cst with
      | none => exact sE_const (fun h => h) .non pe_non
      | _ => cases h
    | _ => cases h
  refine ⟨pe, ?_, ?_, ?_, ?_, ?_, ?_⟩
  · intro X sc fn Ex x hy h
    have q := pe hy h
    cases x with
    | Constant cst kk p => exact sT_val q fun _ => rfl
    | _ => cases h
  · intro X sc fn Ex op ys pos hy h
    cases h
  · intro X sc fn Ex xs hy h
    cases h
  · intro sc fn xs h
    cases h
  · intro X sc fn Ex tg x hy h
    cases h
  · intro sc fn h
    cases h
theorem snd_bin {o : Bop} (ha : Snd M T Φ XE a) (hb : Snd M T Φ XE b) : Snd M T Φ XE (.bin o a b) := by
  have pe : ∀ {X sc fn Ex x}, Hy M T Φ XE X sc fn Ex → chk T (.bin o a b) sc fn (.e x) = true → PE X x (tE M Φ XE (.bin o a b) Ex) := by
    intro X sc fn Ex x hy h
    cases x with
    | BinOp u op v p =>
      have h : (bopB o op && chk T a sc fn (.e u) && chk T b sc fn (.e v)) = true := h
      simp only [Bool.and_eq_true, decide_eq_true_eq] at h
      exact sE_bin hy h.1.1 (ha.pe hy h.1.2) (hb.pe hy h.2)
    | _ => cases h
  refine ⟨pe, ?_, ?_, ?_, ?_, ?_, ?_⟩
  · intro X sc fn Ex x hy h
    have q := pe hy h
    cases x with
    | BinOp u op v p => exact sT_val q fun _ => rfl
    | _ => cases h
  · intro X sc fn Ex op ys pos hy h
    cases h
  · intro X sc fn Ex xs hy h
    cases h
  · intro sc fn xs h
    cases h
  · intro X sc fn Ex tg x hy h
    cases h
  · intro sc fn h
    cases h
theorem snd_neg  (ha : Snd M T Φ XE a) : Snd M T Φ XE (.neg a) := by
  have pe : ∀ {X sc fn Ex x}, Hy M T Φ XE X sc fn Ex → chk T (.neg a) sc fn (.e x) = true → PE X x (tE M Φ XE (.neg a) Ex) := by
    intro X sc fn Ex x hy h
    cases x with
    | UnaryOp op u p =>
      cases op with
      | USub => exact sE_neg (ha.pe hy h)
      | _ => cases h
    | _ => cases h
  refine ⟨pe, ?_, ?_, ?_, ?_, ?_, ?_⟩
  · intro X sc fn Ex x hy h
    have q := pe hy h
    cases x with
    | UnaryOp op u p =>
      cases op with
      | USub => exact sT_val q fun _ => rfl
      | _ => cases h
    | _ => cases h
  · intro X sc fn Ex op ys pos hy h
    cases h
  · intro X sc fn Ex xs hy h
    cases h
  · intro sc fn xs h
    cases h
  · intro X sc fn Ex tg x hy h
    cases h
  · intro sc fn h
    cases h
theorem snd_cmp {o : Cop} (ha : Snd M T Φ XE a) (hb : Snd M T Φ XE b) : Snd M T Φ XE (.cmp o a b) := by
  refine ⟨?_, ?_, ?_, ?_, ?_, ?_, ?_⟩
  · intro X sc fn Ex x hy h
    cases x with
    | Compare u ops vs p =>
      cases ops with
      | nil => cases h
      | cons op ops =>
        cases vs with
        | nil => cases ops <;> cases h
        | cons v vs =>
          cases ops with
          | nil =>
            cases vs with
            | nil =>
              have h : (copB o op && plainB v && chk T a sc fn (.e u) && chk T b sc fn (.e v)) = true := h
              simp only [Bool.and_eq_true, decide_eq_true_eq] at h
              exact sE_cmp hy h.1.1.1 h.1.1.2 (ha.pe hy h.1.2) (hb.pe hy h.2)
            | cons _ _ => cases h
          | cons op2 ops => cases ops <;> cases vs <;> first | cases h | (rename_i v2 vs2; cases vs2 <;> cases h)
    | _ => cases h
  · intro X sc fn Ex x hy h
    cases x with
    | Compare u ops vs p =>
      cases ops with
      | nil => cases h
      | cons op ops =>
        cases vs with
        | nil => cases ops <;> cases h
        | cons v vs =>
          cases ops with
          | nil =>
            cases vs with
            | nil =>
              have h : (copB o op && plainB v && chk T a sc fn (.e u) && chk T b sc fn (.e v)) = true := h
              simp only [Bool.and_eq_true, decide_eq_true_eq] at h
              exact sT_cmp hy h.1.1.1 h.1.1.2 (ha.pe hy h.1.2) (hb.pe hy h.2)
            | cons _ _ => cases h
          | cons op2 ops => cases ops <;> cases vs <;> first | cases h | (rename_i v2 vs2; cases vs2 <;> cases h)
    | _ => cases h
  · intro X sc fn Ex op ys pos hy h
    cases h
  · intro X sc fn Ex xs hy h
    cases h
  · intro sc fn xs h
    cases h
  · intro X sc fn Ex tg x hy h
    cases h
  · intro sc fn h
    cases h
theorem snd_chain {o q : Cop} (ha : Snd M T Φ XE a) (hb : Snd M T Φ XE b) (hc : Snd M T Φ XE c) : Snd M T Φ XE (.chain o q a b c) := by
  refine ⟨?_, ?_, ?_, ?_, ?_, ?_, ?_⟩
  · intro X sc fn Ex x hy h
    cases x with
    | Compare u ops vs p =>
      match ops, vs, h with
      | [op, op2], [v, v2], h =>
        have h : (copB o op && copB q op2 && plainB v && plainB v2 && chk T a sc fn (.e u) && chk T b sc fn (.e v) && chk T c sc fn (.e v2)) = true := h
        simp only [Bool.and_eq_true, decide_eq_true_eq] at h
        exact sE_chain hy h.1.1.1.1.1.1 h.1.1.1.1.1.2 h.1.1.1.2 (ha.pe hy h.1.1.2) (hb.pe hy h.1.2) (hc.pe hy h.2)
      | [], _, h => cases h
      | [_], _, h => cases h
      | _ :: _ :: _ :: _, _, h => cases h
      | [_, _], [], h => cases h
      | [_, _], [_], h => cases h
      | [_, _], _ :: _ :: _ :: _, h => cases h
    | _ => cases h
  · intro X sc fn Ex x hy h
    cases x with
    | Compare u ops vs p =>
      match ops, vs, h with
      | [op, op2], [v, v2], h =>
        have h : (copB o op && copB q op2 && plainB v && plainB v2 && chk T a sc fn (.e u) && chk T b sc fn (.e v) && chk T c sc fn (.e v2)) = true := h
        simp only [Bool.and_eq_true, decide_eq_true_eq] at h
        exact sT_chain hy h.1.1.1.1.1.1 h.1.1.1.1.1.2 h.1.1.1.2 (ha.pe hy h.1.1.2) (hb.pe hy h.1.2) (hc.pe hy h.2)
      | [], _, h => cases h
      | [_], _, h => cases h
      | _ :: _ :: _ :: _, _, h => cases h
      | [_, _], [], h => cases h
      | [_, _], [_], h => cases h
      | [_, _], _ :: _ :: _ :: _, h => cases h
    | _ => cases h
  · intro X sc fn Ex op ys pos hy h
    cases h
  · intro X sc fn Ex xs hy h
    cases h
  · intro sc fn xs h
    cases h
  · intro X sc fn Ex tg x hy h
    cases h
  · intro sc fn h
    cases h
theorem snd_and (ha : Snd M T Φ XE a) (hb : Snd M T Φ XE b) : Snd M T Φ XE (.and_ a b) := by
  have pw : ∀ {X sc fn Ex op ys pos}, Hy M T Φ XE X sc fn Ex → chk T (.and_ a b) sc fn (.e (.BoolOp op ys pos)) = true → PW X (.BoolOp op ys pos) (tT M Φ XE (.and_ a b) Ex) := by
    intro X sc fn Ex op ys pos hy h
    cases op with
    | And =>
      match ys, h with
      | [u, v], h =>
        have h : (chk T a sc fn (.e u) && chk T b sc fn (.e v)) = true := h
        rw [Bool.and_eq_true] at h
        exact PW.imp (pw_and (ha.pt hy h.1) (pw_and1 (hb.pt hy h.2))) fun σ H Q h => tT_and (fun _ => trivial) h
      | u :: v :: v2 :: rest, h =>
        have h : (chk T a sc fn (.e u) && chk T b sc fn (.e (.BoolOp .And (v :: v2 :: rest) pos))) = true := h
        rw [Bool.and_eq_true] at h
        exact PW.imp (pw_and (ha.pt hy h.1) (hb.pw hy h.2)) fun σ H Q h => tT_and (fun _ => trivial) h
      | [], h => cases h
      | [_], h => cases h
    | _ => cases h
  refine ⟨?_, ?_, pw, ?_, ?_, ?_, ?_⟩
  · intro X sc fn Ex x hy h
    cases x with
    | BoolOp op ys p =>
      cases op with
      | And =>
        match ys, h with
        | [u, v], h =>
          have h : (chk T a sc fn (.e u) && chk T b sc fn (.e v)) = true := h
          rw [Bool.and_eq_true] at h
          exact sE_and (ha.pe hy h.1) (pe_one (hb.pe hy h.2))
        | u :: v :: v2 :: rest, h =>
          have h : (chk T a sc fn (.e u) && chk T b sc fn (.e (.BoolOp .And (v :: v2 :: rest) p))) = true := h
          rw [Bool.and_eq_true] at h
          exact sE_and (ha.pe hy h.1) (hb.pe hy h.2)
        | [], h => cases h
        | [_], h => cases h
      | _ => cases h
    | _ => cases h
  · intro X sc fn Ex x hy h
    cases x with
    | BoolOp op ys p => exact (pw hy h).pt
    | _ => cases h
  · intro X sc fn Ex xs hy h
    cases h
  · intro sc fn xs h
    cases h
  · intro X sc fn Ex tg x hy h
    cases h
  · intro sc fn h
    cases h
theorem snd_or (ha : Snd M T Φ XE a) (hb : Snd M T Φ XE b) : Snd M T Φ XE (.or_ a b) := by
  have pw : ∀ {X sc fn Ex op ys pos}, Hy M T Φ XE X sc fn Ex → chk T (.or_ a b) sc fn (.e (.BoolOp op ys pos)) = true → PW X (.BoolOp op ys pos) (tT M Φ XE (.or_ a b) Ex) := by
    intro X sc fn Ex op ys pos hy h
    cases op with
    | Or =>
      match ys, h with
      | [u, v], h =>
        have h : (chk T a sc fn (.e u) && chk T b sc fn (.e v)) = true := h
        rw [Bool.and_eq_true] at h
        exact PW.imp (pw_or (ha.pt hy h.1) (pw_or1 (hb.pt hy h.2))) fun σ H Q h => tT_or (fun _ => trivial) h
      | u :: v :: v2 :: rest, h =>
        have h : (chk T a sc fn (.e u) && chk T b sc fn (.e (.BoolOp .Or (v :: v2 :: rest) pos))) = true := h
        rw [Bool.and_eq_true] at h
        exact PW.imp (pw_or (ha.pt hy h.1) (hb.pw hy h.2)) fun σ H Q h => tT_or (fun _ => trivial) h
      | [], h => cases h
      | [_], h => cases h
    | _ => cases h
  refine ⟨?_, ?_, pw, ?_, ?_, ?_, ?_⟩
  · intro X sc fn Ex x hy h
    cases x with
    | BoolOp op ys p =>
      cases op with
      | Or =>
        match ys, h with
        | [u, v], h =>
          have h : (chk T a sc fn (.e u) && chk T b sc fn (.e v)) = true := h
          rw [Bool.and_eq_true] at h
          exact sE_or (ha.pe hy h.1) (pe_one (hb.pe hy h.2))
        | u :: v :: v2 :: rest, h =>
          have h : (chk T a sc fn (.e u) && chk T b sc fn (.e (.BoolOp .Or (v :: v2 :: rest) p))) = true := h
          rw [Bool.and_eq_true] at h
          exact sE_or (ha.pe hy h.1) (hb.pe hy h.2)
        | [], h => cases h
        | [_], h => cases h
      | _ => cases h
    | _ => cases h
  · intro X sc fn Ex x hy h
    cases x with
    | BoolOp op ys p => exact (pw hy h).pt
    | _ => cases h
  · intro X sc fn Ex xs hy h
    cases h
  · intro sc fn xs h
    cases h
  · intro X sc fn Ex tg x hy h
    cases h
  · intro sc fn h
    cases h
theorem snd_not  (ha : Snd M T Φ XE a) : Snd M T Φ XE (.not_ a) := by
  refine ⟨?_, ?_, ?_, ?_, ?_, ?_, ?_⟩
  · intro X sc fn Ex x hy h
    cases x with
    | UnaryOp op u p =>
      cases op with
      | Not => exact sE_not (ha.pe hy h)
      | _ => cases h
    | _ => cases h
  · intro X sc fn Ex x hy h
    cases x with
    | UnaryOp op u p =>
      cases op with
      | Not => exact PT.imp (pt_not (ha.pt hy h)) fun σ H Q h => tT_not h
      | _ => cases h
    | _ => cases h
  · intro X sc fn Ex op ys pos hy h
    cases h
  · intro X sc fn Ex xs hy h
    cases h
  · intro sc fn xs h
    cases h
  · intro X sc fn Ex tg x hy h
    cases h
  · intro sc fn h
    cases h
theorem snd_ite  (hc : Snd M T Φ XE c) (ha : Snd M T Φ XE a) (hb : Snd M T Φ XE b) : Snd M T Φ XE (.ite c a b) := by
  have pe : ∀ {X sc fn Ex x}, Hy M T Φ XE X sc fn Ex → chk T (.ite c a b) sc fn (.e x) = true → PE X x (tE M Φ XE (.ite c a b) Ex) := by
    intro X sc fn Ex x hy h
    cases x with
    | IfExp t u v p =>
      have h : (chk T c sc fn (.e t) && chk T a sc fn (.e u) && chk T b sc fn (.e v)) = true := h
      simp only [Bool.and_eq_true, decide_eq_true_eq] at h
      exact sE_ite (hc.pt hy h.1.1) (ha.pe hy h.1.2) (hb.pe hy h.2)
    | _ => cases h
  refine ⟨pe, ?_, ?_, ?_, ?_, ?_, ?_⟩
  · intro X sc fn Ex x hy h
    cases x with
    | IfExp t u v p =>
      have h : (chk T c sc fn (.e t) && chk T a sc fn (.e u) && chk T b sc fn (.e v)) = true := h
      simp only [Bool.and_eq_true, decide_eq_true_eq] at h
      exact sT_ite (hc.pt hy h.1.1) (ha.pt hy h.1.2) (hb.pt hy h.2)
    | _ => cases h
  · intro X sc fn Ex op ys pos hy h
    cases h
  · intro X sc fn Ex xs hy h
    cases h
  · intro sc fn xs h
    cases h
  · intro X sc fn Ex tg x hy h
    cases h
  · intro sc fn h
    cases h
theorem snd_tup  (hes : Snd M T Φ XE es) : Snd M T Φ XE (.tup es) := by
  have pe : ∀ {X sc fn Ex x}, Hy M T Φ XE X sc fn Ex → chk T (.tup es) sc fn (.e x) = true → PE X x (tE M Φ XE (.tup es) Ex) := by
    intro X sc fn Ex x hy h
    cases x with
    | Tuple xs kk p =>
      exact sE_tup (hes.pa hy h)
    | _ => cases h
  refine ⟨pe, ?_, ?_, ?_, ?_, ?_, ?_⟩
  · intro X sc fn Ex x hy h
    have q := pe hy h
    cases x with
    | Tuple xs kk p => exact sT_val q fun _ => rfl
    | _ => cases h
  · intro X sc fn Ex op ys pos hy h
    cases h
  · intro X sc fn Ex xs hy h
    cases h
  · intro sc fn xs h
    cases h
  · intro X sc fn Ex tg x hy h
    cases h
  · intro sc fn h
    cases h
theorem snd_lst  (hes : Snd M T Φ XE es) : Snd M T Φ XE (.lst es) := by
  have pe : ∀ {X sc fn Ex x}, Hy M T Φ XE X sc fn Ex → chk T (.lst es) sc fn (.e x) = true → PE X x (tE M Φ XE (.lst es) Ex) := by
    intro X sc fn Ex x hy h
    cases x with
    | List xs p =>
      exact sE_lst (hes.pa hy h)
    | _ => cases h
  refine ⟨pe, ?_, ?_, ?_, ?_, ?_, ?_⟩
  · intro X sc fn Ex x hy h
    have q := pe hy h
    cases x with
    | List xs p => exact sT_val q fun _ => rfl
    | _ => cases h
  · intro X sc fn Ex op ys pos hy h
    cases h
  · intro X sc fn Ex xs hy h
    cases h
  · intro sc fn xs h
    cases h
  · intro X sc fn Ex tg x hy h
    cases h
  · intro sc fn h
    cases h
theorem snd_nil   : Snd M T Φ XE (.nil) := by
  have pe : ∀ {X sc fn Ex x}, Hy M T Φ XE X sc fn Ex → chk T (.nil) sc fn (.e x) = true → PE X x (tE M Φ XE (.nil) Ex) := by
    intro X sc fn Ex x hy h
    cases x <;> cases h
  refine ⟨pe, ?_, ?_, ?_, ?_, ?_, ?_⟩
  · intro X sc fn Ex x hy h
    cases x <;> cases h
  · intro X sc fn Ex op ys pos hy h
    cases h
  · intro X sc fn Ex xs hy h
    cases xs with
    | nil => exact sA_nil
    | cons _ _ => cases h
  · intro sc fn xs h
    cases xs with
    | nil => intro x hx; simp at hx
    | cons _ _ => cases h
  · intro X sc fn Ex tg x hy h
    cases h
  · intro sc fn h
    rfl
theorem snd_cons  (ha : Snd M T Φ XE a) (hb : Snd M T Φ XE b) : Snd M T Φ XE (.cons a b) := by
  have pe : ∀ {X sc fn Ex x}, Hy M T Φ XE X sc fn Ex → chk T (.cons a b) sc fn (.e x) = true → PE X x (tE M Φ XE (.cons a b) Ex) := by
    intro X sc fn Ex x hy h
    cases x <;> cases h
  refine ⟨pe, ?_, ?_, ?_, ?_, ?_, ?_⟩
  · intro X sc fn Ex x hy h
    cases x <;> cases h
  · intro X sc fn Ex op ys pos hy h
    cases h
  · intro X sc fn Ex xs hy h
    cases xs with
    | nil => cases h
    | cons x xs =>
      have h : (plainB x && chk T a sc fn (.e x) && chk T b sc fn (.es xs)) = true := h
      simp only [Bool.and_eq_true, decide_eq_true_eq] at h
      exact sA_cons h.1.1 (ha.pe hy h.1.2) (hb.pa hy h.2)
  · intro sc fn xs h
    cases xs with
    | nil => cases h
    | cons x xs =>
      have h : (plainB x && chk T a sc fn (.e x) && chk T b sc fn (.es xs)) = true := h
      simp only [Bool.and_eq_true, decide_eq_true_eq] at h
      intro y hy
      rcases List.mem_cons.mp hy with e | e
      · rw [e]; exact h.1.1
      · exact hb.pl h.2 y e
  · intro X sc fn Ex tg x hy h
    cases h
  · intro sc fn h
    cases h
theorem snd_idx  (ha : Snd M T Φ XE a) (hb : Snd M T Φ XE b) : Snd M T Φ XE (.idx a b) := by
  have pe : ∀ {X sc fn Ex x}, Hy M T Φ XE X sc fn Ex → chk T (.idx a b) sc fn (.e x) = true → PE X x (tE M Φ XE (.idx a b) Ex) := by
    intro X sc fn Ex x hy h
    cases x with
    | Subscript u v p =>
      have h : (plainB v && chk T a sc fn (.e u) && chk T b sc fn (.e v)) = true := by cases v <;> exact h
      simp only [Bool.and_eq_true, decide_eq_true_eq] at h
      exact sE_idx hy h.1.1 (ha.pe hy h.1.2) (hb.pe hy h.2)
    | _ => cases h
  refine ⟨pe, ?_, ?_, ?_, ?_, ?_, ?_⟩
  · intro X sc fn Ex x hy h
    have q := pe hy h
    cases x with
    | Subscript u v p => exact sT_val q fun _ => rfl
    | _ => cases h
  · intro X sc fn Ex op ys pos hy h
    cases h
  · intro X sc fn Ex xs hy h
    cases h
  · intro sc fn xs h
    cases h
  · intro X sc fn Ex tg x hy h
    cases h
  · intro sc fn h
    cases h
theorem snd_oidx {i : Nat} (hb : Snd M T Φ XE b) : Snd M T Φ XE (.oidx i b) := by
  have pe : ∀ {X sc fn Ex x}, Hy M T Φ XE X sc fn Ex → chk T (.oidx i b) sc fn (.e x) = true → PE X x (tE M Φ XE (.oidx i b) Ex) := by
    intro X sc fn Ex x hy h
    cases x with
    | Subscript u v p =>
      cases u with
      | Name uu pu =>
        have h : (decide (T.N[i]? = some uu) && visB sc uu && okB uu && plainB v && chk T b sc fn (.e v)) = true := h
        simp only [Bool.and_eq_true, decide_eq_true_eq] at h
        exact sE_oidx hy h.1.1.1.1 h.1.1.1.2 h.1.1.2 h.1.2 (hb.pe hy h.2)
      | _ => cases h
    | _ => cases h
  refine ⟨pe, ?_, ?_, ?_, ?_, ?_, ?_⟩
  · intro X sc fn Ex x hy h
    have q := pe hy h
    cases x with
    | Subscript u v p => exact sT_val q fun _ => rfl
    | _ => cases h
  · intro X sc fn Ex op ys pos hy h
    cases h
  · intro X sc fn Ex xs hy h
    cases h
  · intro sc fn xs h
    cases h
  · intro X sc fn Ex tg x hy h
    cases h
  · intro sc fn h
    cases h
theorem snd_slc  (ha : Snd M T Φ XE a) (hb : Snd M T Φ XE b) (hc : Snd M T Φ XE c) : Snd M T Φ XE (.slc a b c) := by
  have pe : ∀ {X sc fn Ex x}, Hy M T Φ XE X sc fn Ex → chk T (.slc a b c) sc fn (.e x) = true → PE X x (tE M Φ XE (.slc a b c) Ex) := by
    intro X sc fn Ex x hy h
    cases x with
    | Subscript u v p =>
      cases v with
      | Slice lo hi st p2 =>
        cases st with
        | none =>
          have h : (chk T a sc fn (.e u) && nonB lo b && nonB hi c && (match (generalizing := false) lo with | none => true | some y => chk T b sc fn (.e y)) && (match (generalizing := false) hi with | none => true | some y => chk T c sc fn (.e y))) = true := h
          simp only [Bool.and_eq_true, decide_eq_true_eq] at h
          obtain ⟨⟨⟨⟨h1, h2⟩, h3⟩, h4⟩, h5⟩ := h
          refine sE_slc hy (ha.pe hy h1) ?_ ?_
          · cases lo with
            | none => exact sO_none h2
            | some y => exact sO_some (by have h2 : (!b.isNon) = true := h2; simpa using h2) (hb.pe hy h4)
          · cases hi with
            | none => exact sO_none h3
            | some y => exact sO_some (by have h3 : (!c.isNon) = true := h3; simpa using h3) (hc.pe hy h5)
        | some _ => cases h
      | _ => cases h
    | _ => cases h
  refine ⟨pe, ?_, ?_, ?_, ?_, ?_, ?_⟩
  · intro X sc fn Ex x hy h
    have q := pe hy h
    cases x with
    | Subscript u v p => exact sT_val q fun _ => rfl
    | _ => cases h
  · intro X sc fn Ex op ys pos hy h
    cases h
  · intro X sc fn Ex xs hy h
    cases h
  · intro sc fn xs h
    cases h
  · intro X sc fn Ex tg x hy h
    cases h
  · intro sc fn h
    cases h
theorem chk_rev {u v : Expr} {p : Pos} (h : chk T (.rev a) sc fn (.e (.Subscript u v p)) = true) : ∃ kk p1 p2 p3, v = .Slice none none (some (.UnaryOp .USub (.Constant (.int 1) kk p1) p2)) p3 ∧ chk T a sc fn (.e u) = true := by
  cases v with
  | Slice lo hi st p3 =>
    cases lo with
    | some _ => cases h
    | none =>
      cases hi with
      | some _ => cases h
      | none =>
        cases st with
        | none => cases h
        | some s =>
          cases s with
          | UnaryOp op t p2 =>
            cases op with
            | USub =>
              cases t with
              | Constant cc kk p1 =>
                cases cc with
                | int i =>
                  by_cases e : i = 1
                  · subst e; exact ⟨kk, p1, p2, p3, rfl, h⟩
                  · simp [chk, e] at h
                | _ => cases h
              | _ => cases h
            | _ => cases h
          | _ => cases h
  | _ => cases h
theorem snd_rev  (ha : Snd M T Φ XE a) : Snd M T Φ XE (.rev a) := by
  have pe : ∀ {X sc fn Ex x}, Hy M T Φ XE X sc fn Ex → chk T (.rev a) sc fn (.e x) = true → PE X x (tE M Φ XE (.rev a) Ex) := by
    intro X sc fn Ex x hy h
    cases x with
    | Subscript u v p =>
      obtain ⟨kk, p1, p2, p3, e, h⟩ := chk_rev h
      subst e
      exact sE_rev hy (ha.pe hy h)
    | _ => cases h
  refine ⟨pe, ?_, ?_, ?_, ?_, ?_, ?_⟩
  · intro X sc fn Ex x hy h
    have q := pe hy h
    cases x with
    | Subscript u v p => exact sT_val q fun _ => rfl
    | _ => cases h
  · intro X sc fn Ex op ys pos hy h
    cases h
  · intro X sc fn Ex xs hy h
    cases h
  · intro sc fn xs h
    cases h
  · intro X sc fn Ex tg x hy h
    cases h
  · intro sc fn h
    cases h
theorem snd_call {f : Nat} (mono : MonoF Φ) (hes : Snd M T Φ XE es) : Snd M T Φ XE (.call f es) := by
  have pe : ∀ {X sc fn Ex x}, Hy M T Φ XE X sc fn Ex → chk T (.call f es) sc fn (.e x) = true → PE X x (tE M Φ XE (.call f es) Ex) := by
    intro X sc fn Ex x hy h
    cases x with
    | Call f0 args kws p =>
      cases f0 with
      | Name u pu =>
        cases args with
        | nil =>
          cases kws with
          | nil =>
            have h : (glB sc u && okB u && decide (T.funs.lookup u = some (f, 0)) && chk T es sc fn (.es [])) = true := h
            simp only [Bool.and_eq_true, decide_eq_true_eq] at h
            have e := hes.nl h.2
            subst e
            exact sE_call0 mono hy h.1.1.1 h.1.1.2 h.1.2
          | cons _ _ => cases h
        | cons y ys =>
          cases kws with
          | nil =>
            have h : (glB sc u && okB u && decide (T.funs.lookup u = some (f, ys.length + 1)) && chk T es sc fn (.es (y :: ys))) = true := h
            simp only [Bool.and_eq_true, decide_eq_true_eq] at h
            have pls := hes.pl h.2
            exact sE_call mono hy h.1.1.1 h.1.1.2 h.1.2 (pls y List.mem_cons_self) (fun e he => pls e (List.mem_cons_of_mem _ he)) (hes.pa hy h.2)
          | cons _ _ => cases h
      | _ => cases h
    | _ => cases h
  refine ⟨pe, ?_, ?_, ?_, ?_, ?_, ?_⟩
  · intro X sc fn Ex x hy h
    have q := pe hy h
    cases x with
    | Call f0 args kws p => exact sT_val q fun _ => rfl
    | _ => cases h
  · intro X sc fn Ex op ys pos hy h
    cases h
  · intro X sc fn Ex xs hy h
    cases h
  · intro sc fn xs h
    cases h
  · intro X sc fn Ex tg x hy h
    cases h
  · intro sc fn h
    cases h
theorem snd_blt {bb : Blt} (hes : Snd M T Φ XE es) : Snd M T Φ XE (.blt bb es) := by
  have pe : ∀ {X sc fn Ex x}, Hy M T Φ XE X sc fn Ex → chk T (.blt bb es) sc fn (.e x) = true → PE X x (tE M Φ XE (.blt bb es) Ex) := by
    intro X sc fn Ex x hy h
    cases x with
    | Call f0 args kws p =>
      cases f0 with
      | Name u pu =>
        cases args with
        | nil => cases h
        | cons y ys =>
          cases kws with
          | nil =>
            have h : (decide (u = bltN bb) && glB sc u && chk T es sc fn (.es (y :: ys))) = true := h
            simp only [Bool.and_eq_true, decide_eq_true_eq] at h
            have pls := hes.pl h.2
            exact sE_blt hy h.1.1 h.1.2 (pls y List.mem_cons_self) (fun e he => pls e (List.mem_cons_of_mem _ he)) (hes.pa hy h.2)
          | cons _ _ => cases h
      | _ => cases h
    | _ => cases h
  refine ⟨pe, ?_, ?_, ?_, ?_, ?_, ?_⟩
  · intro X sc fn Ex x hy h
    have q := pe hy h
    cases x with
    | Call f0 args kws p => exact sT_val q fun _ => rfl
    | _ => cases h
  · intro X sc fn Ex op ys pos hy h
    cases h
  · intro X sc fn Ex xs hy h
    cases h
  · intro sc fn xs h
    cases h
  · intro X sc fn Ex tg x hy h
    cases h
  · intro sc fn h
    cases h
theorem snd_isi {ts : List Ty} (ha : Snd M T Φ XE a) : Snd M T Φ XE (.isi a ts) := by
  have pe : ∀ {X sc fn Ex x}, Hy M T Φ XE X sc fn Ex → chk T (.isi a ts) sc fn (.e x) = true → PE X x (tE M Φ XE (.isi a ts) Ex) := by
    intro X sc fn Ex x hy h
    cases x with
    | Call f0 args kws p =>
      cases f0 with
      | Name u pu =>
        match args, kws, h with
        | [y, t], [], h =>
          have h : (decide (u = "isinstance") && glB sc u && plainB y && chk T a sc fn (.e y) && (match (generalizing := false) t with | .Name _ _ => tysB sc ts [t] | .Tuple xs _ _ => decide (ts.length ≤ 100) && tysB sc ts xs | _ => false)) = true := h
          rw [Bool.and_eq_true, Bool.and_eq_true, Bool.and_eq_true, Bool.and_eq_true, decide_eq_true_eq] at h
          exact sE_isi hy h.1.1.1.1 h.1.1.1.2 h.1.1.2 (ha.pe hy h.1.2) h.2
        | [], _, h => cases h
        | [_], _, h => cases h
        | _ :: _ :: _ :: _, _, h => cases h
        | [_, _], _ :: _, h => cases h
      | _ => cases h
    | _ => cases h
  refine ⟨pe, ?_, ?_, ?_, ?_, ?_, ?_⟩
  · intro X sc fn Ex x hy h
    have q := pe hy h
    cases x with
    | Call f0 args kws p => exact sT_val q fun _ => rfl
    | _ => cases h
  · intro X sc fn Ex op ys pos hy h
    cases h
  · intro X sc fn Ex xs hy h
    cases h
  · intro sc fn xs h
    cases h
  · intro X sc fn Ex tg x hy h
    cases h
  · intro sc fn h
    cases h
theorem chk_comp {t : Tg} {u : Expr} {gens : List Comprehension} {scope : Scope} {p : Pos} (h : chk T (.comp t a b) sc fn (.e (.ListComp u gens scope p)) = true) : ∃ tg it, gens = [⟨tg, it, [], 0⟩] ∧
    (blkC T.N sc scope (ownOf T.N t) && chkT T.N (relS scope sc) (cellFn scope) t (.inl tg) && plainB it && chk T a sc fn (.it tg it) && chk T b (relS scope sc) (cellFn scope) (.e u)) = true := by
  cases gens with
  | nil => cases h
  | cons g gs =>
    obtain ⟨tg, it, ifs, asy⟩ := g
    cases gs with
    | cons _ _ => cases ifs <;> (simp [chk] at h)
    | nil =>
      cases ifs with
      | cons _ _ => simp [chk] at h
      | nil =>
        by_cases e : asy = 0
        · subst e; exact ⟨tg, it, rfl, h⟩
        · simp [chk, e] at h
theorem chk_compIf {t : Tg} {u : Expr} {gens : List Comprehension} {scope : Scope} {p : Pos} (h : chk T (.compIf t a c b) sc fn (.e (.ListComp u gens scope p)) = true) : ∃ tg it v, gens = [⟨tg, it, [v], 0⟩] ∧
    (blkC T.N sc scope (ownOf T.N t) && chkT T.N (relS scope sc) (cellFn scope) t (.inl tg) && plainB it && chk T a sc fn (.it tg it) && chk T c (relS scope sc) (cellFn scope) (.e v) && chk T b (relS scope sc) (cellFn scope) (.e u)) = true := by
  cases gens with
  | nil => cases h
  | cons g gs =>
    obtain ⟨tg, it, ifs, asy⟩ := g
    cases gs with
    | cons _ _ => cases ifs with
      | nil => simp [chk] at h
      | cons v vs => cases vs <;> (simp [chk] at h)
    | nil =>
      cases ifs with
      | nil => simp [chk] at h
      | cons v vs =>
        cases vs with
        | cons _ _ => simp [chk] at h
        | nil =>
          by_cases e : asy = 0
          · subst e; exact ⟨tg, it, v, rfl, h⟩
          · simp [chk, e] at h
theorem snd_comp {t : Tg} (ha : Snd M T Φ XE a) (hb : Snd M T Φ XE b) : Snd M T Φ XE (.comp t a b) := by
  have pe : ∀ {X sc fn Ex x}, Hy M T Φ XE X sc fn Ex → chk T (.comp t a b) sc fn (.e x) = true → PE X x (tE M Φ XE (.comp t a b) Ex) := by
    intro X sc fn Ex x hy h
    cases x with
    | ListComp u gens scope p =>
      obtain ⟨tg, it, e, h⟩ := chk_comp h
      subst e
      have h : (blkC T.N sc scope (ownOf T.N t) && chkT T.N (relS scope sc) (cellFn scope) t (.inl tg) && plainB it && chk T a sc fn (.it tg it) && chk T b (relS scope sc) (cellFn scope) (.e u)) = true := h
      simp only [Bool.and_eq_true, decide_eq_true_eq] at h
      obtain ⟨⟨⟨⟨h1, h2⟩, h3⟩, h4⟩, h5⟩ := h
      refine PE.imp (pe_lc hy.calm (by rw [hy.hN]; exact hy.nd) (ha.pi hy h4) (by rw [hy.hN, hy.hsc]; exact blkOk_by h1)
          (fun s H C cl fp => sG pv_ev (hy.blk s H scope C cl fp).hK (hy.blk s H scope C cl fp).hN hy.nd (hy.blk s H scope C cl fp).hsc (hy.blk s H scope C cl fp).hfn hy.calm t tg h2)
          (fun _ _ _ _ _ => pts_nil) (fun s H C cl fp => hb.pe (hy.blk s H scope C cl fp) h5) (plain_fold h3 _)) fun σ H Q h => lc_imp (ownOf_slots _ _) h
    | _ => cases h
  refine ⟨pe, ?_, ?_, ?_, ?_, ?_, ?_⟩
  · intro X sc fn Ex x hy h
    have q := pe hy h
    cases x with
    | ListComp u gens scope p => exact sT_val q fun _ => rfl
    | _ => cases h
  · intro X sc fn Ex op ys pos hy h
    cases h
  · intro X sc fn Ex xs hy h
    cases h
  · intro sc fn xs h
    cases h
  · intro X sc fn Ex tg x hy h
    cases h
  · intro sc fn h
    cases h
theorem snd_compIf {t : Tg} (ha : Snd M T Φ XE a) (hc : Snd M T Φ XE c) (hb : Snd M T Φ XE b) : Snd M T Φ XE (.compIf t a c b) := by
  have pe : ∀ {X sc fn Ex x}, Hy M T Φ XE X sc fn Ex → chk T (.compIf t a c b) sc fn (.e x) = true → PE X x (tE M Φ XE (.compIf t a c b) Ex) := by
    intro X sc fn Ex x hy h
    cases x with
    | ListComp u gens scope p =>
      obtain ⟨tg, it, v, e, h⟩ := chk_compIf h
      subst e
      have h : (blkC T.N sc scope (ownOf T.N t) && chkT T.N (relS scope sc) (cellFn scope) t (.inl tg) && plainB it && chk T a sc fn (.it tg it) && chk T c (relS scope sc) (cellFn scope) (.e v) && chk T b (relS scope sc) (cellFn scope) (.e u)) = true := h
      simp only [Bool.and_eq_true, decide_eq_true_eq] at h
      obtain ⟨⟨⟨⟨⟨h1, h2⟩, h3⟩, h4⟩, h6⟩, h5⟩ := h
      refine PE.imp (pe_lc hy.calm (by rw [hy.hN]; exact hy.nd) (ha.pi hy h4) (by rw [hy.hN, hy.hsc]; exact blkOk_by h1)
        (fun s H C cl fp => sG pv_ev (hy.blk s H scope C cl fp).hK (hy.blk s H scope C cl fp).hN hy.nd (hy.blk s H scope C cl fp).hsc (hy.blk s H scope C cl fp).hfn hy.calm t tg h2)
        (fun s H C cl fp => pts_one (hc.pt (hy.blk s H scope C cl fp) h6)) (fun s H C cl fp => hb.pe (hy.blk s H scope C cl fp) h5) (plain_fold h3 _)) fun σ H Q h => lc_impIf (ownOf_slots _ _) h
    | _ => cases h
  refine ⟨pe, ?_, ?_, ?_, ?_, ?_, ?_⟩
  · intro X sc fn Ex x hy h
    have q := pe hy h
    cases x with
    | ListComp u gens scope p => exact sT_val q fun _ => rfl
    | _ => cases h
  · intro X sc fn Ex op ys pos hy h
    cases h
  · intro X sc fn Ex xs hy h
    cases h
  · intro sc fn xs h
    cases h
  · intro X sc fn Ex tg x hy h
    cases h
  · intro sc fn h
    cases h
theorem snd_iseq  (ha : Snd M T Φ XE a) : Snd M T Φ XE (.iseq a) := by
  have pe : ∀ {X sc fn Ex x}, Hy M T Φ XE X sc fn Ex → chk T (.iseq a) sc fn (.e x) = true → PE X x (tE M Φ XE (.iseq a) Ex) := by
    intro X sc fn Ex x hy h
    cases x <;> cases h
  refine ⟨pe, ?_, ?_, ?_, ?_, ?_, ?_⟩
  · intro X sc fn Ex x hy h
    cases x <;> cases h
  · intro X sc fn Ex op ys pos hy h
    cases h
  · intro X sc fn Ex xs hy h
    cases h
  · intro sc fn xs h
    cases h
  · intro X sc fn Ex tg x hy h
    have h : (plainB x && chk T a sc fn (.e x)) = true := by cases x <;> exact h
    simp only [Bool.and_eq_true, decide_eq_true_eq] at h
    exact sI_seq hy (ha.pe hy h.2)
  · intro sc fn h
    cases h
theorem inv_cons {e : E} {x : Expr} {xs : List Expr} (h : chk T e sc fn (.es (x :: xs)) = true) : ∃ a b, e = .cons a b ∧ plainB x = true ∧ chk T a sc fn (.e x) = true ∧ chk T b sc fn (.es xs) = true := by
  cases e with
  | cons a b =>
    have h : (plainB x && chk T a sc fn (.e x) && chk T b sc fn (.es xs)) = true := h
    simp only [Bool.and_eq_true] at h
    exact ⟨a, b, rfl, h.1.1, h.1.2, h.2⟩
  | _ => cases h
theorem inv_nil {e : E} (h : chk T e sc fn (.es []) = true) : e = .nil := by
  cases e <;> first | rfl | cases h
/-- the parts of an argument list -/
def Parts (M : WM K) (T : Tab) (Φ : Nat → Fn M.Wd) (XE : XD → XK → Hp → Prop) : E → Prop
  | .cons a b => Snd M T Φ XE a ∧ Parts M T Φ XE b
  | _ => True
theorem snd_irange (hp : Parts M T Φ XE es) : Snd M T Φ XE (.irange es) := by
  refine ⟨?_, ?_, ?_, ?_, ?_, ?_, ?_⟩
  · intro X sc fn Ex x hy h; cases x <;> cases h
  · intro X sc fn Ex x hy h; cases x <;> cases h
  · intro X sc fn Ex op ys pos hy h; cases h
  · intro X sc fn Ex xs hy h; cases h
  · intro sc fn xs h; cases h
  · intro X sc fn Ex tg x hy h
    cases x with
    | Call f0 args kws p =>
      cases f0 with
      | Name u pu =>
        cases kws with
        | nil =>
          have h : (decide (u = "range") && glB sc u && decide (1 ≤ args.length ∧ args.length ≤ 3) && chk T es sc fn (.es args)) = true := h
          simp only [Bool.and_eq_true, decide_eq_true_eq] at h
          obtain ⟨⟨⟨h1, h2⟩, h3⟩, h4⟩ := h
          match args, h3, h4 with
          | [x1], _, h4 =>
            obtain ⟨a, b, e, p1, c1, r1⟩ := inv_cons h4
            have e2 := inv_nil r1
            subst e e2
            exact sI_range1 hy h1 h2 p1 (hp.1.pe hy c1)
          | [x1, x2], _, h4 =>
            obtain ⟨a, b, e, p1, c1, r1⟩ := inv_cons h4
            obtain ⟨a2, b2, e2, p2, c2, r2⟩ := inv_cons r1
            have e3 := inv_nil r2
            subst e e2 e3
            exact sI_range2 hy h1 h2 p1 p2 (hp.1.pe hy c1) (hp.2.1.pe hy c2)
          | [x1, x2, x3], _, h4 =>
            obtain ⟨a, b, e, p1, c1, r1⟩ := inv_cons h4
            obtain ⟨a2, b2, e2, p2, c2, r2⟩ := inv_cons r1
            obtain ⟨a3, b3, e3, p3, c3, r3⟩ := inv_cons r2
            have e4 := inv_nil r3
            subst e e2 e3 e4
            exact sI_range3 hy h1 h2 p1 p2 p3 (hp.1.pe hy c1) (hp.2.1.pe hy c2) (hp.2.2.1.pe hy c3)
          | [], h3, _ => exact absurd h3.1 (by simp)
          | _ :: _ :: _ :: _ :: _, h3, _ => exact absurd h3.2 (by simp)
        | cons _ _ => cases h
      | _ => cases h
    | _ => cases h
  · intro sc fn h; cases h
theorem chk_lrange {u0 : Str} {pu0 p0 : Pos} {args0 : List Expr} {kws0 : List Keyword} (h : chk T (.lrange es) sc fn (.e (.Call (.Name u0 pu0) args0 kws0 p0)) = true) : ∃ u pu args p, args0 = [.Call (.Name u pu) args [] p] ∧ kws0 = [] ∧
    (decide (u0 = "list") && glB sc u0 && decide (u = "range") && glB sc u && decide (1 ≤ args.length ∧ args.length ≤ 2) && chk T es sc fn (.es args)) = true := by
  cases args0 with
  | nil => cases h
  | cons e rest =>
    cases e with
    | Call f1 a1 k1 p1 =>
      cases f1 with
      | Name u pu =>
        cases k1 with
        | cons _ _ => cases h
        | nil =>
          cases rest with
          | cons _ _ => cases h
          | nil =>
            cases kws0 with
            | cons _ _ => cases h
            | nil => exact ⟨u, pu, a1, p1, rfl, rfl, h⟩
      | _ => cases h
    | _ => cases h
theorem snd_lrange (hp : Parts M T Φ XE es) : Snd M T Φ XE (.lrange es) := by
  have pe : ∀ {X sc fn Ex x}, Hy M T Φ XE X sc fn Ex → chk T (.lrange es) sc fn (.e x) = true → PE X x (tE M Φ XE (.lrange es) Ex) ∧ ∃ f xs ks p, x = .Call f xs ks p := by
    intro X sc fn Ex x hy h
    cases x with
    | Call f0 args0 kws0 p0 =>
      refine ⟨?_, _, _, _, _, rfl⟩
      cases f0 with
      | Name u0 pu0 =>
        obtain ⟨u, pu, args, p, e0, e1, hh⟩ := chk_lrange h
        subst e0 e1
        simp only [Bool.and_eq_true, decide_eq_true_eq] at hh
        obtain ⟨⟨⟨⟨⟨h01, h02⟩, h1⟩, h2⟩, h3⟩, h4⟩ := hh
        match args, h3, h4 with
        | [x1], _, h4 =>
          obtain ⟨a, b, e, p1, c1, r1⟩ := inv_cons h4
          have e2 := inv_nil r1
          subst e e2
          exact sE_lrange1 hy h01 h02 h1 h2 p1 (hp.1.pe hy c1)
        | [x1, x2], _, h4 =>
          obtain ⟨a, b, e, p1, c1, r1⟩ := inv_cons h4
          obtain ⟨a2, b2, e2, p2, c2, r2⟩ := inv_cons r1
          have e3 := inv_nil r2
          subst e e2 e3
          exact sE_lrange2 hy h01 h02 h1 h2 p1 p2 (hp.1.pe hy c1) (hp.2.1.pe hy c2)
        | [], h3, _ => exact absurd h3.1 (by simp)
        | _ :: _ :: _ :: _, h3, _ => exact absurd h3.2 (by simp)
      | _ => cases h
    | _ => cases h
  refine ⟨fun hy h => (pe hy h).1, ?_, ?_, ?_, ?_, ?_, ?_⟩
  · intro X sc fn Ex x hy h
    obtain ⟨q, f, xs, ks, p, e⟩ := pe hy h
    subst e
    exact sT_val q fun _ => rfl
  · intro X sc fn Ex op ys pos hy h; cases h
  · intro X sc fn Ex xs hy h; cases h
  · intro sc fn xs h; cases h
  · intro X sc fn Ex tg x hy h; cases h
  · intro sc fn h; cases h
theorem chk_trange {u0 : Str} {pu0 p0 : Pos} {args0 : List Expr} {kws0 : List Keyword} (h : chk T (.trange es) sc fn (.e (.Call (.Name u0 pu0) args0 kws0 p0)) = true) : ∃ u pu args p, args0 = [.Call (.Name u pu) args [] p] ∧ kws0 = [] ∧
    (decide (u0 = "tuple") && glB sc u0 && decide (u = "range") && glB sc u && decide (1 ≤ args.length ∧ args.length ≤ 2) && chk T es sc fn (.es args)) = true := by
  cases args0 with
  | nil => cases h
  | cons e rest =>
    cases e with
    | Call f1 a1 k1 p1 =>
      cases f1 with
      | Name u pu =>
        cases k1 with
        | cons _ _ => cases h
        | nil =>
          cases rest with
          | cons _ _ => cases h
          | nil =>
            cases kws0 with
            | cons _ _ => cases h
            | nil => exact ⟨u, pu, a1, p1, rfl, rfl, h⟩
      | _ => cases h
    | _ => cases h
theorem snd_trange (hp : Parts M T Φ XE es) : Snd M T Φ XE (.trange es) := by
  have pe : ∀ {X sc fn Ex x}, Hy M T Φ XE X sc fn Ex → chk T (.trange es) sc fn (.e x) = true → PE X x (tE M Φ XE (.trange es) Ex) ∧ ∃ f xs ks p, x = .Call f xs ks p := by
    intro X sc fn Ex x hy h
    cases x with
    | Call f0 args0 kws0 p0 =>
      refine ⟨?_, _, _, _, _, rfl⟩
      cases f0 with
      | Name u0 pu0 =>
        obtain ⟨u, pu, args, p, e0, e1, hh⟩ := chk_trange h
        subst e0 e1
        simp only [Bool.and_eq_true, decide_eq_true_eq] at hh
        obtain ⟨⟨⟨⟨⟨h01, h02⟩, h1⟩, h2⟩, h3⟩, h4⟩ := hh
        match args, h3, h4 with
        | [x1], _, h4 =>
          obtain ⟨a, b, e, p1, c1, r1⟩ := inv_cons h4
          have e2 := inv_nil r1
          subst e e2
          exact sE_trange1 hy h01 h02 h1 h2 p1 (hp.1.pe hy c1)
        | [x1, x2], _, h4 =>
          obtain ⟨a, b, e, p1, c1, r1⟩ := inv_cons h4
          obtain ⟨a2, b2, e2, p2, c2, r2⟩ := inv_cons r1
          have e3 := inv_nil r2
          subst e e2 e3
          exact sE_trange2 hy h01 h02 h1 h2 p1 p2 (hp.1.pe hy c1) (hp.2.1.pe hy c2)
        | [], h3, _ => exact absurd h3.1 (by simp)
        | _ :: _ :: _ :: _, h3, _ => exact absurd h3.2 (by simp)
      | _ => cases h
    | _ => cases h
  refine ⟨fun hy h => (pe hy h).1, ?_, ?_, ?_, ?_, ?_, ?_⟩
  · intro X sc fn Ex x hy h
    obtain ⟨q, f, xs, ks, p, e⟩ := pe hy h
    subst e
    exact sT_val q fun _ => rfl
  · intro X sc fn Ex op ys pos hy h; cases h
  · intro X sc fn Ex xs hy h; cases h
  · intro sc fn xs h; cases h
  · intro X sc fn Ex tg x hy h; cases h
  · intro sc fn h; cases h
theorem snd_izip (ha : Snd M T Φ XE a) (hb : Snd M T Φ XE b) : Snd M T Φ XE (.izip a b) := by
  refine ⟨?_, ?_, ?_, ?_, ?_, ?_, ?_⟩
  · intro X sc fn Ex x hy h; cases x <;> cases h
  · intro X sc fn Ex x hy h; cases x <;> cases h
  · intro X sc fn Ex op ys pos hy h; cases h
  · intro X sc fn Ex xs hy h; cases h
  · intro sc fn xs h; cases h
  · intro X sc fn Ex tg x hy h
    cases tg with
    | Tuple elts kk tp =>
      cases x with
      | Call f0 args kws p =>
        cases f0 with
        | Name u pu =>
          match args, kws, h with
          | [x1, x2], [], h =>
            have h : (decide (u = "zip") && glB sc u && plainB x1 && plainB x2 && chk T a sc fn (.e x1) && chk T b sc fn (.e x2)) = true := h
            simp only [Bool.and_eq_true, decide_eq_true_eq] at h
            obtain ⟨⟨⟨⟨⟨h1, h2⟩, h3⟩, h4⟩, h5⟩, h6⟩ := h
            exact sI_zip hy h1 h2 h3 h4 (ha.pe hy h5) (hb.pe hy h6)
          | [], _, h => cases h
          | [_], _, h => cases h
          | _ :: _ :: _ :: _, _, h => cases h
          | [_, _], _ :: _, h => cases h
        | _ => cases h
      | _ => cases h
    | _ => cases h
  · intro sc fn h; cases h
theorem snd_ienum {k : Int} (ha : Snd M T Φ XE a) : Snd M T Φ XE (.ienum a k) := by
  refine ⟨?_, ?_, ?_, ?_, ?_, ?_, ?_⟩
  · intro X sc fn Ex x hy h; cases x <;> cases h
  · intro X sc fn Ex x hy h; cases x <;> cases h
  · intro X sc fn Ex op ys pos hy h; cases h
  · intro X sc fn Ex xs hy h; cases h
  · intro sc fn xs h; cases h
  · intro X sc fn Ex tg x hy h
    cases tg with
    | Tuple elts kk tp =>
      cases x with
      | Call f0 args kws p =>
        cases f0 with
        | Name u pu =>
          cases args with
          | nil => cases h
          | cons x1 args =>
            cases kws with
            | cons _ _ => cases args with
              | nil => cases h
              | cons x2 args => cases args <;> cases x2 <;> first | cases h | (rename_i cc _ _; cases cc <;> cases h)
            | nil =>
              cases args with
              | nil =>
                have h : (decide (k = 0) && decide (u = "enumerate") && glB sc u && plainB x1 && chk T a sc fn (.e x1)) = true := h
                simp only [Bool.and_eq_true, decide_eq_true_eq] at h
                obtain ⟨⟨⟨⟨h0, h1⟩, h2⟩, h3⟩, h4⟩ := h
                subst h0
                exact sI_enum hy h1 h2 h3 (ha.pe hy h4)
              | cons x2 args =>
                cases x2 with
                | Constant cc ck cp =>
                  cases cc with
                  | int j =>
                    cases args with
                    | nil =>
                      have h : (decide (k = j) && decide (0 ≤ k ∧ k < 1000) && decide (u = "enumerate") && glB sc u && plainB x1 && chk T a sc fn (.e x1)) = true := h
                      simp only [Bool.and_eq_true, decide_eq_true_eq] at h
                      obtain ⟨⟨⟨⟨⟨h0, hk⟩, h1⟩, h2⟩, h3⟩, h4⟩ := h
                      subst h0
                      exact sI_enumK hk hy h1 h2 h3 (ha.pe hy h4)
                    | cons _ _ => cases h
                  | _ => cases args <;> cases h
                | _ => cases args <;> cases h
        | _ => cases h
      | _ => cases h
    | _ => cases h
  · intro sc fn h; cases h
/-- every piece -/
theorem snd_all (mono : MonoF Φ) : ∀ e : E, Snd M T Φ XE e ∧ Parts M T Φ XE e
  | .var i => ⟨snd_var, trivial⟩
  | .int i => ⟨snd_int, trivial⟩
  | .str i => ⟨snd_str, trivial⟩
  | .bl i => ⟨snd_bl, trivial⟩
  | .non => ⟨snd_non, trivial⟩
  | .bin o a b => ⟨snd_bin (snd_all mono a).1 (snd_all mono b).1, trivial⟩
  | .neg a => ⟨snd_neg (snd_all mono a).1, trivial⟩
  | .cmp o a b => ⟨snd_cmp (snd_all mono a).1 (snd_all mono b).1, trivial⟩
  | .chain o p a b c => ⟨snd_chain (snd_all mono a).1 (snd_all mono b).1 (snd_all mono c).1, trivial⟩
  | .and_ a b => ⟨snd_and (snd_all mono a).1 (snd_all mono b).1, trivial⟩
  | .or_ a b => ⟨snd_or (snd_all mono a).1 (snd_all mono b).1, trivial⟩
  | .not_ a => ⟨snd_not (snd_all mono a).1, trivial⟩
  | .ite c a b => ⟨snd_ite (snd_all mono c).1 (snd_all mono a).1 (snd_all mono b).1, trivial⟩
  | .tup es => ⟨snd_tup (snd_all mono es).1, trivial⟩
  | .lst es => ⟨snd_lst (snd_all mono es).1, trivial⟩
  | .nil => ⟨snd_nil, trivial⟩
  | .cons a b => ⟨snd_cons (snd_all mono a).1 (snd_all mono b).1, (snd_all mono a).1, (snd_all mono b).2⟩
  | .idx a b => ⟨snd_idx (snd_all mono a).1 (snd_all mono b).1, trivial⟩
  | .slc a b c => ⟨snd_slc (snd_all mono a).1 (snd_all mono b).1 (snd_all mono c).1, trivial⟩
  | .rev a => ⟨snd_rev (snd_all mono a).1, trivial⟩
  | .call f es => ⟨snd_call mono (snd_all mono es).1, trivial⟩
  | .blt b es => ⟨snd_blt (snd_all mono es).1, trivial⟩
  | .isi a ts => ⟨snd_isi (snd_all mono a).1, trivial⟩
  | .comp t a b => ⟨snd_comp (snd_all mono a).1 (snd_all mono b).1, trivial⟩
  | .compIf t a c b => ⟨snd_compIf (snd_all mono a).1 (snd_all mono c).1 (snd_all mono b).1, trivial⟩
  | .iseq a => ⟨snd_iseq (snd_all mono a).1, trivial⟩
  | .irange es => ⟨snd_irange (snd_all mono es).2, trivial⟩
  | .izip a b => ⟨snd_izip (snd_all mono a).1 (snd_all mono b).1, trivial⟩
  | .ienum a k => ⟨snd_ienum (snd_all mono a).1, trivial⟩
  | .lrange es => ⟨snd_lrange (snd_all mono es).2, trivial⟩
  | .trange es => ⟨snd_trange (snd_all mono es).2, trivial⟩
  | .oidx i e => ⟨snd_oidx (snd_all mono e).1, trivial⟩
end
end Ab

namespace Ab
open PySem PySem.Spec PyProof.Rows L2
/-! ### slots, with lists of one's own -/
theorem getS_lt : ∀ {ρ : Ev} {i : Nat}, getS ρ i ≠ .no → i < ρ.length
  | [], i, h => (h rfl).elim
  | _ :: _, 0, _ => Nat.succ_pos _
  | _ :: r, i + 1, h => Nat.succ_lt_succ (getS_lt (ρ := r) (i := i) h)
theorem getS_map {f : Sl → Sl} (hf : f .no = .no) : ∀ (ρ : Ev) (i : Nat), getS (ρ.map f) i = f (getS ρ i)
  | [], i => by show Sl.no = f .no; rw [hf]
  | s :: _, 0 => rfl
  | s :: r, i + 1 => getS_map hf r i
/-- what is frozen stays so -/
structure Fz.Up (z z' : Fz) : Prop where
  f : Same z.F z'.F
  a : ∀ (k : Nat) a, z.A[k]? = some a → z'.A[k]? = some a
theorem Fz.Up.refl (z : Fz) : z.Up z := ⟨Same.refl _, fun _ _ h => h⟩
theorem Fz.Up.trans {z z1 z2 : Fz} (a : z.Up z1) (b : z1.Up z2) : z.Up z2 := ⟨a.f.trans b.f, fun k p h => b.a k p (a.a k p h)⟩
theorem Fz.Up.le {z z1 z2 : Fz} {H H1 : Hp} (a : z.Up z1) (b : z1.Le z2 H H1) : z.Up z2 := a.trans ⟨b.fF, b.aw⟩
theorem Fz.Up.frz {z z1 : Fz} {p : Addr} {o : HO} (a : z.Up z1) (n : z1.F p = none) : z.Up (z1.frz p o) := a.trans ⟨fun b u hb => by show upd z1.F p o b = _; rw [upd_ne (ne_of_none hb n)]; exact hb, fun _ _ h => h⟩
structure EnvR (K : PySem.W.Frag) (z : Fz) (H0 H : Hp) (σ : L2.St) (ρ : Ev) : Prop where
  get : ∀ i d, getS ρ i = .val d → ∃ v, σ[i]? = some (some v) ∧ Is K z.F z.A v d
  own : ∀ i xs, getS ρ i = .own xs → ∃ p vs, σ[i]? = some (some (V.ref p)) ∧ H p = some (.lst vs) ∧ z.F p = none ∧ ¬ z.T p ∧ H0 p = none ∧ Iss K z.F z.A vs xs
  dst : ∀ i j xs ys p, getS ρ i = .own xs → getS ρ j = .own ys → σ[i]? = some (some (V.ref p)) → σ[j]? = some (some (V.ref p)) → i = j
section
variable {K : PySem.W.Frag} {M : WM K} {z0 z z1 z2 : Fz} {H0 H H1 H2 : Hp} {w : M.Wd} {σ : L2.St} {ρ : Ev}
theorem EnvR.le (v : EnvR K z H0 H σ ρ) (le : z.Le z1 H H1) : EnvR K z1 H0 H1 σ ρ where
  get := fun i d e => let ⟨x, h1, h2⟩ := v.get i d e; ⟨x, h1, h2.mono le.fF le.aw⟩
  own := fun i xs e => by
    obtain ⟨p, vs, h1, h2, h3, h4, h5, h6⟩ := v.own i xs e
    obtain ⟨o1, o2, o3⟩ := Le.own le h2 h3 h4
    exact ⟨p, vs, h1, o1, o2, o3, h5, h6.mono le.fF le.aw⟩
  dst := v.dst
theorem EnvR.mask (v : EnvR K z H0 H σ ρ) : EnvV K z H σ (mask ρ) := ⟨v.get, fun i xs e => by
  obtain ⟨p, vs, h1, h2, h3, h4, h5, h6⟩ := v.own i xs e
  exact ⟨p, vs, h1, h2, h3, h4, h6⟩⟩
theorem set_own_ne {i j : Nat} {s : Sl} {xs : List D} (n : ∀ ys, s ≠ .own ys) (q : getS (ρ.set i s) j = .own xs) : j ≠ i ∧ getS ρ j = .own xs := by
  rw [getS_set] at q
  split at q
  · exact absurd q (n _)
  · rename_i c
    refine ⟨fun e => c ⟨e, ?_⟩, q⟩
    subst e
    exact getS_lt (by rw [q]; exact fun x => nomatch x)
theorem set_val_ne {i j : Nat} {s : Sl} {d : D} (n : ∀ d, s ≠ .val d) (q : getS (ρ.set i s) j = .val d) : j ≠ i ∧ getS ρ j = .val d := by
  rw [getS_set] at q
  split at q
  · exact absurd q (n _)
  · rename_i c
    refine ⟨fun e => c ⟨e, ?_⟩, q⟩
    subst e
    exact getS_lt (by rw [q]; exact fun x => nomatch x)
theorem EnvR.set (v : EnvR K z H0 H σ ρ) {i : Nat} {x : V} {d : D} (hi : i < σ.length) (h : Is K z.F z.A x d) : EnvR K z H0 H (σ.set i (some x)) (ρ.set i (.val d)) where
  get := (EnvV.set (z := z) v.mask hi h).get
  own := fun j xs q => by
    obtain ⟨ji, q⟩ := set_own_ne (by intro _ e; cases e) q
    obtain ⟨p, vs, h1, r⟩ := v.own j xs q
    exact ⟨p, vs, by rw [List.getElem?_set_ne (Ne.symm ji)]; exact h1, r⟩
  dst := fun j k xs ys p q1 q2 e1 e2 => by
    obtain ⟨ji, q1⟩ := set_own_ne (by intro _ e; cases e) q1
    obtain ⟨ki, q2⟩ := set_own_ne (by intro _ e; cases e) q2
    rw [List.getElem?_set_ne (Ne.symm ji)] at e1
    rw [List.getElem?_set_ne (Ne.symm ki)] at e2
    exact v.dst j k xs ys p q1 q2 e1 e2
theorem pv_er {H0 : Hp} : PV K (fun z H σ ρ => EnvR K z H0 H σ ρ) := ⟨fun h hi i => h.set hi i⟩
/-- a new list is one's own -/
theorem EnvR.setOwn (v : EnvR K z H0 H σ ρ) {i : Nat} {p : Addr} {vs : List V} {ds : List D} (hi : i < σ.length) (hp : H p = some (.lst vs)) (n : z.F p = none) (t : ¬ z.T p) (h0 : H0 p = none) (hs : Iss K z.F z.A vs ds)
    (hf : ∀ j xs, getS ρ j = .own xs → σ[j]? ≠ some (some (V.ref p))) : EnvR K z H0 H (σ.set i (some (.ref p))) (ρ.set i (.own ds)) where
  get := fun j d q => by
    obtain ⟨ji, q⟩ := set_val_ne (by intro _ e; cases e) q
    obtain ⟨x, h1, h2⟩ := v.get j d q
    exact ⟨x, by rw [List.getElem?_set_ne (Ne.symm ji)]; exact h1, h2⟩
  own := fun j xs q => by
    rw [getS_set] at q
    split at q
    · rename_i c
      cases q
      rw [c.1]
      exact ⟨p, vs, List.getElem?_set_self hi, hp, n, t, h0, hs⟩
    · rename_i c
      have ji : j ≠ i := fun e => c ⟨e, by subst e; exact getS_lt (by rw [q]; exact fun x => nomatch x)⟩
      obtain ⟨p', vs', h1, r⟩ := v.own j xs q
      exact ⟨p', vs', by rw [List.getElem?_set_ne (Ne.symm ji)]; exact h1, r⟩
  dst := fun j k xs ys p' q1 q2 e1 e2 => by
    have key : ∀ j xs, getS (ρ.set i (.own ds)) j = .own xs → j = i ∨ (j ≠ i ∧ getS ρ j = .own xs) := fun j xs q => by
      rw [getS_set] at q
      split at q
      · rename_i c; exact .inl c.1
      · rename_i c
        exact .inr ⟨fun e => c ⟨e, by subst e; exact getS_lt (by rw [q]; exact fun x => nomatch x)⟩, q⟩
    rcases key j xs q1 with a | ⟨a, r1⟩ <;> rcases key k ys q2 with b | ⟨b, r2⟩
    · rw [a, b]
    · subst a
      rw [List.getElem?_set_self hi] at e1
      rw [List.getElem?_set_ne (Ne.symm b)] at e2
      cases e1
      exact absurd e2 (hf k ys r2)
    · subst b
      rw [List.getElem?_set_self hi] at e2
      rw [List.getElem?_set_ne (Ne.symm a)] at e1
      cases e2
      exact absurd e1 (hf j xs r1)
    · rw [List.getElem?_set_ne (Ne.symm a)] at e1
      rw [List.getElem?_set_ne (Ne.symm b)] at e2
      exact v.dst j k xs ys p' r1 r2 e1 e2
/-- one's own list is written -/
theorem EnvR.updOwn (v : EnvR K z H0 H σ ρ) {i : Nat} {p : Addr} {vs : List V} {xs ds : List D} (q : getS ρ i = .own xs) (e : σ[i]? = some (some (V.ref p))) (n : z.F p = none) (t : ¬ z.T p) (h0 : H0 p = none) (hs : Iss K z.F z.A vs ds) :
    EnvR K z H0 (upd H p (.lst vs)) σ (ρ.set i (.own ds)) := by
  have hl : i < ρ.length := getS_lt (by rw [q]; exact fun x => nomatch x)
  refine ⟨fun j d q => ?_, fun j ys q' => ?_, fun j k ys us p' q1 q2 e1 e2 => ?_⟩
  · obtain ⟨ji, q⟩ := set_val_ne (by intro _ e; cases e) q
    exact v.get j d q
  · rw [getS_set] at q'
    split at q'
    · rename_i c
      cases q'
      rw [c.1]
      exact ⟨p, vs, e, upd_same, n, t, h0, hs⟩
    · rename_i c
      have ji : j ≠ i := fun e => c ⟨e, hl⟩
      obtain ⟨p', vs', h1, h2, r⟩ := v.own j ys q'
      refine ⟨p', vs', h1, ?_, r⟩
      rw [upd_ne fun e' => ji (v.dst j i ys xs p q' q (by rw [← e']; exact h1) e)]
      exact h2
  · have key : ∀ j ys, getS (ρ.set i (.own ds)) j = .own ys → ∃ zs, getS ρ j = .own zs := fun j ys q' => by
      rw [getS_set] at q'
      split at q'
      · rename_i c; exact ⟨xs, c.1 ▸ q⟩
      · exact ⟨ys, q'⟩
    obtain ⟨_, q1⟩ := key j ys q1
    obtain ⟨_, q2⟩ := key k us q2
    exact v.dst j k _ _ p' q1 q2 e1 e2
/-- one's own list is let be: from now on it stands as it is -/
theorem EnvR.frz (v : EnvR K z H0 H σ ρ) {i : Nat} {p : Addr} {vs : List V} {xs : List D} (q : getS ρ i = .own xs) (e : σ[i]? = some (some (V.ref p))) (n : z.F p = none) (hs : Iss K z.F z.A vs xs) :
    EnvR K (z.frz p (.lst vs)) H0 H σ (ρ.set i (.val (.seq true xs))) := by
  have hl : i < ρ.length := getS_lt (by rw [q]; exact fun x => nomatch x)
  have sm : Same z.F (z.frz p (.lst vs)).F := fun b u hb => by show upd z.F p (.lst vs) b = _; rw [upd_ne (ne_of_none hb n)]; exact hb
  refine ⟨fun j d q' => ?_, fun j ys q' => ?_, fun j k ys us p' q1 q2 e1 e2 => ?_⟩
  · rw [getS_set] at q'
    split at q'
    · rename_i c
      cases q'
      rw [c.1]
      exact ⟨_, e, .lst upd_same (hs.mono sm fun _ _ h => h)⟩
    · obtain ⟨x, h1, h2⟩ := v.get j d q'
      exact ⟨x, h1, h2.mono sm fun _ _ h => h⟩
  · obtain ⟨ji, q'⟩ := set_own_ne (by intro _ e; cases e) q'
    obtain ⟨p', vs', h1, h2, h3, h4, h5, h6⟩ := v.own j ys q'
    refine ⟨p', vs', h1, h2, ?_, h4, h5, h6.mono sm fun _ _ h => h⟩
    show upd z.F p (.lst vs) p' = none
    rw [upd_ne fun e' => ji (v.dst j i ys xs p q' q (by rw [← e']; exact h1) e)]
    exact h3
  · obtain ⟨ji, q1⟩ := set_own_ne (by intro _ e; cases e) q1
    obtain ⟨ki, q2⟩ := set_own_ne (by intro _ e; cases e) q2
    exact v.dst j k _ _ p' q1 q2 e1 e2
/-- the own lists' addresses -/
def ownA (σ : L2.St) (ρ : Ev) (a : Addr) : Prop := ∃ i xs, getS ρ i = .own xs ∧ σ[i]? = some (some (V.ref a))
open Classical in
/-- the own lists are let be for a while -/
theorem full_use (a : At M z H w) (le : z0.Le z H0 H) (v : EnvR K z H0 H σ ρ) : ∃ z1 : Fz, At M z1 H w ∧ z0.Le z1 H0 H ∧ EnvV K z1 H σ (full ρ) ∧
    ∀ z' H' w', At M z' H' w' → z1.Le z' H H' → ∃ z'' : Fz, At M z'' H' w' ∧ z0.Le z'' H0 H' ∧ z.Up z'' ∧ EnvR K z'' H0 H' σ ρ ∧ (∀ x d, Is K z'.F z'.A x d → d.pure = true → Is K z''.F z''.A x d) ∧
      (∀ xs ds, Iss K z'.F z'.A xs ds → D.pures ds = true → Iss K z''.F z''.A xs ds) ∧ (∀ p, z'.F p = none → z''.F p = none) ∧ (∀ p, z''.T p → z'.T p) ∧
      (∀ i xs p, getS ρ i = .own xs → σ[i]? = some (some (V.ref p)) → ∃ vs, H' p = some (.lst vs) ∧ z''.F p = none ∧ ¬ z''.T p ∧ H0 p = none ∧ Iss K z''.F z''.A vs xs) := by
  have own : ∀ {b}, ownA σ ρ b → ∃ vs, H b = some (.lst vs) ∧ z.F b = none ∧ ¬ z.T b ∧ H0 b = none := fun {b} ⟨i, xs, q, e⟩ => by
    obtain ⟨p, vs, h1, h2, h3, h4, h5, _⟩ := v.own i xs q
    rw [e] at h1; cases h1
    exact ⟨vs, h2, h3, h4, h5⟩
  let F1 : Hp := fun b => if ownA σ ρ b then H b else z.F b
  have sm : Same z.F F1 := fun b u hb => by
    show (if ownA σ ρ b then H b else z.F b) = _
    rw [if_neg fun o => by obtain ⟨_, _, n, _⟩ := own o; rw [hb] at n; cases n]
    exact hb
  have sub1 : Same F1 H := fun b u hb => by
    have hb : (if ownA σ ρ b then H b else z.F b) = some u := hb
    split at hb
    · exact hb
    · exact a.ok.sub b u hb
  refine ⟨⟨F1, z.T, z.A⟩, ⟨⟨sub1, fun b t => ?_, a.ok.thr⟩, M.mono (F' := F1) a.r (fun _ _ h => same_tup sm h) fun _ _ => rfl⟩, ?_, ⟨fun i d e => ?_, fun i xs e => ?_⟩, ?_⟩
  · show (if ownA σ ρ b then H b else z.F b) = none
    rw [if_neg fun o => by obtain ⟨_, _, _, n, _⟩ := own o; exact n t]
    exact a.ok.dis b t
  · refine ⟨le.fF.trans sm, fun b u hb => ?_, le.kp, le.st, le.tw, le.aw⟩
    have hb : (if ownA σ ρ b then H b else z.F b) = some u := hb
    split at hb
    · rename_i o
      obtain ⟨_, _, _, _, h⟩ := own o
      exact .inr h
    · exact le.nw b u hb
  · unfold full at e
    rw [getS_map rfl] at e
    cases q : getS ρ i with
    | no => rw [q] at e; cases e
    | val d' =>
      rw [q] at e; cases e
      obtain ⟨x, h1, h2⟩ := v.get i _ q
      exact ⟨x, h1, h2.mono sm fun _ _ h => h⟩
    | own xs =>
      rw [q] at e; cases e
      obtain ⟨p, vs, h1, h2, h3, h4, h5, h6⟩ := v.own i xs q
      refine ⟨_, h1, .lst (vs := vs) ?_ (h6.mono sm fun _ _ h => h)⟩
      show (if ownA σ ρ p then H p else z.F p) = _
      rw [if_pos ⟨i, xs, q, h1⟩]
      exact h2
  · unfold full at e
    rw [getS_map rfl] at e
    cases q : getS ρ i with
    | no => rw [q] at e; cases e
    | val d' => rw [q] at e; cases e
    | own xs => rw [q] at e; cases e
  · intro z' H' w' a' le'
    let F2 : Hp := fun b => if ownA σ ρ b then none else z'.F b
    have sF : ∀ b o, F2 b = some o → z'.F b = some o := fun b o hb => by
      have hb : (if ownA σ ρ b then none else z'.F b) = some o := hb
      split at hb
      · cases hb
      · exact hb
    have ownF : ∀ {b}, ownA σ ρ b → ∃ vs, z'.F b = some (.lst vs) := fun {b} o => by
      obtain ⟨vs, h, _⟩ := own o
      refine ⟨vs, le'.fF b _ ?_⟩
      show (if ownA σ ρ b then H b else z.F b) = _
      rw [if_pos o]; exact h
    have tp : ∀ b xs, SqT K z'.F b xs → SqT K F2 b xs := fun b xs h => by
      have key : ∀ o, z'.F b = some o → (∀ vs, o ≠ .lst vs) → F2 b = some o := fun o h n => by
        show (if ownA σ ρ b then none else z'.F b) = _
        rw [if_neg fun q => by obtain ⟨vs, q⟩ := ownF q; rw [h] at q; cases q; exact n vs rfl]
        exact h
      rcases h with (h | ⟨o, h⟩) | h
      · exact .inl (.inl (key _ h fun _ e => nomatch e))
      · exact .inl (.inr ⟨o, key _ h fun _ e => nomatch e⟩)
      · exact .inr h
    have sm2 : Same z.F F2 := fun b u hb => by
      show (if ownA σ ρ b then none else z'.F b) = _
      rw [if_neg fun o => by obtain ⟨_, _, n, _⟩ := own o; rw [hb] at n; cases n]
      exact le'.fF b u (sm b u hb)
    have le2 : z0.Le z' H0 H' := by
      refine Fz.Le.trans (z1 := ⟨F1, z.T, z.A⟩) (H1 := H) ⟨le.fF.trans sm, fun b u hb => ?_, le.kp, le.st, le.tw, le.aw⟩ le'
      have hb : (if ownA σ ρ b then H b else z.F b) = some u := hb
      split at hb
      · rename_i o
        obtain ⟨_, _, _, _, h⟩ := own o
        exact .inr h
      · exact le.nw b u hb
    have ownEnd : ∀ i xs p, getS ρ i = .own xs → σ[i]? = some (some (V.ref p)) → ∃ vs, H' p = some (.lst vs) ∧ F2 p = none ∧ ¬ z'.T p ∧ H0 p = none ∧ Iss K F2 z'.A vs xs := fun i xs p q e => by
      obtain ⟨p', vs, h1, h2, h3, h4, h5, h6⟩ := v.own i xs q
      rw [e] at h1; cases h1
      refine ⟨vs, le'.kp _ _ h2 h4, ?_, fun t => ?_, h5, h6.mono sm2 le'.aw⟩
      · show (if ownA σ ρ p then none else z'.F p) = none
        rw [if_pos ⟨i, xs, q, e⟩]
      · rcases le'.tw p t with t | t
        · exact h4 t
        · rw [h2] at t; cases t
    refine ⟨⟨F2, z'.T, z'.A⟩, ⟨⟨fun b u hb => a'.ok.sub b u (sF b u hb), fun b t => ?_, a'.ok.thr⟩, M.mono (F' := F2) a'.r tp fun _ _ => rfl⟩, ⟨le.fF.trans sm2, fun b u hb => le2.nw b u (sF b u hb), le2.kp, le2.st, le2.tw, le2.aw⟩, ⟨sm2, le'.aw⟩,
      ⟨fun i d e => ?_, fun i xs e => ?_, v.dst⟩, fun x d h p => h.pure tp p, fun xs ds h p => Iss.pure tp h p, fun p h => ?_, fun _ t => t, ownEnd⟩
    · show (if ownA σ ρ b then none else z'.F b) = none
      split
      · rfl
      · exact a'.ok.dis b t
    · obtain ⟨x, h1, h2⟩ := v.get i d e
      exact ⟨x, h1, h2.mono sm2 le'.aw⟩
    · obtain ⟨p, vs, h1, _⟩ := v.own i xs e
      obtain ⟨vs, r⟩ := ownEnd i xs p e h1
      exact ⟨p, vs, h1, r⟩
    · show (if ownA σ ρ p then none else z'.F p) = none
      split
      · rfl
      · exact h
end
end Ab

namespace Ab
open PySem PySem.Spec PyProof.Rows L2
/-! ### statements: the check -/
inductive X4 | s (x : Stmt) | b (xs : List Stmt)
def lclB (sc : Scope) (x : Str) : Bool := match sc.names.lookup x with
  | some .local => true
  | _ => false
def swB (sc : Scope) (x : Str) (px : Pos) (v : Expr) : Bool := match v with
  | .ListComp _ _ s p => lclB sc x && (px.line == p.line) && !(s.names.any fun (n, k) => n == x && (k == .local || k == .cell))
  | _ => false
def isLc : Expr → Bool
  | .ListComp _ _ _ _ => true
  | _ => false
def asgC (T : Tab) (i : Nat) (e : E) (sc : Scope) (fn : Str → Bool) : X4 → Bool
  | .s (.Assign [.Name x px] v _) => decide (T.N[i]? = some x) && locB sc fn x && plainB v && chk T e sc fn (.e v)
  | _ => false
def localOn (sc : Scope) (line : Int) : Expr → Bool
  | .Name x p => lclB sc x && decide ((p.line : Int) = line)
  | _ => false
def line0 : List Expr → Int
  | [] => 0
  | e :: _ => e.pos.line
/-- the stores of such a target are in their order -/
def swN : Expr → Expr → Bool
  | .Tuple ts _ _, .Tuple vs _ _ => !(ts.length == 2 || ts.length == 3) || vs.all (foldedForSure 8)
  | .Tuple _ _ _, _ => true
  | _, _ => false
def unpC (T : Tab) (t : Tg) (e : E) (sc : Scope) (fn : Str → Bool) : X4 → Bool
  | .s (.Assign [tg] v _) => swN tg v && chkT T.N sc fn t (.inl tg) && plainB v && chk T e sc fn (.e v)
  | _ => false
def parC (T : Tab) (ks : List (Nat × Bool)) (es : E) (sc : Scope) (fn : Str → Bool) : X4 → Bool
  | .s (.Assign [.Tuple [.Name x px, .Name y py] _ _] (.Tuple [a, b] _ _) _) => (match ks with
    | [(i, _), (j, _)] => decide (T.N[i]? = some x) && decide (T.N[j]? = some y) && decide (i ≠ j)
    | _ => false) && lclB sc x && lclB sc y && (py.line == px.line) && !(x == y) && plainB a && plainB b && !([a, b].all (foldedForSure 8)) && !([a, b].all (constantsAlone 8)) && chk T es sc fn (.es [a, b])
  | .s (.Assign [.Tuple [.Name x px, .Name y py, .Name u pu] _ _] (.Tuple [a, b, c] _ _) _) => (match ks with
    | [(i, _), (j, _), (k, _)] => decide (T.N[i]? = some x) && decide (T.N[j]? = some y) && decide (T.N[k]? = some u) && decide (i ≠ j) && decide (i ≠ k) && decide (j ≠ k)
    | _ => false) && lclB sc x && lclB sc y && lclB sc u && (py.line == px.line) && (pu.line == px.line) && !(x == y) && !(x == u) && !(y == u) && plainB a && plainB b && plainB c && !([a, b, c].all (foldedForSure 8)) && !([a, b, c].all (constantsAlone 8)) && chk T es sc fn (.es [a, b, c])
  | _ => false
def nmsB (N : List Str) (sc : Scope) (fn : Str → Bool) : List (Nat × Bool) → List Expr → Bool
  | [], [] => true
  | (i, _) :: ks, .Name x _ :: ts => decide (N[i]? = some x) && locB sc fn x && nmsB N sc fn ks ts
  | _, _ => false
/-- four names at once, or more -/
def parM (T : Tab) (ks : List (Nat × Bool)) (es : E) (sc : Scope) (fn : Str → Bool) : X4 → Bool
  | .s (.Assign [.Tuple ts _ _] (.Tuple vs _ _) _) => decide (4 ≤ ts.length ∧ ts.length ≤ 100) && nmsB T.N sc fn ks ts && chk T es sc fn (.es vs)
  | _ => false
def appC (T : Tab) (i : Nat) (e : E) (sc : Scope) (fn : Str → Bool) : X4 → Bool
  | .s (.Expr (.Call (.Attribute (.Name x _) m apos) [v] [] cpos) _) => decide (m = "append") && decide (T.N[i]? = some x) && visB sc x && okB x && (apos.endLine == cpos.line) && plainB v && chk T e sc fn (.e v)
  | _ => false
def insC (T : Tab) (i : Nat) (e : E) (sc : Scope) (fn : Str → Bool) : X4 → Bool
  | .s (.Expr (.Call (.Attribute (.Name x _) m apos) [.Constant (.int k) _ _, v] [] cpos) _) => decide (m = "insert") && decide (k = 0) && decide (T.N[i]? = some x) && visB sc x && okB x && (apos.endLine == cpos.line) && plainB v && chk T e sc fn (.e v)
  | _ => false
def setiC (T : Tab) (i : Nat) (a e : E) (sc : Scope) (fn : Str → Bool) : X4 → Bool
  | .s (.Assign [.Subscript (.Name x _) y _] v _) => decide (T.N[i]? = some x) && visB sc x && okB x && plainB y && plainB v && chk T a sc fn (.e y) && chk T e sc fn (.e v)
  | _ => false
def augiC (T : Tab) (o : Bop) (i : Nat) (a e : E) (sc : Scope) (fn : Str → Bool) : X4 → Bool
  | .s (.AugAssign (.Subscript (.Name x _) y _) op v _) => bopB o op && decide (T.N[i]? = some x) && visB sc x && okB x && plainB y && chk T a sc fn (.e y) && chk T e sc fn (.e v)
  | _ => false
def augC (T : Tab) (o : Bop) (i : Nat) (e : E) (sc : Scope) (fn : Str → Bool) : X4 → Bool
  | .s (.AugAssign (.Name x _) op v _) => bopB o op && decide (T.N[i]? = some x) && locB sc fn x && chk T e sc fn (.e v)
  | _ => false
def expC (T : Tab) (e : E) (sc : Scope) (fn : Str → Bool) : X4 → Bool
  | .s (.Expr v _) => plainB v && !isLc v && chk T e sc fn (.e v)
  | _ => false
def retC (T : Tab) (e : E) (sc : Scope) (fn : Str → Bool) : X4 → Bool
  | .s (.Return (some v) _) => chk T e sc fn (.e v)
  | .s (.Return none _) => e.isNon
  | _ => false
def retOC (T : Tab) (i : Nat) (sc : Scope) (fn : Str → Bool) : X4 → Bool
  | .s (.Return (some (.Name x _)) _) => decide (T.N[i]? = some x) && visB sc x && okB x
  | _ => false
def skipC : X4 → Bool
  | .b [] => true
  | .s (.Pass _) => true
  | .s (.Expr (.Constant (.str _) _ _) _) => true
  | _ => false
def isFrz : S → Bool
  | .frz _ => true
  | _ => false
def chkS (T : Tab) (sc : Scope) (fn : Str → Bool) : S → X4 → Bool
  | .skip, x => skipC x
  | .seq a b, .b (st :: rest) => if isFrz a then chkS T sc fn b (.b (st :: rest)) else chkS T sc fn a (.s st) && chkS T sc fn b (.b rest)
  | .seq a b, .b [] => if isFrz a then chkS T sc fn b (.b []) else false
  | .asg i e, x => asgC T i e sc fn x
  | .asgF i e, x => asgC T i e sc fn x
  | .own i e, x => asgC T i e sc fn x
  | .ownF i e, x => asgC T i e sc fn x
  | .par ks es, x => parC T ks es sc fn x || parM T ks es sc fn x
  | .unp t e, x => unpC T t e sc fn x
  | .app i e, x => appC T i e sc fn x
  | .appF i e, x => appC T i e sc fn x
  | .ins i e, x => insC T i e sc fn x
  | .seti i a e, x => setiC T i a e sc fn x
  | .augi o i a e, x => augiC T o i a e sc fn x
  | .aug o i e, x => augC T o i e sc fn x
  | .exp e, x => expC T e sc fn x
  | .ret e, x => retC T e sc fn x
  | .retO i, x => retOC T i sc fn x
  | .ite c a b, .s (.If t p q _) => chk T c sc fn (.e t) && chkS T sc fn a (.b p) && chkS T sc fn b (.b q)
  | .for_ t src body, .s (.For tg it p [] _) => chkT T.N sc fn t (.inl tg) && plainB it && chk T src sc fn (.it tg it) && chkS T sc fn body (.b p)
  | .while_ c body, .s (.While t p [] _) => chk T c sc fn (.e t) && chkS T sc fn body (.b p)
  | .never, _ => true
  | .brk, .s (.Break _) => true
  | .cnt, .s (.Continue _) => true
  | _, _ => false

/-! ### what a statement's proof gives -/
section
variable {K : PySem.W.Frag} (M : WM K) (T : Tab) (Φ : Nat → Fn M.Wd) (XE : XD → XK → Hp → Prop)
structure HyS (X : Cx) (sc : Scope) (fn : Str → Bool) (Ex : XK) : Prop extends Hy M T Φ XE X sc fn Ex where
  hk : sc.kind = .function
  po : PassesOwn (model X.prog X.w) X.A X.env X.xe
structure EndsD (z0 : Fz) (H0 : Hp) (zb : Fz) (E : DE M.Wd) (D : Ends) (Ex : XK) : Prop where
  nx : ∀ z H w σ ρ, At M z H w → z0.Le z H0 H → zb.Up z → EnvR K z H0 H σ ρ → E.nx ρ w → D.nx σ H
  bk : ∀ z H w σ ρ, At M z H w → z0.Le z H0 H → zb.Up z → EnvR K z H0 H σ ρ → E.bk ρ w → D.bk σ H
  ct : ∀ z H w σ ρ, At M z H w → z0.Le z H0 H → zb.Up z → EnvR K z H0 H σ ρ → E.ct ρ w → D.ct σ H
  rt : ∀ z H w v r, At M z H w → z0.Le z H0 H → RIs K z H0 H v r → E.rt r w → D.rt v H
  ex : Xok M XE z0 H0 E.ex Ex
def tSt (s : S) (Ex : XK) : TS := fun D σ H => ∃ (z0 : Fz) (H0 : Hp) (zb z : Fz) (w : M.Wd) (ρ : Ev) (E : DE M.Wd), At M z H w ∧ z0.Le z H0 H ∧ zb.Up z ∧ EnvR K z H0 H σ ρ ∧ EndsD M XE z0 H0 zb E D Ex ∧ execS Φ s E ρ w
def PX (X : Cx) : X4 → TS → Prop
  | .s st, t => PS X st t
  | .b sts, t => PSs X sts t
end
theorem PS.impL {X : Cx} {st : Stmt} {t t' : TS} (h : PS X st t) (i : ∀ D σ H, σ.length = X.N.length → t' D σ H → t D σ H) : PS X st t' := ⟨fun pins s σ H D I q => h.run pins s σ H D I (i D σ H I.len q)⟩
theorem PSs.impL {X : Cx} {st : List Stmt} {t t' : TS} (h : PSs X st t) (i : ∀ D σ H, σ.length = X.N.length → t' D σ H → t D σ H) : PSs X st t' := ⟨fun pins s σ H D I q => h.run pins s σ H D I (i D σ H I.len q)⟩
theorem PG.ex {α : Type} {X : Cx} {e : Expr} {g : α → TG} (h : ∀ a, PG X e (g a)) : PG X e (fun v σ H Q => ∃ a, g a v σ H Q) := ⟨fun pins s σ H v u Q I r ⟨a, q⟩ => (h a).run pins s σ H v u Q I r q⟩
section
variable {K : PySem.W.Frag} {M : WM K} {T : Tab} {Φ : Nat → Fn M.Wd} {XE : XD → XK → Hp → Prop} {X : Cx} {sc : Scope} {fn : Str → Bool} {Ex : XK} {x4 : X4} {e a b c es : E} {i : Nat}
theorem lclB_d {x : Str} (h : lclB sc x = true) : sc.names.lookup x = some .local := by
  unfold lclB at h
  split at h
  · assumption
  · cases h
theorem locB_d {x : Str} (hsc : X.env.scope = sc) (hfn : X.fn = fn) (q : locB sc fn x = true) : L2.Loc X.env.scope x ∧ (X.fn x = true ∨ X.env.scope.names.lookup x = some .local) := by
  unfold locB at q
  rw [hsc, hfn]
  unfold L2.Loc
  split at q
  · rename_i e; exact ⟨.inl e, .inr e⟩
  · rename_i e; exact ⟨.inr e, .inl q⟩
  · cases q
theorem sw_false {x : Str} {px : Pos} {v : Expr} {l : Nat} (hsc : X.env.scope = sc) (hp : plainB v = true) (h : swB sc x px v = false) : swapsWith v (some (.Name x px)) l X.env = pure false := by
  cases v with
  | ListComp elt gs s p =>
    have h : (lclB sc x && (px.line == p.line) && !(s.names.any fun (n, k) => n == x && (k == .local || k == .cell))) = false := h
    unfold swapsWith
    have ek : X.env.kindOf x = sc.names.lookup x := by rw [← hsc]; rfl
    show (pure (X.env.blockKind == .function && X.env.kindOf x == some .local && px.line == p.line && !(s.names.any fun (n, k) => n == x && (k == .local || k == .cell))) : Sem Bool) = pure false
    congr 1
    rw [ek]
    unfold lclB at h
    split at h
    · rename_i e
      rw [e]
      rw [Bool.true_and] at h
      cases hb : (X.env.blockKind == .function)
      · rfl
      · exact h
    · rename_i e
      have : (sc.names.lookup x == some .local) = false := by
        cases q : sc.names.lookup x with
        | none => rfl
        | some k =>
          cases k <;> first | rfl | exact absurd q e
      rw [this]
      simp
  | SetComp => cases hp
  | DictComp => cases hp
  | _ => rfl
theorem PE.asg {v : Expr} {x : Str} {px pos : Pos} {t : TE} (hy : HyS M T Φ XE X sc fn Ex) (h1 : T.N[i]? = some x) (h2 : locB sc fn x = true) (hp : plainB v = true) (hs : swB sc x px v = false) (h : PE X v t) : PS X (.Assign [.Name x px] v pos) (tAsg t (gName i)) := by
  obtain ⟨l1, l2⟩ := locB_d hy.hsc hy.hfn h2
  exact ps_set (by rw [hy.hN]; exact hy.nd) (by rw [hy.hN]; exact h1) l1 h (sw_false hy.hsc hp hs) l2
/-- name = e, by e's end -/
theorem sAsg (mono : MonoF Φ) (hy : HyS M T Φ XE X sc fn Ex) {x : Str} {px pos : Pos} {v : Expr} (h1 : T.N[i]? = some x) (h2 : locB sc fn x = true) (hp : plainB v = true) (h : chk T e sc fn (.e v) = true) : PS X (.Assign [.Name x px] v pos) (tAsg (tE M Φ XE e Ex) (gName i)) := by
  cases hs : swB sc x px v with
  | false => exact PE.asg hy h1 h2 hp hs ((snd_all mono e).1.pe hy.toHy h)
  | true =>
    cases v with
    | ListComp elt gens scope p =>
      have hs : (lclB sc x && (px.line == p.line) && !(scope.names.any fun (n, k) => n == x && (k == .local || k == .cell))) = true := hs
      simp only [Bool.and_eq_true, Bool.not_eq_true'] at hs
      obtain ⟨⟨s1, s2⟩, s3⟩ := hs
      have ll := lclB_d s1
      rw [← hy.hsc] at ll
      have hsw : swapsWith (.ListComp elt gens scope p) (some (.Name x px)) pos.line X.env = pure true := sw_true (by rw [hy.hsc]; exact hy.hk) ll s2 s3
      cases e with
      | comp t ea eb =>
        obtain ⟨tg, it, e, h⟩ := chk_comp h
        subst e
        have h : (blkC T.N sc scope (ownOf T.N t) && chkT T.N (relS scope sc) (cellFn scope) t (.inl tg) && plainB it && chk T ea sc fn (.it tg it) && chk T eb (relS scope sc) (cellFn scope) (.e elt)) = true := h
        simp only [Bool.and_eq_true, decide_eq_true_eq] at h
        obtain ⟨⟨⟨⟨g1, g2⟩, g3⟩, g4⟩, g5⟩ := h
        have ha := (snd_all (M := M) (T := T) (XE := XE) mono ea).1
        have hb := (snd_all (M := M) (T := T) (XE := XE) mono eb).1
        have hy' := hy.toHy
        refine PS.imp (ps_setLc hy.calm (by rw [hy.hN]; exact hy.nd) (by rw [hy.hN]; exact h1) ll hsw (ha.pi hy' g4) (by rw [hy.hN, hy.hsc]; exact blkOk_by g1)
          (fun s H C cl fp => sG pv_ev (hy'.blk s H scope C cl fp).hK (hy'.blk s H scope C cl fp).hN hy.nd (hy'.blk s H scope C cl fp).hsc (hy'.blk s H scope C cl fp).hfn hy.calm t tg g2)
          (fun _ _ _ _ _ => pts_nil) (fun s H C cl fp => hb.pe (hy'.blk s H scope C cl fp) g5) (plain_fold g3 _)) fun D σ H h => lc_imp (ownOf_slots _ _) h
      | compIf t ea ec eb =>
        obtain ⟨tg, it, v, e, h⟩ := chk_compIf h
        subst e
        have h : (blkC T.N sc scope (ownOf T.N t) && chkT T.N (relS scope sc) (cellFn scope) t (.inl tg) && plainB it && chk T ea sc fn (.it tg it) && chk T ec (relS scope sc) (cellFn scope) (.e v) && chk T eb (relS scope sc) (cellFn scope) (.e elt)) = true := h
        simp only [Bool.and_eq_true, decide_eq_true_eq] at h
        obtain ⟨⟨⟨⟨⟨g1, g2⟩, g3⟩, g4⟩, g6⟩, g5⟩ := h
        have ha := (snd_all (M := M) (T := T) (XE := XE) mono ea).1
        have hb := (snd_all (M := M) (T := T) (XE := XE) mono eb).1
        have hc := (snd_all (M := M) (T := T) (XE := XE) mono ec).1
        have hy' := hy.toHy
        refine PS.imp (ps_setLc hy.calm (by rw [hy.hN]; exact hy.nd) (by rw [hy.hN]; exact h1) ll hsw (ha.pi hy' g4) (by rw [hy.hN, hy.hsc]; exact blkOk_by g1)
          (fun s H C cl fp => sG pv_ev (hy'.blk s H scope C cl fp).hK (hy'.blk s H scope C cl fp).hN hy.nd (hy'.blk s H scope C cl fp).hsc (hy'.blk s H scope C cl fp).hfn hy.calm t tg g2)
          (fun s H C cl fp => pts_one (hc.pt (hy'.blk s H scope C cl fp) g6)) (fun s H C cl fp => hb.pe (hy'.blk s H scope C cl fp) g5) (plain_fold g3 _)) fun D σ H h => lc_impIf (ownOf_slots _ _) h
      | _ => cases h
    | _ => cases hs
theorem ltN {N : List Str} {σ : L2.St} {x : Str} (h1 : N[i]? = some x) (e : σ.length = N.length) : i < σ.length := by
  rw [e]; exact (List.getElem?_eq_some_iff.mp h1).1
theorem st_asg (mono : MonoF Φ) (hy : HyS M T Φ XE X sc fn Ex) (h : asgC T i e sc fn x4 = true) : PX X x4 (tSt M Φ XE (.asg i e) Ex) := by
  unfold asgC at h
  split at h
  · simp only [Bool.and_eq_true, decide_eq_true_eq] at h
    obtain ⟨⟨⟨h1, h2⟩, h3⟩, h4⟩ := h
    refine PS.impL (sAsg mono hy h1 h2 h3 h4) fun D σ H len ⟨z0, H0, zb, z, w, ρ, E, a, le, up, v, en, h⟩ => ?_
    simp only [execS] at h
    have hi := ltN h1 (len.trans (by rw [hy.hN]))
    exact tE_use a v.mask (en.ex.mono le) h fun u z1 H1 w1 r1 a1 l1 i1 q1 => en.nx _ _ _ _ _ a1 (le.trans l1) (up.le l1) ((v.le l1).set hi i1) q1
  · cases h
theorem st_asgF (mono : MonoF Φ) (hy : HyS M T Φ XE X sc fn Ex) (h : asgC T i e sc fn x4 = true) : PX X x4 (tSt M Φ XE (.asgF i e) Ex) := by
  unfold asgC at h
  split at h
  · simp only [Bool.and_eq_true, decide_eq_true_eq] at h
    obtain ⟨⟨⟨h1, h2⟩, h3⟩, h4⟩ := h
    refine PS.impL (sAsg mono hy h1 h2 h3 h4) fun D σ H len ⟨z0, H0, zb, z, w, ρ, E, a, le, up, v, en, h⟩ => ?_
    simp only [execS] at h
    have hi := ltN h1 (len.trans (by rw [hy.hN]))
    obtain ⟨z1, a1, le1, v1, back⟩ := full_use a le v
    refine tE_use a1 v1 (en.ex.mono le1) h fun u z2 H2 w2 r2 a2 l2 i2 q2 => ?_
    obtain ⟨z3, a3, le3, up3, v3, p1, _⟩ := back z2 H2 w2 a2 l2
    exact en.nx _ _ _ _ _ a3 le3 (up.trans up3) (v3.set hi (p1 _ _ i2 q2.1)) q2.2
  · cases h
theorem st_own (mono : MonoF Φ) (hy : HyS M T Φ XE X sc fn Ex) (h : asgC T i e sc fn x4 = true) : PX X x4 (tSt M Φ XE (.own i e) Ex) := by
  unfold asgC at h
  split at h
  · simp only [Bool.and_eq_true, decide_eq_true_eq] at h
    obtain ⟨⟨⟨h1, h2⟩, h3⟩, h4⟩ := h
    refine PS.impL (sAsg mono hy h1 h2 h3 h4) fun D σ H len ⟨z0, H0, zb, z, w, ρ, E, a, le, up, v, en, h⟩ => ?_
    simp only [execS] at h
    have hi := ltN h1 (len.trans (by rw [hy.hN]))
    refine tE_useR a v.mask (en.ex.mono le) h fun u z1 H1 w1 r1 a1 l1 i1 q1 => ?_
    cases r1 with
    | dat d => exact q1.elim
    | fresh ds =>
      obtain ⟨p, vs, rfl, hp, hF, hT, hH, hs⟩ := i1
      refine en.nx _ _ _ _ _ a1 (le.trans l1) (up.le l1) ((v.le l1).setOwn hi hH hF hT (le.st p hp) hs fun j xs q e => ?_) q1
      obtain ⟨p', vs', e1, e2, _⟩ := v.own j xs q
      rw [e] at e1; cases e1; rw [hp] at e2; cases e2
  · cases h
theorem st_ownF (mono : MonoF Φ) (hy : HyS M T Φ XE X sc fn Ex) (h : asgC T i e sc fn x4 = true) : PX X x4 (tSt M Φ XE (.ownF i e) Ex) := by
  unfold asgC at h
  split at h
  · simp only [Bool.and_eq_true, decide_eq_true_eq] at h
    obtain ⟨⟨⟨h1, h2⟩, h3⟩, h4⟩ := h
    refine PS.impL (sAsg mono hy h1 h2 h3 h4) fun D σ H len ⟨z0, H0, zb, z, w, ρ, E, a, le, up, v, en, h⟩ => ?_
    simp only [execS] at h
    have hi := ltN h1 (len.trans (by rw [hy.hN]))
    obtain ⟨z1, a1, le1, v1, back⟩ := full_use a le v
    refine tE_useR a1 v1 (en.ex.mono le1) h fun u z2 H2 w2 r2 a2 l2 i2 q2 => ?_
    obtain ⟨z3, a3, le3, up3, v3, p1, p2, p3, p4, p5⟩ := back z2 H2 w2 a2 l2
    cases r2 with
    | dat d => exact q2.elim
    | fresh ds =>
      obtain ⟨p, vs, rfl, hp, hF, hT, hH, hs⟩ := i2
      refine en.nx _ _ _ _ _ a3 le3 (up.trans up3) (v3.setOwn hi hH (p3 p hF) (fun t => hT (p4 p t)) (le.st p hp) (p2 _ _ hs q2.1) fun j xs q e => ?_) q2.2
      obtain ⟨p', vs', e1, e2, _⟩ := v.own j xs q
      rw [e] at e1; cases e1; rw [hp] at e2; cases e2
  · cases h
/-! returns, plain expressions, tests -/
theorem st_ret (mono : MonoF Φ) (hy : HyS M T Φ XE X sc fn Ex) (h : retC T e sc fn x4 = true) : PX X x4 (tSt M Φ XE (.ret e) Ex) := by
  unfold retC at h
  split at h
  · refine PS.impL (ps_ret ((snd_all (M := M) (T := T) (XE := XE) mono e).1.pe hy.toHy h)) fun D σ H len ⟨z0, H0, zb, z, w, ρ, E, a, le, up, v, en, h⟩ => ?_
    simp only [execS] at h
    obtain ⟨z1, a1, le1, v1, back⟩ := full_use a le v
    exact tE_useR a1 v1 (en.ex.mono le1) h fun u z2 H2 w2 r2 a2 l2 i2 q2 => en.rt _ _ _ _ _ a2 (le1.trans l2) (i2.back le.st) q2
  · cases e with
    | non =>
      refine PS.impL ps_retN fun D σ H len ⟨z0, H0, zb, z, w, ρ, E, a, le, up, v, en, h⟩ => ?_
      simp only [execS, evalE] at h
      exact en.rt _ _ _ _ (.dat .non) a le Is.non h
    | _ => cases h
  · cases h
theorem st_retO (hy : HyS M T Φ XE X sc fn Ex) (h : retOC T i sc fn x4 = true) : PX X x4 (tSt M Φ XE (.retO i) Ex) := by
  unfold retOC at h
  split at h
  · simp only [Bool.and_eq_true, decide_eq_true_eq] at h
    obtain ⟨⟨h1, h2⟩, h3⟩ := h
    obtain ⟨d1, d2, _⟩ := okB_d h3
    refine PS.impL (ps_ret (pe_var (i := i) (by rw [hy.hN]; exact h1) (by rw [hy.hsc]; exact visB_d h2) d1 d2)) fun D σ H len ⟨z0, H0, zb, z, w, ρ, E, a, le, up, v, en, h⟩ => ?_
    simp only [execS] at h
    split at h
    · rename_i xs q
      obtain ⟨p, vs, g1, g2, g3, g4, g5, g6⟩ := v.own i xs q
      exact ⟨_, g1, en.rt _ _ _ _ (.fresh xs) a le ⟨p, vs, rfl, g5, g3, g4, g2, g6⟩ h⟩
    · exact h.elim
  · cases h
theorem st_exp (mono : MonoF Φ) (hy : HyS M T Φ XE X sc fn Ex) (h : expC T e sc fn x4 = true) : PX X x4 (tSt M Φ XE (.exp e) Ex) := by
  unfold expC at h
  split at h
  · rename_i v pos
    simp only [Bool.and_eq_true, Bool.not_eq_true'] at h
    obtain ⟨⟨h1, h2⟩, h3⟩ := h
    refine PS.impL (ps_expr ((snd_all (M := M) (T := T) (XE := XE) mono e).1.pe hy.toHy h3) (by cases v <;> first | rfl | (cases h2; done) | (cases h1; done))) fun D σ H len ⟨z0, H0, zb, z, w, ρ, E, a, le, up, v, en, h⟩ => ?_
    simp only [execS] at h
    exact tE_use a v.mask (en.ex.mono le) h fun u z1 H1 w1 r1 a1 l1 i1 q1 => en.nx _ _ _ _ _ a1 (le.trans l1) (up.le l1) (v.le l1) q1
  · cases h
theorem st_skip (hy : HyS M T Φ XE X sc fn Ex) (h : skipC x4 = true) : PX X x4 (tSt M Φ XE .skip Ex) := by
  unfold skipC at h
  split at h
  · exact PSs.impL pss_nil fun D σ H len ⟨z0, H0, zb, z, w, ρ, E, a, le, up, v, en, h⟩ => en.nx _ _ _ _ _ a le up v h
  · exact PS.impL ps_pass fun D σ H len ⟨z0, H0, zb, z, w, ρ, E, a, le, up, v, en, h⟩ => en.nx _ _ _ _ _ a le up v h
  · exact PS.impL ps_doc fun D σ H len ⟨z0, H0, zb, z, w, ρ, E, a, le, up, v, en, h⟩ => en.nx _ _ _ _ _ a le up v h
  · cases h
theorem st_if (mono : MonoF Φ) (hy : HyS M T Φ XE X sc fn Ex) {s1 s2 : S} {t : Expr} {p q : List Stmt} {pos : Pos} (h : chk T c sc fn (.e t) = true) (h1 : PSs X p (tSt M Φ XE s1 Ex)) (h2 : PSs X q (tSt M Φ XE s2 Ex)) : PS X (.If t p q pos) (tSt M Φ XE (.ite c s1 s2) Ex) := by
  refine PS.impL (ps_if ((snd_all (M := M) (T := T) (XE := XE) mono c).1.pt hy.toHy h) h1 h2) fun D σ H len ⟨z0, H0, zb, z, w, ρ, E, a, le, up, v, en, h⟩ => ?_
  simp only [execS] at h
  obtain ⟨z1, a1, le1, v1, back⟩ := full_use a le v
  refine tT_use a1 v1 (en.ex.mono le1) h (fun r w' q => ?_) fun b z2 H2 w2 r2 a2 l2 e2 q2 => ?_
  · split at q
    · exact ⟨true, by assumption⟩
    · exact ⟨false, by assumption⟩
    · exact q.elim
  · obtain ⟨z3, a3, le3, up3, v3, _⟩ := back z2 H2 w2 a2 l2
    rw [e2] at q2
    cases b with
    | true => exact ⟨z0, H0, zb, z3, w2, ρ, E, a3, le3, up.trans up3, v3, en, q2⟩
    | false => exact ⟨z0, H0, zb, z3, w2, ρ, E, a3, le3, up.trans up3, v3, en, q2⟩
theorem st_seq {s1 s2 : S} {st : Stmt} {rest : List Stmt} (h1 : PS X st (tSt M Φ XE s1 Ex)) (h2 : PSs X rest (tSt M Φ XE s2 Ex)) : PSs X (st :: rest) (tSt M Φ XE (.seq s1 s2) Ex) := by
  refine PSs.impL (pss_cons h1 h2) fun D σ H len ⟨z0, H0, zb, z, w, ρ, E, a, le, up, v, en, h⟩ => ?_
  exact ⟨z0, H0, zb, z, w, ρ, { E with nx := execS Φ s2 E }, a, le, up, v, ⟨fun z' H' w' σ' ρ' a' l' u' v' q => ⟨z0, H0, zb, z', w', ρ', E, a', l', u', v', en, q⟩, en.bk, en.ct, en.rt, en.ex⟩, h⟩
theorem st_frz {s : S} {sts : List Stmt} (h1 : PSs X sts (tSt M Φ XE s Ex)) : PSs X sts (tSt M Φ XE (.seq (.frz i) s) Ex) := by
  refine PSs.impL h1 fun D σ H len ⟨z0, H0, zb, z, w, ρ, E, a, le, up, v, en, h⟩ => ?_
  simp only [execS] at h
  split at h
  · rename_i xs q
    obtain ⟨p, vs, g1, g2, g3, g4, g5, g6⟩ := v.own i xs q
    exact ⟨z0, H0, zb, z.frz p (.lst vs), w, _, E, a.frz g2 g4 g3, le.frz g5 g3, up.frz g3, v.frz q g1 g3 g6, en, h⟩
  · exact h.elim
end
end Ab

namespace Ab
open PySem PySem.Spec PyProof.Rows L2
section
variable {K : PySem.W.Frag} {M : WM K} {T : Tab} {Φ : Nat → Fn M.Wd} {XE : XD → XK → Hp → Prop} {X : Cx} {sc : Scope} {fn : Str → Bool} {Ex : XK} {x4 : X4} {e a b c es : E} {i : Nat}
theorem evar (hy : HyS M T Φ XE X sc fn Ex) {x : Str} {pos : Pos} (h1 : T.N[i]? = some x) (h2 : visB sc x = true) (h3 : okB x = true) : PE X (.Name x pos) (tVar i) := by
  obtain ⟨d1, d2, _⟩ := okB_d h3
  exact pe_var (i := i) (by rw [hy.hN]; exact h1) (by rw [hy.hsc]; exact visB_d h2) d1 d2
theorem e_app (mono : MonoF Φ) (hy : HyS M T Φ XE X sc fn Ex) {x : Str} {v : Expr} {pos apos cpos cp : Pos} (h1 : T.N[i]? = some x) (h2 : visB sc x = true) (h3 : okB x = true) (hl : (apos.endLine == cpos.line) = true) (hp : plainB v = true) (h : chk T e sc fn (.e v) = true) :
    PS X (.Expr (.Call (.Attribute (.Name x pos) "append" apos) [v] [] cpos) cp) (tDrop (tBM X.K "list" rAppend (tVar i) (tA M Φ XE (.cons e .nil) Ex))) := by
  have pa : PA X [v] (tA M Φ XE (.cons e .nil) Ex) := (snd_all (M := M) (T := T) (XE := XE) mono (.cons e .nil)).1.pa hy.toHy (by show (plainB v && chk T e sc fn (.e v) && true) = true; rw [hp, h]; rfl)
  have hs := plain_star hp ([] : List Expr) X.env
  exact ps_expr (pe_bm F.plainAttrs_list F.slot_list_append F.type_list_append mt_append (evar hy h1 h2 h3) pa rfl (by rw [hs]; rfl) hl hs rfl)
theorem st_app (mono : MonoF Φ) (hy : HyS M T Φ XE X sc fn Ex) (h : appC T i e sc fn x4 = true) : PX X x4 (tSt M Φ XE (.app i e) Ex) := by
  unfold appC at h
  split at h
  · simp only [Bool.and_eq_true, decide_eq_true_eq] at h
    obtain ⟨⟨⟨⟨⟨⟨hm, h1⟩, h2⟩, h3⟩, h4⟩, h5⟩, h6⟩ := h
    subst hm
    refine PS.impL (e_app mono hy h1 h2 h3 h4 h5 h6) fun D σ H len ⟨z0, H0, zb, z, w, ρ, E, a, le, up, v, en, h⟩ => ?_
    simp only [execS] at h
    split at h
    · rename_i xs q
      obtain ⟨p, vs, g1, g2, g3, g4, g5, g6⟩ := v.own i xs q
      refine ⟨.ref p, g1, .inl ⟨rfl, vs, SqL.of g2⟩, ?_⟩
      refine tA_use (e := .cons e .nil) (Q := fun r w => match r.d with
        | .seq true [d] => xs.length < sizeLine ∧ E.nx (ρ.set i (.own (xs ++ [d]))) w
        | _ => False) a v.mask (en.ex.mono le) (by simp only [evalE, itemsD, Rs.d]; exact h) fun us z1 H1 w1 ds a1 l1 is q1 => ?_
      cases is with
      | nil => exact q1.elim
      | @cons u _ d _ iu is =>
        cases is with
        | cons _ _ => exact q1.elim
        | nil =>
          obtain ⟨o1, o2, o3⟩ := Le.own l1 g2 g3 g4
          refine ⟨p, vs, u, rfl, rfl, o1, by rw [g6.length]; exact q1.1, ?_⟩
          exact en.nx _ _ _ _ _ (a1.updOwn o2 o3) (Le.updOwn (le.trans l1) g5) (up.le l1) ((v.le l1).updOwn q g1 o2 o3 g5 ((g6.mono l1.fF l1.aw).append (.cons iu .nil))) q1.2
    · exact h.elim
  · cases h
theorem st_appF (mono : MonoF Φ) (hy : HyS M T Φ XE X sc fn Ex) (h : appC T i e sc fn x4 = true) : PX X x4 (tSt M Φ XE (.appF i e) Ex) := by
  unfold appC at h
  split at h
  · simp only [Bool.and_eq_true, decide_eq_true_eq] at h
    obtain ⟨⟨⟨⟨⟨⟨hm, h1⟩, h2⟩, h3⟩, h4⟩, h5⟩, h6⟩ := h
    subst hm
    refine PS.impL (e_app mono hy h1 h2 h3 h4 h5 h6) fun D σ H len ⟨z0, H0, zb, z, w, ρ, E, a, le, up, v, en, h⟩ => ?_
    simp only [execS] at h
    split at h
    · rename_i xs q
      obtain ⟨p, vs, g1, g2, g3, g4, g5, g6⟩ := v.own i xs q
      refine ⟨.ref p, g1, .inl ⟨rfl, vs, SqL.of g2⟩, ?_⟩
      obtain ⟨z1, a1, le1, v1, back⟩ := full_use a le v
      refine tA_use (e := .cons e .nil) (Q := fun r w => match r.d with
        | .seq true [d] => d.pure = true ∧ xs.length < sizeLine ∧ E.nx (ρ.set i (.own (xs ++ [d]))) w
        | _ => False) a1 v1 (en.ex.mono le1) (by simp only [evalE, itemsD, Rs.d]; exact h) fun us z2 H2 w2 ds a2 l2 is q2 => ?_
      obtain ⟨z3, a3, le3, up3, v3, p1, p2, p3, p4, p5⟩ := back z2 H2 w2 a2 l2
      cases is with
      | nil => exact q2.elim
      | @cons u _ d _ iu is =>
        cases is with
        | cons _ _ => exact q2.elim
        | nil =>
          obtain ⟨vs2, o1, o2, o3, o4, o5⟩ := p5 i xs p q g1
          refine ⟨p, vs2, u, rfl, rfl, o1, by rw [o5.length]; exact q2.2.1, ?_⟩
          exact en.nx _ _ _ _ _ (a3.updOwn o2 o3) (Le.updOwn le3 g5) (up.trans up3) (v3.updOwn q g1 o2 o3 g5 (o5.append (.cons (p1 _ _ iu q2.1) .nil))) q2.2.2
    · exact h.elim
  · cases h
theorem st_ins (mono : MonoF Φ) (hy : HyS M T Φ XE X sc fn Ex) (h : insC T i e sc fn x4 = true) : PX X x4 (tSt M Φ XE (.ins i e) Ex) := by
  unfold insC at h
  split at h
  · rename_i x pos m apos k ck cps v cpos cp
    simp only [Bool.and_eq_true, decide_eq_true_eq] at h
    obtain ⟨⟨⟨⟨⟨⟨⟨hm, hk⟩, h1⟩, h2⟩, h3⟩, h4⟩, h5⟩, h6⟩ := h
    subst hm hk
    have pa : PA X [.Constant (.int 0) ck cps, v] (tA M Φ XE (.cons (.int 0) (.cons e .nil)) Ex) := (snd_all (M := M) (T := T) (XE := XE) mono (.cons (.int 0) (.cons e .nil))).1.pa hy.toHy (by
      show (true && true && (plainB v && chk T e sc fn (.e v) && true)) = true; rw [h5, h6]; rfl)
    have hs := plain_star h5 ([] : List Expr) X.env
    have hs0 : starEach [.Constant (.int 0) ck cps, v] X.env = (false, eval (.Constant (.int 0) ck cps) X.env) :: starEach [v] X.env := rfl
    refine PS.impL (ps_expr (pe_bm F.plainAttrs_list F.slot_list_insert F.type_list_insert mt_insert (evar hy h1 h2 h3) pa rfl (by rw [hs0, hs]; rfl) h4 hs0 (by rw [hs]; rfl))) fun D σ H len ⟨z0, H0, zb, z, w, ρ, E, a, le, up, v, en, h⟩ => ?_
    simp only [execS] at h
    split at h
    · rename_i xs q
      obtain ⟨p, vs, g1, g2, g3, g4, g5, g6⟩ := v.own i xs q
      refine ⟨.ref p, g1, .inl ⟨rfl, vs, SqL.of g2⟩, ?_⟩
      refine tA_use (e := .cons (.int 0) (.cons e .nil)) (Q := fun r w => match r.d with
        | .seq true [.int 0, d] => xs.length < sizeLine ∧ E.nx (ρ.set i (.own (d :: xs))) w
        | _ => False) a v.mask (en.ex.mono le) (by simp only [evalE, itemsD, Rs.d]; exact h) fun us z1 H1 w1 ds a1 l1 is q1 => ?_
      split at q1
      · rename_i d hd
        cases hd
        cases is with
        | cons i0 is =>
          cases is with
          | @cons u _ _ _ iu is =>
            cases is
            cases i0
            obtain ⟨o1, o2, o3⟩ := Le.own l1 g2 g3 g4
            refine ⟨p, vs, 0, u, rfl, rfl, o1, by rw [g6.length]; exact q1.1, by decide, by decide, ?_⟩
            exact en.nx _ _ _ _ _ (a1.updOwn o2 o3) (Le.updOwn (le.trans l1) g5) (up.le l1) ((v.le l1).updOwn q g1 o2 o3 g5 (by
              show Iss K z1.F z1.A ([] ++ [u] ++ vs) _
              exact .cons iu (g6.mono l1.fF l1.aw))) q1.2
      · exact q1.elim
    · exact h.elim
  · cases h
theorem ixN_lt {n : Nat} {k : Int} {j : Nat} (h : ixN n k = some j) : j < n := (ixN_seq h).2.1
theorem st_seti (mono : MonoF Φ) (hy : HyS M T Φ XE X sc fn Ex) (h : setiC T i a e sc fn x4 = true) : PX X x4 (tSt M Φ XE (.seti i a e) Ex) := by
  unfold setiC at h
  split at h
  · rename_i x pos y sp v pos2
    simp only [Bool.and_eq_true, decide_eq_true_eq] at h
    obtain ⟨⟨⟨⟨⟨⟨h1, h2⟩, h3⟩, h4⟩, h5⟩, h6⟩, h7⟩ := h
    have he := (snd_all (M := M) (T := T) (XE := XE) mono e).1.pe hy.toHy h7
    have ha := (snd_all (M := M) (T := T) (XE := XE) mono a).1.pe hy.toHy h6
    refine PS.impL (ps_asg he (pg_sub (evar hy h1 h2 h3) ha set_list (by intro u; cases y <;> first | rfl | (cases h4; done))) (by cases v <;> first | rfl | (cases h5; done)) rfl rfl) fun D σ H len ⟨z0, H0, zb, z, w, ρ, E, a, le, up, v, en, h⟩ => ?_
    simp only [execS] at h
    obtain ⟨z1, a1, le1, v1, back⟩ := full_use a le v
    refine tE_use a1 v1 (en.ex.mono le1) h fun u z2 H2 w2 r2 a2 l2 i2 q2 => ?_
    obtain ⟨pu, q2⟩ := q2
    split at q2
    · rename_i xs q
      obtain ⟨p, vs, g1, g2, g3, g4, g5, g6⟩ := v.own i xs q
      refine ⟨.ref p, g1, ?_⟩
      refine tE_use a2 (v1.mono l2) (en.ex.mono (le1.trans l2)) q2 fun k z3 H3 w3 r3 a3 l3 i3 q3 => ?_
      obtain ⟨z4, a4, le4, up4, v4, p1, p2, p3, p4, p5⟩ := back z3 H3 w3 a3 (l2.trans l3)
      generalize r3.d = d3 at i3 q3
      cases i3 with
      | int k =>
        obtain ⟨j, ej, q3⟩ : ∃ j, L2.ixN xs.length k = some j ∧ E.nx (ρ.set i (.own (xs.set j r2.d))) w3 := q3
        obtain ⟨vs2, o1, o2, o3, o4, o5⟩ := p5 i xs p q g1
        refine ⟨p, vs2, k, j, rfl, rfl, o1, by rw [o5.length]; exact ej, ?_⟩
        exact en.nx _ _ _ _ _ (a4.updOwn o2 o3) (Le.updOwn le4 g5) (up.trans up4) (v4.updOwn q g1 o2 o3 g5 (Iss.set (p1 _ _ (i2.mono l3.fF l3.aw) pu) j o5)) q3
      | _ => exact q3.elim
    · exact q2.elim
  · cases h
theorem get_list : PGet X (rIxL X.K) := by
  intro pins s σ H x y v u Q I rx ry h
  obtain ⟨p, xs, i, z, rfl, rfl, hq, he, q⟩ := h
  cases rx
  obtain ⟨t, rfl⟩ := ry
  obtain ⟨its, r, pl, hz⟩ := I.list hq
  obtain ⟨j, h1, h2, h3, h4, h5⟩ := atI_get he
  obtain ⟨w, ew, rw'⟩ := r.get h2
  have hl := r.length
  have hn := line63
  by_cases h0 : 0 ≤ i
  · have hj : i.toNat = j := by
      rw [seqIndex_of h0 h5] at h1
      exact Option.some.inj h1
    exact wpAny_getItem_list pl.isList h0 (by omega) (by rw [hj]; simpa using ew) ⟨z, H, I, rw', q⟩
  · have hj : (i + (its.toArray.size : Int)).toNat = j := by
      rw [seqIndex_neg (by omega) h4] at h1
      rw [List.size_toArray, ← hl]
      exact Option.some.inj h1
    exact wpAny_getItem_list_neg pl.isList (by omega) (by rw [List.size_toArray] <;> omega) (by omega) (by rw [hj]; simpa using ew) ⟨z, H, I, rw', q⟩
theorem ibin_pure {o : Bop} {x y : Ab.D} {Q : Rs → Prop} (h : ibinD o x y Q) : ibinD o x y fun r => Q r ∧ ∃ d, r = .dat d := by
  unfold ibinD at h ⊢
  split at h <;> first
    | exact ⟨h, _, rfl⟩
    | exact ⟨h.1, h.2, _, rfl⟩
    | exact h.elim
theorem st_augi (mono : MonoF Φ) (hy : HyS M T Φ XE X sc fn Ex) {o : Bop} (h : augiC T o i a e sc fn x4 = true) : PX X x4 (tSt M Φ XE (.augi o i a e) Ex) := by
  unfold augiC at h
  split at h
  · rename_i x pos y sp op v pos2
    simp only [Bool.and_eq_true, decide_eq_true_eq] at h
    obtain ⟨⟨⟨⟨⟨⟨h0, h1⟩, h2⟩, h3⟩, h4⟩, h6⟩, h7⟩ := h
    have he := (snd_all (M := M) (T := T) (XE := XE) mono e).1.pe hy.toHy h7
    have ha := (snd_all (M := M) (T := T) (XE := XE) mono a).1.pe hy.toHy h6
    obtain ⟨rr, hr, hd⟩ := opD_ibin (M := M) (X := X) o
    have eo : op = bopOf o := by cases o <;> cases op <;> first | rfl | cases h0
    subst eo
    refine PS.impL (ps_augS (evar hy h1 h2 h3) ha get_list he hr set_list (by intro ov iv new; cases y <;> first | rfl | (cases h4; done))) fun D σ H len ⟨z0, H0, zb, z, w, ρ, E, a, le, up, v, en, h⟩ => ?_
    simp only [execS] at h
    split at h
    · rename_i xs q
      obtain ⟨p, vs, g1, g2, g3, g4, g5, g6⟩ := v.own i xs q
      refine ⟨.ref p, g1, ?_⟩
      obtain ⟨z1, a1, le1, v1, back⟩ := full_use a le v
      refine tE_use a1 v1 (en.ex.mono le1) h fun k z2 H2 w2 r2 a2 l2 i2 q2 => ?_
      generalize r2.d = d2 at i2 q2
      cases i2 with
      | int k =>
        obtain ⟨j, d, ej, ed, q2⟩ : ∃ j d, L2.ixN xs.length k = some j ∧ xs[j]? = some d ∧ _ := q2
        obtain ⟨u, hu, iu⟩ := v1.get i (.seq true xs) (by unfold full; rw [getS_map rfl, q]; rfl)
        rw [g1] at hu; cases hu
        cases iu with
        | @lst _ vs1 _ hp1 hs1 =>
          obtain ⟨x1, ex1, ix1⟩ := hs1.get ed
          refine ⟨p, vs1, k, x1, rfl, rfl, SqL.of (a2.ok.sub _ _ (l2.fF _ _ hp1)), ?_, ?_⟩
          · unfold L2.atI
            rw [hs1.length, ej]
            exact ex1
          · refine tE_use a2 (v1.mono l2) (en.ex.mono (le1.trans l2)) q2 fun y3 z3 H3 w3 r3 a3 l3 i3 q3 => ?_
            refine hd (Q := fun r => (r.d.pure = true ∧ E.nx (ρ.set i (.own (xs.set j r.d))) w3) ∧ ∃ d, r = .dat d) a3 (ix1.mono (l2.trans l3).fF (l2.trans l3).aw) i3 (ibin_pure q3) fun y4 z4 H4 r4 a4 l4 i4 q4 => ?_
            obtain ⟨⟨pu, q4⟩, d4, rfl⟩ := q4
            obtain ⟨z5, a5, le5, up5, v5, p1, p2, p3, p4, p5⟩ := back z4 H4 w3 a4 ((l2.trans l3).trans l4)
            obtain ⟨vs2, o1, o2, o3, o4, o5⟩ := p5 i xs p q g1
            refine ⟨p, vs2, k, j, rfl, rfl, o1, by rw [o5.length]; exact ej, ?_⟩
            exact en.nx _ _ _ _ _ (a5.updOwn o2 o3) (Le.updOwn le5 g5) (up.trans up5) (v5.updOwn q g1 o2 o3 g5 (Iss.set (p1 _ _ i4 pu) j o5)) q4
      | _ => exact q2.elim
    · exact h.elim
  · cases h
theorem st_aug (mono : MonoF Φ) (hy : HyS M T Φ XE X sc fn Ex) {o : Bop} (h : augC T o i e sc fn x4 = true) : PX X x4 (tSt M Φ XE (.aug o i e) Ex) := by
  unfold augC at h
  split at h
  · rename_i x pos op v pos2
    simp only [Bool.and_eq_true, decide_eq_true_eq] at h
    obtain ⟨⟨⟨h0, h1⟩, h2⟩, h7⟩ := h
    have he := (snd_all (M := M) (T := T) (XE := XE) mono e).1.pe hy.toHy h7
    obtain ⟨rr, hr, hd⟩ := opD_ibin (M := M) (X := X) o
    have eo : op = bopOf o := by cases o <;> cases op <;> first | rfl | cases h0
    subst eo
    obtain ⟨l1, l2⟩ := locB_d hy.hsc hy.hfn h2
    refine PS.impL (ps_aug (by rw [hy.hN]; exact hy.nd) (by rw [hy.hN]; exact h1) l1 he hr l2) fun D σ H len ⟨z0, H0, zb, z, w, ρ, E, a, le, up, v, en, h⟩ => ?_
    have hi := ltN h1 (len.trans (by rw [hy.hN]))
    simp only [execS] at h
    split at h
    · rename_i d q
      obtain ⟨z1, a1, le1, v1, back⟩ := full_use a le v
      obtain ⟨u, hu, iu⟩ := v1.get i d (by unfold full; rw [getS_map rfl, q]; rfl)
      refine ⟨u, hu, ?_⟩
      refine tE_use a1 v1 (en.ex.mono le1) h fun y2 z2 H2 w2 r2 a2 l2 i2 q2 => ?_
      refine hd (Q := fun r => (r.d.pure = true ∧ E.nx (ρ.set i (.val r.d)) w2) ∧ ∃ d, r = .dat d) a2 (iu.mono l2.fF l2.aw) i2 (ibin_pure q2) fun y4 z4 H4 r4 a4 l4 i4 q4 => ?_
      obtain ⟨⟨pu, q4⟩, d4, rfl⟩ := q4
      obtain ⟨z5, a5, le5, up5, v5, p1, _⟩ := back z4 H4 w2 a4 (l2.trans l4)
      exact en.nx _ _ _ _ _ a5 le5 (up.trans up5) (v5.set hi (p1 _ _ i4 pu)) q4
    · exact h.elim
  · cases h
/-! ### unpacking -/
abbrev ER (K : PySem.W.Frag) (H0 : Hp) : Fz → Hp → L2.St → Ev → Prop := fun z H σ ρ => EnvR K z H0 H σ ρ
theorem pgR {t : Tg} {tg : Expr} (hy : HyS M T Φ XE X sc fn Ex) (h : chkT T.N sc fn t (.inl tg) = true) : PG X tg (fun v σ H Q => ∃ H0, tG M (ER K H0) t v σ H Q) :=
  PG.ex fun H0 => sG (P := ER K H0) pv_er hy.hK hy.hN hy.nd hy.hsc hy.hfn hy.calm t tg h
theorem swN_d {tg v : Expr} {env : Env} (h : swN tg v = true) : swappedStores [tg] v env = pure none := by
  cases tg with
  | Tuple ts k p =>
    cases v with
    | Tuple vs k2 p2 =>
      have h : (!(ts.length == 2 || ts.length == 3) || vs.all (foldedForSure 8)) = true := h
      unfold swappedStores
      simp only [bind_pure_comp, pure_bind]
      cases hl : (ts.length == 2 || ts.length == 3) with
      | false => simp
      | true =>
        rw [hl] at h
        have h : vs.all (foldedForSure 8) = true := h
        rw [h]
        split
        · rfl
        · split
          · rfl
          · split
            · rfl
            · rfl
    | _ => rfl
  | _ => cases h
theorem chkT_plain {N : List Str} {t : Tg} {tg : Expr} (h : chkT N sc fn t (.inl tg) = true) : plainB tg = true := by
  cases tg with
  | Name => rfl
  | Tuple => rfl
  | _ => cases t <;> cases h
theorem st_unp (mono : MonoF Φ) (hy : HyS M T Φ XE X sc fn Ex) {t : Tg} (h : unpC T t e sc fn x4 = true) : PX X x4 (tSt M Φ XE (.unp t e) Ex) := by
  unfold unpC at h
  split at h
  · rename_i tg v pos
    simp only [Bool.and_eq_true, decide_eq_true_eq] at h
    obtain ⟨⟨⟨h1, h2⟩, h3⟩, h4⟩ := h
    have he := (snd_all (M := M) (T := T) (XE := XE) mono e).1.pe hy.toHy h4
    refine PS.impL (ps_asg he (pgR hy h2) (by
      cases tg with
      | Tuple => cases v <;> first | rfl | (cases h3; done)
      | _ => cases h1) (swN_d h1) (by rw [plain_asg (chkT_plain h2)]; rfl)) fun D σ H len ⟨z0, H0, zb, z, w, ρ, E, a, le, up, v, en, h⟩ => ?_
    simp only [execS] at h
    refine tE_use a v.mask (en.ex.mono le) h fun u z1 H1 w1 r1 a1 l1 i1 q1 => ?_
    exact ⟨H0, z1, w1, _, ρ, _, a1, v.le l1, i1, q1, fun σ' ρ' p' _ _ q => en.nx _ _ _ _ _ a1 (le.trans l1) (up.le l1) p' q⟩
  · cases h
/-! ### loops -/
theorem st_for (mono : MonoF Φ) (hy : HyS M T Φ XE X sc fn Ex) {t : Tg} {src : E} {body : S} {tg it : Expr} {p : List Stmt} {pos : Pos} (h1 : chkT T.N sc fn t (.inl tg) = true) (h2 : plainB it = true) (h3 : chk T src sc fn (.it tg it) = true) (hb : PSs X p (tSt M Φ XE body Ex)) :
    PS X (.For tg it p [] pos) (tSt M Φ XE (.for_ t src body) Ex) := by
  have hi := (snd_all (M := M) (T := T) (XE := XE) mono src).1.pi hy.toHy h3
  refine PS.impL (ps_for hy.po hy.calm hi (pgR hy h1) hb (plain_fold h2 _)) fun D σ H len ⟨z0, H0, zb, z, w, ρ, E, a, le, up, v, en, h⟩ => ?_
  simp only [execS] at h
  refine ⟨z, w, _, _, _, a, v.mask, en.ex.mono le, h, fun J z1 H1 w1 xs a1 l1 wd q1 => ?_⟩
  have q1 : forW t (execS Φ body) xs E ρ w1 := q1
  refine for_it (g := fun v σ H Q => ∃ H0, tG M (ER K H0) t v σ H Q) (tb := tSt M Φ XE body Ex) (D := D) wd.w (fun i σ' H' => ∃ (z' : Fz) (w' : M.Wd) (ρ' : Ev), At M z' H' w' ∧ z0.Le z' H0 H' ∧ z1.Up z' ∧ EnvR K z' H0 H' σ' ρ' ∧ forW t (execS Φ body) (xs.drop i) E ρ' w') ⟨z1, w1, ρ, a1, le.trans l1, Fz.Up.refl _, v.le l1, by simpa using q1⟩
    (fun i σ' H' _ ⟨z', w', ρ', a, _, up, _⟩ b u e => a.ok.sub _ _ (up.f b u e)) ?_ ?_
  · rintro i x σ' H' H2 hi ⟨z', w', ρ', a', le', lz', v', q⟩ hy'
    obtain ⟨z2, d, a2, l2, hd, iv⟩ := hy' z' w' a' lz'.f lz'.a
    have hi2 : i < xs.length := hi
    have ed : xs[i] = d := by
      rw [List.getElem?_eq_getElem hi2] at hd
      exact Option.some.inj hd
    rw [List.drop_eq_getElem_cons hi2, ed] at q
    have q : bindT t d ρ' fun ρ2 => execS Φ body { E with nx := forW t (execS Φ body) (xs.drop (i + 1)) E, ct := forW t (execS Φ body) (xs.drop (i + 1)) E, bk := E.nx } ρ2 w' := q
    refine ⟨H0, z2, w', d, ρ', _, a2, v'.le l2, iv, q, fun σ2 ρ2 p2 _ _ q2 => ?_⟩
    exact ⟨z0, H0, z1, z2, w', ρ2, { E with nx := forW t (execS Φ body) (xs.drop (i + 1)) E, ct := forW t (execS Φ body) (xs.drop (i + 1)) E, bk := E.nx }, a2, le'.trans l2, lz'.le l2, p2, ⟨fun z H w σ ρ a l u v q => ⟨z, w, ρ, a, l, u, v, q⟩, fun z H w σ ρ a l u v q => en.nx _ _ _ _ _ a l ((up.le l1).trans u) v q,
      fun z H w σ ρ a l u v q => ⟨z, w, ρ, a, l, u, v, q⟩, en.rt, en.ex⟩, q2⟩
  · rintro σ' H' ⟨z', w', ρ', a', le', lz', v', q⟩
    rw [List.drop_length] at q
    exact en.nx _ _ _ _ _ a' le' ((up.le l1).trans lz') v' q
theorem st_while (mono : MonoF Φ) (hy : HyS M T Φ XE X sc fn Ex) {body : S} {t : Expr} {p : List Stmt} {pos : Pos} (h : chk T c sc fn (.e t) = true) (hb : PSs X p (tSt M Φ XE body Ex)) :
    PS X (.While t p [] pos) (tSt M Φ XE (.while_ c body) Ex) := by
  refine PS.impL (ps_while hy.po ((snd_all (M := M) (T := T) (XE := XE) mono c).1.pt hy.toHy h) hb) fun D σ H len ⟨z0, H0, zb, z, w, ρ, E, a, le, up, v, en, h⟩ => ?_
  simp only [execS] at h
  obtain ⟨I, ⟨m0, i0⟩, turn⟩ := h
  refine ⟨fun m σ' H' => ∃ (z' : Fz) (w' : M.Wd) (ρ' : Ev), At M z' H' w' ∧ z0.Le z' H0 H' ∧ zb.Up z' ∧ EnvR K z' H0 H' σ' ρ' ∧ I m ρ' w', ⟨m0, z, w, ρ, a, le, up, v, i0⟩, ?_⟩
  rintro m σ' H' ⟨z', w', ρ', a', le', up', v', im⟩
  have q := turn m ρ' w' im
  obtain ⟨z1, a1, le1, v1, back⟩ := full_use a' le' v'
  refine tT_use a1 v1 (en.ex.mono le1) q (fun r w' q => ?_) fun b z2 H2 w2 r2 a2 l2 e2 q2 => ?_
  · split at q
    · exact ⟨_, by assumption⟩
    · exact q.elim
  · obtain ⟨z3, a3, le3, up3, v3, _⟩ := back z2 H2 w2 a2 l2
    rw [e2] at q2
    have q2 : if b = true then execS Φ body { E with nx := fun ρ' w' => ∃ m', m' < m ∧ I m' ρ' w', ct := fun ρ' w' => ∃ m', m' < m ∧ I m' ρ' w', bk := E.nx } ρ' w2 else E.nx ρ' w2 := q2
    cases b with
    | false =>
      rw [if_neg Bool.false_ne_true] at q2 ⊢
      exact en.nx _ _ _ _ _ a3 le3 (up'.trans up3) v3 q2
    | true =>
      rw [if_pos rfl] at q2 ⊢
      refine ⟨fun σ' H' => ∃ m', m' < m ∧ ∃ (z' : Fz) (w' : M.Wd) (ρ' : Ev), At M z' H' w' ∧ z0.Le z' H0 H' ∧ zb.Up z' ∧ EnvR K z' H0 H' σ' ρ' ∧ I m' ρ' w', fun _ _ h => h, ?_⟩
      exact ⟨z0, H0, zb, z3, w2, ρ', { E with nx := fun ρ' w' => ∃ m', m' < m ∧ I m' ρ' w', ct := fun ρ' w' => ∃ m', m' < m ∧ I m' ρ' w', bk := E.nx }, a3, le3, up'.trans up3, v3, ⟨fun z H w σ ρ a l u v ⟨m', hm, q⟩ => ⟨m', hm, z, w, ρ, a, l, u, v, q⟩, fun z H w σ ρ a l u v q => en.nx _ _ _ _ _ a l u v q,
        fun z H w σ ρ a l u v ⟨m', hm, q⟩ => ⟨m', hm, z, w, ρ, a, l, u, v, q⟩, en.rt, en.ex⟩, q2⟩
/-! ### several names at once -/
inductive RIsAll (K : PySem.W.Frag) (z : Fz) (H H' : Hp) : List V → List Rs → Prop
  | nil : RIsAll K z H H' [] []
  | cons {v : V} {r : Rs} {vs : List V} {rs : List Rs} : RIs K z H H' v r → RIsAll K z H H' vs rs → (∀ (ds : List Ab.D), r = Rs.fresh ds → ∀ (j : Nat) (xs : List Ab.D), rs[j]? = some (Rs.fresh xs) → vs[j]? ≠ some v) → RIsAll K z H H' (v :: vs) (r :: rs)
def tAR (M : WM K) (Φ : Nat → Fn M.Wd) (XE : XD → XK → Hp → Prop) (e : E) (Ex : XK) : TA := fun σ H Qv => ∃ (z : Fz) (w : M.Wd) (ρ : Ev) (XP : XD → M.Wd → Prop) (Q : List Rs → M.Wd → Prop), At M z H w ∧ EnvV K z H σ ρ ∧ Xok M XE z H XP Ex ∧ evalRs Φ e XP ρ w Q ∧
  ∀ vs z' H' w' rs, At M z' H' w' → z.Le z' H H' → RIsAll K z' H H' vs rs → Q rs w' → Qv vs H'
theorem RIs.later {z1 z2 : Fz} {H H1 H2 : Hp} {v : V} {r : Rs} (h : RIs K z1 H H1 v r) (l : z1.Le z2 H1 H2) : RIs K z2 H H2 v r := by
  cases r with
  | dat d => exact Is.mono l.fF l.aw h
  | fresh ds =>
    obtain ⟨p, vs, e, hp, hF, hT, hH, hs⟩ := h
    obtain ⟨o1, o2, o3⟩ := Le.own l hH hF hT
    exact ⟨p, vs, e, hp, o2, o3, o1, hs.mono l.fF l.aw⟩
theorem RIsAll.back {z2 : Fz} {H H1 H2 : Hp} (st : ∀ a, H1 a = none → H a = none) : ∀ {vs : List V} {rs : List Rs}, RIsAll K z2 H1 H2 vs rs → RIsAll K z2 H H2 vs rs
  | _, _, .nil => .nil
  | _, _, .cons h t n => .cons (h.back st) (RIsAll.back st t) n
theorem RIsAll.old {z : Fz} {H1 H2 : Hp} {p : Addr} {o : HO} (hp : H1 p = some o) : ∀ {vs : List V} {rs : List Rs}, RIsAll K z H1 H2 vs rs → ∀ (j : Nat) (xs : List Ab.D), rs[j]? = some (Rs.fresh xs) → vs[j]? ≠ some (V.ref p)
  | _, _, .nil, j, _, e => by simp at e
  | _, _, .cons h t _, 0, xs, e => by
    simp at e; subst e
    obtain ⟨q, vs, e, hq, _⟩ := h
    subst e
    intro e2
    simp at e2; subst e2
    rw [hp] at hq; cases hq
  | _, _, .cons h t _, j + 1, xs, e => by
    have := RIsAll.old hp t j xs (by simpa using e)
    simpa using this
theorem sAR (mono : MonoF Φ) (hy : Hy M T Φ XE X sc fn Ex) : ∀ (es : E) (xs : List Expr), chk T es sc fn (.es xs) = true → PA X xs (tAR M Φ XE es Ex)
  | .nil, xs, h => by
    have : xs = [] := by cases xs with
      | nil => rfl
      | cons _ _ => cases h
    subst this
    exact PA.imp pa_nil fun σ H Qv ⟨z, w, ρ, XP, Q, a, v, xo, h, k⟩ => k [] z H w [] a (Fz.Le.refl _ _) .nil h
  | .cons e es, xs, h => by
    cases xs with
    | nil => cases h
    | cons x xs =>
      have h : (plainB x && chk T e sc fn (.e x) && chk T es sc fn (.es xs)) = true := h
      simp only [Bool.and_eq_true] at h
      have he := (snd_all (M := M) (T := T) (XE := XE) mono e).1.pe hy h.1.2
      refine PA.imp (pa_cons he (sAR mono hy es xs h.2) (plain_star h.1.1 _ _)) fun σ H Qv ⟨z, w, ρ, XP, Q, a, v, xo, h, k⟩ => ?_
      have h : evalE Φ e XP ρ w fun x w => evalRs Φ es XP ρ w fun rs w => Q (x :: rs) w := h
      refine tE_useR a v xo h fun u z1 H1 w1 r1 a1 l1 i1 q1 => ?_
      refine ⟨z1, w1, ρ, XP, _, a1, v.mono l1, xo.mono l1, q1, fun vs z2 H2 w2 rs a2 l2 i2 q2 => ?_⟩
      refine k _ _ _ _ _ a2 (l1.trans l2) (.cons (i1.later l2) (i2.back l1.st) fun ds e j xs hj => ?_) q2
      subst e
      obtain ⟨p, us, e, hp, hF, hT, hH, hs⟩ := i1
      subst e
      exact i2.old hH j xs hj
  | .var _, xs, h => by cases xs <;> cases h
  | .int _, xs, h => by cases xs <;> cases h
  | .str _, xs, h => by cases xs <;> cases h
  | .bl _, xs, h => by cases xs <;> cases h
  | .non, xs, h => by cases xs <;> cases h
  | .bin _ _ _, xs, h => by cases xs <;> cases h
  | .neg _, xs, h => by cases xs <;> cases h
  | .cmp _ _ _, xs, h => by cases xs <;> cases h
  | .chain _ _ _ _ _, xs, h => by cases xs <;> cases h
  | .and_ _ _, xs, h => by cases xs <;> cases h
  | .or_ _ _, xs, h => by cases xs <;> cases h
  | .not_ _, xs, h => by cases xs <;> cases h
  | .ite _ _ _, xs, h => by cases xs <;> cases h
  | .tup _, xs, h => by cases xs <;> cases h
  | .lst _, xs, h => by cases xs <;> cases h
  | .idx _ _, xs, h => by cases xs <;> cases h
  | .slc _ _ _, xs, h => by cases xs <;> cases h
  | .rev _, xs, h => by cases xs <;> cases h
  | .call _ _, xs, h => by cases xs <;> cases h
  | .blt _ _, xs, h => by cases xs <;> cases h
  | .isi _ _, xs, h => by cases xs <;> cases h
  | .comp _ _ _, xs, h => by cases xs <;> cases h
  | .compIf _ _ _ _, xs, h => by cases xs <;> cases h
  | .iseq _, xs, h => by cases xs <;> cases h
  | .irange _, xs, h => by cases xs <;> cases h
  | .lrange _, xs, h => by cases xs <;> cases h
  | .trange _, xs, h => by cases xs <;> cases h
  | .oidx _ _, xs, h => by cases xs <;> cases h
  | .izip _ _, xs, h => by cases xs <;> cases h
  | .ienum _ _, xs, h => by cases xs <;> cases h
end
end Ab

namespace Ab
open PySem PySem.Spec PyProof.Rows L2
section
variable {K : PySem.W.Frag} {M : WM K} {T : Tab} {Φ : Nat → Fn M.Wd} {XE : XD → XK → Hp → Prop} {X : Cx} {sc : Scope} {fn : Str → Bool} {Ex : XK} {x4 : X4} {e a b c es : E} {i : Nat}
theorem erase2 {x y : Str} (h : (x == y) = false) : ([x, y] : List Str).eraseDups.length = 2 := by
  have h' : (y == x) = false := by
    cases q : (y == x) with
    | false => rfl
    | true => rw [eq_of_beq q] at h; simp at h
  rw [List.eraseDups_cons, List.filter_cons, h']
  simp [List.eraseDups_cons]
theorem erase3 {x y u : Str} (h : (x == y) = false) (h2 : (x == u) = false) (h3 : (y == u) = false) : ([x, y, u] : List Str).eraseDups.length = 3 := by
  have sym : ∀ {a b : Str}, (a == b) = false → (b == a) = false := fun {a b} h => by
    cases q : (b == a) with
    | false => rfl
    | true => rw [eq_of_beq q] at h; simp at h
  rw [List.eraseDups_cons, List.filter_cons, sym h, List.filter_cons, sym h2]
  simp only [Bool.not_false, if_true, List.filter_nil, List.length_cons]
  rw [erase2 h3]
theorem star_no {e : Expr} (h : plainB e = true) : (match e with | .Starred .. => true | _ => false) = false := by
  cases e <;> first | rfl | (cases h; done)
theorem sw2 {x y : Str} {px py pt pt2 : Pos} {a b : Expr} {kt k2 : Nat} (hsc : X.env.scope = sc) (hk : sc.kind = .function) (lx : lclB sc x = true) (ly : lclB sc y = true) (hl : (py.line == px.line) = true) (hxy : (x == y) = false) (pa : plainB a = true) (pb : plainB b = true)
    (hf : [a, b].all (foldedForSure 8) = false) (hc : [a, b].all (constantsAlone 8) = false) :
    swappedStores [.Tuple [.Name x px, .Name y py] kt pt] (.Tuple [a, b] k2 pt2) X.env = pure (some [x, y]) := by
  have kx : X.env.kindOf x = some .local := by show X.env.scope.names.lookup x = _; rw [hsc]; exact lclB_d lx
  have ky : X.env.kindOf y = some .local := by show X.env.scope.names.lookup y = _; rw [hsc]; exact lclB_d ly
  have hb : X.env.blockKind = .function := by unfold Env.blockKind; rw [hsc, hk]; rfl
  have er := erase2 hxy
  unfold swappedStores
  simp only [bind_pure_comp, pure_bind, hb, List.head?_cons, Option.map_some, Option.getD_some, Expr.pos]
  split
  · rename_i q; exact absurd q (by simp)
  · split
    · rename_i q
      exfalso
      simp only [List.any_cons, List.any_nil, Bool.or_false, Bool.or_eq_true] at q
      rcases q with q | q
      · cases a <;> first | (cases pa; done) | (cases q; done)
      · cases b <;> first | (cases pb; done) | (cases q; done)
    · simp only [List.filterMap_cons, List.filterMap_nil, kx, ky, hl, beq_self_eq_true, Bool.and_self, if_true, er, hf, hc]
      rfl
theorem sw3 {x y u : Str} {px py pu pt pt2 : Pos} {a b c : Expr} {kt k2 : Nat} (hsc : X.env.scope = sc) (hk : sc.kind = .function) (lx : lclB sc x = true) (ly : lclB sc y = true) (lu : lclB sc u = true) (hl : (py.line == px.line) = true) (hl2 : (pu.line == px.line) = true) (hxy : (x == y) = false) (hxu : (x == u) = false) (hyu : (y == u) = false) (pa : plainB a = true) (pb : plainB b = true) (pc : plainB c = true)
    (hf : [a, b, c].all (foldedForSure 8) = false) (hc : [a, b, c].all (constantsAlone 8) = false) :
    swappedStores [.Tuple [.Name x px, .Name y py, .Name u pu] kt pt] (.Tuple [a, b, c] k2 pt2) X.env = pure (some [x, y, u]) := by
  have kx : X.env.kindOf x = some .local := by show X.env.scope.names.lookup x = _; rw [hsc]; exact lclB_d lx
  have ky : X.env.kindOf y = some .local := by show X.env.scope.names.lookup y = _; rw [hsc]; exact lclB_d ly
  have ku : X.env.kindOf u = some .local := by show X.env.scope.names.lookup u = _; rw [hsc]; exact lclB_d lu
  have hb : X.env.blockKind = .function := by unfold Env.blockKind; rw [hsc, hk]; rfl
  have er := erase3 hxy hxu hyu
  unfold swappedStores
  simp only [bind_pure_comp, pure_bind, hb, List.head?_cons, Option.map_some, Option.getD_some, Expr.pos]
  split
  · rename_i q; exact absurd q (by simp)
  · split
    · rename_i q
      exfalso
      simp only [List.any_cons, List.any_nil, Bool.or_false, Bool.or_eq_true] at q
      rcases q with q | q | q
      · cases a <;> first | (cases pa; done) | (cases q; done)
      · cases b <;> first | (cases pb; done) | (cases q; done)
      · cases c <;> first | (cases pc; done) | (cases q; done)
    · simp only [List.filterMap_cons, List.filterMap_nil, kx, ky, ku, hl, hl2, beq_self_eq_true, Bool.and_self, if_true, er, hf, hc]
      rfl
/-- what is stored, slot by slot -/
def setAll (σ : L2.St) : List (Nat × Bool) → List V → L2.St
  | (i, _) :: ks, v :: vs => setAll (σ.set i (some v)) ks vs
  | _, _ => σ
theorem store_all {z : Fz} {H0 Hs H : Hp} (st : ∀ a, Hs a = none → H0 a = none) : ∀ {ks : List (Nat × Bool)} {vs : List V} {rs : List Rs} {σ : L2.St} {ρ : Ev} {Q : Ev → Prop}, (∀ k ∈ ks, k.1 < σ.length) → EnvR K z H0 H σ ρ → RIsAll K z Hs H vs rs →
    (∀ (k : Nat) (ys : List Ab.D), rs[k]? = some (Rs.fresh ys) → ∀ (v : V), vs[k]? = some v → ∀ (j : Nat) (xs : List Ab.D), getS ρ j = .own xs → σ[j]? ≠ some (some v)) → storeAll ks rs ρ Q → vs.length = ks.length ∧ ∃ ρ', EnvR K z H0 H (setAll σ ks vs) ρ' ∧ Q ρ'
  | [], vs, rs, σ, ρ, Q, hi, v, r, fr, h => by
    cases r with
    | nil => exact ⟨rfl, ρ, v, h⟩
    | cons _ _ _ => exact h.elim
  | (i, b) :: ks, vs, rs, σ, ρ, Q, hi, v, r, fr, h => by
    cases r with
    | nil => cases b <;> exact h.elim
    | @cons x r vs rs h1 h2 h3 =>
      have hi0 : i < σ.length := hi _ List.mem_cons_self
      have hi' : ∀ k ∈ ks, k.1 < (σ.set i (some x)).length := fun k hk => by rw [List.length_set]; exact hi k (List.mem_cons_of_mem _ hk)
      cases b with
      | false =>
        cases r with
        | fresh _ => exact h.elim
        | dat d =>
          obtain ⟨e, ρ', v', q⟩ := store_all st (ks := ks) hi' (v.set hi0 h1) h2 (fun k ys hk u hu j xs q => by
            obtain ⟨ji, q⟩ := set_own_ne (by intro _ e; cases e) q
            rw [List.getElem?_set_ne (Ne.symm ji)]
            exact fr (k + 1) ys (by simpa using hk) u (by simpa using hu) j xs q) h
          exact ⟨by rw [List.length_cons, List.length_cons, e], ρ', v', q⟩
      | true =>
        cases r with
        | dat _ => exact h.elim
        | fresh ds =>
          obtain ⟨p, us, e, hp, hF, hT, hH, hs⟩ := h1
          subst e
          obtain ⟨e, ρ', v', q⟩ := store_all st (ks := ks) hi' (v.setOwn hi0 hH hF hT (st p hp) hs fun j xs q => fr 0 ds rfl _ rfl j xs q) h2 (fun k ys hk u hu j xs q => by
            by_cases ji : j = i
            · subst ji
              rw [List.getElem?_set_self hi0]
              intro e
              cases e
              exact h3 ds rfl k ys hk hu
            · rw [List.getElem?_set_ne (Ne.symm ji)]
              rw [getS_set, if_neg (fun c => ji c.1)] at q
              exact fr (k + 1) ys (by simpa using hk) u (by simpa using hu) j xs q) h
          exact ⟨by rw [List.length_cons, List.length_cons, e], ρ', v', q⟩
theorem fr_of {z : Fz} {H0 H H' : Hp} {σ : L2.St} {ρ : Ev} (v : EnvR K z H0 H σ ρ) : ∀ {z1 : Fz} {vs : List V} {rs : List Rs}, RIsAll K z1 H H' vs rs → ∀ (k : Nat) (ys : List Ab.D), rs[k]? = some (Rs.fresh ys) → ∀ (u : V), vs[k]? = some u → ∀ (j : Nat) (xs : List Ab.D), getS ρ j = .own xs → σ[j]? ≠ some (some u)
  | z1, vs, rs, r, k, ys, hk, u, hu, j, xs, q => by
    obtain ⟨p, us, e1, e2, _⟩ := v.own j xs q
    intro e
    rw [e1] at e; cases e
    exact r.old e2 k ys hk hu
theorem st_par (mono : MonoF Φ) (hy : HyS M T Φ XE X sc fn Ex) {ks : List (Nat × Bool)} (h : parC T ks es sc fn x4 = true) : PX X x4 (tSt M Φ XE (.par ks es) Ex) := by
  unfold parC at h
  split at h
  · split at h
    · simp only [Bool.and_eq_true, decide_eq_true_eq, Bool.not_eq_true', Bool.not_eq_eq_eq_not, Bool.not_true] at h
      obtain ⟨⟨⟨⟨⟨⟨⟨⟨⟨⟨⟨h1, h2⟩, h3⟩, lx⟩, ly⟩, hl⟩, hxy⟩, pa⟩, pb⟩, hf⟩, hc⟩, h4⟩ := h
      have l1 := lclB_d lx
      have l2 := lclB_d ly
      rw [← hy.hsc] at l1 l2
      refine PS.impL (ps_par hy.calm (by rw [hy.hN]; exact hy.nd) (by rw [hy.hN]; exact h1) (by rw [hy.hN]; exact h2) h3 l1 l2 (sAR mono hy.toHy es _ h4) (sw2 hy.hsc hy.hk lx ly hl hxy pa pb hf hc)) fun D σ H len ⟨z0, H0, zb, z, w, ρ, E, a, le, up, v, en, h⟩ => ?_
      simp only [execS] at h
      have i1 := ltN h1 (len.trans (by rw [hy.hN]))
      have i2 := ltN h2 (len.trans (by rw [hy.hN]))
      refine ⟨z, w, _, _, _, a, v.mask, en.ex.mono le, h, fun vs z1 H1 w1 rs a1 l1 ri q => ?_⟩
      obtain ⟨el, ρ', v', q'⟩ := store_all (K := K) le.st (by
        intro k hk
        simp only [List.mem_cons, List.not_mem_nil, or_false] at hk
        rcases hk with e | e <;> subst e
        · exact i1
        · exact i2) (v.le l1) ri (fr_of v ri) q
      match vs, el with
      | [u1, u2], _ => exact ⟨u1, u2, rfl, en.nx _ _ _ _ _ a1 (le.trans l1) (up.le l1) v' q'⟩
    · simp at h
  · split at h
    · simp only [Bool.and_eq_true, decide_eq_true_eq, Bool.not_eq_true', Bool.not_eq_eq_eq_not, Bool.not_true] at h
      obtain ⟨⟨⟨⟨⟨⟨⟨⟨⟨⟨⟨⟨⟨⟨⟨⟨⟨⟨⟨h1, h2⟩, h3⟩, n1⟩, n2⟩, n3⟩, lx⟩, ly⟩, lu⟩, hl⟩, hl2⟩, hxy⟩, hxu⟩, hyu⟩, pa⟩, pb⟩, pc⟩, hf⟩, hc⟩, h4⟩ := h
      have l1 := lclB_d lx
      have l2 := lclB_d ly
      have l3 := lclB_d lu
      rw [← hy.hsc] at l1 l2 l3
      refine PS.impL (ps_par3 hy.calm (by rw [hy.hN]; exact hy.nd) (by rw [hy.hN]; exact h1) (by rw [hy.hN]; exact h2) (by rw [hy.hN]; exact h3) n1 n2 n3 l1 l2 l3 (sAR mono hy.toHy es _ h4) (sw3 hy.hsc hy.hk lx ly lu hl hl2 hxy hxu hyu pa pb pc hf hc)) fun D σ H len ⟨z0, H0, zb, z, w, ρ, E, a, le, up, v, en, h⟩ => ?_
      simp only [execS] at h
      have i1 := ltN h1 (len.trans (by rw [hy.hN]))
      have i2 := ltN h2 (len.trans (by rw [hy.hN]))
      have i3 := ltN h3 (len.trans (by rw [hy.hN]))
      refine ⟨z, w, _, _, _, a, v.mask, en.ex.mono le, h, fun vs z1 H1 w1 rs a1 l1 ri q => ?_⟩
      obtain ⟨el, ρ', v', q'⟩ := store_all (K := K) le.st (by
        intro k hk
        simp only [List.mem_cons, List.not_mem_nil, or_false] at hk
        rcases hk with e | e | e <;> subst e
        · exact i1
        · exact i2
        · exact i3) (v.le l1) ri (fr_of v ri) q
      match vs, el with
      | [u1, u2, u3], _ => exact ⟨u1, u2, u3, rfl, en.nx _ _ _ _ _ a1 (le.trans l1) (up.le l1) v' q'⟩
    · simp at h
  · cases h
def gNms (ks : List (Nat × Bool)) : TGs := fun vs σ H Q => vs.length = ks.length ∧ Q (setAll σ ks vs) H
theorem pgs_nms (hy : HyS M T Φ XE X sc fn Ex) : ∀ (ks : List (Nat × Bool)) (ts : List Expr), nmsB T.N sc fn ks ts = true → PGs X ts (gNms ks)
  | [], [], h => ⟨fun pins s σ H vs us Q I r ⟨e, q⟩ => by
      cases vs with
      | cons _ _ => cases e
      | nil => cases r; exact assignInOrder_nil ⟨σ, H, I, q⟩⟩
  | (i, b) :: ks, t :: ts, h => by
    cases t with
    | Name x p =>
      have h : (decide (T.N[i]? = some x) && locB sc fn x && nmsB T.N sc fn ks ts) = true := h
      simp only [Bool.and_eq_true, decide_eq_true_eq] at h
      obtain ⟨l1, l2⟩ := locB_d hy.hsc hy.hfn h.1.2
      have g := pgs_cons (pg_name (pos := p) (i := i) (by rw [hy.hN]; exact hy.nd) (by rw [hy.hN]; exact h.1.1) l1 l2) (pgs_nms hy ks ts h.2)
      exact ⟨fun pins s σ H vs us Q I r ⟨e, q⟩ => g.run pins s σ H vs us Q I r (by
        cases vs with
        | nil => cases e
        | cons v vs => exact ⟨v, vs, rfl, by simpa using e, q⟩)⟩
    | _ => cases h
  | [], _ :: _, h => by cases h
  | _ :: _, [], h => by cases h
theorem nms_plain {N : List Str} : ∀ (ks : List (Nat × Bool)) (ts : List Expr), nmsB N sc fn ks ts = true → ks.length = ts.length ∧ (∀ e ∈ ts, plainB e = true) ∧ ∀ k ∈ ks, k.1 < N.length
  | [], [], h => ⟨rfl, by simp, by simp⟩
  | (i, b) :: ks, t :: ts, h => by
    cases t with
    | Name x p =>
      have h : (decide (N[i]? = some x) && locB sc fn x && nmsB N sc fn ks ts) = true := h
      simp only [Bool.and_eq_true, decide_eq_true_eq] at h
      obtain ⟨h1, h2, h3⟩ := nms_plain ks ts h.2
      refine ⟨by rw [List.length_cons, List.length_cons, h1], fun e he => ?_, fun k hk => ?_⟩
      · rcases List.mem_cons.mp he with q | q
        · rw [q]; rfl
        · exact h2 e q
      · rcases List.mem_cons.mp hk with q | q
        · rw [q]; exact (List.getElem?_eq_some_iff.mp h.1.1).1
        · exact h3 k q
    | _ => cases h
  | [], _ :: _, h => by cases h
  | _ :: _, [], h => by cases h
theorem sw4 {ts vs : List Expr} {k k2 : Nat} {p p2 : Pos} {env : Env} (h : 4 ≤ ts.length) : swappedStores [.Tuple ts k p] (.Tuple vs k2 p2) env = pure none := by
  refine swN_d ?_
  show (!(ts.length == 2 || ts.length == 3) || vs.all (foldedForSure 8)) = true
  have e2 : (ts.length == 2) = false := by simp; omega
  have e3 : (ts.length == 3) = false := by simp; omega
  rw [e2, e3]; rfl
theorem st_parM (mono : MonoF Φ) (hy : HyS M T Φ XE X sc fn Ex) {ks : List (Nat × Bool)} (h : parM T ks es sc fn x4 = true) : PX X x4 (tSt M Φ XE (.par ks es) Ex) := by
  unfold parM at h
  split at h
  · simp only [Bool.and_eq_true, decide_eq_true_eq] at h
    obtain ⟨⟨h1, h2⟩, h3⟩ := h
    obtain ⟨e1, e2, e3⟩ := nms_plain _ _ h2
    obtain ⟨al, af⟩ := asg_len (env := X.env) _ e2
    refine PS.impL (ps_asg (pe_tup (sAR (M := M) (T := T) (XE := XE) mono hy.toHy es _ h3)) (pg_tupK hy.hK hy.calm (pgs_nms hy ks _ h2) al af) rfl (sw4 h1.1) rfl) fun D σ H len ⟨z0, H0, zb, z, w, ρ, E, a, le, up, v, en, h⟩ => ?_
    simp only [execS] at h
    refine ⟨z, w, _, _, _, a, v.mask, en.ex.mono le, h, fun vs z1 H1 w1 rs a1 l1 ri q => ?_⟩
    have ri' : ∀ p, H1 p = none → RIsAll K z1 H (upd H1 p (.tup vs)) vs rs := fun p hp => by
      have : ∀ {vs : List V} {rs : List Rs} {us : List V}, RIsAll K z1 H H1 vs rs → RIsAll K z1 H (upd H1 p (.tup us)) vs rs := fun {vs rs us} r => by
        induction r with
        | nil => exact .nil
        | cons h t n ih => exact .cons (h.later (Fz.Le.new hp)) ih n
      exact this ri
    obtain ⟨el, _⟩ := store_all (K := K) le.st (by
      intro k hk
      rw [len, hy.hN]; exact e3 k hk) (v.le l1) ri (fr_of v ri) q
    refine ⟨?_, fun p hp => ?_⟩
    · rw [el, e1]
      exact Nat.le_trans h1.2 (by decide)
    · obtain ⟨el, ρ', v', q'⟩ := store_all (K := K) le.st (by
        intro k hk
        rw [len, hy.hN]; exact e3 k hk) ((v.le l1).le (Fz.Le.new (o := .tup vs) hp)) (ri' p hp) (fr_of v ri) q
      refine ⟨p, vs, rfl, SqT.of upd_same, by rw [el, e1], el, ?_⟩
      exact en.nx _ _ _ _ _ (a1.new hp) (le.trans (l1.trans (Fz.Le.new hp))) ((up.le l1).trans (Fz.Up.refl _)) v' q'
  · cases h
/-! ### every statement -/
theorem st_all (mono : MonoF Φ) (hy : HyS M T Φ XE X sc fn Ex) : ∀ (s : S) (x : X4), chkS T sc fn s x = true → PX X x (tSt M Φ XE s Ex)
  | .skip, x, h => st_skip hy (by simpa [chkS] using h)
  | .seq a b, x, h => by
    cases x with
    | s st => simp [chkS] at h
    | b sts =>
      cases sts with
      | nil =>
        simp only [chkS] at h
        split at h
        · rename_i q
          cases a with
          | frz i => exact st_frz (st_all mono hy b _ h)
          | _ => cases q
        · cases h
      | cons st rest =>
        simp only [chkS] at h
        split at h
        · rename_i q
          cases a with
          | frz i => exact st_frz (st_all mono hy b _ h)
          | _ => cases q
        · rw [Bool.and_eq_true] at h
          exact st_seq (st_all mono hy a _ h.1) (st_all mono hy b _ h.2)
  | .asg i e, x, h => st_asg mono hy (by simpa [chkS] using h)
  | .asgF i e, x, h => st_asgF mono hy (by simpa [chkS] using h)
  | .own i e, x, h => st_own mono hy (by simpa [chkS] using h)
  | .ownF i e, x, h => st_ownF mono hy (by simpa [chkS] using h)
  | .frz i, x, h => by simp [chkS] at h
  | .par ks es, x, h => by
    simp only [chkS, Bool.or_eq_true] at h
    exact h.elim (st_par mono hy) (st_parM mono hy)
  | .unp t e, x, h => st_unp mono hy (by simpa [chkS] using h)
  | .app i e, x, h => st_app mono hy (by simpa [chkS] using h)
  | .appF i e, x, h => st_appF mono hy (by simpa [chkS] using h)
  | .ins i e, x, h => st_ins mono hy (by simpa [chkS] using h)
  | .seti i a e, x, h => st_seti mono hy (by simpa [chkS] using h)
  | .augi o i a e, x, h => st_augi mono hy (by simpa [chkS] using h)
  | .aug o i e, x, h => st_aug mono hy (by simpa [chkS] using h)
  | .exp e, x, h => st_exp mono hy (by simpa [chkS] using h)
  | .ret e, x, h => st_ret mono hy (by simpa [chkS] using h)
  | .retO i, x, h => st_retO hy (by simpa [chkS] using h)
  | .ite c a b, x, h => by
    cases x with
    | b _ => simp [chkS] at h
    | s st =>
      cases st with
      | If t p q pos =>
        simp only [chkS, Bool.and_eq_true] at h
        exact st_if mono hy h.1.1 (st_all mono hy a (.b p) h.1.2) (st_all mono hy b (.b q) h.2)
      | _ => simp [chkS] at h
  | .for_ t src body, x, h => by
    cases x with
    | b _ => simp [chkS] at h
    | s st =>
      cases st with
      | For tg it p q pos =>
        cases q with
        | cons _ _ => simp [chkS] at h
        | nil =>
          simp only [chkS, Bool.and_eq_true] at h
          exact st_for mono hy h.1.1.1 h.1.1.2 h.1.2 (st_all mono hy body (.b p) h.2)
      | _ => simp [chkS] at h
  | .while_ c body, x, h => by
    cases x with
    | b _ => simp [chkS] at h
    | s st =>
      cases st with
      | While t p q pos =>
        cases q with
        | cons _ _ => simp [chkS] at h
        | nil =>
          simp only [chkS, Bool.and_eq_true] at h
          exact st_while mono hy h.1 (st_all mono hy body (.b p) h.2)
      | _ => simp [chkS] at h
  | .never, x, h => by
    cases x with
    | s st => exact PS.impL ps_never fun D σ H len ⟨z0, H0, zb, z, w, ρ, E, a, le, up, v, en, h⟩ => by simp only [execS] at h
    | b sts => exact PSs.impL pss_never fun D σ H len ⟨z0, H0, zb, z, w, ρ, E, a, le, up, v, en, h⟩ => by simp only [execS] at h
  | .brk, x, h => by
    cases x with
    | b _ => simp [chkS] at h
    | s st =>
      cases st with
      | Break pos => exact PS.impL ps_break fun D σ H len ⟨z0, H0, zb, z, w, ρ, E, a, le, up, v, en, h⟩ => en.bk _ _ _ _ _ a le up v h
      | _ => simp [chkS] at h
  | .cnt, x, h => by
    cases x with
    | b _ => simp [chkS] at h
    | s st =>
      cases st with
      | Continue pos => exact PS.impL ps_continue fun D σ H len ⟨z0, H0, zb, z, w, ρ, E, a, le, up, v, en, h⟩ => en.ct _ _ _ _ _ a le up v h
      | _ => simp [chkS] at h
end
end Ab

namespace Ab
open PySem PySem.Spec PyProof.Rows L2

/-! ### the small language, run -/
def mulOk (i j : Int) : Bool := (decide (-(2 ^ 64) < i) && decide (i < 2 ^ 64)) || (decide (-(2 ^ 64) < j) && decide (j < 2 ^ 64)) || decide (i.natAbs.log2 + j.natAbs.log2 < 1000000)
theorem mulOk_d {i j : Int} (h : mulOk i j = true) : CMul i j ∨ CMulW i j := by
  unfold mulOk at h
  simp only [Bool.or_eq_true, Bool.and_eq_true, decide_eq_true_eq] at h
  rcases h with (h | h) | h
  · exact .inl (.inl h)
  · exact .inl (.inr h)
  · exact .inr h
def binF : Bop → D → D → Option Rs
  | .add, .int i, .int j => some (.dat (.int (i + j)))
  | .add, .str a, .str b => if a.length + b.length ≤ sizeLine then some (.dat (.str (a ++ b))) else none
  | .add, .seq false xs, .seq false ys => if xs.length + ys.length ≤ sizeLine then some (.dat (.seq false (xs ++ ys))) else none
  | .add, .seq true xs, .seq true ys => if xs.length + ys.length ≤ sizeLine then some (.fresh (xs ++ ys)) else none
  | .sub, .int i, .int j => some (.dat (.int (i - j)))
  | .mul, .int i, .int j => if mulOk i j = true then some (.dat (.int (i * j))) else none
  | .mul, .seq true xs, .int k => if -(2 ^ 63) ≤ k ∧ k < 2 ^ 63 ∧ xs.length * k.toNat ≤ sizeLine then some (.fresh (rep k.toNat xs)) else none
  | .mul, .seq false xs, .int k => if 1 ≤ k ∧ k ≤ 1000 ∧ xs.length ≤ 1000 ∧ xs.isEmpty = false then some (.dat (.seq false (rep k.toNat xs))) else none
  | .fdiv, .int i, .int j => if 0 < j ∧ j.natAbs.log2 < 9000 then some (.dat (.int (i / j))) else none
  | .mod, .int i, .int j => if 0 < j then some (.dat (.int (i % j))) else none
  | .pow, .int i, .int j => if 0 ≤ j ∧ j ≤ 1000000 ∧ i.natAbs < 2 ^ 64 then some (.dat (.int (i ^ j.toNat))) else none
  | _, _, _ => none
theorem binF_ok {o : Bop} {x y : D} {r : Rs} {Q : Rs → Prop} (h : binF o x y = some r) (q : Q r) : binD o x y Q := by
  unfold binF at h
  split at h <;> first
    | (cases h; exact q)
    | (split at h
       · cases h; exact ⟨by first | exact mulOk_d ‹_› | assumption, q⟩
       · cases h)
    | (split at h
       · rename_i c; cases h; exact ⟨⟨c.1, c.2.1, c.2.2.1, fun e => by have := c.2.2.2; rw [e] at this; cases this⟩, q⟩
       · cases h)
    | cases h
def ibinF : Bop → D → D → Option Rs
  | .add, .int i, .int j => some (.dat (.int (i + j)))
  | .add, .str a, .str b => if a.length + b.length ≤ sizeLine then some (.dat (.str (a ++ b))) else none
  | .sub, .int i, .int j => some (.dat (.int (i - j)))
  | .mul, .int i, .int j => if mulOk i j = true then some (.dat (.int (i * j))) else none
  | _, _, _ => none
theorem ibinF_ok {o : Bop} {x y : D} {r : Rs} {Q : Rs → Prop} (h : ibinF o x y = some r) (q : Q r) : ibinD o x y Q := by
  unfold ibinF at h
  split at h <;> first
    | (cases h; exact q)
    | (split at h
       · cases h; exact ⟨by first | exact mulOk_d ‹_› | assumption, q⟩
       · cases h)
    | cases h
def cmpF : Cop → D → D → Option D
  | .eq, .int i, .int j => some (.bl (decide (i = j)))
  | .ne, .int i, .int j => some (.bl (!decide (i = j)))
  | .eq, a, b => if a.cq = true ∧ b.cq = true then some (.bl (eqD a b)) else none
  | .ne, a, b => if a.cq = true ∧ b.cq = true then some (.bl (!eqD a b)) else none
  | .lt, .int i, .int j => some (.bl (decide (i < j)))
  | .le, .int i, .int j => some (.bl (decide (i ≤ j)))
  | .gt, .int i, .int j => some (.bl (decide (j < i)))
  | .ge, .int i, .int j => some (.bl (decide (j ≤ i)))
  | .is_, a, .non => some (.bl a.isNon)
  | .isn, a, .non => some (.bl (!a.isNon))
  | .is_, .bl a, .bl b => some (.bl (decide (a = b)))
  | .isn, .bl a, .bl b => some (.bl (!decide (a = b)))
  | .inn, a, .seq _ xs => if a.flat = true ∧ xs.all D.flat = true then some (.bl (xs.any fun x => eqD x a)) else none
  | .nin, a, .seq _ xs => if a.flat = true ∧ xs.all D.flat = true then some (.bl (!(xs.any fun x => eqD x a))) else none
  | _, _, _ => none
theorem cmpF_ok {o : Cop} {x y : D} {r : D} {Q : D → Prop} (h : cmpF o x y = some r) (q : Q r) : cmpD o x y Q := by
  cases o <;> cases x <;> cases y <;> first
    | (cases h; done)
    | (cases h; exact q)
    | (simp only [cmpF] at h
       split at h
       · cases h; exact ⟨by assumption, q⟩
       · cases h)
def idxF : D → D → Option D
  | .scr ns, .int i => (L2.atI ns i).map D.int
  | .seq _ xs, .int i => L2.atI xs i
  | _, _ => none
theorem idxF_ok {x y : D} {r : D} {Q : D → Prop} (h : idxF x y = some r) (q : Q r) : idxD x y Q := by
  unfold idxF at h
  split at h
  · obtain ⟨k, e, h⟩ := Option.map_eq_some_iff.mp h
    subst h
    exact ⟨k, e, q⟩
  · exact ⟨r, h, q⟩
  · cases h
def partF (b : Bool) (d : D) : Option (Option Int) := match b, d with
  | true, _ => some none
  | false, .int i => some (some i)
  | _, _ => none
theorem partF_ok {b : Bool} {d : D} {r : Option Int} {Q : Option Int → Prop} (h : partF b d = some r) (q : Q r) : partD b d Q := by
  unfold partF at h
  split at h
  · cases h; exact q
  · cases h; exact q
  · cases h
def slcF : D → Option Int → Option Int → Option Rs
  | .scr ns, lo, hi => some (.fresh (cutD (ns.map D.int) lo hi))
  | .seq true xs, lo, hi => some (.fresh (cutD xs lo hi))
  | .seq false xs, lo, hi => some (.dat (.seq false (cutD xs lo hi)))
  | _, _, _ => none
theorem slcF_ok {x : D} {lo hi : Option Int} {r : Rs} {Q : Rs → Prop} (h : slcF x lo hi = some r) (q : Q r) : slcD x lo hi Q := by
  unfold slcF at h
  split at h <;> first | (cases h; exact q) | cases h
def revF : D → Option Rs
  | .seq true xs => some (.fresh xs.reverse)
  | _ => none
theorem revF_ok {x : D} {r : Rs} {Q : Rs → Prop} (h : revF x = some r) (q : Q r) : revD x Q := by
  unfold revF at h
  split at h <;> first | (cases h; exact q) | cases h
def bltF : Blt → List D → Option Rs
  | .len, [.seq _ xs] => some (.dat (.int xs.length))
  | .len, [.scr ns] => some (.dat (.int ns.length))
  | .len, [.str x] => if x.length ≤ sizeLine then some (.dat (.int x.length)) else none
  | .abs_, [.int i] => some (.dat (.int (if i < 0 then -i else i)))
  | .int_, [.int i] => some (.dat (.int i))
  | .int_, [.bl b] => some (.dat (.int (if b then 1 else 0)))
  | .tuple_, [.seq _ xs] => some (.dat (.seq false xs))
  | .list_, [.seq _ xs] => some (.fresh xs)
  | .sum_, [.seq true xs] => (intsOf xs).map fun ns => .dat (.int ns.sum)
  | .max_, [.seq _ xs] => (intsOf xs).bind fun ns => if ns.isEmpty = false then some (.dat (.int (maxI ns))) else none
  | .min_, [.seq true xs] => (intsOf xs).bind fun ns => if ns.isEmpty = false then some (.dat (.int (minI ns))) else none
  | .all_, [.seq true xs] => (blsOf xs).map fun bs => .dat (.bl (bs.all id))
  | .divmod_, [.int i, .int j] => if 0 < j ∧ j.natAbs.log2 < 9000 then some (.dat (.seq false [.int (i / j), .int (i % j)])) else none
  | .max2, [.int i, .int j] => some (.dat (.int (if j > i then j else i)))
  | .min2, [.int i, .int j] => some (.dat (.int (if j < i then j else i)))
  | _, _ => none
theorem bltF_ok {b : Blt} {ds : List D} {r : Rs} {Q : Rs → Prop} (h : bltF b ds = some r) (q : Q r) : bltD b ds Q := by
  unfold bltF at h
  split at h <;> first
    | (cases h; exact q)
    | (split at h
       · cases h; exact ⟨by assumption, q⟩
       · cases h)
    | (obtain ⟨k, e, h⟩ := Option.map_eq_some_iff.mp h; subst h; exact ⟨k, e, q⟩)
    | (obtain ⟨k, e, h⟩ := Option.bind_eq_some_iff.mp h
       split at h
       · rename_i c; cases h; exact ⟨k, e, (fun z => by rw [z] at c; cases c), q⟩
       · cases h)
    | cases h
def isiF (d : D) (ts : List Ty) : Option D := if d.isHnd = false then some (.bl (ts.any (isi1 d))) else none
theorem isiF_ok {d : D} {ts : List Ty} {r : D} {Q : D → Prop} (h : isiF d ts = some r) (q : Q r) : isiD d ts Q := by
  unfold isiF at h
  split at h
  · cases h; exact ⟨by assumption, q⟩
  · cases h
def okRB (i : Int) : Bool := decide (-(2 ^ 62) ≤ i) && decide (i < 2 ^ 62)
theorem okRB_d {i : Int} (h : okRB i = true) : okR i := by
  unfold okRB at h
  simp only [Bool.and_eq_true, decide_eq_true_eq] at h
  exact h
def rangeF : List D → Option (List D)
  | [.int j] => if okRB j = true then some (rgD 0 j) else none
  | [.int i, .int j] => if okRB i = true ∧ okRB j = true then some (rgD i j) else none
  | [.int i, .int j, .int (-1)] => if okRB i = true ∧ okRB j = true then some (rgN i j) else none
  | _ => none
theorem rangeF_ok {ds : List D} {r : List D} {Q : List D → Prop} (h : rangeF ds = some r) (q : Q r) : rangeD ds Q := by
  unfold rangeF at h
  split at h <;> first
    | (split at h
       · cases h; exact ⟨okRB_d (by assumption), q⟩
       · cases h)
    | (split at h
       · rename_i c; cases h; exact ⟨⟨okRB_d c.1, okRB_d c.2⟩, q⟩
       · cases h)
    | cases h
def bindF : Tg → D → Ev → Option Ev
  | .nm i, d, ρ => some (ρ.set i (.val d))
  | .nil, .seq _ [], ρ => some ρ
  | .cons a b, .seq l (d :: ds), ρ => (bindF a d ρ).bind fun ρ => bindF b (.seq l ds) ρ
  | _, _, _ => none
theorem bindF_ok : ∀ {t : Tg} {d : D} {ρ r : Ev} {Q : Ev → Prop}, bindF t d ρ = some r → Q r → bindT t d ρ Q
  | .nm i, d, ρ, r, Q, h, q => by simp only [bindF] at h; cases h; exact q
  | .nil, .seq l [], ρ, r, Q, h, q => by simp only [bindF] at h; cases h; exact q
  | .cons a b, .seq l (d :: ds), ρ, r, Q, h, q => by
    simp only [bindF] at h
    obtain ⟨ρ1, h1, h2⟩ := Option.bind_eq_some_iff.mp h
    exact bindF_ok (t := a) h1 (bindF_ok (t := b) h2 q)
  | .nil, .seq _ (_ :: _), _, _, _, h, _ => by cases h
  | .nil, .int _, _, _, _, h, _ => by cases h
  | .nil, .str _, _, _, _, h, _ => by cases h
  | .nil, .bl _, _, _, _, h, _ => by cases h
  | .nil, .non, _, _, _, h, _ => by cases h
  | .nil, .hnd _, _, _, _, h, _ => by cases h
  | .nil, .scr _, _, _, _, h, _ => by cases h
  | .cons _ _, .seq _ [], _, _, _, h, _ => by cases h
  | .cons _ _, .int _, _, _, _, h, _ => by cases h
  | .cons _ _, .str _, _, _, _, h, _ => by cases h
  | .cons _ _, .bl _, _, _, _, h, _ => by cases h
  | .cons _ _, .non, _, _, _, h, _ => by cases h
  | .cons _ _, .hnd _, _, _, _, h, _ => by cases h
  | .cons _ _, .scr _, _, _, _, h, _ => by cases h
def itemsF : D → Option (List D)
  | .seq _ xs => some xs
  | _ => none
theorem itemsF_ok {d : D} {r : List D} {Q : List D → Prop} (h : itemsF d = some r) (q : Q r) : itemsD d Q := by
  unfold itemsF at h
  split at h
  · cases h; exact q
  · cases h
def compF (step : D → Option (Option D)) : List D → Option (List D)
  | [] => some []
  | x :: xs => (step x).bind fun o => (compF step xs).bind fun ys => some (o.toList ++ ys)
def compG (step : D → Option D) : List D → Option (List D)
  | [] => some []
  | x :: xs => (step x).bind fun y => (compG step xs).bind fun ys => some (y :: ys)
def blF : D → Option Bool
  | .bl b => some b
  | _ => none
def intF : D → Option Int
  | .int b => some b
  | _ => none
def runE (cl : Nat → List D → Option Rs) : E → Ev → Option Rs
  | .var i, ρ => match getS ρ i with
    | .val d => some (.dat d)
    | _ => none
  | .int i, _ => some (.dat (.int i))
  | .str x, _ => some (.dat (.str x))
  | .bl b, _ => some (.dat (.bl b))
  | .non, _ => some (.dat .non)
  | .bin o a b, ρ => (runE cl a ρ).bind fun x => (runE cl b ρ).bind fun y => binF o x.d y.d
  | .neg a, ρ => (runE cl a ρ).bind fun x => (intF x.d).map fun i => .dat (.int (-i))
  | .cmp o a b, ρ => (runE cl a ρ).bind fun x => (runE cl b ρ).bind fun y => (cmpF o x.d y.d).map Rs.dat
  | .chain o p a b c, ρ => (runE cl a ρ).bind fun x => (runE cl b ρ).bind fun y => (cmpF o x.d y.d).bind fun d => (blF d).bind fun t => if t = true then (runE cl c ρ).bind fun u => (cmpF p y.d u.d).map Rs.dat else some (.dat (.bl false))
  | .and_ a b, ρ => (runE cl a ρ).bind fun x => (blF x.d).bind fun t => if t = true then runE cl b ρ else some (.dat (.bl false))
  | .or_ a b, ρ => (runE cl a ρ).bind fun x => (blF x.d).bind fun t => if t = true then some (.dat (.bl true)) else runE cl b ρ
  | .not_ a, ρ => (runE cl a ρ).bind fun x => (blF x.d).map fun t => .dat (.bl (!t))
  | .ite c a b, ρ => (runE cl c ρ).bind fun x => (blF x.d).bind fun t => if t = true then runE cl a ρ else runE cl b ρ
  | .tup es, ρ => (runE cl es ρ).bind fun r => (itemsF r.d).bind fun ds => if ds.length ≤ sizeLine then some (.dat (.seq false ds)) else none
  | .lst es, ρ => (runE cl es ρ).bind fun r => (itemsF r.d).bind fun ds => if ds.length ≤ sizeLine then some (.fresh ds) else none
  | .nil, _ => some (.dat (.seq true []))
  | .cons a b, ρ => (runE cl a ρ).bind fun x => (runE cl b ρ).bind fun r => (itemsF r.d).bind fun ds => some (.dat (.seq true (x.d :: ds)))
  | .idx a i, ρ => (runE cl a ρ).bind fun x => (runE cl i ρ).bind fun y => (idxF x.d y.d).map Rs.dat
  | .slc a lo hi, ρ => (runE cl a ρ).bind fun x => (runE cl lo ρ).bind fun l => (partF lo.isNon l.d).bind fun l => (runE cl hi ρ).bind fun h => (partF hi.isNon h.d).bind fun h => slcF x.d l h
  | .rev a, ρ => (runE cl a ρ).bind fun x => revF x.d
  | .call f es, ρ => (runE cl es ρ).bind fun r => (itemsF r.d).bind fun ds => cl f ds
  | .blt b es, ρ => (runE cl es ρ).bind fun r => (itemsF r.d).bind fun ds => bltF b ds
  | .isi a ts, ρ => (runE cl a ρ).bind fun x => (isiF x.d ts).map Rs.dat
  | .comp t src elt, ρ => (runE cl src ρ).bind fun r => (itemsF r.d).bind fun xs => if xs.length ≤ sizeLine then
      (compG (fun d => (bindF t d (clr ρ t.slots)).bind fun ρ' => (runE cl elt ρ').map Rs.d) xs).map Rs.fresh else none
  | .compIf t src c elt, ρ => (runE cl src ρ).bind fun r => (itemsF r.d).bind fun xs => if xs.length ≤ sizeLine then
      (compF (fun d => (bindF t d (clr ρ t.slots)).bind fun ρ' => (runE cl c ρ').bind fun b => (blF b.d).bind fun t => if t = true then (runE cl elt ρ').map fun y => some y.d else some none) xs).map Rs.fresh else none
  | .iseq a, ρ => (runE cl a ρ).bind fun x => (itemsF x.d).map fun xs => .dat (.seq true xs)
  | .irange es, ρ => (runE cl es ρ).bind fun r => (itemsF r.d).bind fun ds => (rangeF ds).map fun xs => .dat (.seq true xs)
  | .lrange es, ρ => (runE cl es ρ).bind fun r => (itemsF r.d).bind fun ds => (rangeF ds).bind fun xs => if xs.length ≤ 2 ^ 24 then some (.fresh xs) else none
  | .trange es, ρ => (runE cl es ρ).bind fun r => (itemsF r.d).bind fun ds => (rangeF ds).bind fun xs => if xs.length ≤ 2 ^ 24 then some (.dat (.seq false xs)) else none
  | .oidx i e, ρ => match getS ρ i with
    | .own xs => (runE cl e ρ).bind fun y => (intF y.d).bind fun k => (L2.atI xs k).map Rs.dat
    | _ => none
  | .izip a b, ρ => (runE cl a ρ).bind fun x => (runE cl b ρ).bind fun y => (itemsF x.d).bind fun xs => (itemsF y.d).map fun ys => .dat (.seq true (zipD xs ys))
  | .ienum a k, ρ => (runE cl a ρ).bind fun x => (itemsF x.d).map fun xs => .dat (.seq true (enumD k xs))
def runRs (cl : Nat → List D → Option Rs) : E → Ev → Option (List Rs)
  | .nil, _ => some []
  | .cons a b, ρ => (runE cl a ρ).bind fun x => (runRs cl b ρ).map fun rs => x :: rs
  | _, _ => none
inductive Out | nx (ρ : Ev) | rt (r : Rs) | bk (ρ : Ev) | ct (ρ : Ev)
def Out.seq (o : Out) (k : Ev → Option Out) : Option Out := match o with
  | .nx ρ => k ρ
  | o => some o
def Out.turn (o : Out) (k : Ev → Option Out) : Option Out := match o with
  | .nx ρ => k ρ
  | .ct ρ => k ρ
  | .bk ρ => some (.nx ρ)
  | .rt r => some (.rt r)
def forF (t : Tg) (body : Ev → Option Out) : List D → Ev → Option Out
  | [], ρ => some (.nx ρ)
  | x :: xs, ρ => (bindF t x ρ).bind fun ρ => (body ρ).bind fun o => o.turn (forF t body xs)
def whileF (test : Ev → Option Bool) (body : Ev → Option Out) : Nat → Ev → Option Out
  | 0, _ => none
  | n + 1, ρ => (test ρ).bind fun b => if b = true then (body ρ).bind fun o => o.turn (whileF test body n) else some (.nx ρ)
def storeF : List (Nat × Bool) → List Rs → Ev → Option Ev
  | [], [], ρ => some ρ
  | (i, false) :: ks, .dat d :: rs, ρ => storeF ks rs (ρ.set i (.val d))
  | (i, true) :: ks, .fresh xs :: rs, ρ => storeF ks rs (ρ.set i (.own xs))
  | _, _, _ => none
def ownF (ρ : Ev) (i : Nat) : Option (List D) := match getS ρ i with
  | .own xs => some xs
  | _ => none
def valF (ρ : Ev) (i : Nat) : Option D := match getS ρ i with
  | .val d => some d
  | _ => none
def freshF : Rs → Option (List D)
  | .fresh xs => some xs
  | _ => none
def whileFuel : Nat := 1000000
def runS (cl : Nat → List D → Option Rs) : S → Ev → Option Out
  | .skip, ρ => some (.nx ρ)
  | .seq a b, ρ => (runS cl a ρ).bind fun o => o.seq (runS cl b)
  | .asg i e, ρ => (runE cl e (mask ρ)).map fun r => .nx (ρ.set i (.val r.d))
  | .asgF i e, ρ => (runE cl e (full ρ)).bind fun r => if r.d.pure = true then some (.nx (ρ.set i (.val r.d))) else none
  | .own i e, ρ => (runE cl e (mask ρ)).bind fun r => (freshF r).map fun xs => .nx (ρ.set i (.own xs))
  | .ownF i e, ρ => (runE cl e (full ρ)).bind fun r => (freshF r).bind fun xs => if Ab.D.pures xs = true then some (.nx (ρ.set i (.own xs))) else none
  | .frz i, ρ => (ownF ρ i).map fun xs => .nx (ρ.set i (.val (.seq true xs)))
  | .par ks es, ρ => (runRs cl es (mask ρ)).bind fun rs => (storeF ks rs ρ).map Out.nx
  | .unp t e, ρ => (runE cl e (mask ρ)).bind fun r => (bindF t r.d ρ).map Out.nx
  | .app i e, ρ => (ownF ρ i).bind fun xs => (runE cl e (mask ρ)).bind fun r => if xs.length < sizeLine then some (.nx (ρ.set i (.own (xs ++ [r.d])))) else none
  | .appF i e, ρ => (ownF ρ i).bind fun xs => (runE cl e (full ρ)).bind fun r => if r.d.pure = true ∧ xs.length < sizeLine then some (.nx (ρ.set i (.own (xs ++ [r.d])))) else none
  | .ins i e, ρ => (ownF ρ i).bind fun xs => (runE cl e (mask ρ)).bind fun r => if xs.length < sizeLine then some (.nx (ρ.set i (.own (r.d :: xs)))) else none
  | .seti i a e, ρ => (runE cl e (full ρ)).bind fun r => if r.d.pure = true then (ownF ρ i).bind fun xs => (runE cl a (full ρ)).bind fun k => (intF k.d).bind fun k => (L2.ixN xs.length k).map fun j => .nx (ρ.set i (.own (xs.set j r.d))) else none
  | .augi o i a e, ρ => (ownF ρ i).bind fun xs => (runE cl a (full ρ)).bind fun k => (intF k.d).bind fun k => (L2.ixN xs.length k).bind fun j => (xs[j]?).bind fun d => (runE cl e (full ρ)).bind fun r => (ibinF o d r.d).bind fun r => if r.d.pure = true then some (.nx (ρ.set i (.own (xs.set j r.d)))) else none
  | .aug o i e, ρ => (valF ρ i).bind fun d => (runE cl e (full ρ)).bind fun r => (ibinF o d r.d).bind fun r => if r.d.pure = true then some (.nx (ρ.set i (.val r.d))) else none
  | .exp e, ρ => (runE cl e (mask ρ)).map fun _ => .nx ρ
  | .ret e, ρ => (runE cl e (full ρ)).map Out.rt
  | .retO i, ρ => (ownF ρ i).map fun xs => .rt (.fresh xs)
  | .ite c a b, ρ => (runE cl c (full ρ)).bind fun r => (blF r.d).bind fun t => if t = true then runS cl a ρ else runS cl b ρ
  | .for_ t src body, ρ => (runE cl src (mask ρ)).bind fun r => (itemsF r.d).bind fun xs => forF t (runS cl body) xs ρ
  | .while_ c body, ρ => whileF (fun ρ => (runE cl c (full ρ)).bind fun r => blF r.d) (runS cl body) whileFuel ρ
  | .never, _ => none
  | .brk, ρ => some (.bk ρ)
  | .cnt, ρ => some (.ct ρ)

section
variable {Wd : Type} {Φ : Nat → Fn Wd} {cl : Nat → List D → Option Rs}
theorem compG_ok {step : D → Option D} {stepW : D → Wd → (Option D → Wd → Prop) → Prop} (hs : ∀ x y w k, step x = some y → k (some y) w → stepW x w k) : ∀ {xs ys : List D} {w : Wd} {Q : List D → Wd → Prop}, compG step xs = some ys → Q ys w → compW stepW xs w Q
  | [], ys, w, Q, h, q => by cases h; exact q
  | x :: xs, ys, w, Q, h, q => by
    simp only [compG] at h
    obtain ⟨y, h1, h⟩ := Option.bind_eq_some_iff.mp h
    obtain ⟨zs, h2, h⟩ := Option.bind_eq_some_iff.mp h
    cases h
    exact hs x y w _ h1 (compG_ok hs h2 q)
theorem compF_ok {step : D → Option (Option D)} {stepW : D → Wd → (Option D → Wd → Prop) → Prop} (hs : ∀ x y w k, step x = some y → k y w → stepW x w k) : ∀ {xs ys : List D} {w : Wd} {Q : List D → Wd → Prop}, compF step xs = some ys → Q ys w → compW stepW xs w Q
  | [], ys, w, Q, h, q => by cases h; exact q
  | x :: xs, ys, w, Q, h, q => by
    simp only [compF] at h
    obtain ⟨y, h1, h⟩ := Option.bind_eq_some_iff.mp h
    obtain ⟨zs, h2, h⟩ := Option.bind_eq_some_iff.mp h
    cases h
    exact hs x y w _ h1 (compF_ok hs h2 q)
theorem blF_d {d : D} {b : Bool} (h : blF d = some b) : d = .bl b := by
  cases d <;> cases h; rfl
theorem intF_d {d : D} {b : Int} (h : intF d = some b) : d = .int b := by
  cases d <;> cases h; rfl
theorem runE_ok (hc : ∀ f ds r (w : Wd) Q X, cl f ds = some r → Q r w → Φ f ds w Q X) : ∀ (e : E) {X : XD → Wd → Prop} {ρ : Ev} {w : Wd} {Q : Rs → Wd → Prop} {r : Rs}, runE cl e ρ = some r → Q r w → evalE Φ e X ρ w Q
  | .var i, X, ρ, w, Q, r, h, q => by
    simp only [runE] at h
    simp only [evalE]
    split at h
    · rename_i d e
      try rw [e]
      cases h; exact q
    · cases h
  | .int i, X, ρ, w, Q, r, h, q => by cases h; exact q
  | .str i, X, ρ, w, Q, r, h, q => by cases h; exact q
  | .bl i, X, ρ, w, Q, r, h, q => by cases h; exact q
  | .non, X, ρ, w, Q, r, h, q => by cases h; exact q
  | .bin o a b, X, ρ, w, Q, r, h, q => by
    simp only [runE] at h
    obtain ⟨x, h1, h⟩ := Option.bind_eq_some_iff.mp h
    obtain ⟨y, h2, h⟩ := Option.bind_eq_some_iff.mp h
    simp only [evalE]
    exact runE_ok hc a h1 (runE_ok hc b h2 (binF_ok h q))
  | .neg a, X, ρ, w, Q, r, h, q => by
    simp only [runE] at h
    obtain ⟨x, h1, h⟩ := Option.bind_eq_some_iff.mp h
    obtain ⟨y, h2, h⟩ := Option.map_eq_some_iff.mp h
    subst h
    simp only [evalE]
    refine runE_ok hc a h1 ?_
    rw [intF_d h2]; exact q
  | .cmp o a b, X, ρ, w, Q, r, h, q => by
    simp only [runE] at h
    obtain ⟨x, h1, h⟩ := Option.bind_eq_some_iff.mp h
    obtain ⟨y, h2, h⟩ := Option.bind_eq_some_iff.mp h
    obtain ⟨u, h3, h⟩ := Option.map_eq_some_iff.mp h
    subst h
    simp only [evalE]
    exact runE_ok hc a h1 (runE_ok hc b h2 (cmpF_ok h3 q))
  | .chain o p a b c, X, ρ, w, Q, r, h, q => by
    simp only [runE] at h
    obtain ⟨x, h1, h⟩ := Option.bind_eq_some_iff.mp h
    obtain ⟨y, h2, h⟩ := Option.bind_eq_some_iff.mp h
    obtain ⟨d, h3, h⟩ := Option.bind_eq_some_iff.mp h
    obtain ⟨t, h4, h⟩ := Option.bind_eq_some_iff.mp h
    simp only [evalE]
    refine runE_ok hc a h1 (runE_ok hc b h2 (cmpF_ok h3 ?_))
    rw [blF_d h4]
    cases t with
    | true =>
      rw [if_pos rfl] at h
      obtain ⟨u, h5, h⟩ := Option.bind_eq_some_iff.mp h
      obtain ⟨v, h6, h⟩ := Option.map_eq_some_iff.mp h
      subst h
      exact runE_ok hc c h5 (cmpF_ok h6 q)
    | false =>
      rw [if_neg Bool.false_ne_true] at h
      cases h; exact q
  | .and_ a b, X, ρ, w, Q, r, h, q => by
    simp only [runE] at h
    obtain ⟨x, h1, h⟩ := Option.bind_eq_some_iff.mp h
    obtain ⟨t, h4, h⟩ := Option.bind_eq_some_iff.mp h
    simp only [evalE]
    refine runE_ok hc a h1 ?_
    rw [blF_d h4]
    cases t with
    | true => rw [if_pos rfl] at h; exact runE_ok hc b h q
    | false => rw [if_neg Bool.false_ne_true] at h; cases h; exact q
  | .or_ a b, X, ρ, w, Q, r, h, q => by
    simp only [runE] at h
    obtain ⟨x, h1, h⟩ := Option.bind_eq_some_iff.mp h
    obtain ⟨t, h4, h⟩ := Option.bind_eq_some_iff.mp h
    simp only [evalE]
    refine runE_ok hc a h1 ?_
    rw [blF_d h4]
    cases t with
    | true => rw [if_pos rfl] at h; cases h; exact q
    | false => rw [if_neg Bool.false_ne_true] at h; exact runE_ok hc b h q
  | .not_ a, X, ρ, w, Q, r, h, q => by
    simp only [runE] at h
    obtain ⟨x, h1, h⟩ := Option.bind_eq_some_iff.mp h
    obtain ⟨t, h4, h⟩ := Option.map_eq_some_iff.mp h
    subst h
    simp only [evalE]
    refine runE_ok hc a h1 ?_
    rw [blF_d h4]; exact q
  | .ite c a b, X, ρ, w, Q, r, h, q => by
    simp only [runE] at h
    obtain ⟨x, h1, h⟩ := Option.bind_eq_some_iff.mp h
    obtain ⟨t, h4, h⟩ := Option.bind_eq_some_iff.mp h
    simp only [evalE]
    refine runE_ok hc c h1 ?_
    rw [blF_d h4]
    cases t with
    | true => rw [if_pos rfl] at h; exact runE_ok hc a h q
    | false => rw [if_neg Bool.false_ne_true] at h; exact runE_ok hc b h q
  | .tup es, X, ρ, w, Q, r, h, q => by
    simp only [runE] at h
    obtain ⟨x, h1, h⟩ := Option.bind_eq_some_iff.mp h
    obtain ⟨ds, h2, h⟩ := Option.bind_eq_some_iff.mp h
    split at h
    · rename_i c; cases h
      simp only [evalE]
      exact runE_ok hc es h1 (itemsF_ok h2 ⟨c, q⟩)
    · cases h
  | .lst es, X, ρ, w, Q, r, h, q => by
    simp only [runE] at h
    obtain ⟨x, h1, h⟩ := Option.bind_eq_some_iff.mp h
    obtain ⟨ds, h2, h⟩ := Option.bind_eq_some_iff.mp h
    split at h
    · rename_i c; cases h
      simp only [evalE]
      exact runE_ok hc es h1 (itemsF_ok h2 ⟨c, q⟩)
    · cases h
  | .nil, X, ρ, w, Q, r, h, q => by cases h; exact q
  | .cons a b, X, ρ, w, Q, r, h, q => by
    simp only [runE] at h
    obtain ⟨x, h1, h⟩ := Option.bind_eq_some_iff.mp h
    obtain ⟨y, h2, h⟩ := Option.bind_eq_some_iff.mp h
    obtain ⟨ds, h3, h⟩ := Option.bind_eq_some_iff.mp h
    cases h
    simp only [evalE]
    exact runE_ok hc a h1 (runE_ok hc b h2 (itemsF_ok h3 q))
  | .idx a b, X, ρ, w, Q, r, h, q => by
    simp only [runE] at h
    obtain ⟨x, h1, h⟩ := Option.bind_eq_some_iff.mp h
    obtain ⟨y, h2, h⟩ := Option.bind_eq_some_iff.mp h
    obtain ⟨u, h3, h⟩ := Option.map_eq_some_iff.mp h
    subst h
    simp only [evalE]
    exact runE_ok hc a h1 (runE_ok hc b h2 (idxF_ok h3 q))
  | .slc a lo hi, X, ρ, w, Q, r, h, q => by
    simp only [runE] at h
    obtain ⟨x, h1, h⟩ := Option.bind_eq_some_iff.mp h
    obtain ⟨y, h2, h⟩ := Option.bind_eq_some_iff.mp h
    obtain ⟨l, h3, h⟩ := Option.bind_eq_some_iff.mp h
    obtain ⟨u, h4, h⟩ := Option.bind_eq_some_iff.mp h
    obtain ⟨m, h5, h⟩ := Option.bind_eq_some_iff.mp h
    simp only [evalE]
    exact runE_ok hc a h1 (runE_ok hc lo h2 (partF_ok h3 (runE_ok hc hi h4 (partF_ok h5 (slcF_ok h q)))))
  | .rev a, X, ρ, w, Q, r, h, q => by
    simp only [runE] at h
    obtain ⟨x, h1, h⟩ := Option.bind_eq_some_iff.mp h
    simp only [evalE]
    exact runE_ok hc a h1 (revF_ok h q)
  | .call f es, X, ρ, w, Q, r, h, q => by
    simp only [runE] at h
    obtain ⟨x, h1, h⟩ := Option.bind_eq_some_iff.mp h
    obtain ⟨ds, h2, h⟩ := Option.bind_eq_some_iff.mp h
    simp only [evalE]
    exact runE_ok hc es h1 (itemsF_ok h2 (hc f ds r w Q X h q))
  | .blt f es, X, ρ, w, Q, r, h, q => by
    simp only [runE] at h
    obtain ⟨x, h1, h⟩ := Option.bind_eq_some_iff.mp h
    obtain ⟨ds, h2, h⟩ := Option.bind_eq_some_iff.mp h
    simp only [evalE]
    exact runE_ok hc es h1 (itemsF_ok h2 (bltF_ok h q))
  | .isi a ts, X, ρ, w, Q, r, h, q => by
    simp only [runE] at h
    obtain ⟨x, h1, h⟩ := Option.bind_eq_some_iff.mp h
    obtain ⟨u, h3, h⟩ := Option.map_eq_some_iff.mp h
    subst h
    simp only [evalE]
    exact runE_ok hc a h1 (isiF_ok h3 q)
  | .comp t src elt, X, ρ, w, Q, r, h, q => by
    simp only [runE] at h
    obtain ⟨x, h1, h⟩ := Option.bind_eq_some_iff.mp h
    obtain ⟨xs, h2, h⟩ := Option.bind_eq_some_iff.mp h
    split at h
    · rename_i c
      obtain ⟨ys, h3, h⟩ := Option.map_eq_some_iff.mp h
      subst h
      simp only [evalE]
      refine runE_ok hc src h1 (itemsF_ok h2 ⟨c, compG_ok (fun d y w k hd hk => ?_) h3 q⟩)
      obtain ⟨ρ', h4, hd⟩ := Option.bind_eq_some_iff.mp hd
      obtain ⟨u, h5, hd⟩ := Option.map_eq_some_iff.mp hd
      subst hd
      exact bindF_ok h4 (runE_ok hc elt h5 hk)
    · cases h
  | .compIf t src c elt, X, ρ, w, Q, r, h, q => by
    simp only [runE] at h
    obtain ⟨x, h1, h⟩ := Option.bind_eq_some_iff.mp h
    obtain ⟨xs, h2, h⟩ := Option.bind_eq_some_iff.mp h
    split at h
    · rename_i cc
      obtain ⟨ys, h3, h⟩ := Option.map_eq_some_iff.mp h
      subst h
      simp only [evalE]
      refine runE_ok hc src h1 (itemsF_ok h2 ⟨cc, compF_ok (fun d y w k hd hk => ?_) h3 q⟩)
      obtain ⟨ρ', h4, hd⟩ := Option.bind_eq_some_iff.mp hd
      obtain ⟨u, h5, hd⟩ := Option.bind_eq_some_iff.mp hd
      obtain ⟨t, h6, hd⟩ := Option.bind_eq_some_iff.mp hd
      refine bindF_ok h4 (runE_ok hc c h5 ?_)
      rw [blF_d h6]
      cases t with
      | true =>
        rw [if_pos rfl] at hd
        obtain ⟨v, h7, hd⟩ := Option.map_eq_some_iff.mp hd
        subst hd
        exact runE_ok hc elt h7 hk
      | false =>
        rw [if_neg Bool.false_ne_true] at hd
        cases hd; exact hk
    · cases h
  | .iseq a, X, ρ, w, Q, r, h, q => by
    simp only [runE] at h
    obtain ⟨x, h1, h⟩ := Option.bind_eq_some_iff.mp h
    obtain ⟨u, h3, h⟩ := Option.map_eq_some_iff.mp h
    subst h
    simp only [evalE]
    exact runE_ok hc a h1 (itemsF_ok h3 q)
  | .irange es, X, ρ, w, Q, r, h, q => by
    simp only [runE] at h
    obtain ⟨x, h1, h⟩ := Option.bind_eq_some_iff.mp h
    obtain ⟨ds, h2, h⟩ := Option.bind_eq_some_iff.mp h
    obtain ⟨u, h3, h⟩ := Option.map_eq_some_iff.mp h
    subst h
    simp only [evalE]
    exact runE_ok hc es h1 (itemsF_ok h2 (rangeF_ok h3 q))
  | .lrange es, X, ρ, w, Q, r, h, q => by
    simp only [runE] at h
    obtain ⟨x, h1, h⟩ := Option.bind_eq_some_iff.mp h
    obtain ⟨ds, h2, h⟩ := Option.bind_eq_some_iff.mp h
    obtain ⟨u, h3, h⟩ := Option.bind_eq_some_iff.mp h
    split at h
    · rename_i c; cases h
      simp only [evalE]
      exact runE_ok hc es h1 (itemsF_ok h2 (rangeF_ok h3 ⟨c, q⟩))
    · cases h
  | .trange es, X, ρ, w, Q, r, h, q => by
    simp only [runE] at h
    obtain ⟨x, h1, h⟩ := Option.bind_eq_some_iff.mp h
    obtain ⟨ds, h2, h⟩ := Option.bind_eq_some_iff.mp h
    obtain ⟨u, h3, h⟩ := Option.bind_eq_some_iff.mp h
    split at h
    · rename_i c; cases h
      simp only [evalE]
      exact runE_ok hc es h1 (itemsF_ok h2 (rangeF_ok h3 ⟨c, q⟩))
    · cases h
  | .oidx i e, X, ρ, w, Q, r, h, q => by
    simp only [runE] at h
    simp only [evalE]
    split at h
    · rename_i xs eo
      try rw [eo]
      obtain ⟨y, h1, h⟩ := Option.bind_eq_some_iff.mp h
      obtain ⟨n, h2, h⟩ := Option.bind_eq_some_iff.mp h
      obtain ⟨d, h3, h⟩ := Option.map_eq_some_iff.mp h
      subst h
      refine runE_ok hc e h1 ?_
      rw [intF_d h2]
      exact ⟨d, h3, q⟩
    · cases h
  | .izip a b, X, ρ, w, Q, r, h, q => by
    simp only [runE] at h
    obtain ⟨x, h1, h⟩ := Option.bind_eq_some_iff.mp h
    obtain ⟨y, h2, h⟩ := Option.bind_eq_some_iff.mp h
    obtain ⟨xs, h3, h⟩ := Option.bind_eq_some_iff.mp h
    obtain ⟨ys, h4, h⟩ := Option.map_eq_some_iff.mp h
    subst h
    simp only [evalE]
    exact runE_ok hc a h1 (runE_ok hc b h2 (itemsF_ok h3 (itemsF_ok h4 q)))
  | .ienum a k, X, ρ, w, Q, r, h, q => by
    simp only [runE] at h
    obtain ⟨x, h1, h⟩ := Option.bind_eq_some_iff.mp h
    obtain ⟨u, h3, h⟩ := Option.map_eq_some_iff.mp h
    subst h
    simp only [evalE]
    exact runE_ok hc a h1 (itemsF_ok h3 q)
end
end Ab

namespace Ab
open PySem PySem.Spec PyProof.Rows L2
section
variable {Wd : Type} {Φ : Nat → Fn Wd} {cl : Nat → List D → Option Rs}
theorem runRs_ok (hc : ∀ f ds r (w : Wd) Q X, cl f ds = some r → Q r w → Φ f ds w Q X) : ∀ (e : E) {X : XD → Wd → Prop} {ρ : Ev} {w : Wd} {Q : List Rs → Wd → Prop} {r : List Rs}, runRs cl e ρ = some r → Q r w → evalRs Φ e X ρ w Q
  | .nil, X, ρ, w, Q, r, h, q => by simp only [runRs] at h; cases h; exact q
  | .cons a b, X, ρ, w, Q, r, h, q => by
    simp only [runRs] at h
    obtain ⟨x, h1, h⟩ := Option.bind_eq_some_iff.mp h
    obtain ⟨y, h2, h⟩ := Option.map_eq_some_iff.mp h
    subst h
    simp only [evalRs]
    exact runE_ok hc a h1 (runRs_ok hc b h2 q)
  | .var _, _, _, _, _, _, h, _ => by cases h
  | .int _, _, _, _, _, _, h, _ => by cases h
  | .str _, _, _, _, _, _, h, _ => by cases h
  | .bl _, _, _, _, _, _, h, _ => by cases h
  | .non, _, _, _, _, _, h, _ => by cases h
  | .bin _ _ _, _, _, _, _, _, h, _ => by cases h
  | .neg _, _, _, _, _, _, h, _ => by cases h
  | .cmp _ _ _, _, _, _, _, _, h, _ => by cases h
  | .chain _ _ _ _ _, _, _, _, _, _, h, _ => by cases h
  | .and_ _ _, _, _, _, _, _, h, _ => by cases h
  | .or_ _ _, _, _, _, _, _, h, _ => by cases h
  | .not_ _, _, _, _, _, _, h, _ => by cases h
  | .ite _ _ _, _, _, _, _, _, h, _ => by cases h
  | .tup _, _, _, _, _, _, h, _ => by cases h
  | .lst _, _, _, _, _, _, h, _ => by cases h
  | .idx _ _, _, _, _, _, _, h, _ => by cases h
  | .slc _ _ _, _, _, _, _, _, h, _ => by cases h
  | .rev _, _, _, _, _, _, h, _ => by cases h
  | .call _ _, _, _, _, _, _, h, _ => by cases h
  | .blt _ _, _, _, _, _, _, h, _ => by cases h
  | .isi _ _, _, _, _, _, _, h, _ => by cases h
  | .comp _ _ _, _, _, _, _, _, h, _ => by cases h
  | .compIf _ _ _ _, _, _, _, _, _, h, _ => by cases h
  | .iseq _, _, _, _, _, _, h, _ => by cases h
  | .irange _, _, _, _, _, _, h, _ => by cases h
  | .lrange _, _, _, _, _, _, h, _ => by cases h
  | .trange _, _, _, _, _, _, h, _ => by cases h
  | .oidx _ _, _, _, _, _, _, h, _ => by cases h
  | .izip _ _, _, _, _, _, _, h, _ => by cases h
  | .ienum _ _, _, _, _, _, _, h, _ => by cases h
def Out.ends (o : Out) (D : DE Wd) (w : Wd) : Prop := match o with
  | .nx ρ => D.nx ρ w
  | .rt r => D.rt r w
  | .bk ρ => D.bk ρ w
  | .ct ρ => D.ct ρ w
theorem storeF_ok : ∀ {ks : List (Nat × Bool)} {rs : List Rs} {ρ r : Ev} {Q : Ev → Prop}, storeF ks rs ρ = some r → Q r → storeAll ks rs ρ Q
  | [], [], ρ, r, Q, h, q => by simp only [storeF] at h; cases h; exact q
  | (i, false) :: ks, .dat d :: rs, ρ, r, Q, h, q => storeF_ok (ks := ks) (rs := rs) h q
  | (i, true) :: ks, .fresh d :: rs, ρ, r, Q, h, q => storeF_ok (ks := ks) (rs := rs) h q
  | (i, false) :: ks, .fresh d :: rs, ρ, r, Q, h, q => by simp [storeF] at h
  | (i, true) :: ks, .dat d :: rs, ρ, r, Q, h, q => by simp [storeF] at h
  | [], _ :: _, ρ, r, Q, h, q => by simp [storeF] at h
  | (i, true) :: ks, [], ρ, r, Q, h, q => by simp [storeF] at h
  | (i, false) :: ks, [], ρ, r, Q, h, q => by simp [storeF] at h
theorem ownF_d {ρ : Ev} {i : Nat} {xs : List Ab.D} (h : ownF ρ i = some xs) : getS ρ i = .own xs := by
  unfold ownF at h
  split at h
  · rename_i e; cases h; exact e
  · cases h
theorem valF_d {ρ : Ev} {i : Nat} {xs : Ab.D} (h : valF ρ i = some xs) : getS ρ i = .val xs := by
  unfold valF at h
  split at h
  · rename_i e; cases h; exact e
  · cases h
theorem freshF_d {r : Rs} {xs : List Ab.D} (h : freshF r = some xs) : r = .fresh xs := by
  cases r <;> cases h; rfl
theorem forF_ok {t : Tg} {body : Ev → Option Out} {bodyW : DE Wd → Ev → Wd → Prop} (hb : ∀ (D : DE Wd) ρ w o, body ρ = some o → o.ends D w → bodyW D ρ w) : ∀ {xs : List Ab.D} {D : DE Wd} {ρ : Ev} {w : Wd} {o : Out}, forF t body xs ρ = some o → o.ends D w → forW t bodyW xs D ρ w
  | [], D, ρ, w, o, h, q => by simp only [forF] at h; cases h; exact q
  | x :: xs, D, ρ, w, o, h, q => by
    simp only [forF] at h
    obtain ⟨ρ', h1, h⟩ := Option.bind_eq_some_iff.mp h
    obtain ⟨o1, h2, h⟩ := Option.bind_eq_some_iff.mp h
    refine bindF_ok h1 (hb _ _ _ _ h2 ?_)
    cases o1 with
    | nx ρ2 => exact forF_ok hb h q
    | ct ρ2 => exact forF_ok hb h q
    | bk ρ2 => cases h; exact q
    | rt r => cases h; exact q
theorem whileF_ok {test : Ev → Option Bool} {testW : Ev → Wd → (Bool → Wd → Prop) → Prop} {body : Ev → Option Out} {bodyW : DE Wd → Ev → Wd → Prop} (ht : ∀ ρ w b k, test ρ = some b → k b w → testW ρ w k) (hb : ∀ (D : DE Wd) ρ w o, body ρ = some o → o.ends D w → bodyW D ρ w) {n : Nat} {D : DE Wd} {ρ : Ev} {w : Wd} {o : Out}
    (h : whileF test body n ρ = some o) (q : o.ends D w) : whileW testW bodyW D ρ w := by
  refine ⟨fun m ρ w => ∃ o, whileF test body m ρ = some o ∧ o.ends D w, ⟨n, o, h, q⟩, ?_⟩
  rintro m ρ w ⟨o, h, q⟩
  cases m with
  | zero => cases h
  | succ m =>
    simp only [whileF] at h
    obtain ⟨b, h1, h⟩ := Option.bind_eq_some_iff.mp h
    refine ht _ _ _ _ h1 ?_
    cases b with
    | false =>
      rw [if_neg Bool.false_ne_true] at h ⊢
      cases h; exact q
    | true =>
      rw [if_pos rfl] at h ⊢
      obtain ⟨o1, h2, h⟩ := Option.bind_eq_some_iff.mp h
      refine hb _ _ _ _ h2 ?_
      cases o1 with
      | nx ρ2 => exact ⟨m, Nat.lt_succ_self _, o, h, q⟩
      | ct ρ2 => exact ⟨m, Nat.lt_succ_self _, o, h, q⟩
      | bk ρ2 => cases h; exact q
      | rt r => cases h; exact q
theorem runS_ok (hc : ∀ f ds r (w : Wd) Q X, cl f ds = some r → Q r w → Φ f ds w Q X) : ∀ (s : S) {D : DE Wd} {ρ : Ev} {w : Wd} {o : Out}, runS cl s ρ = some o → o.ends D w → execS Φ s D ρ w
  | .skip, D, ρ, w, o, h, q => by cases h; exact q
  | .seq a b, D, ρ, w, o, h, q => by
    simp only [runS] at h
    obtain ⟨o1, h1, h⟩ := Option.bind_eq_some_iff.mp h
    simp only [execS]
    refine runS_ok hc a h1 ?_
    cases o1 with
    | nx ρ2 => exact runS_ok hc b h q
    | ct ρ2 => cases h; exact q
    | bk ρ2 => cases h; exact q
    | rt r => cases h; exact q
  | .asg i e, D, ρ, w, o, h, q => by
    simp only [runS] at h
    obtain ⟨r, h1, h⟩ := Option.map_eq_some_iff.mp h
    subst h
    simp only [execS]
    exact runE_ok hc e h1 q
  | .asgF i e, D, ρ, w, o, h, q => by
    simp only [runS] at h
    obtain ⟨r, h1, h⟩ := Option.bind_eq_some_iff.mp h
    split at h
    · rename_i c; cases h
      simp only [execS]
      exact runE_ok hc e h1 ⟨c, q⟩
    · cases h
  | .own i e, D, ρ, w, o, h, q => by
    simp only [runS] at h
    obtain ⟨r, h1, h⟩ := Option.bind_eq_some_iff.mp h
    obtain ⟨xs, h2, h⟩ := Option.map_eq_some_iff.mp h
    subst h
    simp only [execS]
    refine runE_ok hc e h1 ?_
    rw [freshF_d h2]; exact q
  | .ownF i e, D, ρ, w, o, h, q => by
    simp only [runS] at h
    obtain ⟨r, h1, h⟩ := Option.bind_eq_some_iff.mp h
    obtain ⟨xs, h2, h⟩ := Option.bind_eq_some_iff.mp h
    split at h
    · rename_i c; cases h
      simp only [execS]
      refine runE_ok hc e h1 ?_
      rw [freshF_d h2]; exact ⟨c, q⟩
    · cases h
  | .frz i, D, ρ, w, o, h, q => by
    simp only [runS] at h
    obtain ⟨xs, h2, h⟩ := Option.map_eq_some_iff.mp h
    subst h
    simp only [execS]
    rw [ownF_d h2]; exact q
  | .par ks es, D, ρ, w, o, h, q => by
    simp only [runS] at h
    obtain ⟨rs, h1, h⟩ := Option.bind_eq_some_iff.mp h
    obtain ⟨ρ', h2, h⟩ := Option.map_eq_some_iff.mp h
    subst h
    simp only [execS]
    exact runRs_ok hc es h1 (storeF_ok h2 q)
  | .unp t e, D, ρ, w, o, h, q => by
    simp only [runS] at h
    obtain ⟨rs, h1, h⟩ := Option.bind_eq_some_iff.mp h
    obtain ⟨ρ', h2, h⟩ := Option.map_eq_some_iff.mp h
    subst h
    simp only [execS]
    exact runE_ok hc e h1 (bindF_ok h2 q)
  | .app i e, D, ρ, w, o, h, q => by
    simp only [runS] at h
    obtain ⟨xs, h2, h⟩ := Option.bind_eq_some_iff.mp h
    obtain ⟨r, h1, h⟩ := Option.bind_eq_some_iff.mp h
    split at h
    · rename_i c; cases h
      simp only [execS]
      rw [ownF_d h2]
      exact runE_ok hc e h1 ⟨c, q⟩
    · cases h
  | .appF i e, D, ρ, w, o, h, q => by
    simp only [runS] at h
    obtain ⟨xs, h2, h⟩ := Option.bind_eq_some_iff.mp h
    obtain ⟨r, h1, h⟩ := Option.bind_eq_some_iff.mp h
    split at h
    · rename_i c; cases h
      simp only [execS]
      rw [ownF_d h2]
      exact runE_ok hc e h1 ⟨c.1, c.2, q⟩
    · cases h
  | .ins i e, D, ρ, w, o, h, q => by
    simp only [runS] at h
    obtain ⟨xs, h2, h⟩ := Option.bind_eq_some_iff.mp h
    obtain ⟨r, h1, h⟩ := Option.bind_eq_some_iff.mp h
    split at h
    · rename_i c; cases h
      simp only [execS]
      rw [ownF_d h2]
      exact runE_ok hc e h1 ⟨c, q⟩
    · cases h
  | .seti i a e, D, ρ, w, o, h, q => by
    simp only [runS] at h
    obtain ⟨r, h1, h⟩ := Option.bind_eq_some_iff.mp h
    split at h
    · rename_i c
      obtain ⟨xs, h2, h⟩ := Option.bind_eq_some_iff.mp h
      obtain ⟨k, h3, h⟩ := Option.bind_eq_some_iff.mp h
      obtain ⟨n, h4, h⟩ := Option.bind_eq_some_iff.mp h
      obtain ⟨j, h5, h⟩ := Option.map_eq_some_iff.mp h
      subst h
      simp only [execS]
      refine runE_ok hc e h1 ⟨c, ?_⟩
      rw [ownF_d h2]
      refine runE_ok hc a h3 ?_
      rw [intF_d h4]
      exact ⟨j, h5, q⟩
    · cases h
  | .augi op i a e, D, ρ, w, o, h, q => by
    simp only [runS] at h
    obtain ⟨xs, h2, h⟩ := Option.bind_eq_some_iff.mp h
    obtain ⟨k, h3, h⟩ := Option.bind_eq_some_iff.mp h
    obtain ⟨n, h4, h⟩ := Option.bind_eq_some_iff.mp h
    obtain ⟨j, h5, h⟩ := Option.bind_eq_some_iff.mp h
    obtain ⟨d, h6, h⟩ := Option.bind_eq_some_iff.mp h
    obtain ⟨r, h7, h⟩ := Option.bind_eq_some_iff.mp h
    obtain ⟨r2, h8, h⟩ := Option.bind_eq_some_iff.mp h
    split at h
    · rename_i c; cases h
      simp only [execS]
      rw [ownF_d h2]
      refine runE_ok hc a h3 ?_
      rw [intF_d h4]
      exact ⟨j, d, h5, h6, runE_ok hc e h7 (ibinF_ok h8 ⟨c, q⟩)⟩
    · cases h
  | .aug op i e, D, ρ, w, o, h, q => by
    simp only [runS] at h
    obtain ⟨d, h2, h⟩ := Option.bind_eq_some_iff.mp h
    obtain ⟨r, h7, h⟩ := Option.bind_eq_some_iff.mp h
    obtain ⟨r2, h8, h⟩ := Option.bind_eq_some_iff.mp h
    split at h
    · rename_i c; cases h
      simp only [execS]
      rw [valF_d h2]
      exact runE_ok hc e h7 (ibinF_ok h8 ⟨c, q⟩)
    · cases h
  | .exp e, D, ρ, w, o, h, q => by
    simp only [runS] at h
    obtain ⟨r, h1, h⟩ := Option.map_eq_some_iff.mp h
    subst h
    simp only [execS]
    exact runE_ok hc e h1 q
  | .ret e, D, ρ, w, o, h, q => by
    simp only [runS] at h
    obtain ⟨r, h1, h⟩ := Option.map_eq_some_iff.mp h
    subst h
    simp only [execS]
    exact runE_ok hc e h1 q
  | .retO i, D, ρ, w, o, h, q => by
    simp only [runS] at h
    obtain ⟨xs, h2, h⟩ := Option.map_eq_some_iff.mp h
    subst h
    simp only [execS]
    rw [ownF_d h2]; exact q
  | .ite c a b, D, ρ, w, o, h, q => by
    simp only [runS] at h
    obtain ⟨r, h1, h⟩ := Option.bind_eq_some_iff.mp h
    obtain ⟨t, h2, h⟩ := Option.bind_eq_some_iff.mp h
    simp only [execS]
    refine runE_ok hc c h1 ?_
    rw [blF_d h2]
    cases t with
    | true => rw [if_pos rfl] at h; exact runS_ok hc a h q
    | false => rw [if_neg Bool.false_ne_true] at h; exact runS_ok hc b h q
  | .for_ t src body, D, ρ, w, o, h, q => by
    simp only [runS] at h
    obtain ⟨r, h1, h⟩ := Option.bind_eq_some_iff.mp h
    obtain ⟨xs, h2, h⟩ := Option.bind_eq_some_iff.mp h
    simp only [execS]
    exact runE_ok hc src h1 (itemsF_ok h2 (forF_ok (body := runS cl body) (bodyW := execS Φ body) (fun D ρ w o hb qb => runS_ok hc body hb qb) h q))
  | .while_ c body, D, ρ, w, o, h, q => by
    simp only [runS] at h
    simp only [execS]
    refine whileF_ok (body := runS cl body) (bodyW := execS Φ body) (fun ρ w b k ht hk => ?_) (fun D ρ w o hb qb => runS_ok hc body hb qb) h q
    obtain ⟨r, h1, ht⟩ := Option.bind_eq_some_iff.mp ht
    refine runE_ok hc c h1 ?_
    rw [blF_d ht]; exact hk
  | .never, D, ρ, w, o, h, q => by cases h
  | .brk, D, ρ, w, o, h, q => by cases h; exact q
  | .cnt, D, ρ, w, o, h, q => by cases h; exact q
end

/-! ### defs -/
structure DefB where
  np : Nat
  ns : Nat
  body : S
def startE (n : Nat) (ds : List D) : Ev := ds.map Sl.val ++ List.replicate (n - ds.length) Sl.no
def Out.val : Out → Option Rs
  | .nx _ => some (.dat .non)
  | .rt r => some r
  | _ => none
def callF (tab : Nat → Option DefB) : Nat → Nat → List D → Option Rs
  | 0, _, _ => none
  | k + 1, f, ds => (tab f).bind fun b => if ds.length = b.np then (runS (callF tab k) b.body (startE b.ns ds)).bind Out.val else none
def pureC {Wd : Type} (tab : Nat → Option DefB) (k : Nat) (f : Nat) : Fn Wd := fun ds w Q _ => ∃ r, callF tab k f ds = some r ∧ Q r w
abbrev XE0 : XD → XK → Hp → Prop := fun _ _ _ => False
structure DefAt (K : PySem.W.Frag) (mg : Str → Option Value) (x : Str) (st : Stmt) (N ps : List Str) (f : Addr) (fd : FuncData) : Prop where
  F : L2.Fun K x x st f fd
  S : FnScope N ps (defScope st)
  m : mg x = some (.ref f)
  B : Binds K fd ps []
/-- what the module's names are -/
structure MgOk (mg : Str → Option Value) (T : Tab) : Prop where
  blt : ∀ n : Str, n ∈ (["len", "abs", "int", "bool", "str", "tuple", "list", "sum", "max", "min", "all", "divmod", "range", "zip", "enumerate", "isinstance"] : List Str) → mg n = none
  cst : ∀ (x : Str) (i : Int), T.consts.lookup x = some i → ∃ t, mg x = some (.int i t)
  css : ∀ (x i : Str), T.conss.lookup x = some i → ∃ t, mg x = some (.str i t)
theorem getS_start : ∀ {ds : List D} {n i : Nat} {d : D}, getS (ds.map Sl.val ++ List.replicate n Sl.no) i = .val d → ds[i]? = some d
  | [], 0, i, d, h => by cases h
  | [], n + 1, 0, d, h => by cases h
  | [], n + 1, i + 1, d, h => by
    have := getS_start (ds := []) (n := n) (i := i) (d := d) h
    simp at this
  | x :: ds, n, 0, d, h => by
    have h : Sl.val x = .val d := h
    cases h; rfl
  | x :: ds, n, i + 1, d, h => by
    have := getS_start (ds := ds) (n := n) (i := i) (d := d) h
    simpa using this
theorem getS_startO : ∀ {ds : List D} {n i : Nat} {xs : List D}, getS (ds.map Sl.val ++ List.replicate n Sl.no) i = .own xs → False
  | [], 0, i, d, h => by cases h
  | [], n + 1, 0, d, h => by cases h
  | [], n + 1, i + 1, d, h => getS_startO (ds := []) (n := n) (i := i) h
  | x :: ds, n, 0, d, h => by
    have h : Sl.val x = .own d := h
    cases h
  | x :: ds, n, i + 1, d, h => getS_startO (ds := ds) (n := n) (i := i) h
section
variable {K : PySem.W.Frag} {M : WM K} {T : Tab} {Φ : Nat → Fn M.Wd} {P : Program} {w : World} {mg : Str → Option Value} {base : Heap}
theorem def_ok {x : Str} {st : Stmt} {ps : List Str} {f : Addr} {fd : FuncData} {k : Nat} {s : S} {φ : Fn M.Wd} (mono : MonoF Φ) (Df : DefAt K mg x st T.N ps f fd) (mo : MgOk mg T) (hc : chkS T (defScope st) (fun _ => true) s (.b (defBody st)) = true)
    (fns : ∀ (y : Str) (id n : Nat), T.funs.lookup y = some (id, n) → ∃ (g : Addr) (gd : FuncData) (qs : List Str), qs.length = n ∧ mg y = some (.ref g) ∧ PySem.W.keepIn K (.ref g) = true ∧ Binds K gd qs [] ∧ FnOk P w K mg base (L2.CX P w) k g gd qs (lift M XE0 (Φ id)))
    (href : ∀ ds w Q X, φ ds w Q X → ds.length = ps.length ∧ execS Φ s { nx := fun _ w => Q (.dat .non) w, rt := Q, ex := X } (startE T.N.length ds) w) :
    FnOk P w K mg base (L2.CX P w) (k + 1) f fd ps (lift M XE0 φ) := by
  refine Df.F.okX Df.S (fun vs H Q E h => ?_) (fun cdv A outer s' H vs Q E hr h => ?_)
  · obtain ⟨z, w, ds, a, is, h⟩ := h
    rw [is.length]; exact (href _ _ _ _ h).1
  · obtain ⟨z, w', ds, a, is, h⟩ := h
    obtain ⟨hl, hx⟩ := href _ _ _ _ h
    let X := cxOf (L2.CX P w) P w K mg base T.N x (defScope st) f cdv A outer s' H E
    have hy : HyS M T Φ XE0 X (defScope st) (fun _ => true) L2.E0 :=
      { hK := rfl, hN := rfl, hsc := rfl, hfn := rfl, nd := Df.S.nd, calm := rfl, hu := Nat.lt_of_le_of_lt (Nat.le_refl _) hr.units, blt := mo.blt, cst := mo.cst, css := mo.css,
        fns := fun y id n e => by
          obtain ⟨g, gd, qs, e1, e2, e3, e4, e5⟩ := fns y id n e
          exact ⟨g, gd, qs, k, e1, e2, e3, e4, e5, hr⟩
        pass := passL, hk := Df.S.kind, po := passes_of rfl }
    have q := st_all (M := M) (T := T) (Φ := Φ) (XE := XE0) mono hy s (.b (defBody st)) hc
    refine ⟨_, q, z, H, z, z, w', startE T.N.length ds, _, a, Fz.Le.refl _ _, Fz.Up.refl _, ⟨fun i d e => ?_, fun i xs e => (getS_startO e).elim, fun i j xs ys p e => (getS_startO e).elim⟩, ?_, hx⟩
    · have e' := getS_start e
      obtain ⟨v, h1, h2⟩ := is.get e'
      refine ⟨v, ?_, h2⟩
      unfold L2.start
      rw [List.getElem?_append_left (by rw [List.length_map]; exact (List.getElem?_eq_some_iff.mp h1).1), List.getElem?_map, h1]; rfl
    · exact ⟨fun z2 H2 w2 σ ρ a2 l2 u v q => q .non z2 H2 a2 l2 .non, fun _ _ _ _ _ _ _ _ _ q => q.elim, fun _ _ _ _ _ _ _ _ _ q => q.elim, fun z2 H2 w2 v r a2 l2 i q => q v z2 H2 a2 l2 i, fun x z2 H2 w2 a2 l2 q => q z2 H2 a2 l2⟩
end
/-- all that the text has of a def without draws -/
structure PDef where
  name : Str
  id : Nat
  st : Stmt
  N : List Str
  ps : List Str
  s : S
def PDef.b (d : PDef) : DefB := ⟨d.ps.length, d.N.length, d.s⟩
def tabOf (L : List PDef) (f : Nat) : Option DefB := (L.find? fun d => d.id == f).map PDef.b
def funsOf (L : List PDef) : List (Str × Nat × Nat) := L.map fun d => (d.name, d.id, d.ps.length)
theorem tabOf_id {L : List PDef} (nd : (L.map PDef.id).Nodup) {d : PDef} (h : d ∈ L) : tabOf L d.id = some d.b := by
  unfold tabOf
  induction L with
  | nil => simp at h
  | cons e L ih =>
    rw [List.map_cons, List.nodup_cons] at nd
    rw [List.find?_cons]
    rcases List.mem_cons.mp h with q | q
    · subst q; simp
    · have hne : (e.id == d.id) = false := by
        cases x : (e.id == d.id) with
        | false => rfl
        | true =>
          have : e.id = d.id := eq_of_beq x
          exact absurd (List.mem_map.mpr ⟨d, q, this.symm⟩) nd.1
      rw [hne]
      exact ih nd.2 q
theorem lookup_mem {α β : Type} [BEq α] [LawfulBEq α] : ∀ {l : List (α × β)} {a : α} {b : β}, l.lookup a = some b → (a, b) ∈ l
  | [], _, _, h => by cases h
  | (x, y) :: l, a, b, h => by
    rw [List.lookup_cons] at h
    split at h
    · rename_i e
      cases h
      rw [eq_of_beq e]
      exact List.mem_cons_self
    · exact List.mem_cons_of_mem _ (lookup_mem h)
/-- a def of the text, found -/
structure PAt (K : PySem.W.Frag) (mg : Str → Option Value) (d : PDef) : Prop where
  ex : ∃ (f : Addr) (fd : FuncData), DefAt K mg d.name d.st d.N d.ps f fd
def chkP (consts : List (Str × Int)) (conss : List (Str × Str)) (funs : List (Str × Nat × Nat)) (d : PDef) : Bool := chkS ⟨d.N, consts, conss, funs⟩ (defScope d.st) (fun _ => true) d.s (.b (defBody d.st))
/-- a def's promise, found by its name -/
def Told {K : PySem.W.Frag} (M : WM K) (P : Program) (w : World) (mg : Str → Option Value) (base : Heap) (k : Nat) (y : Str) (n : Nat) (φ : Fn M.Wd) : Prop :=
  ∃ (g : Addr) (gd : FuncData) (qs : List Str), qs.length = n ∧ mg y = some (.ref g) ∧ PySem.W.keepIn K (.ref g) = true ∧ Binds K gd qs [] ∧ FnOk P w K mg base (L2.CX P w) k g gd qs (lift M XE0 φ)
section
variable {K : PySem.W.Frag} {M : WM K} {T : Tab} {Φ : Nat → Fn M.Wd} {P : Program} {w : World} {mg : Str → Option Value} {base : Heap}
theorem mono_pure {tab : Nat → Option DefB} {k : Nat} : MonoF (Wd := M.Wd) (fun g => pureC tab k g) := fun f ds w Q Q' P P' i j ⟨r, h, q⟩ => ⟨r, h, i _ _ q⟩
theorem MgOk.any {N N' : List Str} {c : List (Str × Int)} {s : List (Str × Str)} {f f' : List (Str × Nat × Nat)} (h : MgOk mg ⟨N, c, s, f⟩) : MgOk mg ⟨N', c, s, f'⟩ := ⟨h.blt, h.cst, h.css⟩
theorem pure_ok {L : List PDef} {consts : List (Str × Int)} {conss : List (Str × Str)} (nd : (L.map PDef.id).Nodup) (mo : MgOk mg ⟨[], consts, conss, []⟩) (at_ : ∀ d ∈ L, PAt K mg d) (ck : ∀ d ∈ L, chkP consts conss (funsOf L) d = true) :
    ∀ (k : Nat), ∀ d ∈ L, Told M P w mg base k d.name d.ps.length (pureC (tabOf L) k d.id) := by
  intro k
  induction k with
  | zero =>
    intro d hd
    obtain ⟨a, fd, Df⟩ := (at_ d hd).ex
    have no : ∀ vs H Q E, ¬ lift M XE0 (pureC (tabOf L) 0 d.id) vs H Q E := fun vs H Q E ⟨z, w, ds, _, _, r, h, _⟩ => by cases h
    exact ⟨a, fd, d.ps, rfl, Df.m, Df.F.kp, Df.B, ⟨fun vs H Q E h => (no vs H Q E h).elim, fun A outer s H args us vs Q E _ _ _ _ h => (no vs H Q E h).elim⟩⟩
  | succ k ih =>
    intro d hd
    obtain ⟨a, fd, Df⟩ := (at_ d hd).ex
    refine ⟨a, fd, d.ps, rfl, Df.m, Df.F.kp, Df.B, ?_⟩
    refine def_ok (T := ⟨d.N, consts, conss, funsOf L⟩) (Φ := fun g => pureC (tabOf L) k g) mono_pure Df mo.any (ck d hd) (fun y id n e => ?_) fun ds w Q X ⟨r, h, q⟩ => ?_
    · have hm := lookup_mem e
      unfold funsOf at hm
      obtain ⟨d', hd', e'⟩ := List.mem_map.mp hm
      cases e'
      exact ih d' hd'
    · simp only [callF] at h
      obtain ⟨b', hb', h⟩ := Option.bind_eq_some_iff.mp h
      rw [tabOf_id nd hd] at hb'
      cases hb'
      split at h
      · rename_i hl
        obtain ⟨o, h1, h2⟩ := Option.bind_eq_some_iff.mp h
        refine ⟨hl, runS_ok (cl := callF (tabOf L) k) (fun g ds r w Q X hg q => ⟨r, hg, q⟩) d.s h1 ?_⟩
        cases o with
        | nx ρ => cases h2; exact q
        | rt r => cases h2; exact q
        | bk ρ => cases h2
        | ct ρ => cases h2
      · cases h
end
end Ab

namespace Ab
open PySem PySem.Spec PyProof.Rows L2
/-! ### the draw boxes -/
structure Wb where
  n : Nat
  c : Nat
def boxW (K : PySem.W.Frag) : WM K where
  Wd := Wb
  R := fun z H w => z.A.length = w.n ∧ (∀ (k : Nat) (p : Addr), z.A[k]? = some p → z.T p ∧ ∃ b0 b1 b2 : Int, H p = some (.lst [V.int b0, V.int b1, V.int b2]) ∧ 0 ≤ b0 ∧ 0 ≤ b1 ∧ b1 < 2 ^ 62 ∧ 0 ≤ b2 ∧ b2 ≤ (w.c : Int)) ∧
    ∀ (j k : Nat) (p : Addr), z.A[j]? = some p → z.A[k]? = some p → j = k
  mono := fun {z H H' w F'} h _ hT => by
    obtain ⟨h1, h2, h3⟩ := h
    refine ⟨h1, fun k p e => ?_, h3⟩
    obtain ⟨t, b0, b1, b2, e2, r⟩ := h2 k p e
    exact ⟨t, b0, b1, b2, (hT p t).trans e2, r⟩
def trivW (K : PySem.W.Frag) : WM K where
  Wd := Unit
  R := fun _ _ _ => True
  mono := fun _ _ _ => trivial
section
variable {K : PySem.W.Frag} {P : Program} {w : World} {mg : Str → Option Value} {base : Heap}
/-- a new box -/
def boxC (tab : Nat → Option DefB) (k : Nat) (id : Nat) : Fn Wb := fun ds w Q _ => (∃ b0 b1 : Int, 0 ≤ b0 ∧ 0 ≤ b1 ∧ b1 < 2 ^ 62 ∧ callF tab k id ds = some (.fresh [.int b0, .int b1, .int 0])) ∧ Q (.dat (.hnd w.n)) ⟨w.n + 1, w.c⟩
theorem Told.imp {M : WM K} {k : Nat} {y : Str} {n : Nat} {φ ψ : Fn M.Wd} (h : Told M P w mg base k y n φ) (i : ∀ vs H Q E, lift M XE0 ψ vs H Q E → lift M XE0 φ vs H Q E) : Told M P w mg base k y n ψ := by
  obtain ⟨g, gd, qs, h1, h2, h3, h4, h5⟩ := h
  exact ⟨g, gd, qs, h1, h2, h3, h4, h5.imp i⟩
theorem Told.mono {M : WM K} {j k : Nat} {y : Str} {n : Nat} {φ : Fn M.Wd} (h : Told M P w mg base j y n φ) (jk : j ≤ k) : Told M P w mg base k y n φ := by
  obtain ⟨g, gd, qs, h1, h2, h3, h4, h5⟩ := h
  exact ⟨g, gd, qs, h1, h2, h3, h4, h5.mono jk⟩
theorem box_ok {tab : Nat → Option DefB} {kt k id : Nat} {y : Str} {n : Nat} (h : Told (boxW K) P w mg base k y n (pureC tab kt id)) : Told (boxW K) P w mg base k y n (boxC tab kt id) := by
  refine h.imp fun vs H Q E ⟨z, w, ds, a, is, ⟨b0, b1, h0, h1, h2, hc⟩, q⟩ => ?_
  refine ⟨z, w, ds, a, is, _, hc, fun v z' H' a' le ri => ?_⟩
  obtain ⟨p, us, rfl, hp, hF, hT, hH, hs⟩ := ri
  have eu : us = [V.int b0, V.int b1, V.int 0] := Iss.ints (ns := [b0, b1, 0]) hs
  subst eu
  obtain ⟨r1, r2, r3⟩ := a'.r
  have nA : ∀ k, z'.A[k]? ≠ some p := fun k e => hT (r2 k p e).1
  refine q (V.ref p) ⟨z'.F, fun b => z'.T b ∨ b = p, z'.A ++ [p]⟩ H' ⟨⟨a'.ok.sub, fun b t => ?_, fun b t => ?_⟩, ?_, fun k b e => ?_, fun j k b e1 e2 => ?_⟩ ⟨le.fF, le.nw, le.kp, le.st, fun b t => ?_, fun k b e => ?_⟩ (.hnd ?_)
  · rcases t with t | rfl
    · exact a'.ok.dis b t
    · exact hF
  · rcases t with t | rfl
    · exact a'.ok.thr b t
    · rw [hH]; exact fun e => nomatch e
  · show (z'.A ++ [p]).length = w.n + 1
    rw [List.length_append, r1]; rfl
  · have e : (z'.A ++ [p])[k]? = some b := e
    rw [List.getElem?_append] at e
    split at e
    · obtain ⟨t, c0, c1, c2, e2, r⟩ := r2 k b e
      exact ⟨.inl t, c0, c1, c2, e2, r⟩
    · have : b = p := by
        have := List.mem_of_getElem? e
        simpa using this
      subst this
      exact ⟨.inr rfl, b0, b1, 0, hH, h0, h1, h2, by decide, Int.natCast_nonneg _⟩
  · have f1 : (z'.A ++ [p])[j]? = some b := e1
    have f2 : (z'.A ++ [p])[k]? = some b := e2
    clear e1 e2
    rw [List.getElem?_append] at f1 f2
    split at f1 <;> split at f2
    · exact r3 j k b f1 f2
    · have : b = p := by
        have := List.mem_of_getElem? f2
        simpa using this
      rw [this] at f1
      exact absurd f1 (nA j)
    · have : b = p := by
        have := List.mem_of_getElem? f1
        simpa using this
      rw [this] at f2
      exact absurd f2 (nA k)
    · have l1 := (List.getElem?_eq_some_iff.mp f1).1
      have l2 := (List.getElem?_eq_some_iff.mp f2).1
      simp at l1 l2
      omega
  · rcases t with t | rfl
    · exact le.tw b t
    · exact .inr hp
  · show (z'.A ++ [p])[k]? = some b
    have := le.aw k b e
    rw [List.getElem?_append_left (List.getElem?_eq_some_iff.mp this).1]
    exact this
  · show (z'.A ++ [p])[w.n]? = some p
    rw [← r1, List.getElem?_append_right (Nat.le_refl _), Nat.sub_self]; rfl
/-- a draw -/
def takeC (j : Nat) : Fn Wb := fun ds w Q _ => ∃ (k : Nat) (s : Int), ds = [.hnd k, .int s] ∧ k < w.n ∧ 1 ≤ s ∧ s ≤ 10 ^ (7 * (j + 1)) ∧ w.c + 2 ^ j ≤ 2 ^ 44 ∧ ∀ (v : Int) (c' : Nat), 0 ≤ v → v < s → w.c ≤ c' → c' ≤ w.c + 2 ^ j → Q (.dat (.int v)) ⟨w.n, c'⟩
def takeP : Nat → Fn Wb
  | 0 => fun _ _ _ _ => False
  | j + 1 => takeC j
theorem mono_take {j : Nat} : MonoF (Wd := Wb) (fun _ => takeC j) := fun f ds w Q Q' P P' i _ ⟨k, s, h1, h2, h3, h4, h5, q⟩ => ⟨k, s, h1, h2, h3, h4, h5, fun v c' a b c d => i _ _ (q v c' a b c d)⟩
theorem mono_takeP : ∀ {j : Nat}, MonoF (Wd := Wb) (fun _ => takeP j)
  | 0 => fun _ _ _ _ _ _ _ _ _ h => h
  | j + 1 => mono_take (j := j)
theorem mono_box {tab : Nat → Option DefB} {k id : Nat} {ds : List D} {w : Wb} {Q Q' : Rs → Wb → Prop} {P P' : XD → Wb → Prop} (i : ∀ r w, Q r w → Q' r w) (h : boxC tab k id ds w Q P) : boxC tab k id ds w Q' P' := ⟨h.1, i _ _ h.2⟩
/-- the box at p has been written: what the world then is -/
theorem box_upd {z : Fz} {H H' : Hp} {wd : Wb} {k : Nat} {p : Addr} {b0 b1 b2 : Int} {c' : Nat} (a : At (boxW K) z H wd) (hk : z.A[k]? = some p) (hp : H' p = some (.lst [V.int b0, V.int b1, V.int b2])) (h0 : 0 ≤ b0) (h1 : 0 ≤ b1) (h2 : b1 < 2 ^ 62) (h3 : 0 ≤ b2) (h4 : b2 ≤ (c' : Int)) (hc : wd.c ≤ c')
    (kept : ∀ b o, b ≠ p → H b = some o → H' b = some o) : At (boxW K) z H' ⟨wd.n, c'⟩ ∧ z.Le z H H' := by
  obtain ⟨r1, r2, r3⟩ := a.r
  obtain ⟨tp, _⟩ := r2 k p hk
  have kp' : ∀ b o, H b = some o → ∃ o', H' b = some o' := fun b o e => by
    by_cases q : b = p
    · subst q; exact ⟨_, hp⟩
    · exact ⟨o, kept b o q e⟩
  refine ⟨⟨⟨fun b o e => ?_, a.ok.dis, fun b t => ?_⟩, r1, fun j b e => ?_, r3⟩, ⟨Same.refl _, fun _ _ h => .inl h, fun b o e n => ?_, fun b e => ?_, fun _ h => .inl h, fun _ _ h => h⟩⟩
  · have nb : b ≠ p := fun q => by
      rw [q, a.ok.dis p tp] at e; cases e
    exact kept b o nb (a.ok.sub b o e)
  · cases e : H b with
    | none => exact absurd e (a.ok.thr b t)
    | some o => obtain ⟨o', e'⟩ := kp' b o e; rw [e']; exact fun x => nomatch x
  · obtain ⟨t, c0, c1, c2, e2, g0, g1, g2, g3, g4⟩ := r2 j b e
    by_cases q : b = p
    · subst q; exact ⟨t, b0, b1, b2, hp, h0, h1, h2, h3, h4⟩
    · exact ⟨t, c0, c1, c2, kept _ _ q e2, g0, g1, g2, g3, by show c2 ≤ (c' : Int); omega⟩
  · exact kept b o (fun q => n (q ▸ tp)) e
  · cases q : H b with
    | none => rfl
    | some o => obtain ⟨o', e'⟩ := kp' b o q; rw [e] at e'; cases e'
/-- an expression over ints and one list of three, the list as it stands -/
theorem box_env {H : Hp} {p : Addr} {b0 b1 b2 : Int} (hp : H p = some (.lst [V.int b0, V.int b1, V.int b2])) : At (trivW K) ⟨upd (fun _ => none) p (.lst [V.int b0, V.int b1, V.int b2]), fun _ => False, []⟩ H () := by
  refine ⟨⟨fun b o e => ?_, fun _ t => t.elim, fun _ t => t.elim⟩, trivial⟩
  have e : upd (fun _ => none) p (.lst [V.int b0, V.int b1, V.int b2]) b = some o := e
  by_cases q : b = p
  · subst q; rw [upd_same] at e; cases e; exact hp
  · rw [upd_ne q] at e; cases e
theorem box_is {p : Addr} {b0 b1 b2 : Int} : Is K (upd (fun _ => none) p (.lst [V.int b0, V.int b1, V.int b2])) [] (.ref p) (.seq true [.int b0, .int b1, .int b2]) := .lst upd_same (.cons (.int _) (.cons (.int _) (.cons (.int _) .nil)))
theorem same_of {z z' : Fz} {H H' : Hp} (h : z.Le z' H H') (n : ∀ a, ¬ z.T a) : Same H H' := fun b o e => h.kp b o e (n b)
end
end Ab

namespace Ab
open PySem PySem.Spec PyProof.Rows L2
def yes : Option Rs → Bool
  | some (.dat (.bl true)) => true
  | _ => false
theorem yes_d {o : Option Rs} (h : yes o = true) : o = some (.dat (.bl true)) := by
  unfold yes at h
  split at h
  · rfl
  · cases h
/-- a loop by an invariant over what is left -/
theorem forF_inv {t : Tg} {body : Ev → Option Out} (I : List D → Ev → Prop) (hs : ∀ x xs ρ, I (x :: xs) ρ → ∃ ρ1 ρ2, bindF t x ρ = some ρ1 ∧ (body ρ1 = some (.nx ρ2) ∨ body ρ1 = some (.ct ρ2)) ∧ I xs ρ2) : ∀ {xs : List D} {ρ : Ev}, I xs ρ → ∃ ρ', forF t body xs ρ = some (.nx ρ') ∧ I [] ρ'
  | [], ρ, h => ⟨ρ, rfl, h⟩
  | x :: xs, ρ, h => by
    obtain ⟨ρ1, ρ2, h1, h2, h3⟩ := hs x xs ρ h
    obtain ⟨ρ', h4, h5⟩ := forF_inv I hs h3
    refine ⟨ρ', ?_, h5⟩
    simp only [forF, h1, Option.bind_some]
    rcases h2 with h2 | h2 <;> simp only [h2, Option.bind_some, Out.turn] <;> exact h4
theorem callF_succ {tab : Nat → Option DefB} {k f : Nat} {ds : List D} {b : DefB} {o : Out} {r : Rs} (h : tab f = some b) (hl : ds.length = b.np) (h1 : runS (callF tab k) b.body (startE b.ns ds) = some o) (h2 : o.val = some r) : callF tab (k + 1) f ds = some r := by
  simp only [callF, h, Option.bind_some, hl, if_true, h1, h2]
theorem pd_ints (cs : List Int) : D.pds (cs.map D.int) = cs.map PyData.int := by
  induction cs with
  | nil => rfl
  | cons c cs ih => show D.pd (.int c) :: D.pds (cs.map D.int) = _; rw [ih]; rfl
theorem noH_ints (cs : List Int) : D.noHs (cs.map D.int) = true := by
  induction cs with
  | nil => rfl
  | cons c cs ih => show (true && D.noHs (cs.map D.int)) = true; rw [ih]; rfl
theorem lookup_all {K : PySem.W.Frag} {M : WM K} {P : Program} {w : World} {mg : Str → Option Value} {base : Heap} {k : Nat} {fu : List (Str × Nat × Nat)} {Φ : Nat → Fn M.Wd} (nd : (fu.map fun e => e.1).Nodup) (F : ∀ (y : Str) (id n : Nat), fu.lookup y = some (id, n) → Told M P w mg base k y n (Φ id)) {y : Str} {id n : Nat} (h : (y, id, n) ∈ fu) : Told M P w mg base k y n (Φ id) := by
  refine F y id n ?_
  clear F
  induction fu with
  | nil => simp at h
  | cons e fu ih =>
    obtain ⟨x, v⟩ := e
    rw [List.map_cons, List.nodup_cons] at nd
    rw [List.lookup_cons]
    rcases List.mem_cons.mp h with q | q
    · cases q; simp
    · have hne : (y == x) = false := by
        cases t : (y == x) with
        | false => rfl
        | true =>
          have := eq_of_beq t
          exact absurd (List.mem_map.mpr ⟨_, q, this⟩) nd.1
      rw [hne]
      exact ih nd.2 q
/-! ### reading a box in a draw's body -/
def slOf : Option Int → Sl
  | none => .no
  | some n => .val (.int n)
def boxR (b0 b1 b2 : Int) (ns : List (Option Int)) : Ev := .val (.seq true [.int b0, .int b1, .int b2]) :: ns.map slOf
def boxS (p : Addr) (ns : List (Option Int)) : L2.St := some (V.ref p) :: ns.map (Option.map V.int)
def noC : Nat → List D → Option Rs := fun _ _ => none
abbrev Φ0 : Nat → Fn Unit := fun _ _ _ _ _ => False
theorem mono0 : MonoF Φ0 := fun _ _ _ _ _ _ _ _ _ h => h
theorem getS_ints : ∀ {ns : List (Option Int)} {i : Nat} {s : Sl}, getS (ns.map slOf) i = s → s = .no ∨ ∃ n, s = .val (.int n) ∧ (ns.map (Option.map V.int))[i]? = some (some (V.int n))
  | [], i, s, h => .inl h.symm
  | none :: ns, 0, s, h => .inl h.symm
  | some n :: ns, 0, s, h => .inr ⟨n, h.symm, rfl⟩
  | x :: ns, i + 1, s, h => by
    have h : getS (ns.map slOf) i = s := h
    rcases getS_ints h with q | ⟨n, q, e⟩
    · exact .inl q
    · exact .inr ⟨n, q, by simpa using e⟩
section
variable {K : PySem.W.Frag} {H : Hp} {p : Addr} {b0 b1 b2 : Int} {ns : List (Option Int)}
theorem env_box : EnvV K ⟨upd (fun _ => none) p (.lst [V.int b0, V.int b1, V.int b2]), fun _ => False, []⟩ H (boxS p ns) (boxR b0 b1 b2 ns) := by
  refine ⟨fun i d e => ?_, fun i xs e => ?_⟩
  · cases i with
    | zero =>
      have e : Sl.val (.seq true [.int b0, .int b1, .int b2]) = .val d := e
      cases e
      exact ⟨_, rfl, box_is⟩
    | succ i =>
      have e : getS (ns.map slOf) i = .val d := e
      rcases getS_ints e with q | ⟨n, q, e2⟩
      · cases q
      · cases q
        exact ⟨_, e2, .int n⟩
  · cases i with
    | zero => cases e
    | succ i =>
      have e : getS (ns.map slOf) i = .own xs := e
      rcases getS_ints e with q | ⟨n, q, e2⟩
      · cases q
      · cases q
theorem box_E {e : E} {n : Int} {Qv : VK} (hp : H p = some (.lst [V.int b0, V.int b1, V.int b2])) (h : runE noC e (boxR b0 b1 b2 ns) = some (.dat (.int n))) (k : ∀ H', Same H H' → Qv (.int n) H') : tE (trivW K) Φ0 XE0 e L2.E0 (boxS p ns) H Qv := by
  refine tE_use (M := trivW K) (w := ()) (XP := fun _ _ => False) (Q := fun r _ => r = .dat (.int n)) (box_env hp) env_box (fun x z' H' w' _ _ f => f.elim) (runE_ok (fun f ds r w Q X e _ => by cases e) e h rfl) fun u z1 H1 w1 r1 a1 l1 i1 q1 => ?_
  subst q1
  cases i1
  exact k H1 (same_of l1 fun _ t => t)
theorem box_T {e : E} {b : Bool} {Qv : Bool → Hp → Prop} (hp : H p = some (.lst [V.int b0, V.int b1, V.int b2])) (h : runE noC e (boxR b0 b1 b2 ns) = some (.dat (.bl b))) (k : ∀ H', Same H H' → Qv b H') : tT (trivW K) Φ0 XE0 e L2.E0 (boxS p ns) H Qv := by
  refine tT_use (M := trivW K) (w := ()) (XP := fun _ _ => False) (Q := fun r _ => r = .dat (.bl b)) (box_env hp) env_box (fun x z' H' w' _ _ f => f.elim) (runE_ok (fun f ds r w Q X e _ => by cases e) e h rfl) (fun r w' q => ⟨b, by rw [q]; rfl⟩) fun c z1 H1 w1 r1 a1 l1 e1 q1 => ?_
  subst q1
  cases e1
  exact k H1 (same_of l1 fun _ t => t)
end
end Ab

namespace Ab
open PySem PySem.Spec PyProof.Rows L2
def top (i : Nat) : Stmt := PySem.Challenge.pw_aboutface_k06_known_beats.main.body.getD i (.Pass ⟨0, 0, 0, 0⟩)
def cI : List (Str × Int) := [("UP", 1)]
def cS : List (Str × Str) := []
abbrev N_length_at : List Str := ["book", "standing", "climber"]
def s_length_at : S := .seq (.ret (.ite (.cmp .eq (.var 2) (.int 0)) (.idx (.idx (.var 0) (.int 0)) (.int 0)) (.idx (.idx (.var 0) (.var 2)) (.bin .sub (.idx (.var 1) (.bin .sub (.var 2) (.int 1))) (.int 1))))) .skip

abbrev N_as_state : List Str := ["state"]
def s_as_state : S := .seq (.ret (.tup (.cons (.blt .tuple_ (.cons (.idx (.var 0) (.int 0)) .nil)) (.cons (.blt .tuple_ (.cons (.idx (.var 0) (.int 1)) .nil)) .nil)))) .skip

abbrev N_is_blocked : List Str := ["book", "state", "climber", "standing", "faces"]
def s_is_blocked : S := .seq (.unp (.cons (.nm 3) (.cons (.nm 4) .nil)) (.var 1)) (.seq (.ret (.cmp .eq (.idx (.var 3) (.var 2)) (.ite (.cmp .eq (.idx (.var 4) (.var 2)) (.int 1)) (.call 0 (.cons (.var 0) (.cons (.var 3) (.cons (.var 2) .nil)))) (.int 1)))) .skip)

abbrev N_blocked : List Str := ["book", "state", "climber"]
def s_blocked : S := .seq (.ret (.compIf (.nm 2) (.irange (.cons (.blt .len (.cons (.var 0) .nil)) .nil)) (.call 2 (.cons (.var 0) (.cons (.var 1) (.cons (.var 2) .nil)))) (.var 2))) .skip

abbrev N_mover : List Str := ["book", "state", "free", "climber"]
def s_mover : S := .seq (.asg 2 (.compIf (.nm 3) (.irange (.cons (.blt .len (.cons (.var 0) .nil)) .nil)) (.not_ (.call 2 (.cons (.var 0) (.cons (.var 1) (.cons (.var 3) .nil))))) (.var 3))) (.seq (.ret (.ite (.cmp .gt (.blt .len (.cons (.var 2) .nil)) (.int 0)) (.idx (.var 2) (.neg (.int 1))) .non)) .skip)

abbrev N_turned : List Str := ["state", "face"]
def s_turned : S := .seq (.ret (.tup (.cons (.blt .tuple_ (.cons (.idx (.var 0) (.int 0)) .nil)) (.cons (.blt .tuple_ (.cons (.comp (.nm 1) (.iseq (.idx (.var 0) (.int 1))) (.neg (.var 1))) .nil)) .nil)))) .skip

abbrev N_beat : List Str := ["book", "state", "goer", "climber", "rungs", "faces"]
def s_beat : S := .seq (.asg 2 (.call 4 (.cons (.var 0) (.cons (.var 1) .nil)))) (.seq (.ite (.cmp .is_ (.var 2) .non) (.seq (.ret (.call 5 (.cons (.var 1) .nil))) .skip) .skip) (.seq (.par [(4, true), (5, true)] (.cons (.blt .list_ (.cons (.idx (.var 1) (.int 0)) .nil)) (.cons (.blt .list_ (.cons (.idx (.var 1) (.int 1)) .nil)) .nil))) (.seq (.augi .add 4 (.var 2) (.idx (.var 5) (.var 2))) (.seq (.for_ (.nm 3) (.irange (.cons (.bin .add (.var 2) (.int 1)) (.cons (.blt .len (.cons (.var 0) .nil)) .nil))) (.seq (.ite (.cmp .eq (.idx (.var 5) (.var 3)) (.int 1)) (.seq (.seti 4 (.var 3) (.call 0 (.cons (.var 0) (.cons (.var 4) (.cons (.var 3) .nil))))) .skip) .skip) (.seq (.seti 5 (.var 3) (.neg (.idx (.var 5) (.var 3)))) .skip))) (.seq (.ret (.tup (.cons (.blt .tuple_ (.cons (.var 4) .nil)) (.cons (.blt .tuple_ (.cons (.var 5) .nil)) .nil)))) .skip)))))

abbrev N_beats_along : List Str := ["book", "state", "many", "found", "turn"]
def s_beats_along : S := .seq (.own 3 (.lst (.cons (.call 1 (.cons (.var 1) .nil)) .nil))) (.seq (.for_ (.nm 4) (.irange (.cons (.var 2) .nil)) (.seq (.appF 3 (.call 6 (.cons (.var 0) (.cons (.idx (.var 3) (.neg (.int 1))) .nil)))) .skip)) (.seq (.retO 3) .skip))

abbrev N_law_box : List Str := ["_law_script", "_law_k", "_law_cell"]
def s_law_box : S := .seq (.asg 2 (.ite (.cmp .lt (.var 1) (.blt .len (.cons (.var 0) .nil))) (.idx (.var 0) (.var 1)) (.int 0))) (.seq (.ret (.lst (.cons (.bin .mul (.blt .abs_ (.cons (.var 2) .nil)) (.blt .int_ (.cons (.cmp .ge (.blt .abs_ (.cons (.var 2) .nil)) (.bin .pow (.int 10) (.int 18))) .nil))) (.cons (.bin .add (.bin .add (.bin .mod (.var 2) (.int 2305843009213693951)) (.bin .mul (.int 7919) (.var 1))) (.int 51)) (.cons (.int 0) .nil))))) .skip)

abbrev N_law_cells : List Str := ["_law_script", "_law_most", "_law_cells_here", "_law_k", "_law_cell"]
def s_law_cells : S := .seq (.own 2 (.blt .list_ (.cons (.slc (.var 0) .non (.var 1)) .nil))) (.seq (.for_ (.cons (.nm 3) (.cons (.nm 4) .nil)) (.ienum (.slc (.var 0) (.var 1) (.int 63)) 0) (.seq (.seti 2 (.bin .mod (.var 3) (.var 1)) (.bin .add (.idx (.var 2) (.bin .mod (.var 3) (.var 1))) (.bin .mul (.var 4) (.bin .add (.var 3) (.int 2))))) .skip)) (.seq (.ret (.ite (.cmp .ne (.var 2) (.lst .nil)) (.var 2) (.lst (.cons (.int 0) .nil)))) .skip))

abbrev N_law_same : List Str := ["_law_found", "_law_due", "_law_mine", "_law_its"]
def s_law_same : S := .seq (.ite (.isi (.var 1) [.list, .tuple]) (.seq (.ite (.or_ (.cmp .ne (.isi (.var 0) [.list]) (.isi (.var 1) [.list])) (.cmp .ne (.isi (.var 0) [.tuple]) (.isi (.var 1) [.tuple]))) (.seq (.ret (.bl false)) .skip) .skip) (.seq (.ret (.and_ (.cmp .eq (.blt .len (.cons (.var 0) .nil)) (.blt .len (.cons (.var 1) .nil))) (.blt .all_ (.cons (.comp (.cons (.nm 2) (.cons (.nm 3) .nil)) (.izip (.var 0) (.var 1)) (.call 11 (.cons (.var 2) (.cons (.var 3) .nil)))) .nil)))) .skip)) .skip) (.seq (.ite (.or_ (.cmp .is_ (.var 1) .non) (.isi (.var 1) [.str, .bool])) (.seq (.ret (.and_ (.cmp .eq (.var 0) (.var 1)) (.and_ (.cmp .eq (.isi (.var 0) [.bool]) (.isi (.var 1) [.bool])) (.cmp .eq (.cmp .is_ (.var 0) .non) (.cmp .is_ (.var 1) .non))))) .skip) .skip) (.seq (.ret (.and_ (.isi (.var 0) [.int]) (.and_ (.not_ (.isi (.var 0) [.bool])) (.cmp .eq (.var 0) (.var 1))))) .skip))

abbrev N_law_one_right : List Str := ["_law_long", "_law_up", "_law_due", "_law_rung"]
def s_law_one_right : S := .seq (.asg 1 (.comp (.nm 3) (.irange (.cons (.int 1) (.cons (.bin .add (.var 0) (.int 1)) .nil))) (.tup (.cons (.tup (.cons (.var 3) .nil)) (.cons (.tup (.cons (.int 1) .nil)) .nil))))) (.seq (.asg 2 (.bin .add (.bin .add (.var 1) (.comp (.nm 3) (.irange (.cons (.var 0) (.cons (.int 0) (.cons (.neg (.int 1)) .nil)))) (.tup (.cons (.tup (.cons (.var 3) .nil)) (.cons (.tup (.cons (.neg (.int 1)) .nil)) .nil))))) (.slc (.var 1) .non (.int 1)))) (.seq (.ret (.call 11 (.cons (.call 7 (.cons (.tup (.cons (.tup (.cons (.var 0) .nil)) .nil)) (.cons (.tup (.cons (.tup (.cons (.int 1) .nil)) (.cons (.tup (.cons (.int 1) .nil)) .nil))) (.cons (.bin .mul (.int 2) (.var 0)) .nil)))) (.cons (.var 2) .nil)))) .skip))

abbrev N_law_two_right : List Str := ["_law_long", "_law_shelf", "_law_rung", "_law_here", "_law_looks", "_law_due"]
def s_law_two_right : S := .seq (.asg 1 (.tup (.cons (.tup (.cons (.var 0) .nil)) (.cons (.trange (.cons (.int 1) (.cons (.bin .add (.var 0) (.int 1)) .nil))) .nil)))) (.seq (.unp (.cons (.nm 3) (.cons (.nm 4) .nil)) (.tup (.cons (.tup (.cons (.tup (.cons (.int 1) (.cons (.int 1) .nil))) (.cons (.tup (.cons (.int 1) (.cons (.int 1) .nil))) .nil))) (.cons (.int 1) .nil)))) (.seq (.for_ (.nm 2) (.irange (.cons (.int 1) (.cons (.var 0) .nil))) (.seq (.asg 5 (.tup (.cons (.tup (.cons (.bin .add (.var 2) (.int 1)) (.cons (.ite (.cmp .eq (.var 4) (.int 1)) (.bin .add (.var 2) (.int 1)) (.int 1)) .nil))) (.cons (.tup (.cons (.int 1) (.cons (.bin .sub (.int 0) (.var 4)) .nil))) .nil)))) (.seq (.ite (.not_ (.call 11 (.cons (.lst (.cons (.call 6 (.cons (.var 1) (.cons (.var 3) .nil))) (.cons (.call 4 (.cons (.var 1) (.cons (.var 3) .nil))) .nil))) (.cons (.lst (.cons (.var 5) (.cons (.int 0) .nil))) .nil)))) (.seq (.ret (.bl false)) .skip) .skip) (.seq (.asg 4 (.bin .sub (.int 0) (.var 4))) (.seq (.asg 3 (.idx (.call 7 (.cons (.var 1) (.cons (.var 5) (.cons (.var 2) .nil)))) (.neg (.int 1)))) (.seq (.asg 5 (.tup (.cons (.tup (.cons (.bin .add (.var 2) (.int 1)) (.cons (.ite (.cmp .eq (.var 4) (.int 1)) (.bin .add (.var 2) (.int 1)) (.int 1)) .nil))) (.cons (.tup (.cons (.int 1) (.cons (.var 4) .nil))) .nil)))) (.seq (.ite (.not_ (.call 11 (.cons (.lst (.cons (.var 3) (.cons (.idx (.call 3 (.cons (.var 1) (.cons (.var 3) .nil))) (.neg (.int 1))) .nil))) (.cons (.lst (.cons (.var 5) (.cons (.int 1) .nil))) .nil)))) (.seq (.ret (.bl false)) .skip) .skip) .skip))))))) (.seq (.ret (.call 11 (.cons (.call 6 (.cons (.var 1) (.cons (.var 3) .nil))) (.cons (.tup (.cons (.idx (.var 3) (.int 0)) (.cons (.tup (.cons (.neg (.int 1)) (.cons (.bin .sub (.int 0) (.var 4)) .nil))) .nil))) .nil)))) .skip)))

abbrev N_law_three_right : List Str := ["_law_shelf", "_law_told"]
def s_law_three_right : S := .seq (.asg 0 (.tup (.cons (.tup (.cons (.int 3) .nil)) (.cons (.tup (.cons (.int 1) (.cons (.int 2) (.cons (.int 1) .nil)))) (.cons (.tup (.cons (.int 1) (.cons (.int 3) .nil))) .nil))))) (.seq (.asg 1 (.lst (.cons (.call 6 (.cons (.var 0) (.cons (.tup (.cons (.tup (.cons (.int 1) (.cons (.int 1) (.cons (.int 1) .nil)))) (.cons (.tup (.cons (.int 1) (.cons (.int 1) (.cons (.int 1) .nil)))) .nil))) .nil))) (.cons (.call 6 (.cons (.var 0) (.cons (.tup (.cons (.tup (.cons (.int 1) (.cons (.int 1) (.cons (.int 1) .nil)))) (.cons (.tup (.cons (.int 1) (.cons (.int 1) (.cons (.neg (.int 1)) .nil)))) .nil))) .nil))) .nil)))) (.seq (.ite (.not_ (.call 11 (.cons (.var 1) (.cons (.lst (.cons (.tup (.cons (.tup (.cons (.int 2) (.cons (.int 2) (.cons (.int 3) .nil)))) (.cons (.tup (.cons (.int 1) (.cons (.neg (.int 1)) (.cons (.neg (.int 1)) .nil)))) .nil))) (.cons (.tup (.cons (.tup (.cons (.int 2) (.cons (.int 2) (.cons (.int 1) .nil)))) (.cons (.tup (.cons (.int 1) (.cons (.neg (.int 1)) (.cons (.int 1) .nil)))) .nil))) .nil))) .nil)))) (.seq (.ret (.bl false)) .skip) .skip) (.seq (.asg 1 (.lst (.cons (.call 6 (.cons (.var 0) (.cons (.tup (.cons (.tup (.cons (.int 1) (.cons (.int 1) (.cons (.int 1) .nil)))) (.cons (.tup (.cons (.int 1) (.cons (.neg (.int 1)) (.cons (.int 1) .nil)))) .nil))) .nil))) (.cons (.call 6 (.cons (.var 0) (.cons (.tup (.cons (.tup (.cons (.int 1) (.cons (.int 1) (.cons (.int 1) .nil)))) (.cons (.tup (.cons (.int 1) (.cons (.neg (.int 1)) (.cons (.neg (.int 1)) .nil)))) .nil))) .nil))) .nil)))) (.seq (.ite (.not_ (.call 11 (.cons (.var 1) (.cons (.lst (.cons (.tup (.cons (.tup (.cons (.int 2) (.cons (.int 1) (.cons (.int 1) .nil)))) (.cons (.tup (.cons (.int 1) (.cons (.int 1) (.cons (.neg (.int 1)) .nil)))) .nil))) (.cons (.tup (.cons (.tup (.cons (.int 2) (.cons (.int 1) (.cons (.int 1) .nil)))) (.cons (.tup (.cons (.int 1) (.cons (.int 1) (.cons (.int 1) .nil)))) .nil))) .nil))) .nil)))) (.seq (.ret (.bl false)) .skip) .skip) (.seq (.own 1 (.lst (.cons (.call 6 (.cons (.var 0) (.cons (.tup (.cons (.tup (.cons (.int 2) (.cons (.int 2) (.cons (.int 3) .nil)))) (.cons (.tup (.cons (.int 1) (.cons (.int 1) (.cons (.int 1) .nil)))) .nil))) .nil))) (.cons (.call 6 (.cons (.var 0) (.cons (.tup (.cons (.tup (.cons (.int 2) (.cons (.int 1) (.cons (.int 1) .nil)))) (.cons (.tup (.cons (.int 1) (.cons (.neg (.int 1)) (.cons (.int 1) .nil)))) .nil))) .nil))) .nil)))) (.seq (.app 1 (.call 6 (.cons (.var 0) (.cons (.tup (.cons (.tup (.cons (.int 2) (.cons (.int 1) (.cons (.int 1) .nil)))) (.cons (.tup (.cons (.int 1) (.cons (.int 1) (.cons (.neg (.int 1)) .nil)))) .nil))) .nil)))) (.seq (.ite (.not_ (.call 11 (.cons (.var 1) (.cons (.lst (.cons (.tup (.cons (.tup (.cons (.int 3) (.cons (.int 1) (.cons (.int 1) .nil)))) (.cons (.tup (.cons (.int 1) (.cons (.neg (.int 1)) (.cons (.neg (.int 1)) .nil)))) .nil))) (.cons (.tup (.cons (.tup (.cons (.int 3) (.cons (.int 1) (.cons (.int 1) .nil)))) (.cons (.tup (.cons (.int 1) (.cons (.int 1) (.cons (.neg (.int 1)) .nil)))) .nil))) (.cons (.tup (.cons (.tup (.cons (.int 2) (.cons (.int 2) (.cons (.int 1) .nil)))) (.cons (.tup (.cons (.int 1) (.cons (.int 1) (.cons (.int 1) .nil)))) .nil))) .nil)))) .nil)))) (.seq (.ret (.bl false)) .skip) .skip) (.seq (.asg 1 (.lst (.cons (.call 6 (.cons (.var 0) (.cons (.tup (.cons (.tup (.cons (.int 3) (.cons (.int 1) (.cons (.int 1) .nil)))) (.cons (.tup (.cons (.int 1) (.cons (.int 1) (.cons (.neg (.int 1)) .nil)))) .nil))) .nil))) (.cons (.call 4 (.cons (.var 0) (.cons (.tup (.cons (.tup (.cons (.int 3) (.cons (.int 1) (.cons (.int 1) .nil)))) (.cons (.tup (.cons (.int 1) (.cons (.int 1) (.cons (.neg (.int 1)) .nil)))) .nil))) .nil))) (.cons (.call 3 (.cons (.tup (.cons (.tup (.cons (.int 1) .nil)) .nil)) (.cons (.tup (.cons (.tup (.cons (.int 1) .nil)) (.cons (.tup (.cons (.int 1) .nil)) .nil))) .nil))) .nil))))) (.seq (.ret (.call 11 (.cons (.var 1) (.cons (.lst (.cons (.tup (.cons (.tup (.cons (.int 3) (.cons (.int 1) (.cons (.int 1) .nil)))) (.cons (.tup (.cons (.neg (.int 1)) (.cons (.neg (.int 1)) (.cons (.int 1) .nil)))) .nil))) (.cons .non (.cons (.lst (.cons (.int 0) .nil)) .nil)))) .nil)))) .skip)))))))))

abbrev N_law_right : List Str := ["_law_box_here"]
def s_law_right : S := .seq (.ret (.and_ (.call 12 (.cons (.bin .add (.int 1) (.call 9 (.cons (.var 0) (.cons (.int 12) .nil)))) .nil)) (.and_ (.call 13 (.cons (.bin .add (.int 1) (.call 9 (.cons (.var 0) (.cons (.int 12) .nil)))) .nil)) (.call 14 .nil)))) .skip

abbrev N_law : List Str := ["_law_script", "_law_cells_here", "_law_k", "_law_box_here", "_law_turn"]
def s_law : S := .seq (.asg 1 (.call 10 (.cons (.var 0) (.cons (.int 3) .nil)))) (.seq (.for_ (.nm 2) (.irange (.cons (.blt .len (.cons (.var 1) .nil)) .nil)) (.seq (.asg 3 (.call 8 (.cons (.var 1) (.cons (.var 2) .nil)))) (.seq (.ite (.not_ (.blt .all_ (.cons (.comp (.nm 4) (.irange (.cons (.int 2) .nil)) (.call 15 (.cons (.var 3) .nil))) .nil))) (.seq (.ret (.bl false)) .skip) .skip) .skip))) (.seq (.ret (.bl true)) .skip))

def p_length_at : PDef := ⟨"length_at", 0, top 2, N_length_at, ["book", "standing", "climber"], s_length_at⟩
def p_as_state : PDef := ⟨"as_state", 1, top 3, N_as_state, ["state"], s_as_state⟩
def p_is_blocked : PDef := ⟨"is_blocked", 2, top 5, N_is_blocked, ["book", "state", "climber"], s_is_blocked⟩
def p_blocked : PDef := ⟨"blocked", 3, top 6, N_blocked, ["book", "state"], s_blocked⟩
def p_mover : PDef := ⟨"mover", 4, top 7, N_mover, ["book", "state"], s_mover⟩
def p_turned : PDef := ⟨"turned", 5, top 8, N_turned, ["state"], s_turned⟩
def p_beat : PDef := ⟨"beat", 6, top 9, N_beat, ["book", "state"], s_beat⟩
def p_beats_along : PDef := ⟨"beats_along", 7, top 10, N_beats_along, ["book", "state", "many"], s_beats_along⟩
def p_law_box : PDef := ⟨"_law_box", 8, top 12, N_law_box, ["_law_script", "_law_k"], s_law_box⟩
def p_law_cells : PDef := ⟨"_law_cells", 10, top 14, N_law_cells, ["_law_script", "_law_most"], s_law_cells⟩
def p_law_same : PDef := ⟨"_law_same", 11, top 15, N_law_same, ["_law_found", "_law_due"], s_law_same⟩
def p_law_one_right : PDef := ⟨"_law_one_right", 12, top 16, N_law_one_right, ["_law_long"], s_law_one_right⟩
def p_law_two_right : PDef := ⟨"_law_two_right", 13, top 17, N_law_two_right, ["_law_long"], s_law_two_right⟩
def p_law_three_right : PDef := ⟨"_law_three_right", 14, top 18, N_law_three_right, [], s_law_three_right⟩
def pures : List PDef := [p_length_at, p_as_state, p_is_blocked, p_blocked, p_mover, p_turned, p_beat, p_beats_along, p_law_box, p_law_cells, p_law_same, p_law_one_right, p_law_two_right, p_law_three_right]
abbrev tabP : Nat → Option DefB := tabOf pures
theorem nd_pures : (pures.map PDef.id).Nodup := by decide +kernel
theorem c_length_at : chkP cI cS (funsOf pures) p_length_at = true := by decide +kernel
theorem sc_length_at : FnScope N_length_at ["book", "standing", "climber"] (defScope (top 2)) := ⟨by decide +kernel, by decide +kernel, by decide +kernel, by decide +kernel, by decide +kernel, by decide +kernel, by decide +kernel⟩
theorem c_as_state : chkP cI cS (funsOf pures) p_as_state = true := by decide +kernel
theorem sc_as_state : FnScope N_as_state ["state"] (defScope (top 3)) := ⟨by decide +kernel, by decide +kernel, by decide +kernel, by decide +kernel, by decide +kernel, by decide +kernel, by decide +kernel⟩
theorem c_is_blocked : chkP cI cS (funsOf pures) p_is_blocked = true := by decide +kernel
theorem sc_is_blocked : FnScope N_is_blocked ["book", "state", "climber"] (defScope (top 5)) := ⟨by decide +kernel, by decide +kernel, by decide +kernel, by decide +kernel, by decide +kernel, by decide +kernel, by decide +kernel⟩
theorem c_blocked : chkP cI cS (funsOf pures) p_blocked = true := by decide +kernel
theorem sc_blocked : FnScope N_blocked ["book", "state"] (defScope (top 6)) := ⟨by decide +kernel, by decide +kernel, by decide +kernel, by decide +kernel, by decide +kernel, by decide +kernel, by decide +kernel⟩
theorem c_mover : chkP cI cS (funsOf pures) p_mover = true := by decide +kernel
theorem sc_mover : FnScope N_mover ["book", "state"] (defScope (top 7)) := ⟨by decide +kernel, by decide +kernel, by decide +kernel, by decide +kernel, by decide +kernel, by decide +kernel, by decide +kernel⟩
theorem c_turned : chkP cI cS (funsOf pures) p_turned = true := by decide +kernel
theorem sc_turned : FnScope N_turned ["state"] (defScope (top 8)) := ⟨by decide +kernel, by decide +kernel, by decide +kernel, by decide +kernel, by decide +kernel, by decide +kernel, by decide +kernel⟩
theorem c_beat : chkP cI cS (funsOf pures) p_beat = true := by decide +kernel
theorem sc_beat : FnScope N_beat ["book", "state"] (defScope (top 9)) := ⟨by decide +kernel, by decide +kernel, by decide +kernel, by decide +kernel, by decide +kernel, by decide +kernel, by decide +kernel⟩
theorem c_beats_along : chkP cI cS (funsOf pures) p_beats_along = true := by decide +kernel
theorem sc_beats_along : FnScope N_beats_along ["book", "state", "many"] (defScope (top 10)) := ⟨by decide +kernel, by decide +kernel, by decide +kernel, by decide +kernel, by decide +kernel, by decide +kernel, by decide +kernel⟩
theorem c_law_box : chkP cI cS (funsOf pures) p_law_box = true := by decide +kernel
theorem sc_law_box : FnScope N_law_box ["_law_script", "_law_k"] (defScope (top 12)) := ⟨by decide +kernel, by decide +kernel, by decide +kernel, by decide +kernel, by decide +kernel, by decide +kernel, by decide +kernel⟩
theorem c_law_cells : chkP cI cS (funsOf pures) p_law_cells = true := by decide +kernel
theorem sc_law_cells : FnScope N_law_cells ["_law_script", "_law_most"] (defScope (top 14)) := ⟨by decide +kernel, by decide +kernel, by decide +kernel, by decide +kernel, by decide +kernel, by decide +kernel, by decide +kernel⟩
theorem c_law_same : chkP cI cS (funsOf pures) p_law_same = true := by decide +kernel
theorem sc_law_same : FnScope N_law_same ["_law_found", "_law_due"] (defScope (top 15)) := ⟨by decide +kernel, by decide +kernel, by decide +kernel, by decide +kernel, by decide +kernel, by decide +kernel, by decide +kernel⟩
theorem c_law_one_right : chkP cI cS (funsOf pures) p_law_one_right = true := by decide +kernel
theorem sc_law_one_right : FnScope N_law_one_right ["_law_long"] (defScope (top 16)) := ⟨by decide +kernel, by decide +kernel, by decide +kernel, by decide +kernel, by decide +kernel, by decide +kernel, by decide +kernel⟩
theorem c_law_two_right : chkP cI cS (funsOf pures) p_law_two_right = true := by decide +kernel
theorem sc_law_two_right : FnScope N_law_two_right ["_law_long"] (defScope (top 17)) := ⟨by decide +kernel, by decide +kernel, by decide +kernel, by decide +kernel, by decide +kernel, by decide +kernel, by decide +kernel⟩
theorem c_law_three_right : chkP cI cS (funsOf pures) p_law_three_right = true := by decide +kernel
theorem sc_law_three_right : FnScope N_law_three_right [] (defScope (top 18)) := ⟨by decide +kernel, by decide +kernel, by decide +kernel, by decide +kernel, by decide +kernel, by decide +kernel, by decide +kernel⟩
end Ab

namespace Ab
open PySem PySem.Spec PyProof.Rows L2
theorem three : yes (callF tabP 12 14 []) = true := by decide +kernel
theorem one : (List.range 12).all (fun i => yes (callF tabP 12 12 [.int (1 + (i : Nat))])) = true := by decide +kernel
theorem two : (List.range 12).all (fun i => yes (callF tabP 12 13 [.int (1 + (i : Nat))])) = true := by decide +kernel
end Ab

namespace Ab
open PySem PySem.Spec PyProof.Rows L2
theorem canLay_ints (cs : List Int) : PyData.canLayAll0 (cs.map PyData.int) = true := by
  induction cs with
  | nil => rfl
  | cons c cs ih => show (true && PyData.canLayAll0 (cs.map PyData.int)) = true; rw [ih]; rfl
theorem depth_ints (cs : List Int) : PyData.depthAll (cs.map PyData.int) = 0 := by
  induction cs with
  | nil => rfl
  | cons c cs ih => show max 0 (PyData.depthAll (cs.map PyData.int)) = 0; rw [ih]; rfl
theorem cq_ints (cs : List Int) : D.cq (.seq true (cs.map D.int)) = true := by
  show (D.noHs (cs.map D.int) && SeqAt.shaped (.list (D.pds (cs.map D.int)))) = true
  rw [noH_ints, pd_ints]
  show (PyData.canLayAll0 (cs.map PyData.int) && decide (PyData.depthAll (cs.map PyData.int) + 1 ≤ 64)) = true
  rw [canLay_ints, depth_ints]; rfl
theorem eq_nil (cs : List Int) : eqD (.seq true (cs.map D.int)) (.seq true []) = decide (cs = []) := by
  cases cs with
  | nil => rfl
  | cons c cs => rfl
def cutL {α : Type} (xs : List α) (lo hi : Option Int) : List α := (xs.drop (HT.sIx xs.length 0 lo)).take (HT.sIx xs.length xs.length hi - HT.sIx xs.length 0 lo)
theorem cutD_map (ns : List Int) (lo hi : Option Int) : cutD (ns.map D.int) lo hi = (cutL ns lo hi).map D.int := by
  unfold cutD cutL
  rw [List.length_map, List.map_take, List.map_drop]
theorem mulOk_small {i j : Int} (h : -(2 ^ 64) < j ∧ j < 2 ^ 64) : mulOk i j = true := by
  unfold mulOk
  simp only [Bool.or_eq_true, Bool.and_eq_true, decide_eq_true_eq]
  exact .inl (.inr h)
/-- the cells' loop -/
def cBody : S := .seq (.seti 2 (.bin .mod (.var 3) (.var 1)) (.bin .add (.idx (.var 2) (.bin .mod (.var 3) (.var 1))) (.bin .mul (.var 4) (.bin .add (.var 3) (.int 2))))) .skip
def cellI (ns : List Int) (m : Nat) (l : Nat) (left : List D) (ρ : Ev) : Prop := ∃ (cs : List Int) (s3 s4 : Sl) (k : Nat) (xs : List Int), ρ = [.val (.scr ns), .val (.int m), .own (cs.map D.int), s3, s4] ∧ cs.length = l ∧ left = enumD k (xs.map D.int) ∧ k + xs.length ≤ 63 ∧ (xs ≠ [] → l = m)
theorem cells_step (cl : Nat → List D → Option Rs) (ns : List Int) (m l : Nat) (h1 : 1 ≤ m) (x : D) (xs : List D) (ρ : Ev) (h : cellI ns m l (x :: xs) ρ) : ∃ ρ1 ρ2, bindF (.cons (.nm 3) (.cons (.nm 4) .nil)) x ρ = some ρ1 ∧
    (runS cl cBody ρ1 = some (.nx ρ2) ∨
     runS cl cBody ρ1 = some (.ct ρ2)) ∧ cellI ns m l xs ρ2 := by
  obtain ⟨cs, s3, s4, k, ys, rfl, hl, hx, hk, hm⟩ := h
  cases ys with
  | nil => cases hx
  | cons y ys =>
    have hx : x :: xs = .seq false [.int k, .int y] :: enumD (k + 1) (ys.map D.int) := hx
    cases hx
    have em : l = m := hm (by simp)
    subst em
    have hpos : (0 : Int) < (l : Int) := by omega
    obtain ⟨j, hj, hjl⟩ : ∃ j : Nat, ((k : Int) % (l : Int)) = (j : Int) ∧ j < l := by
      refine ⟨k % l, by omega, Nat.mod_lt _ h1⟩
    have ix : L2.ixN l ((k : Int) % (l : Int)) = some j := by
      unfold L2.ixN
      rw [hj, if_pos (Int.natCast_nonneg _), if_pos (by omega)]; rfl
    have hcs : j < cs.length := by omega
    have at_ : L2.atI (cs.map D.int) ((k : Int) % (l : Int)) = some (.int (cs[j])) := by
      unfold L2.atI
      rw [List.length_map, hl, ix]
      simp [hcs]
    refine ⟨_, [.val (.scr ns), .val (.int l), .own ((cs.set j (cs[j] + y * (k + 2))).map D.int), .val (.int k), .val (.int y)], rfl, .inl ?_, _, _, _, k + 1, ys, rfl, by rw [List.length_set]; exact hl, by push_cast; rfl, by simp at hk; omega, fun _ => rfl⟩
    have mk := mulOk_small (i := y) (j := (k : Int) + 2) (by simp at hk; omega)
    simp only [cBody, runS, runE, full, List.map, Sl.full, getS, Option.bind_some, binF, if_pos hpos, Rs.d, cmpF, idxF, at_, Option.map_some, mk, if_true, List.set, ownF, intF, D.pure, List.length_map, hl, ix, Out.seq]
    simp [List.map_set]
theorem cut_head (ns : List Int) (m : Nat) : cutL ns none (some (m : Int)) = ns.take m := by
  unfold cutL
  rw [HT.sIx_none, HT.sIx_nat, List.drop_zero, Nat.sub_zero]
  by_cases h : m ≤ ns.length
  · rw [Nat.min_eq_left h]
  · rw [Nat.min_eq_right (by omega), List.take_of_length_le (Nat.le_refl _), List.take_of_length_le (by omega)]
theorem cut_rest (ns : List Int) (m : Nat) (h2 : m ≤ 63) : (cutL ns (some (m : Int)) (some 63)).length ≤ 63 ∧ (cutL ns (some (m : Int)) (some 63) ≠ [] → m ≤ ns.length) := by
  unfold cutL
  rw [HT.sIx_nat, show HT.sIx ns.length ns.length (some 63) = min 63 ns.length from HT.sIx_nat _ _ 63]
  refine ⟨by simp; omega, fun h => ?_⟩
  by_cases q : m ≤ ns.length
  · exact q
  · exfalso
    apply h
    have e : min m ns.length = ns.length := by omega
    rw [e, List.drop_length, List.take_nil]
theorem cells_ok (k : Nat) (ns : List Int) (m : Nat) (h1 : 1 ≤ m) (h2 : m ≤ 63) : ∃ r cs, callF tabP (k + 1) p_law_cells.id [.scr ns, .int m] = some r ∧ r.d = .seq true (cs.map D.int) ∧ cs ≠ [] ∧ cs.length ≤ m := by
  have ht : tabP p_law_cells.id = some p_law_cells.b := tabOf_id nd_pures (by simp [pures])
  obtain ⟨c1, c2⟩ := cut_rest ns m h2
  have inv := forF_inv (t := .cons (.nm 3) (.cons (.nm 4) .nil)) (cellI ns m (ns.take m).length) (fun x xs ρ h => cells_step (callF tabP k) ns m _ h1 x xs ρ h) (xs := enumD 0 ((cutL ns (some (m : Int)) (some 63)).map D.int)) (ρ := [.val (.scr ns), .val (.int m), .own ((ns.take m).map D.int), .no, .no])
    ⟨ns.take m, .no, .no, 0, _, rfl, rfl, rfl, by omega, fun h => by have := c2 h; rw [List.length_take]; omega⟩
  obtain ⟨ρ', hf, cs, s3, s4, k', xs', e, hl, _⟩ := inv
  subst e
  have e1 : runE (callF tabP k) (.blt .list_ (.cons (.slc (.var 0) .non (.var 1)) .nil)) [.val (.scr ns), .val (.int m), .no, .no, .no] = some (.fresh ((ns.take m).map D.int)) := by
    simp only [runE, getS, Option.bind_some, E.isNon, partF, slcF, itemsF, Rs.d, bltF, cutD_map, cut_head]
  have e2 : runE (callF tabP k) (.ienum (.slc (.var 0) (.var 1) (.int 63)) 0) [.val (.scr ns), .val (.int m), .own ((ns.take m).map D.int), .no, .no] = some (.dat (.seq true (enumD 0 ((cutL ns (some (m : Int)) (some 63)).map D.int)))) := by
    simp only [runE, getS, Option.bind_some, E.isNon, partF, slcF, itemsF, Rs.d, cutD_map, Option.map_some]
  have b0 : p_law_cells.b.body = .seq (.own 2 (.blt .list_ (.cons (.slc (.var 0) .non (.var 1)) .nil))) (.seq (.for_ (.cons (.nm 3) (.cons (.nm 4) .nil)) (.ienum (.slc (.var 0) (.var 1) (.int 63)) 0) cBody) (.seq (.ret (.ite (.cmp .ne (.var 2) (.lst .nil)) (.var 2) (.lst (.cons (.int 0) .nil)))) .skip)) := rfl
  have st : startE p_law_cells.b.ns [.scr ns, .int m] = [.val (.scr ns), .val (.int m), .no, .no, .no] := rfl
  by_cases hc : cs = []
  · refine ⟨.fresh [.int 0], [0], callF_succ ht rfl (o := .rt (.fresh [.int 0])) ?_ rfl, rfl, by simp, h1⟩
    rw [b0, st]
    subst hc
    simp only [runS, mask, e1, Option.bind_some, freshF, Option.map_some, Out.seq, List.set, e2, Rs.d, itemsF, hf]
    simp only [runE, full, List.map, Sl.full, getS, Option.bind_some, itemsF, Rs.d, List.length_nil, Nat.zero_le, if_true, cmpF, List.length_cons]
    have cq := cq_ints []
    simp only [List.map_nil] at cq
    simp only [cq, and_self, if_true, Option.map_some, Option.bind_some, blF]
    rfl
  · refine ⟨.dat (.seq true (cs.map D.int)), cs, callF_succ ht rfl (o := .rt (.dat (.seq true (cs.map D.int)))) ?_ rfl, rfl, hc, by rw [hl, List.length_take]; omega⟩
    rw [b0, st]
    simp only [runS, mask, e1, Option.bind_some, freshF, Option.map_some, Out.seq, List.set, e2, Rs.d, itemsF, hf]
    simp only [runE, full, List.map, Sl.full, getS, Option.bind_some, itemsF, Rs.d, List.length_nil, Nat.zero_le, if_true, cmpF]
    have cq := cq_ints cs
    have cq0 := cq_ints []
    simp only [List.map_nil] at cq0
    have en := eq_nil cs
    simp only [cq, cq0, and_self, if_true, Option.map_some, Option.bind_some, blF, en, hc, decide_false, Bool.not_false]
end Ab

namespace Ab
open PySem PySem.Spec PyProof.Rows L2
abbrev stT : Stmt := top 13
def tabT : Tab := ⟨["_law_box_here", "_law_span", "_law_once", "_law_found"], cI, cS, [("_law_take", 9, 2)]⟩
theorem sc_take : FnScope ["_law_box_here", "_law_span", "_law_once", "_law_found"] ["_law_box_here", "_law_span"] (defScope stT) := ⟨by decide +kernel, by decide +kernel, by decide +kernel, by decide +kernel, by decide +kernel, by decide +kernel, by decide +kernel⟩
def tE1 : E := (.cmp .gt (.idx (.var 0) (.int 0)) (.int 0))
def tE2 : E := (.bin .mod (.idx (.var 0) (.int 0)) (.var 1))
def tE3 : E := (.bin .fdiv (.idx (.var 0) (.int 0)) (.var 1))
def tC2 : E := (.cmp .gt (.var 1) (.bin .pow (.int 10) (.int 7)))
def tR2 : E := (.bin .mod (.bin .add (.call 9 (.cons (.var 0) (.cons (.bin .pow (.int 10) (.int 7)) .nil))) (.bin .mul (.bin .pow (.int 10) (.int 7)) (.call 9 (.cons (.var 0) (.cons (.bin .add (.bin .fdiv (.bin .sub (.var 1) (.int 1)) (.bin .pow (.int 10) (.int 7))) (.int 1)) .nil))))) (.var 1))
def tE4 : E := (.bin .add (.idx (.var 0) (.int 2)) (.int 1))
def tE6 : E := (.bin .mod (.bin .fdiv (.bin .mod (.bin .add (.bin .mul (.var 2) (.bin .add (.bin .mod (.var 2) (.int 40009)) (.int 7))) (.bin .mul (.idx (.var 0) (.int 2)) (.int 7919))) (.int 2147483629)) (.int 64)) (.var 1))
def tX0 : E := (.bin .mod (.bin .pow (.bin .add (.idx (.var 0) (.int 1)) (.bin .mul (.int 39373) (.idx (.var 0) (.int 2)))) (.int 5)) (.int 2147483647))
def tFuel : Nat → List D → Option Rs := fun _ _ => none
section
variable {K : PySem.W.Frag} {P : Program} {w : World} {mg : Str → Option Value} {base : Heap}
abbrev NT : List Str := tabT.N
abbrev T0 : Tab := ⟨NT, cI, cS, []⟩
theorem log_small {j : Nat} (hj : j ≤ 100) {s : Int} (h1 : 1 ≤ s) (h : s ≤ 10 ^ (7 * (j + 1))) : s.natAbs.log2 < 9000 := by
  have e : (10 : Nat) ^ (7 * (j + 1)) ≤ 10 ^ 707 := Nat.pow_le_pow_right (by decide) (by omega)
  have e2 : s.natAbs ≤ 10 ^ (7 * (j + 1)) := by
    have : ((s.natAbs : Nat) : Int) ≤ ((10 ^ (7 * (j + 1)) : Nat) : Int) := by push_cast; omega
    exact Int.ofNat_le.mp this
  rw [Nat.log2_lt (by omega)]
  exact Nat.lt_of_le_of_lt (Nat.le_trans e2 e) (by decide +kernel)
theorem take_step {f : Addr} {fd : FuncData} {j : Nat} (Df : DefAt K mg "_law_take" stT NT ["_law_box_here", "_law_span"] f fd) (mo : MgOk mg ⟨[], cI, cS, []⟩) (hj : j ≤ 100) (ih : Told (boxW K) P w mg base j "_law_take" 2 (takeP j)) :
    FnOk P w K mg base (L2.CX P w) (j + 1) f fd ["_law_box_here", "_law_span"] (lift (boxW K) XE0 (takeC j)) := by
  refine Df.F.okX Df.S (fun vs H Q Xk h => ?_) (fun cdv A outer s' H vs Q Xk hr h => ?_)
  · obtain ⟨z, w, ds, a, is, k, s, rfl, _⟩ := h
    rw [is.length]; rfl
  · obtain ⟨z, wd, ds, a, is, k, s, rfl, hk, hs1, hs2, hc, hq⟩ := h
    let X := cxOf (L2.CX P w) P w K mg base NT "_law_take" (defScope stT) f cdv A outer s' H Xk
    have hyB : HyS (boxW K) tabT (fun _ => takeP j) XE0 X (defScope stT) (fun _ => true) L2.E0 :=
      { hK := rfl, hN := rfl, hsc := rfl, hfn := rfl, nd := Df.S.nd, calm := rfl, hu := Nat.lt_of_le_of_lt (Nat.le_refl _) hr.units, blt := mo.blt, cst := mo.cst, css := mo.css,
        fns := fun y id n e => by
          have hm := lookup_mem e
          simp only [tabT, List.mem_singleton] at hm
          cases hm
          obtain ⟨g, gd, qs, e1, e2, e3, e4, e5⟩ := ih
          exact ⟨g, gd, qs, j, e1, e2, e3, e4, e5, hr⟩
        pass := passL, hk := Df.S.kind, po := passes_of rfl }
    have hyT : HyS (trivW K) T0 Φ0 XE0 X (defScope stT) (fun _ => true) L2.E0 :=
      { hK := rfl, hN := rfl, hsc := rfl, hfn := rfl, nd := Df.S.nd, calm := rfl, hu := Nat.lt_of_le_of_lt (Nat.le_refl _) hr.units, blt := mo.blt, cst := mo.cst, css := mo.css,
        fns := fun y id n e => by cases e
        pass := passL, hk := Df.S.kind, po := passes_of rfl }
    have pe : ∀ (e : E) {x : Expr}, chk T0 e (defScope stT) (fun _ => true) (.e x) = true → PE X x (tE (trivW K) Φ0 XE0 e L2.E0) := fun e {x} h => (snd_all (M := trivW K) (T := T0) (XE := XE0) mono0 e).1.pe hyT.toHy h
    have pt : ∀ (e : E) {x : Expr}, chk T0 e (defScope stT) (fun _ => true) (.e x) = true → PT X x (tT (trivW K) Φ0 XE0 e L2.E0) := fun e {x} h => (snd_all (M := trivW K) (T := T0) (XE := XE0) mono0 e).1.pt hyT.toHy h
    have peB : ∀ (e : E) {x : Expr}, chk tabT e (defScope stT) (fun _ => true) (.e x) = true → PE X x (tE (boxW K) (fun _ => takeP j) XE0 e L2.E0) := fun e {x} h => (snd_all (M := boxW K) (T := tabT) (XE := XE0) mono_takeP e).1.pe hyB.toHy h
    have v0 : Vis (defScope stT) "_law_box_here" := .inl (by decide +kernel)
    have v3 : Vis (defScope stT) "_law_found" := .inl (by decide +kernel)
    have l2 : (defScope stT).names.lookup ("_law_once" : Str) = some .local := by decide +kernel
    have l3 : (defScope stT).names.lookup ("_law_found" : Str) = some .local := by decide +kernel
    have pv0 : ∀ {p : Pos}, PE X (.Name "_law_box_here" p) (tVar 0) := fun {p} => pe_var (i := 0) rfl v0
    have pv3 : ∀ {p : Pos}, PE X (.Name "_law_found" p) (tVar 3) := fun {p} => pe_var (i := 3) rfl v3
    refine ⟨_, pss_cons (ps_if (pt tE1 (by decide +kernel)) (pss_cons (ps_set (i := 3) Df.S.nd rfl (.inl l3) (pe tE2 (by decide +kernel)) rfl (.inr l3)) (pss_cons (ps_asg (pe tE3 (by decide +kernel)) (pg_sub pv0 pe_int set_list (by intro _; rfl)) rfl rfl rfl) (pss_one (ps_ret pv3)))) pss_nil)
      (pss_cons (ps_if (pt tC2 (by decide +kernel)) (pss_one (ps_ret (peB tR2 (by decide +kernel)))) pss_nil)
      (pss_cons (ps_asg (pe tE4 (by decide +kernel)) (pg_sub pv0 pe_int set_list (by intro _; rfl)) rfl rfl rfl)
      (pss_cons (ps_set (i := 2) Df.S.nd rfl (.inl l2) (pe tX0 (by decide +kernel)) rfl (.inr l2)) (pss_one (ps_ret (pe tE6 (by decide +kernel))))))), ?_⟩
    cases is with
    | cons i0 is =>
    cases is with
    | cons i1 is =>
    cases is
    cases i1
    cases i0 with
    | @hnd p _ hA =>
    obtain ⟨r1, r2, r3⟩ := a.r
    obtain ⟨tp, b0, b1, b2, hp, g0, g1, g2, g3, g4⟩ := r2 k p hA
    have hc44 : (wd.c : Int) + 1 ≤ 2 ^ 44 := by
      have : 1 ≤ 2 ^ j := Nat.one_le_two_pow
      omega
    refine box_T (ns := [some s, none, none]) (b := decide (0 < b0)) hp rfl fun H1 s1 => ?_
    have hp1 := s1 _ _ hp
    by_cases c0 : 0 < b0
    · rw [decide_eq_true c0, if_pos rfl]
      refine box_E (ns := [some s, none, none]) (n := b0 % s) hp1 (by simp only [tE2, boxR, runE, getS, Option.bind_some, idxF, Rs.d, slOf, List.map]; simp [L2.atI, L2.ixN, binF, show 0 < s by omega]) fun H2 s2 => ?_
      have hp2 := s2 _ _ hp1
      refine box_E (ns := [some s, none, some (b0 % s)]) (n := b0 / s) hp2 (by simp only [tE3, boxR, runE, getS, Option.bind_some, idxF, Rs.d, slOf, List.map]; simp [L2.atI, L2.ixN, binF, show 0 < s by omega, log_small hj hs1 hs2]) fun H3 s3 => ?_
      have hp3 := s3 _ _ hp2
      refine ⟨_, rfl, p, _, 0, 0, rfl, rfl, hp3, rfl, _, rfl, ?_⟩
      have sm := (s1.trans s2).trans s3
      obtain ⟨at', le'⟩ := box_upd (c' := wd.c) (H' := upd H3 p (.lst [V.int (b0 / s), V.int b1, V.int b2])) a hA upd_same (Int.ediv_nonneg g0 (by omega)) g1 g2 g3 g4 (Nat.le_refl _) fun b o nb e => by rw [upd_ne nb]; exact sm _ _ e
      exact hq (b0 % s) wd.c (Int.emod_nonneg _ (by omega)) (Int.emod_lt_of_pos _ (by omega)) (Nat.le_refl _) (Nat.le_add_right _ _) _ z _ at' le' (.int _)
    · rw [decide_eq_false c0, if_neg Bool.false_ne_true]
      refine box_T (ns := [some s, none, none]) (b := decide (10 ^ 7 < s)) hp1 rfl fun H2 s2 => ?_
      have hp2 := s2 _ _ hp1
      have sm := s1.trans s2
      by_cases c1 : 10 ^ 7 < s
      · rw [decide_eq_true c1, if_pos rfl]
        obtain ⟨at', le'⟩ := box_upd (c' := wd.c) (H' := H2) a hA hp2 g0 g1 g2 g3 g4 (Nat.le_refl _) fun b o _ e => sm _ _ e
        refine tE_use (M := boxW K) (z := z) (w := wd) (ρ := [.val (.hnd k), .val (.int s), .no, .no]) (XP := fun _ _ => False) (Q := fun r w' => ∃ v, r = .dat (.int v) ∧ 0 ≤ v ∧ v < s ∧ w'.n = wd.n ∧ wd.c ≤ w'.c ∧ w'.c ≤ wd.c + 2 ^ j) at' ?_ (fun x z' H' w' _ _ f => f.elim) ?_ fun u z3 H3 w3 r3 a3 l3 i3 q3 => ?_
        · refine ⟨fun i d e => ?_, fun i xs e => ?_⟩
          · match i, e with
            | 0, e => cases e; exact ⟨_, rfl, .hnd hA⟩
            | 1, e => cases e; exact ⟨_, rfl, .int s⟩
            | 2, e => cases e
            | 3, e => cases e
            | i + 4, e => cases e
          · match i, e with
            | 0, e => cases e
            | 1, e => cases e
            | 2, e => cases e
            | 3, e => cases e
            | i + 4, e => cases e
        · cases j with
          | zero => exfalso; have : s ≤ 10 ^ 7 := hs2; omega
          | succ j =>
            have e2 : (2 : Nat) ^ (j + 1) = 2 ^ j + 2 ^ j := by rw [Nat.pow_succ]; omega
            have sp : (s - 1) / 10 ^ 7 + 1 ≤ 10 ^ (7 * (j + 1)) := by
              have : (10 : Int) ^ (7 * (j + 1 + 1)) = 10 ^ 7 * 10 ^ (7 * (j + 1)) := by rw [← Int.pow_add]; congr 1; omega
              rw [this] at hs2
              have : (s - 1) / 10 ^ 7 < 10 ^ (7 * (j + 1)) := Int.ediv_lt_of_lt_mul (by decide) (by rw [Int.mul_comm]; omega)
              omega
            have sp0 : (0 : Int) ≤ (s - 1) / 10 ^ 7 := Int.ediv_nonneg (by omega) (by decide)
            have h7 : (10 : Int) ^ 7 ≤ 10 ^ (7 * (j + 1)) := by
              have : (10 : Nat) ^ 7 ≤ 10 ^ (7 * (j + 1)) := Nat.pow_le_pow_right (by decide) (by omega)
              exact_mod_cast this
            simp only [tR2, evalE, getS, itemsD, Rs.d, binD]
            refine ⟨⟨by decide, by decide, by decide⟩, k, 10 ^ 7, rfl, hk, by decide, h7, by omega, fun v1 c1' x1 x2 x3 x4 => ?_⟩
            refine ⟨⟨by decide, by decide, by decide⟩, ⟨by decide, by decide, by decide⟩, ⟨by decide, by decide +kernel⟩, ?_⟩
            refine ⟨k, (s - 1) / 10 ^ 7 + 1, rfl, hk, by omega, sp, by show c1' + _ ≤ _; omega, fun v2 c2' y1 y2 y3 y4 => ?_⟩
            have y3 : c1' ≤ c2' := y3
            have y4 : c2' ≤ c1' + 2 ^ j := y4
            refine ⟨.inl (.inl ⟨by decide, by decide⟩), ?_⟩
            refine ⟨by omega, _, rfl, Int.emod_nonneg _ (by omega), Int.emod_lt_of_pos _ (by omega), rfl, by show wd.c ≤ c2'; omega, by show c2' ≤ _; omega⟩
        · obtain ⟨v, rfl, v1, v2, en, x3, x4⟩ := q3
          obtain ⟨n3, c3⟩ := w3
          cases en
          cases i3
          exact hq v c3 v1 v2 x3 x4 _ z3 H3 a3 (le'.trans l3) (.int v)
      · rw [decide_eq_false c1, if_neg Bool.false_ne_true]
        have hb2 : (0 : Int) ≤ b2 ∧ b2 + 1 ≤ 2 ^ 44 := by omega
        refine box_E (ns := [some s, none, none]) (n := b2 + 1) hp2 rfl fun H3 s3 => ?_
        have hp3 := s3 _ _ hp2
        refine ⟨_, rfl, p, _, 2, 2, rfl, rfl, hp3, rfl, ?_⟩
        have hp4 : (upd H3 p (.lst [V.int b0, V.int b1, V.int (b2 + 1)])) p = some (.lst [V.int b0, V.int b1, V.int (b2 + 1)]) := upd_same
        refine box_E (ns := [some s, none, none]) (b0 := b0) (b1 := b1) (b2 := b2 + 1) (n := (b1 + 39373 * (b2 + 1)) ^ 5 % 2147483647) hp4 ?_ fun H5 s5 => ?_
        · have m1 : mulOk 39373 (b2 + 1) = true := by
            unfold mulOk; simp
          have n1 : (b1 + 39373 * (b2 + 1)).natAbs < 18446744073709551616 := by omega
          simp only [tX0, boxR, runE, getS, Option.bind_some, idxF, Rs.d, slOf, List.map]
          simp [L2.atI, L2.ixN, binF, m1, n1]
        · have hp5 := s5 _ _ hp4
          have o1 : 0 ≤ (b1 + 39373 * (b2 + 1)) ^ 5 % 2147483647 := Int.emod_nonneg _ (by decide)
          have o2 : (b1 + 39373 * (b2 + 1)) ^ 5 % 2147483647 < 2147483647 := Int.emod_lt_of_pos _ (by decide)
          generalize (b1 + 39373 * (b2 + 1)) ^ 5 % 2147483647 = on at *
          refine box_E (ns := [some s, some on, none]) (b0 := b0) (b1 := b1) (b2 := b2 + 1) (n := (on * (on % 40009 + 7) + (b2 + 1) * 7919) % 2147483629 / 64 % s) hp5 ?_ fun H6 s6 => ?_
          · have m1 : mulOk on (on % 40009 + 7) = true := by
              unfold mulOk
              simp only [Bool.or_eq_true, Bool.and_eq_true, decide_eq_true_eq]
              exact .inl (.inl ⟨by omega, by omega⟩)
            have m2 : mulOk (b2 + 1) 7919 = true := by
              unfold mulOk; simp
            have lg : Nat.log2 64 < 9000 := by decide +kernel
            simp only [tE6, boxR, runE, getS, Option.bind_some, idxF, Rs.d, slOf, List.map]
            simp [L2.atI, L2.ixN, binF, m1, m2, lg, show 0 < s by omega]
          · have hp6 := s6 _ _ hp5
            have sm3 := sm.trans s3
            obtain ⟨at', le'⟩ := box_upd (c' := wd.c + 1) (H' := H6) a hA hp6 g0 g1 g2 (by omega) (by push_cast; omega) (Nat.le_succ _) fun b o nb e => s6 _ _ (s5 _ _ (by rw [upd_ne nb]; exact sm3 _ _ e))
            exact hq _ (wd.c + 1) (Int.emod_nonneg _ (by omega)) (Int.emod_lt_of_pos _ (by omega)) (Nat.le_succ _) (Nat.add_le_add_left Nat.one_le_two_pow _) _ z _ at' le' (.int _)
end
end Ab

namespace Ab
open PySem PySem.Spec PyProof.Rows L2
section
variable {K : PySem.W.Frag} {P : Program} {w : World} {mg : Str → Option Value} {base : Heap}
theorem take_ok (Df : ∃ f fd, DefAt K mg "_law_take" stT NT ["_law_box_here", "_law_span"] f fd) (mo : MgOk mg ⟨[], cI, cS, []⟩) : ∀ j, j ≤ 101 → Told (boxW K) P w mg base j "_law_take" 2 (takeP j) := by
  intro j
  obtain ⟨f, fd, Df⟩ := Df
  induction j with
  | zero =>
    intro _
    have no : ∀ vs H Q E, ¬ lift (boxW K) XE0 (takeP 0) vs H Q E := fun vs H Q E ⟨z, w, ds, _, _, h⟩ => h
    exact ⟨f, fd, _, rfl, Df.m, Df.F.kp, Df.B, ⟨fun vs H Q E h => (no vs H Q E h).elim, fun A outer s H args us vs Q E _ _ _ _ h => (no vs H Q E h).elim⟩⟩
  | succ j ih => intro hj; exact ⟨f, fd, _, rfl, Df.m, Df.F.kp, Df.B, take_step Df mo (by omega) (ih (by omega))⟩
theorem Told.of {M : WM K} {x : Str} {st : Stmt} {N ps : List Str} {f : Addr} {fd : FuncData} {k n : Nat} {φ : Fn M.Wd} (Df : DefAt K mg x st N ps f fd) (hn : ps.length = n) (h : FnOk P w K mg base (L2.CX P w) k f fd ps (lift M XE0 φ)) : Told M P w mg base k x n φ := ⟨f, fd, ps, hn, Df.m, Df.F.kp, Df.B, h⟩
end
/-- the box of a cell -/
theorem box_call (k : Nat) (cs : List Int) (i : Nat) (h : i < cs.length) (h63 : i ≤ 63) : ∃ b0 b1 : Int, 0 ≤ b0 ∧ 0 ≤ b1 ∧ b1 < 2 ^ 62 ∧ callF tabP (k + 1) p_law_box.id [.seq true (cs.map D.int), .int i] = some (.fresh [.int b0, .int b1, .int 0]) := by
  have ht : tabP p_law_box.id = some p_law_box.b := tabOf_id nd_pures (by simp [pures])
  have at_ : L2.atI (cs.map D.int) (i : Int) = some (.int cs[i]) := by
    unfold L2.atI L2.ixN
    rw [if_pos (Int.natCast_nonneg _), List.length_map, if_pos (by omega)]
    simp [h]
  have nn : ∀ c : Int, 0 ≤ (if c < 0 then -c else c) := fun c => by split <;> omega
  refine ⟨(if cs[i] < 0 then -cs[i] else cs[i]) * (if (10 ^ 18 ≤ (if cs[i] < 0 then -cs[i] else cs[i])) then 1 else 0), cs[i] % 2305843009213693951 + 7919 * (i : Int) + 51, ?_, ?_, ?_, callF_succ ht rfl (o := .rt (.fresh [.int ((if cs[i] < 0 then -cs[i] else cs[i]) * (if (10 ^ 18 ≤ (if cs[i] < 0 then -cs[i] else cs[i])) then 1 else 0)), .int (cs[i] % 2305843009213693951 + 7919 * (i : Int) + 51), .int 0])) ?_ rfl⟩
  · refine Int.mul_nonneg (nn _) ?_
    generalize (if cs[i] < 0 then -cs[i] else cs[i]) = q
    by_cases h : 10 ^ 18 ≤ q
    · rw [if_pos h]; decide
    · rw [if_neg h]; decide
  · have := Int.emod_nonneg cs[i] (b := 2305843009213693951) (by decide); omega
  · have := Int.emod_lt_of_pos cs[i] (b := 2305843009213693951) (by decide); omega
  · have b0 : p_law_box.b.body = s_law_box := rfl
    have st : startE p_law_box.b.ns [.seq true (cs.map D.int), .int i] = [.val (.seq true (cs.map D.int)), .val (.int i), .no] := rfl
    rw [b0, st]
    have m1 : ∀ b : Bool, ∀ c : Int, mulOk c (if b = true then 1 else 0) = true := fun b c => mulOk_small (by cases b <;> decide)
    have m2 : mulOk 7919 (i : Int) = true := mulOk_small (by omega)
    have e2 : (if decide (10 ^ 18 ≤ (if cs[i] < 0 then -cs[i] else cs[i])) = true then (1 : Int) else 0) = if (10 ^ 18 ≤ (if cs[i] < 0 then -cs[i] else cs[i])) then 1 else 0 := by
      by_cases q : 10 ^ 18 ≤ (if cs[i] < 0 then -cs[i] else cs[i])
      · rw [decide_eq_true q, if_pos rfl, if_pos q]
      · rw [decide_eq_false q, if_neg Bool.false_ne_true, if_neg q]
    have hl : decide ((i : Int) < (cs.length : Int)) = true := decide_eq_true (by omega)
    have c7 : (0 : Int) ≤ 18 ∧ (18 : Int) ≤ 1000000 ∧ (10 : Int).natAbs < 2 ^ 64 := by decide
    have hp : (0 : Int) < 2305843009213693951 := by decide
    simp only [s_law_box, runS, mask, runE, getS, Option.bind_some, itemsF, Rs.d, bltF, List.length_map, cmpF, Option.map_some, hl, blF, if_true, idxF, at_, Out.seq, List.set, full, List.map, Sl.full, binF, c7, and_self, m1, m2, hp]
    simp only [show (18 : Int).toNat = 18 from rfl, e2]
    rfl
end Ab

namespace Ab
open PySem PySem.Spec PyProof.Rows L2
theorem of_all {f : Nat → Option Rs} {n : Nat} (h : (List.range n).all (fun i => yes (f i)) = true) {i : Nat} (hi : i < n) : f i = some (.dat (.bl true)) :=
  yes_d (List.all_eq_true.mp h i (List.mem_range.mpr hi))
theorem one_ok {v : Int} (h0 : 0 ≤ v) (h1 : v < 12) : callF tabP 12 12 [.int (1 + v)] = some (.dat (.bl true)) := by
  obtain ⟨n, rfl⟩ := Int.eq_ofNat_of_zero_le h0
  exact of_all (f := fun i => callF tabP 12 12 [.int (1 + (i : Nat))]) one (by omega)
theorem two_ok {v : Int} (h0 : 0 ≤ v) (h1 : v < 12) : callF tabP 12 13 [.int (1 + v)] = some (.dat (.bl true)) := by
  obtain ⟨n, rfl⟩ := Int.eq_ofNat_of_zero_le h0
  exact of_all (f := fun i => callF tabP 12 13 [.int (1 + (i : Nat))]) two (by omega)
theorem three_ok : callF tabP 12 14 [] = some (.dat (.bl true)) := yes_d three
def rightC : Fn Wb := fun ds w Q _ => ∃ k : Nat, ds = [.hnd k] ∧ k < w.n ∧ w.c + 2 ≤ 2 ^ 44 ∧ ∀ c', w.c ≤ c' → c' ≤ w.c + 2 → Q (.dat (.bl true)) ⟨w.n, c'⟩
def lawC : Fn Wb := fun ds w Q _ => ∃ ns, ds = [.scr ns] ∧ w = ⟨0, 0⟩ ∧ ∀ w', Q (.dat (.bl true)) w'
def ΦL (f : Nat) : Fn Wb := if f = 9 then takeC 0 else if f = 8 then boxC tabP 12 8 else if f = 15 then rightC else pureC tabP 12 f
theorem mono_L : MonoF ΦL := fun f ds w Q Q' X X' i i' h => by
  unfold ΦL at h ⊢
  split at h
  · rename_i c; rw [if_pos c]; exact mono_take (j := 0) f ds w Q Q' X X' i i' h
  · rename_i c; rw [if_neg c]
    split at h
    · rename_i c; rw [if_pos c]; exact mono_box i h
    · rename_i c; rw [if_neg c]
      split at h
      · rename_i c; rw [if_pos c]
        obtain ⟨k, h1, h2, h3, q⟩ := h
        exact ⟨k, h1, h2, h3, fun c' a b => i _ _ (q c' a b)⟩
      · rename_i c; rw [if_neg c]
        obtain ⟨r, h, q⟩ := h
        exact ⟨r, h, i _ _ q⟩
theorem right_ref (ds : List Ab.D) (w : Wb) (Q : Rs → Wb → Prop) (X : XD → Wb → Prop) (h : rightC ds w Q X) : ds.length = 1 ∧ execS ΦL s_law_right { nx := fun _ w => Q (.dat .non) w, rt := Q, ex := X } (startE N_law_right.length ds) w := by
  obtain ⟨k, rfl, hk, hc, q⟩ := h
  refine ⟨rfl, ?_⟩
  have st : startE N_law_right.length [Ab.D.hnd k] = [.val (.hnd k)] := rfl
  rw [st]
  simp only [s_law_right, execS, evalE, full, List.map, Sl.full, getS, itemsD, Rs.d, binD]
  refine ⟨k, 12, rfl, hk, by decide, by decide, by simp; omega, fun v c1 v0 v1 c1a c1b => ⟨_, one_ok v0 v1, ?_⟩⟩
  refine ⟨k, 12, rfl, hk, by decide, by decide, by simp at c1b ⊢; omega, fun v2 c2 v20 v21 c2a c2b => ⟨_, two_ok v20 v21, ?_⟩⟩
  refine ⟨_, three_ok, ?_⟩
  exact q c2 (by simp at c1a c2a ⊢; omega) (by simp at c1b c2b ⊢; omega)
end Ab

namespace Ab
open PySem PySem.Spec PyProof.Rows L2
def lBody : S := .seq (.asg 3 (.call 8 (.cons (.var 1) (.cons (.var 2) .nil)))) (.seq (.ite (.not_ (.blt .all_ (.cons (.comp (.nm 4) (.irange (.cons (.int 2) .nil)) (.call 15 (.cons (.var 3) .nil))) .nil))) (.seq (.ret (.bl false)) .skip) .skip) .skip)
theorem law_loop (ns cs : List Int) (hl : cs.length ≤ 3) : ∀ (m i : Nat) (D : DE Wb) (s2 s3 s4 : Sl) (w : Wb), i + m = cs.length → w.c ≤ 4 * i → (∀ ρ w', D.nx ρ w') → forW (.nm 2) (execS ΦL lBody) ((List.range m).map fun (j : Nat) => Ab.D.int ((i + j : Nat) : Int)) D [.val (.scr ns), .val (.seq true (cs.map Ab.D.int)), s2, s3, s4] w := by
  intro m
  induction m with
  | zero => intro i D s2 s3 s4 w _ _ hD; exact hD _ _
  | succ m ih =>
    intro i D s2 s3 s4 w him hw hD
    rw [List.range_succ_eq_map, List.map_cons, List.map_map]
    simp only [forW, bindT, List.set]
    have hi : i < cs.length := by omega
    obtain ⟨b0, b1, h0, h1, h2, hc⟩ := box_call 11 cs i hi (by omega)
    simp only [lBody, execS, evalE, mask, getS, itemsD, Rs.d, List.set, full, List.map, Sl.full]
    refine ⟨⟨b0, b1, h0, h1, h2, hc⟩, ?_⟩
    simp only [Rs.d]
    refine ⟨⟨by decide, by decide⟩, by decide, ?_⟩
    have e2 : rgD 0 2 = [Ab.D.int 0, Ab.D.int 1] := rfl
    rw [e2]
    simp only [compW, bindT]
    have hw2 : (4 : Nat) * i + 4 ≤ 2 ^ 44 := by omega
    refine ⟨w.n, rfl, Nat.lt_succ_self _, by show w.c + 2 ≤ _; omega, fun c1 a1 a2 => ?_⟩
    refine ⟨w.n, rfl, Nat.lt_succ_self _, by show c1 + 2 ≤ _; simp at a2; omega, fun c2 a3 a4 => ?_⟩
    refine ⟨[true, true], rfl, ?_⟩
    simp only [List.all_cons, List.all_nil, id, Bool.and_self, Bool.not_true]
    have hi2 := ih (i + 1) D (.val (.int (i : Int))) (.val (.hnd w.n)) s4 ⟨w.n + 1, c2⟩ (by omega) (by simp at a2 a4 ⊢; omega) hD
    have er : (List.range m).map (fun (j : Nat) => Ab.D.int ((i + 1 + j : Nat) : Int)) = List.map ((fun (j : Nat) => Ab.D.int ((i + j : Nat) : Int)) ∘ Nat.succ) (List.range m) := by
      refine List.map_congr_left fun j _ => ?_
      show Ab.D.int _ = Ab.D.int _
      congr 2; omega
    rw [er] at hi2
    exact hi2
theorem law_ref (ds : List Ab.D) (w : Wb) (Q : Rs → Wb → Prop) (X : XD → Wb → Prop) (h : lawC ds w Q X) : ds.length = 1 ∧ execS ΦL s_law { nx := fun _ w => Q (.dat .non) w, rt := Q, ex := X } (startE N_law.length ds) w := by
  obtain ⟨ns, rfl, rfl, q⟩ := h
  refine ⟨rfl, ?_⟩
  have st : startE N_law.length [Ab.D.scr ns] = [.val (.scr ns), .no, .no, .no, .no] := rfl
  have el : s_law = .seq (.asg 1 (.call 10 (.cons (.var 0) (.cons (.int 3) .nil)))) (.seq (.for_ (.nm 2) (.irange (.cons (.blt .len (.cons (.var 1) .nil)) .nil)) lBody) (.seq (.ret (.bl true)) .skip)) := rfl
  rw [st, el]
  obtain ⟨r, cs, hc, hr, hne, hl⟩ := cells_ok 11 ns 3 (by decide) (by decide)
  simp only [execS, evalE, mask, getS, itemsD, Rs.d, List.set]
  refine ⟨r, hc, ?_⟩
  have eL : rgD 0 (((cs.map Ab.D.int).length : Nat) : Int) = (List.range cs.length).map fun (j : Nat) => Ab.D.int ((0 + j : Nat) : Int) := by
    unfold rgD
    rw [List.length_map, Int.sub_zero, Int.toNat_natCast]
    refine List.map_congr_left fun j _ => ?_
    show Ab.D.int _ = Ab.D.int _
    congr 1 <;> omega
  have ok1 : okR (((cs.map Ab.D.int).length : Nat) : Int) := by
    rw [List.length_map]
    exact ⟨by omega, by omega⟩
  cases r with
  | dat d =>
    have hr : d = _ := hr
    subst hr
    refine ⟨ok1, ?_⟩
    rw [eL]
    exact law_loop ns cs hl cs.length 0 _ .no .no .no ⟨0, 0⟩ (by omega) (Nat.le_refl _) fun _ _ => q _
  | fresh xs =>
    have hr : Ab.D.seq true xs = _ := hr
    cases hr
    refine ⟨ok1, ?_⟩
    rw [eL]
    exact law_loop ns cs hl cs.length 0 _ .no .no .no ⟨0, 0⟩ (by omega) (Nat.le_refl _) fun _ _ => q _
end Ab

namespace Ab
open PySem PySem.Spec PyProof.Rows L2
theorem sc_law_right : FnScope N_law_right ["_law_box_here"] (defScope (top 19)) := ⟨by decide +kernel, by decide +kernel, by decide +kernel, by decide +kernel, by decide +kernel, by decide +kernel, by decide +kernel⟩
theorem sc_law : FnScope N_law ["_law_script"] (defScope (top 20)) := ⟨by decide +kernel, by decide +kernel, by decide +kernel, by decide +kernel, by decide +kernel, by decide +kernel, by decide +kernel⟩
def fu_0 : List (Str × Nat × Nat) := funsOf pures ++ ([("_law_take", 9, 2)] : List (Str × Nat × Nat))
def fu_1 : List (Str × Nat × Nat) := fu_0 ++ ([("_law_right", 15, 1)] : List (Str × Nat × Nat))
theorem ck_law_right : chkS ⟨N_law_right, cI, cS, fu_0⟩ (defScope (top 19)) (fun _ => true) s_law_right (.b (defBody (top 19))) = true := by decide +kernel
def fu_2 : List (Str × Nat × Nat) := fu_1 ++ ([("law", 16, 1)] : List (Str × Nat × Nat))
theorem ck_law : chkS ⟨N_law, cI, cS, fu_1⟩ (defScope (top 20)) (fun _ => true) s_law (.b (defBody (top 20))) = true := by decide +kernel
section
variable {K : PySem.W.Frag} {mg : Str → Option Value} {h : Heap}
theorem at_mk {x : Str} {st : Stmt} {N ps : List Str} {f : Addr} {oc : Value} {od an : Option Addr} {osl : Array (Option Value)} {kV doc pm cdv ct : Value} (X : K.In h) (G : h.Ns mainGlobals mg) (S : FnScope N ps (defScope st))
    (a : PySem.W.nsIn K mainGlobals x = some (some (.ref f))) (l : K.lookup f = some ⟨oc, od, .func (PySem.W.fnOf x x (defArgs st) (defBody st) (defScope st) .none kV doc pm an cdv ct), osl⟩) (c : PySem.W.codeIn K cdv x = true) (k : PySem.W.keepIn K (.ref f) = true)
    (b : ∀ (kV doc pm : Value) (an : Option Addr) (cdv ct : Value) (us : List Value), us.length = ps.length → bindArgs (PySem.W.fnOf x x (defArgs st) (defBody st) (defScope st) .none kV doc pm an cdv ct) ⟨us, []⟩ = pure (ps.zip us)) :
    DefAt K mg x st N ps f (PySem.W.fnOf x x (defArgs st) (defBody st) (defScope st) .none kV doc pm an cdv ct) :=
  have F := L2.fun_mk (st := st) l c k
  ⟨F, S, PySem.W.mg_of X G a, F.binds b⟩
end
def spL (K : PySem.W.Frag) : Sp := fun vs H Q _ => ∃ (a : Addr) (ns : List Int), vs = [.ref a] ∧ SqL K H a (ns.map V.int) ∧ ∀ H1, Q (.bl true) H1
theorem all_mk {l : PySem.W.OpenLaw} {w : World} {K : PySem.W.Frag} {h : Heap} {mg : Str → Option Value} {fa : Addr} (X : K.In h) (G : h.Ns mainGlobals mg) (hfa : mg "law" = some (.ref fa))
    {f0 f1 f2 f3 f4 f5 f6 f7 f8 f9 f10 f11 f12 f13 f14 f15 f16 : Addr} {od0 an0 od1 an1 od2 an2 od3 an3 od4 an4 od5 an5 od6 an6 od7 an7 od8 an8 od9 an9 od10 an10 od11 an11 od12 an12 od13 an13 od14 an14 od15 an15 od16 an16 : Option Addr} {sl0 sl1 sl2 sl3 sl4 sl5 sl6 sl7 sl8 sl9 sl10 sl11 sl12 sl13 sl14 sl15 sl16 : Array (Option Value)} {oc0 kV0 dc0 pm0 cd0 ct0 oc1 kV1 dc1 pm1 cd1 ct1 oc2 kV2 dc2 pm2 cd2 ct2 oc3 kV3 dc3 pm3 cd3 ct3 oc4 kV4 dc4 pm4 cd4 ct4 oc5 kV5 dc5 pm5 cd5 ct5 oc6 kV6 dc6 pm6 cd6 ct6 oc7 kV7 dc7 pm7 cd7 ct7 oc8 kV8 dc8 pm8 cd8 ct8 oc9 kV9 dc9 pm9 cd9 ct9 oc10 kV10 dc10 pm10 cd10 ct10 oc11 kV11 dc11 pm11 cd11 ct11 oc12 kV12 dc12 pm12 cd12 ct12 oc13 kV13 dc13 pm13 cd13 ct13 oc14 kV14 dc14 pm14 cd14 ct14 oc15 kV15 dc15 pm15 cd15 ct15 oc16 kV16 dc16 pm16 cd16 ct16 : Value} {ty0 : Tok}
    (a0 : PySem.W.nsIn K mainGlobals "length_at" = some (some (.ref f0))) (l0 : K.lookup f0 = some ⟨oc0, od0, .func (PySem.W.fnOf "length_at" "length_at" (defArgs (top 2)) (defBody (top 2)) (defScope (top 2)) .none kV0 dc0 pm0 an0 cd0 ct0), sl0⟩) (c0 : PySem.W.codeIn K cd0 "length_at" = true) (k0 : PySem.W.keepIn K (.ref f0) = true)
    (a1 : PySem.W.nsIn K mainGlobals "as_state" = some (some (.ref f1))) (l1 : K.lookup f1 = some ⟨oc1, od1, .func (PySem.W.fnOf "as_state" "as_state" (defArgs (top 3)) (defBody (top 3)) (defScope (top 3)) .none kV1 dc1 pm1 an1 cd1 ct1), sl1⟩) (c1 : PySem.W.codeIn K cd1 "as_state" = true) (k1 : PySem.W.keepIn K (.ref f1) = true)
    (a2 : PySem.W.nsIn K mainGlobals "is_blocked" = some (some (.ref f2))) (l2 : K.lookup f2 = some ⟨oc2, od2, .func (PySem.W.fnOf "is_blocked" "is_blocked" (defArgs (top 5)) (defBody (top 5)) (defScope (top 5)) .none kV2 dc2 pm2 an2 cd2 ct2), sl2⟩) (c2 : PySem.W.codeIn K cd2 "is_blocked" = true) (k2 : PySem.W.keepIn K (.ref f2) = true)
    (a3 : PySem.W.nsIn K mainGlobals "blocked" = some (some (.ref f3))) (l3 : K.lookup f3 = some ⟨oc3, od3, .func (PySem.W.fnOf "blocked" "blocked" (defArgs (top 6)) (defBody (top 6)) (defScope (top 6)) .none kV3 dc3 pm3 an3 cd3 ct3), sl3⟩) (c3 : PySem.W.codeIn K cd3 "blocked" = true) (k3 : PySem.W.keepIn K (.ref f3) = true)
    (a4 : PySem.W.nsIn K mainGlobals "mover" = some (some (.ref f4))) (l4 : K.lookup f4 = some ⟨oc4, od4, .func (PySem.W.fnOf "mover" "mover" (defArgs (top 7)) (defBody (top 7)) (defScope (top 7)) .none kV4 dc4 pm4 an4 cd4 ct4), sl4⟩) (c4 : PySem.W.codeIn K cd4 "mover" = true) (k4 : PySem.W.keepIn K (.ref f4) = true)
    (a5 : PySem.W.nsIn K mainGlobals "turned" = some (some (.ref f5))) (l5 : K.lookup f5 = some ⟨oc5, od5, .func (PySem.W.fnOf "turned" "turned" (defArgs (top 8)) (defBody (top 8)) (defScope (top 8)) .none kV5 dc5 pm5 an5 cd5 ct5), sl5⟩) (c5 : PySem.W.codeIn K cd5 "turned" = true) (k5 : PySem.W.keepIn K (.ref f5) = true)
    (a6 : PySem.W.nsIn K mainGlobals "beat" = some (some (.ref f6))) (l6 : K.lookup f6 = some ⟨oc6, od6, .func (PySem.W.fnOf "beat" "beat" (defArgs (top 9)) (defBody (top 9)) (defScope (top 9)) .none kV6 dc6 pm6 an6 cd6 ct6), sl6⟩) (c6 : PySem.W.codeIn K cd6 "beat" = true) (k6 : PySem.W.keepIn K (.ref f6) = true)
    (a7 : PySem.W.nsIn K mainGlobals "beats_along" = some (some (.ref f7))) (l7 : K.lookup f7 = some ⟨oc7, od7, .func (PySem.W.fnOf "beats_along" "beats_along" (defArgs (top 10)) (defBody (top 10)) (defScope (top 10)) .none kV7 dc7 pm7 an7 cd7 ct7), sl7⟩) (c7 : PySem.W.codeIn K cd7 "beats_along" = true) (k7 : PySem.W.keepIn K (.ref f7) = true)
    (a8 : PySem.W.nsIn K mainGlobals "_law_box" = some (some (.ref f8))) (l8 : K.lookup f8 = some ⟨oc8, od8, .func (PySem.W.fnOf "_law_box" "_law_box" (defArgs (top 12)) (defBody (top 12)) (defScope (top 12)) .none kV8 dc8 pm8 an8 cd8 ct8), sl8⟩) (c8 : PySem.W.codeIn K cd8 "_law_box" = true) (k8 : PySem.W.keepIn K (.ref f8) = true)
    (a9 : PySem.W.nsIn K mainGlobals "_law_cells" = some (some (.ref f9))) (l9 : K.lookup f9 = some ⟨oc9, od9, .func (PySem.W.fnOf "_law_cells" "_law_cells" (defArgs (top 14)) (defBody (top 14)) (defScope (top 14)) .none kV9 dc9 pm9 an9 cd9 ct9), sl9⟩) (c9 : PySem.W.codeIn K cd9 "_law_cells" = true) (k9 : PySem.W.keepIn K (.ref f9) = true)
    (a10 : PySem.W.nsIn K mainGlobals "_law_same" = some (some (.ref f10))) (l10 : K.lookup f10 = some ⟨oc10, od10, .func (PySem.W.fnOf "_law_same" "_law_same" (defArgs (top 15)) (defBody (top 15)) (defScope (top 15)) .none kV10 dc10 pm10 an10 cd10 ct10), sl10⟩) (c10 : PySem.W.codeIn K cd10 "_law_same" = true) (k10 : PySem.W.keepIn K (.ref f10) = true)
    (a11 : PySem.W.nsIn K mainGlobals "_law_one_right" = some (some (.ref f11))) (l11 : K.lookup f11 = some ⟨oc11, od11, .func (PySem.W.fnOf "_law_one_right" "_law_one_right" (defArgs (top 16)) (defBody (top 16)) (defScope (top 16)) .none kV11 dc11 pm11 an11 cd11 ct11), sl11⟩) (c11 : PySem.W.codeIn K cd11 "_law_one_right" = true) (k11 : PySem.W.keepIn K (.ref f11) = true)
    (a12 : PySem.W.nsIn K mainGlobals "_law_two_right" = some (some (.ref f12))) (l12 : K.lookup f12 = some ⟨oc12, od12, .func (PySem.W.fnOf "_law_two_right" "_law_two_right" (defArgs (top 17)) (defBody (top 17)) (defScope (top 17)) .none kV12 dc12 pm12 an12 cd12 ct12), sl12⟩) (c12 : PySem.W.codeIn K cd12 "_law_two_right" = true) (k12 : PySem.W.keepIn K (.ref f12) = true)
    (a13 : PySem.W.nsIn K mainGlobals "_law_three_right" = some (some (.ref f13))) (l13 : K.lookup f13 = some ⟨oc13, od13, .func (PySem.W.fnOf "_law_three_right" "_law_three_right" (defArgs (top 18)) (defBody (top 18)) (defScope (top 18)) .none kV13 dc13 pm13 an13 cd13 ct13), sl13⟩) (c13 : PySem.W.codeIn K cd13 "_law_three_right" = true) (k13 : PySem.W.keepIn K (.ref f13) = true)
    (a14 : PySem.W.nsIn K mainGlobals "_law_take" = some (some (.ref f14))) (l14 : K.lookup f14 = some ⟨oc14, od14, .func (PySem.W.fnOf "_law_take" "_law_take" (defArgs (top 13)) (defBody (top 13)) (defScope (top 13)) .none kV14 dc14 pm14 an14 cd14 ct14), sl14⟩) (c14 : PySem.W.codeIn K cd14 "_law_take" = true) (k14 : PySem.W.keepIn K (.ref f14) = true)
    (a15 : PySem.W.nsIn K mainGlobals "_law_right" = some (some (.ref f15))) (l15 : K.lookup f15 = some ⟨oc15, od15, .func (PySem.W.fnOf "_law_right" "_law_right" (defArgs (top 19)) (defBody (top 19)) (defScope (top 19)) .none kV15 dc15 pm15 an15 cd15 ct15), sl15⟩) (c15 : PySem.W.codeIn K cd15 "_law_right" = true) (k15 : PySem.W.keepIn K (.ref f15) = true)
    (a16 : PySem.W.nsIn K mainGlobals "law" = some (some (.ref f16))) (l16 : K.lookup f16 = some ⟨oc16, od16, .func (PySem.W.fnOf "law" "law" (defArgs (top 20)) (defBody (top 20)) (defScope (top 20)) .none kV16 dc16 pm16 an16 cd16 ct16), sl16⟩) (c16 : PySem.W.codeIn K cd16 "law" = true) (k16 : PySem.W.keepIn K (.ref f16) = true)
    (z0 : PySem.W.nsIn K mainGlobals "len" = some none)
    (z1 : PySem.W.nsIn K mainGlobals "abs" = some none)
    (z2 : PySem.W.nsIn K mainGlobals "int" = some none)
    (z3 : PySem.W.nsIn K mainGlobals "bool" = some none)
    (z4 : PySem.W.nsIn K mainGlobals "str" = some none)
    (z5 : PySem.W.nsIn K mainGlobals "tuple" = some none)
    (z6 : PySem.W.nsIn K mainGlobals "list" = some none)
    (z7 : PySem.W.nsIn K mainGlobals "sum" = some none)
    (z8 : PySem.W.nsIn K mainGlobals "max" = some none)
    (z9 : PySem.W.nsIn K mainGlobals "min" = some none)
    (z10 : PySem.W.nsIn K mainGlobals "all" = some none)
    (z11 : PySem.W.nsIn K mainGlobals "divmod" = some none)
    (z12 : PySem.W.nsIn K mainGlobals "range" = some none)
    (z13 : PySem.W.nsIn K mainGlobals "zip" = some none)
    (z14 : PySem.W.nsIn K mainGlobals "enumerate" = some none)
    (z15 : PySem.W.nsIn K mainGlobals "isinstance" = some none)
    (y0 : PySem.W.nsIn K mainGlobals "UP" = some (some (.int 1 ty0)))
    : ∃ fd : FuncData, (∀ (s : Shared) (v : Value), BindsTo s fd ⟨[v], []⟩ [("_law_script", v)]) ∧ ∀ base : Heap, K.In base → base.Ns mainGlobals mg → FnOk l.prog w K mg base (L2.CX l.prog w) 14 fa fd ["_law_script"] (spL K) := by
  have e := hfa.symm.trans (PySem.W.mg_of X G a16)
  cases e
  have D0 := at_mk (x := "length_at") (st := top 2) X G sc_length_at a0 l0 c0 k0 fun _ _ _ _ _ _ us hl => match us, hl with | [_, _, _], _ => rfl
  have D1 := at_mk (x := "as_state") (st := top 3) X G sc_as_state a1 l1 c1 k1 fun _ _ _ _ _ _ us hl => match us, hl with | [_], _ => rfl
  have D2 := at_mk (x := "is_blocked") (st := top 5) X G sc_is_blocked a2 l2 c2 k2 fun _ _ _ _ _ _ us hl => match us, hl with | [_, _, _], _ => rfl
  have D3 := at_mk (x := "blocked") (st := top 6) X G sc_blocked a3 l3 c3 k3 fun _ _ _ _ _ _ us hl => match us, hl with | [_, _], _ => rfl
  have D4 := at_mk (x := "mover") (st := top 7) X G sc_mover a4 l4 c4 k4 fun _ _ _ _ _ _ us hl => match us, hl with | [_, _], _ => rfl
  have D5 := at_mk (x := "turned") (st := top 8) X G sc_turned a5 l5 c5 k5 fun _ _ _ _ _ _ us hl => match us, hl with | [_], _ => rfl
  have D6 := at_mk (x := "beat") (st := top 9) X G sc_beat a6 l6 c6 k6 fun _ _ _ _ _ _ us hl => match us, hl with | [_, _], _ => rfl
  have D7 := at_mk (x := "beats_along") (st := top 10) X G sc_beats_along a7 l7 c7 k7 fun _ _ _ _ _ _ us hl => match us, hl with | [_, _, _], _ => rfl
  have D8 := at_mk (x := "_law_box") (st := top 12) X G sc_law_box a8 l8 c8 k8 fun _ _ _ _ _ _ us hl => match us, hl with | [_, _], _ => rfl
  have D9 := at_mk (x := "_law_cells") (st := top 14) X G sc_law_cells a9 l9 c9 k9 fun _ _ _ _ _ _ us hl => match us, hl with | [_, _], _ => rfl
  have D10 := at_mk (x := "_law_same") (st := top 15) X G sc_law_same a10 l10 c10 k10 fun _ _ _ _ _ _ us hl => match us, hl with | [_, _], _ => rfl
  have D11 := at_mk (x := "_law_one_right") (st := top 16) X G sc_law_one_right a11 l11 c11 k11 fun _ _ _ _ _ _ us hl => match us, hl with | [_], _ => rfl
  have D12 := at_mk (x := "_law_two_right") (st := top 17) X G sc_law_two_right a12 l12 c12 k12 fun _ _ _ _ _ _ us hl => match us, hl with | [_], _ => rfl
  have D13 := at_mk (x := "_law_three_right") (st := top 18) X G sc_law_three_right a13 l13 c13 k13 fun _ _ _ _ _ _ us hl => match us, hl with | [], _ => rfl
  have D14 := at_mk (x := "_law_take") (st := top 13) X G sc_take a14 l14 c14 k14 fun _ _ _ _ _ _ us hl => match us, hl with | [_, _], _ => rfl
  have D15 := at_mk (x := "_law_right") (st := top 19) X G sc_law_right a15 l15 c15 k15 fun _ _ _ _ _ _ us hl => match us, hl with | [_], _ => rfl
  have D16 := at_mk (x := "law") (st := top 20) X G sc_law a16 l16 c16 k16 fun _ _ _ _ _ _ us hl => match us, hl with | [_], _ => rfl
  have mo : MgOk mg ⟨[], cI, cS, []⟩ := by
    refine ⟨fun n hn => ?_, fun x i e => ?_, fun x i e => ?_⟩
    · simp only [List.mem_cons, List.not_mem_nil, or_false] at hn
      rcases hn with rfl | rfl | rfl | rfl | rfl | rfl | rfl | rfl | rfl | rfl | rfl | rfl | rfl | rfl | rfl | rfl
      · exact PySem.W.mg_none_of X G z0
      · exact PySem.W.mg_none_of X G z1
      · exact PySem.W.mg_none_of X G z2
      · exact PySem.W.mg_none_of X G z3
      · exact PySem.W.mg_none_of X G z4
      · exact PySem.W.mg_none_of X G z5
      · exact PySem.W.mg_none_of X G z6
      · exact PySem.W.mg_none_of X G z7
      · exact PySem.W.mg_none_of X G z8
      · exact PySem.W.mg_none_of X G z9
      · exact PySem.W.mg_none_of X G z10
      · exact PySem.W.mg_none_of X G z11
      · exact PySem.W.mg_none_of X G z12
      · exact PySem.W.mg_none_of X G z13
      · exact PySem.W.mg_none_of X G z14
      · exact PySem.W.mg_none_of X G z15
    · have hm := lookup_mem e
      simp only [cI, List.mem_cons, List.not_mem_nil, or_false, Prod.mk.injEq] at hm
      rcases hm with ⟨rfl, rfl⟩
      · exact ⟨_, PySem.W.mg_of X G y0⟩
    · have hm := lookup_mem e
      simp [cS] at hm
  have at_ : ∀ d ∈ pures, PAt K mg d := by
    intro d hd
    simp only [pures, List.mem_cons, List.not_mem_nil, or_false] at hd
    rcases hd with rfl | rfl | rfl | rfl | rfl | rfl | rfl | rfl | rfl | rfl | rfl | rfl | rfl | rfl
    · exact ⟨_, _, D0⟩
    · exact ⟨_, _, D1⟩
    · exact ⟨_, _, D2⟩
    · exact ⟨_, _, D3⟩
    · exact ⟨_, _, D4⟩
    · exact ⟨_, _, D5⟩
    · exact ⟨_, _, D6⟩
    · exact ⟨_, _, D7⟩
    · exact ⟨_, _, D8⟩
    · exact ⟨_, _, D9⟩
    · exact ⟨_, _, D10⟩
    · exact ⟨_, _, D11⟩
    · exact ⟨_, _, D12⟩
    · exact ⟨_, _, D13⟩
  have ck : ∀ d ∈ pures, chkP cI cS (funsOf pures) d = true := by
    intro d hd
    simp only [pures, List.mem_cons, List.not_mem_nil, or_false] at hd
    rcases hd with rfl | rfl | rfl | rfl | rfl | rfl | rfl | rfl | rfl | rfl | rfl | rfl | rfl | rfl
    · exact c_length_at
    · exact c_as_state
    · exact c_is_blocked
    · exact c_blocked
    · exact c_mover
    · exact c_turned
    · exact c_beat
    · exact c_beats_along
    · exact c_law_box
    · exact c_law_cells
    · exact c_law_same
    · exact c_law_one_right
    · exact c_law_two_right
    · exact c_law_three_right
  refine ⟨PySem.W.fnOf "law" "law" (defArgs (top 20)) (defBody (top 20)) (defScope (top 20)) .none kV16 dc16 pm16 an16 cd16 ct16, fun s v => .of_eq rfl, fun base _ _ => ?_⟩
  have pu : ∀ d ∈ pures, Told (boxW K) l.prog w mg base 12 d.name d.ps.length (pureC tabP 12 d.id) := pure_ok (M := boxW K) nd_pures mo at_ ck 12
  have tk : Told (boxW K) l.prog w mg base 12 "_law_take" 2 (takeC 0) := (take_ok ⟨_, _, D14⟩ mo 1 (by decide)).mono (by decide)
  have F0 : ∀ (y : Str) (id n : Nat), fu_0.lookup y = some (id, n) → Told (boxW K) l.prog w mg base 12 y n (ΦL id) := by
    intro y id n e
    have hm := lookup_mem e
    unfold fu_0 at hm
    rcases List.mem_append.mp hm with hm | hm
    · unfold funsOf at hm
      obtain ⟨d, hd, ed⟩ := List.mem_map.mp hm
      cases ed
      have t := pu d hd
      simp only [pures, List.mem_cons, List.not_mem_nil, or_false] at hd
      rcases hd with rfl | rfl | rfl | rfl | rfl | rfl | rfl | rfl | rfl | rfl | rfl | rfl | rfl | rfl
      · exact t
      · exact t
      · exact t
      · exact t
      · exact t
      · exact t
      · exact t
      · exact t
      · exact box_ok t
      · exact t
      · exact t
      · exact t
      · exact t
      · exact t
    · simp only [List.mem_singleton, Prod.mk.injEq] at hm
      obtain ⟨rfl, rfl, rfl⟩ := hm
      exact tk
  have R0 : FnOk l.prog w K mg base (L2.CX l.prog w) 13 f15 _ _ (lift (boxW K) XE0 (rightC)) := def_ok (M := boxW K) (T := ⟨N_law_right, cI, cS, fu_0⟩) (Φ := ΦL) mono_L D15 mo.any ck_law_right F0 right_ref
  have F1 : ∀ (y : Str) (id n : Nat), fu_1.lookup y = some (id, n) → Told (boxW K) l.prog w mg base 13 y n (ΦL id) := by
    intro y id n e
    have hm := lookup_mem e
    unfold fu_1 at hm
    rcases List.mem_append.mp hm with hm | hm
    · exact (lookup_all (by decide +kernel) F0 hm).mono (by decide)
    · simp only [List.mem_singleton, Prod.mk.injEq] at hm
      obtain ⟨rfl, rfl, rfl⟩ := hm
      exact Told.of D15 rfl R0
  have R1 : FnOk l.prog w K mg base (L2.CX l.prog w) 14 fa _ _ (lift (boxW K) XE0 (lawC)) := def_ok (M := boxW K) (T := ⟨N_law, cI, cS, fu_1⟩) (Φ := ΦL) mono_L D16 mo.any ck_law F1 law_ref
  refine R1.imp fun vs H Q Xk ⟨a, ns, ev, hS, hQ⟩ => ?_
  subst ev
  exact ⟨⟨H, fun _ => False, []⟩, ⟨0, 0⟩, [.scr ns], ⟨⟨L2.Same.refl _, fun _ t => t.elim, fun _ t => t.elim⟩, rfl, fun k p e => (by cases e), fun j k p e => (by cases e)⟩, .cons (.scr hS) .nil, ns, rfl, rfl, fun w' v z' H' a' le i => by
    cases i
    exact hQ H'⟩
theorem walk {l : PySem.W.OpenLaw} {q : Program} {loose : List Str} {XP : (Str → Option Value) → Heap → Prop} {YP : World → Heap → Prop} {d : DefRec} {K : Params → PySem.W.Frag} (hn : l.most = some 63) (hdf : d.params.defaults = [])
    (hY : ∀ (w : World) (h : Heap), YP w h → (K w.params).In h)
    (F : ∀ (w : World) (mg : Str → Option Value) (fa : Addr) (h : Heap), (K w.params).In h → h.Ns mainGlobals mg → mg d.name = some (.ref fa) →
      ∃ fd : FuncData, (∀ (s : Shared) (u : Value), BindsTo s fd ⟨[u], []⟩ [("_law_script", u)]) ∧ ∀ base : Heap, (K w.params).In base → base.Ns mainGlobals mg → FnOk l.prog w (K w.params) mg base (L2.CX l.prog w) 14 fa fd ["_law_script"] (spL (K w.params))) :
    PySem.W.WalkO q loose XP YP l.row.toRowW d [] (fun f vs => PySem.call f vs) :=
  L2.walk_of (n := 63) (k := 14) (x := "_law_script") (CX := fun w => L2.CX l.prog w) (sp := fun w => spL (K w.params)) hn (by decide) hdf ⟨rfl, by decide, by decide⟩ hY F (fun _ _ a ns hl _ hS => ⟨a, ns, rfl, hS, fun _ => rfl⟩) fun _ _ _ _ _ ⟨_, _, _, _, _, _, _, _, _, _, _, _, z⟩ => z
end Ab

open PySem PySem.W PyProof.Rows in
set_option maxRecDepth 100000 in
set_option maxHeartbeats 0 in
theorem PySem.Challenge.cw_aboutface_k06_known_beats_holds : PySem.Challenge.rw_aboutface_k06_known_beats.Holds := by
  w_on; o_law; k_head; (case hw => w_witness2)
  k_fill
  refine Ab.walk (l := PySem.Challenge.rw_aboutface_k06_known_beats) rfl rfl (fun w h Y => PySem.W.kIn_of Y) ?F
  case F =>
    intro w mg fa h KX G hmg
    refine' Ab.all_mk KX G hmg ?a0 ?l0 ?c0 ?k0 ?a1 ?l1 ?c1 ?k1 ?a2 ?l2 ?c2 ?k2 ?a3 ?l3 ?c3 ?k3 ?a4 ?l4 ?c4 ?k4 ?a5 ?l5 ?c5 ?k5 ?a6 ?l6 ?c6 ?k6 ?a7 ?l7 ?c7 ?k7 ?a8 ?l8 ?c8 ?k8 ?a9 ?l9 ?c9 ?k9 ?a10 ?l10 ?c10 ?k10 ?a11 ?l11 ?c11 ?k11 ?a12 ?l12 ?c12 ?k12 ?a13 ?l13 ?c13 ?k13 ?a14 ?l14 ?c14 ?k14 ?a15 ?l15 ?c15 ?k15 ?a16 ?l16 ?c16 ?k16 ?z0 ?z1 ?z2 ?z3 ?z4 ?z5 ?z6 ?z7 ?z8 ?z9 ?z10 ?z11 ?z12 ?z13 ?z14 ?z15 ?y0
    (case a0 => k_is)
    (case l0 => k_is)
    (case c0 => k_is)
    (case k0 => k_is)
    (case a1 => k_is)
    (case l1 => k_is)
    (case c1 => k_is)
    (case k1 => k_is)
    (case a2 => k_is)
    (case l2 => k_is)
    (case c2 => k_is)
    (case k2 => k_is)
    (case a3 => k_is)
    (case l3 => k_is)
    (case c3 => k_is)
    (case k3 => k_is)
    (case a4 => k_is)
    (case l4 => k_is)
    (case c4 => k_is)
    (case k4 => k_is)
    (case a5 => k_is)
    (case l5 => k_is)
    (case c5 => k_is)
    (case k5 => k_is)
    (case a6 => k_is)
    (case l6 => k_is)
    (case c6 => k_is)
    (case k6 => k_is)
    (case a7 => k_is)
    (case l7 => k_is)
    (case c7 => k_is)
    (case k7 => k_is)
    (case a8 => k_is)
    (case l8 => k_is)
    (case c8 => k_is)
    (case k8 => k_is)
    (case a9 => k_is)
    (case l9 => k_is)
    (case c9 => k_is)
    (case k9 => k_is)
    (case a10 => k_is)
    (case l10 => k_is)
    (case c10 => k_is)
    (case k10 => k_is)
    (case a11 => k_is)
    (case l11 => k_is)
    (case c11 => k_is)
    (case k11 => k_is)
    (case a12 => k_is)
    (case l12 => k_is)
    (case c12 => k_is)
    (case k12 => k_is)
    (case a13 => k_is)
    (case l13 => k_is)
    (case c13 => k_is)
    (case k13 => k_is)
    (case a14 => k_is)
    (case l14 => k_is)
    (case c14 => k_is)
    (case k14 => k_is)
    (case a15 => k_is)
    (case l15 => k_is)
    (case c15 => k_is)
    (case k15 => k_is)
    (case a16 => k_is)
    (case l16 => k_is)
    (case c16 => k_is)
    (case k16 => k_is)
    (case z0 => k_is)
    (case z1 => k_is)
    (case z2 => k_is)
    (case z3 => k_is)
    (case z4 => k_is)
    (case z5 => k_is)
    (case z6 => k_is)
    (case z7 => k_is)
    (case z8 => k_is)
    (case z9 => k_is)
    (case z10 => k_is)
    (case z11 => k_is)
    (case z12 => k_is)
    (case z13 => k_is)
    (case z14 => k_is)
    (case z15 => k_is)
    (case y0 => k_is)

